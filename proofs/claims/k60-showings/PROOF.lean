import PyProof.Rows.All
import Wide.All
import OpenK.AllK
import Wide.FinOn
import HandS.ForMost
import HandS.ForExc
import HandS.TryMany
import HandS.Gcd
import HandS.Wide
import HandS.IsInst
import HandS.Flow
import HandS.TupAny
import HandS.ExcIs
import PySem.Challenge.RW_cellcode_k60_showings_judged
import HandS.Zip
import HandS.Iter
import HandS.Deep
import HandS.Text
import HandS.Dict
import HandS.TupMul
import HandS.More
import HandS.SortInts
import HandS.DictTup
import KE.SortData
import KE.KDictSum
import KE.KDictCopyH
import HandS.ExcValue
import HandS.TupLe
import HandS.TryOnly
set_option Elab.async false
set_option linter.all false
set_option backward.match.sparseCases false
set_option maxRecDepth 100000
set_option maxHeartbeats 1000000
/-! A mirror of the language: values without addresses, a heap of one's own, and what it means that a reading is mirrored. -/
namespace PI
open PySem PySem.Spec L2
open PyProof.Rows hiding St

inductive D where
  | non | bl (b : Bool) | int (i : Int) | str (x : Str)
  | tup (xs : List D) | rot (xs : List D) | rol (xs : List D) | ref (i : Nat) | ex (a : Addr)
  deriving Inhabited

inductive Ob where
  | lst (xs : List D)
  | dct (kvs : List (Key × D))
  | dctT (kvs : List (List Key × D))
  /-- while it is walked -/
  | dlk (kvs : List (Key × D))
  | dlkT (kvs : List (List Key × D))
  deriving Inhabited
def Ob.lk : Ob → Bool
  | .dlk _ => true
  | .dlkT _ => true
  | _ => false

abbrev Hh := List Ob
abbrev Rho := List (Option D)
structure Exn where
  cls : Str
  fs : List (Str × D) := []

inductive Out (α : Type) where
  | ok (a : α) (h : Hh)
  | err (x : Exn) (h : Hh)
  | bad

inductive OutS where
  | nx (ρ : Rho) (h : Hh)
  | rt (d : D) (h : Hh)
  | bk (ρ : Rho) (h : Hh)
  | ct (ρ : Rho) (h : Hh)
  | er (x : Exn) (ρ : Rho) (h : Hh)
  | bad

abbrev ME := Rho → Hh → Out D
abbrev MA := Rho → Hh → Out (List D)
abbrev MT := Rho → Hh → Out Bool
abbrev MS := Rho → Hh → OutS
abbrev FnM := List D → Hh → Out D

/-- a list that is only read: locked, or of the written part -/
def RoL (K : PySem.W.Frag) (H : Hp) (a : Addr) (xs : List V) : Prop :=
  (∃ o, H a = some (.frz o (.lst xs))) ∨
    ∃ (o : Obj) (its : Array Value) (n : Nat), K.lookup a = some o ∧ o.cls = .type "list" ∧ o.dict = none ∧ o.data = .seq its n ∧ its.size ≤ sizeLine ∧ Vals xs its.toList

theorem RoL.sq {K : PySem.W.Frag} {H : Hp} {a : Addr} {xs : List V} (h : RoL K H a xs) : SqL K H a xs := by
  rcases h with ⟨o, h⟩ | h
  · exact .inl (.inr ⟨o, h⟩)
  · exact .inr h

mutual
def Den (K : PySem.W.Frag) (μ : List Addr) (H : Hp) : D → V → Prop
  | .non, v => v = .non
  | .bl b, v => v = .bl b
  | .int i, v => v = .int i
  | .str x, v => v = .str x
  | .tup ds, v => ∃ a vs, v = .ref a ∧ H a = some (.tup vs) ∧ Dens K μ H ds vs
  | .rot ds, v => ∃ a vs, v = .ref a ∧ SqT K H a vs ∧ Dens K μ H ds vs
  | .rol ds, v => ∃ a vs, v = .ref a ∧ RoL K H a vs ∧ Dens K μ H ds vs
  | .ref i, v => ∃ a, v = .ref a ∧ μ[i]? = some a
  | .ex a, v => v = .ref a
def Dens (K : PySem.W.Frag) (μ : List Addr) (H : Hp) : List D → List V → Prop
  | [], vs => vs = []
  | d :: ds, vs => ∃ v vr, vs = v :: vr ∧ Den K μ H d v ∧ Dens K μ H ds vr
end

structure Step (μ : List Addr) (H : Hp) (μ' : List Addr) (H' : Hp) : Prop where
  ext : ∃ l, μ' = μ ++ l
  tup : ∀ a xs, H a = some (.tup xs) → H' a = some (.tup xs)
  frz : ∀ a o u, H a = some (.frz o u) → H' a = some (.frz o u)
  xd : ∀ a fs, H a = some (.xd fs) → H' a = some (.xd fs)

section
variable {K : PySem.W.Frag} {μ μ' μ1 μ2 : List Addr} {H H' H1 H2 : Hp}
theorem Step.refl : Step μ H μ H := ⟨⟨[], by simp⟩, fun _ _ h => h, fun _ _ _ h => h, fun _ _ h => h⟩
theorem Step.trans (a : Step μ H μ1 H1) (b : Step μ1 H1 μ2 H2) : Step μ H μ2 H2 := by
  obtain ⟨l, rfl⟩ := a.ext
  obtain ⟨m, rfl⟩ := b.ext
  exact ⟨⟨l ++ m, by simp⟩, fun x y h => b.tup _ _ (a.tup x y h), fun x o u h => b.frz _ _ _ (a.frz x o u h), fun x y h => b.xd _ _ (a.xd x y h)⟩
theorem Step.get (a : Step μ H μ1 H1) {i : Nat} {p : Addr} (h : μ[i]? = some p) : μ1[i]? = some p := by
  obtain ⟨l, rfl⟩ := a.ext
  have hi : i < μ.length := (List.getElem?_eq_some_iff.mp h).1
  rw [List.getElem?_append_left hi]
  exact h
theorem Step.new {p : Addr} {o : HO} (h : H p = none) : Step μ H μ (upd H p o) :=
  ⟨⟨[], by simp⟩, fun a xs e => by rw [upd_ne (ne_of_none e h)]; exact e, fun a o u e => by rw [upd_ne (ne_of_none e h)]; exact e, fun a xs e => by rw [upd_ne (ne_of_none e h)]; exact e⟩
theorem Step.newT {p : Addr} {o : HO} (h : H p = none) : Step μ H (μ ++ [p]) (upd H p o) :=
  ⟨⟨[p], rfl⟩, fun a xs e => by rw [upd_ne (ne_of_none e h)]; exact e, fun a o u e => by rw [upd_ne (ne_of_none e h)]; exact e, fun a xs e => by rw [upd_ne (ne_of_none e h)]; exact e⟩
theorem Step.set {p : Addr} {o u : HO} (h : H p = some o) (hl : ∀ xs, o ≠ .tup xs) (hf : ∀ x y, o ≠ .frz x y) (hx : ∀ fs, o ≠ .xd fs) : Step μ H μ (upd H p u) :=
  ⟨⟨[], by simp⟩, fun a xs e => by rw [upd_ne (ne_of e h (fun z => hl _ z.symm))]; exact e, fun a x y e => by rw [upd_ne (ne_of e h (fun z => hf _ _ z.symm))]; exact e, fun a xs e => by rw [upd_ne (ne_of e h (fun z => hx _ z.symm))]; exact e⟩
theorem Step.sqT (s : Step μ H μ1 H1) {a : Addr} {xs : List V} (h : SqT K H a xs) : SqT K H1 a xs := by
  rcases h with (h | ⟨o, h⟩) | h
  · exact .inl (.inl (s.tup _ _ h))
  · exact .inl (.inr ⟨o, s.frz _ _ _ h⟩)
  · exact .inr h
theorem Step.roL (s : Step μ H μ1 H1) {a : Addr} {xs : List V} (h : RoL K H a xs) : RoL K H1 a xs := by
  rcases h with ⟨o, h⟩ | h
  · exact .inl ⟨o, s.frz _ _ _ h⟩
  · exact .inr h
mutual
theorem Den.mono (s : Step μ H μ1 H1) : ∀ {d : D} {v : V}, Den K μ H d v → Den K μ1 H1 d v
  | .non, _, h => h
  | .bl _, _, h => h
  | .int _, _, h => h
  | .str _, _, h => h
  | .tup ds, _, h => by
    obtain ⟨a, vs, e, q, r⟩ := h
    exact ⟨a, vs, e, s.tup _ _ q, Dens.mono s r⟩
  | .rot ds, _, h => by
    obtain ⟨a, vs, e, q, r⟩ := h
    exact ⟨a, vs, e, s.sqT q, Dens.mono s r⟩
  | .rol ds, _, h => by
    obtain ⟨a, vs, e, q, r⟩ := h
    exact ⟨a, vs, e, s.roL q, Dens.mono s r⟩
  | .ref i, _, h => by
    obtain ⟨a, e, q⟩ := h
    exact ⟨a, e, s.get q⟩
  | .ex _, _, h => h
theorem Dens.mono (s : Step μ H μ1 H1) : ∀ {ds : List D} {vs : List V}, Dens K μ H ds vs → Dens K μ1 H1 ds vs
  | [], _, h => h
  | d :: ds, _, h => by
    obtain ⟨v, vr, e, q, r⟩ := h
    exact ⟨v, vr, e, Den.mono s q, Dens.mono s r⟩
end
theorem Dens.length : ∀ {ds : List D} {vs : List V}, Dens K μ H ds vs → vs.length = ds.length
  | [], _, h => by
    have h : _ = [] := h
    rw [h]; rfl
  | d :: ds, _, h => by
    obtain ⟨v, vr, rfl, q, r⟩ := h
    simp [Dens.length r]
theorem Dens.get : ∀ {ds : List D} {vs : List V} {i : Nat} {d : D}, Dens K μ H ds vs → ds[i]? = some d → ∃ v, vs[i]? = some v ∧ Den K μ H d v
  | [], _, _, _, _, e => by simp at e
  | d :: ds, _, 0, x, h, e => by
    obtain ⟨v, vr, rfl, q, r⟩ := h
    simp at e
    subst e
    exact ⟨v, rfl, q⟩
  | d :: ds, _, i + 1, x, h, e => by
    obtain ⟨v, vr, rfl, q, r⟩ := h
    obtain ⟨w, e1, e2⟩ := Dens.get r (i := i) (by simpa using e)
    exact ⟨w, by simpa using e1, e2⟩
theorem Dens.append : ∀ {ds es : List D} {vs ws : List V}, Dens K μ H ds vs → Dens K μ H es ws → Dens K μ H (ds ++ es) (vs ++ ws)
  | [], _, _, _, h, g => by
    have h : _ = [] := h
    rw [h]; exact g
  | d :: ds, _, _, _, h, g => by
    obtain ⟨v, vr, rfl, q, r⟩ := h
    exact ⟨v, _, rfl, q, Dens.append r g⟩
theorem Dens.set {x : D} {v : V} (hx : Den K μ H x v) : ∀ {ds : List D} {vs : List V} (i : Nat), Dens K μ H ds vs → Dens K μ H (ds.set i x) (vs.set i v)
  | [], _, _, h => by
    have h : _ = [] := h
    rw [h]; rfl
  | d :: ds, _, 0, h => by
    obtain ⟨w, vr, rfl, q, r⟩ := h
    exact ⟨v, vr, rfl, hx, r⟩
  | d :: ds, _, i + 1, h => by
    obtain ⟨w, vr, rfl, q, r⟩ := h
    exact ⟨w, _, rfl, q, Dens.set hx i r⟩
theorem Dens.take : ∀ {ds : List D} {vs : List V} (n : Nat), Dens K μ H ds vs → Dens K μ H (ds.take n) (vs.take n)
  | _, _, 0, _ => by simp [Dens]
  | [], _, n + 1, h => by
    have h : _ = [] := h
    rw [h]; rfl
  | d :: ds, _, n + 1, h => by
    obtain ⟨v, vr, rfl, q, r⟩ := h
    exact ⟨v, _, rfl, q, Dens.take n r⟩
theorem Dens.drop : ∀ {ds : List D} {vs : List V} (n : Nat), Dens K μ H ds vs → Dens K μ H (ds.drop n) (vs.drop n)
  | _, _, 0, h => by simpa using h
  | [], _, n + 1, h => by
    have h : _ = [] := h
    rw [h]; rfl
  | d :: ds, _, n + 1, h => by
    obtain ⟨v, vr, rfl, q, r⟩ := h
    exact Dens.drop n r
theorem Dens.ints : ∀ ns : List Int, Dens K μ H (ns.map D.int) (ns.map V.int)
  | [] => rfl
  | n :: ns => ⟨_, _, rfl, rfl, Dens.ints ns⟩
end

/-- an own object as it stands at a -/
def OR (K : PySem.W.Frag) (μ : List Addr) (H : Hp) (a : Addr) : Ob → Prop
  | .lst ds => ∃ vs, H a = some (.lst vs) ∧ Dens K μ H ds vs
  | .dct kvs => ∃ kws, H a = some (.dK kws) ∧ kws.map (·.1) = kvs.map (·.1) ∧ Dens K μ H (kvs.map (·.2)) (kws.map (·.2))
  | .dctT kvs => ∃ kws, H a = some (.dT kws) ∧ kws.map (·.1) = kvs.map (·.1) ∧ Dens K μ H (kvs.map (·.2)) (kws.map (·.2))
  | .dlk kvs => ∃ o kws, H a = some (.frz o (.dK kws)) ∧ kws.map (·.1) = kvs.map (·.1) ∧ Dens K μ H (kvs.map (·.2)) (kws.map (·.2))
  | .dlkT kvs => ∃ o kws, H a = some (.frz o (.dT kws)) ∧ kws.map (·.1) = kvs.map (·.1) ∧ Dens K μ H (kvs.map (·.2)) (kws.map (·.2))

structure RelH (K : PySem.W.Frag) (μ : List Addr) (H : Hp) (h : Hh) : Prop where
  len : μ.length = h.length
  dis : ∀ (i j : Nat) (a : Addr), μ[i]? = some a → μ[j]? = some a → i = j
  obj : ∀ (i : Nat) (o : Ob), h[i]? = some o → ∃ a, μ[i]? = some a ∧ OR K μ H a o

structure RelS (K : PySem.W.Frag) (μ : List Addr) (H : Hp) (ρ : Rho) (σ : L2.St) : Prop where
  len : ρ.length = σ.length
  get : ∀ (i : Nat) (d : D), ρ[i]? = some (some d) → ∃ v, σ[i]? = some (some v) ∧ Den K μ H d v

section
variable {K : PySem.W.Frag} {μ μ' μ1 μ2 : List Addr} {H H' H1 H2 : Hp} {h h' : Hh} {ρ : Rho} {σ : L2.St}
theorem OR.some {a : Addr} {o : Ob} (x : OR K μ H a o) : ∃ u, H a = some u ∧ (o.lk = false → (∀ xs, u ≠ .tup xs) ∧ (∀ p q, u ≠ .frz p q) ∧ (∀ fs, u ≠ .xd fs)) := by
  cases o with
  | lst ds => obtain ⟨vs, e, _⟩ := x; exact ⟨_, e, fun _ => ⟨fun _ z => (by cases z), fun _ _ z => (by cases z), fun _ z => (by cases z)⟩⟩
  | dct ds => obtain ⟨vs, e, _⟩ := x; exact ⟨_, e, fun _ => ⟨fun _ z => (by cases z), fun _ _ z => (by cases z), fun _ z => (by cases z)⟩⟩
  | dctT ds => obtain ⟨vs, e, _⟩ := x; exact ⟨_, e, fun _ => ⟨fun _ z => (by cases z), fun _ _ z => (by cases z), fun _ z => (by cases z)⟩⟩
  | dlk ds => obtain ⟨o, vs, e, _⟩ := x; exact ⟨_, e, fun z => by cases z⟩
  | dlkT ds => obtain ⟨o, vs, e, _⟩ := x; exact ⟨_, e, fun z => by cases z⟩
/-- an object that stands as it stood -/
theorem OR.mono {a : Addr} {o : Ob} (s : Step μ H μ1 H1) (e : H1 a = H a) (x : OR K μ H a o) : OR K μ1 H1 a o := by
  cases o with
  | lst ds => obtain ⟨vs, e1, d⟩ := x; exact ⟨vs, e.trans e1, d.mono s⟩
  | dct ds => obtain ⟨vs, e1, e2, d⟩ := x; exact ⟨vs, e.trans e1, e2, d.mono s⟩
  | dctT ds => obtain ⟨vs, e1, e2, d⟩ := x; exact ⟨vs, e.trans e1, e2, d.mono s⟩
  | dlk ds => obtain ⟨o, vs, e1, e2, d⟩ := x; exact ⟨o, vs, e.trans e1, e2, d.mono s⟩
  | dlkT ds => obtain ⟨o, vs, e1, e2, d⟩ := x; exact ⟨o, vs, e.trans e1, e2, d.mono s⟩
theorem RelS.mono (s : Step μ H μ1 H1) (r : RelS K μ H ρ σ) : RelS K μ1 H1 ρ σ :=
  ⟨r.len, fun i d e => let ⟨v, h1, h2⟩ := r.get i d e; ⟨v, h1, h2.mono s⟩⟩
theorem RelS.set {i : Nat} {d : D} {v : V} (r : RelS K μ H ρ σ) (hd : Den K μ H d v) : RelS K μ H (ρ.set i (some d)) (σ.set i (some v)) := by
  refine ⟨by simp [r.len], fun j e hj => ?_⟩
  by_cases hij : i = j
  · subst hij
    have hl : i < ρ.length := by
      by_cases hl : i < ρ.length
      · exact hl
      · rw [List.getElem?_eq_none (by simp; omega)] at hj
        cases hj
    rw [List.getElem?_set_self hl] at hj
    cases hj
    exact ⟨v, by rw [List.getElem?_set_self (by rw [← r.len]; exact hl)], hd⟩
  · rw [List.getElem?_set_ne hij] at hj
    obtain ⟨w, h1, h2⟩ := r.get j e hj
    exact ⟨w, by rw [List.getElem?_set_ne hij]; exact h1, h2⟩
theorem RelS.clear {i : Nat} (r : RelS K μ H ρ σ) : RelS K μ H (ρ.set i none) (σ.set i none) := by
  refine ⟨by simp [r.len], fun j e hj => ?_⟩
  by_cases hij : i = j
  · subst hij
    by_cases hl : i < ρ.length
    · rw [List.getElem?_set_self hl] at hj; cases hj
    · rw [List.getElem?_eq_none (by simp; omega)] at hj; cases hj
  · rw [List.getElem?_set_ne hij] at hj
    obtain ⟨w, h1, h2⟩ := r.get j e hj
    exact ⟨w, by rw [List.getElem?_set_ne hij]; exact h1, h2⟩
theorem RelS.wipe (r : RelS K μ H ρ σ) {i : Nat} {x : Option V} : RelS K μ H (ρ.set i none) (σ.set i x) := by
  refine ⟨by simp [r.len], fun j e hj => ?_⟩
  by_cases hij : i = j
  · subst hij
    by_cases hl : i < ρ.length
    · rw [List.getElem?_set_self hl] at hj; cases hj
    · rw [List.getElem?_eq_none (by simp; omega)] at hj; cases hj
  · rw [List.getElem?_set_ne hij] at hj
    obtain ⟨w, h1, h2⟩ := r.get j e hj
    exact ⟨w, by rw [List.getElem?_set_ne hij]; exact h1, h2⟩
theorem RelH.notin (r : RelH K μ H h) {p : Addr} (hp : H p = none) (i : Nat) : μ[i]? ≠ some p := by
  intro e
  have hi : i < h.length := by rw [← r.len]; exact (List.getElem?_eq_some_iff.mp e).1
  obtain ⟨a, e1, x⟩ := r.obj i h[i] (List.getElem?_eq_getElem hi)
  rw [e] at e1
  cases e1
  obtain ⟨u, e2, _⟩ := x.some
  rw [hp] at e2
  cases e2
/-- a new thing that is not tracked by us -/
theorem RelH.new (r : RelH K μ H h) {p : Addr} {o : HO} (hp : H p = none) : RelH K μ (upd H p o) h :=
  ⟨r.len, r.dis, fun i o' e => by
    obtain ⟨a, e1, x⟩ := r.obj i o' e
    refine ⟨a, e1, x.mono (Step.new hp) ?_⟩
    rw [upd_ne (fun z => r.notin hp i (by rw [e1, z]))]⟩
/-- a new object of our heap -/
theorem RelH.push (r : RelH K μ H h) {p : Addr} {o : HO} {ob : Ob} (hp : H p = none) (new : OR K (μ ++ [p]) (upd H p o) p ob) : RelH K (μ ++ [p]) (upd H p o) (h ++ [ob]) := by
  refine ⟨by simp [r.len], fun i j a e1 e2 => ?_, fun i o' e => ?_⟩
  · by_cases h1 : i < μ.length
    · rw [List.getElem?_append_left h1] at e1
      by_cases h2 : j < μ.length
      · rw [List.getElem?_append_left h2] at e2
        exact r.dis i j a e1 e2
      · rw [List.getElem?_append_right (by omega)] at e2
        have : a = p := by
          cases q : j - μ.length with
          | zero => rw [q] at e2; simpa using e2.symm
          | succ n => rw [q] at e2; simp at e2
        subst this
        exact absurd e1 (r.notin hp i)
    · rw [List.getElem?_append_right (by omega)] at e1
      have ea : a = p := by
        cases q : i - μ.length with
        | zero => rw [q] at e1; simpa using e1.symm
        | succ n => rw [q] at e1; simp at e1
      subst ea
      by_cases h2 : j < μ.length
      · rw [List.getElem?_append_left h2] at e2
        exact absurd e2 (r.notin hp j)
      · have l1 : i < (μ ++ [a]).length := by
          by_cases z : i < (μ ++ [a]).length
          · exact z
          · have : i - μ.length ≥ 1 := by simp at z; omega
            rw [List.getElem?_eq_none (by simpa using this)] at e1
            cases e1
        have l2 : j < (μ ++ [a]).length := (List.getElem?_eq_some_iff.mp e2).1
        simp at l1 l2
        omega
  · by_cases h1 : i < h.length
    · rw [List.getElem?_append_left h1] at e
      obtain ⟨a, e1, x⟩ := r.obj i o' e
      refine ⟨a, (Step.newT (o := o) hp).get e1, x.mono (Step.newT hp) ?_⟩
      rw [upd_ne (fun z => r.notin hp i (by rw [e1, z]))]
    · rw [List.getElem?_append_right (by omega)] at e
      have hq : i - h.length = 0 := by
        cases q : i - h.length with
        | zero => rfl
        | succ n => rw [q] at e; simp at e
      rw [hq] at e
      have eo : ob = o' := by simpa using e
      subst eo
      have ei : i = μ.length := by rw [r.len]; omega
      subst ei
      exact ⟨p, by simp, new⟩
/-- an object of our heap changes -/
theorem RelH.put (r : RelH K μ H h) {i : Nat} {p : Addr} {o : HO} {ob ob0 : Ob} (hi : h[i]? = some ob0) (hp : μ[i]? = some p) (new : OR K μ (upd H p o) p ob) (hl : ob0.lk = false := by rfl) : RelH K μ (upd H p o) (h.set i ob) := by
  obtain ⟨a, ea, x⟩ := r.obj i ob0 hi
  rw [hp] at ea
  cases ea
  obtain ⟨u, eu, nn⟩ := x.some
  obtain ⟨n1, n2, n3⟩ := nn hl
  have st : Step μ H μ (upd H p o) := Step.set eu n1 n2 n3
  refine ⟨by simp [r.len], r.dis, fun j o' e => ?_⟩
  by_cases hij : i = j
  · subst hij
    rw [List.getElem?_set_self (List.getElem?_eq_some_iff.mp hi).1] at e
    cases e
    exact ⟨p, hp, new⟩
  · rw [List.getElem?_set_ne hij] at e
    obtain ⟨b, e1, y⟩ := r.obj j o' e
    refine ⟨b, e1, y.mono st ?_⟩
    rw [upd_ne (fun z => hij (r.dis i j p hp (by rw [e1, z])))]
/-- objects behind may be forgotten -/
theorem Den.cut : True := trivial
end
end PI
/-! What it means that a reading is mirrored; expressions. -/
namespace PI
open PySem PySem.Spec L2
open PyProof.Rows hiding St

def Out.bind {α β : Type} (o : Out α) (f : α → Hh → Out β) : Out β := match o with
  | .ok a h => f a h
  | .err x h => .err x h
  | .bad => .bad
def Out.ofO {α : Type} : Option (α × Hh) → Out α
  | some (a, h) => .ok a h
  | none => .bad
@[simp] theorem Out.bind_ok {α β : Type} {a : α} {h : Hh} {f : α → Hh → Out β} : (Out.ok a h).bind f = f a h := rfl
@[simp] theorem Out.bind_err {α β : Type} {x : Exn} {h : Hh} {f : α → Hh → Out β} : (Out.err x h : Out α).bind f = .err x h := rfl
@[simp] theorem Out.bind_bad {α β : Type} {f : α → Hh → Out β} : (Out.bad : Out α).bind f = .bad := rfl
@[simp] theorem Out.ofO_some {α : Type} {a : α} {h : Hh} : Out.ofO (some (a, h)) = .ok a h := rfl
@[simp] theorem Out.ofO_none {α : Type} : (Out.ofO none : Out α) = .bad := rfl

abbrev Ctb := Str → Option Value
/-- how an exception of ours looks -/
def ExcR (K : PySem.W.Frag) (ct : Ctb) (μ : List Addr) (H : Hp) (x : Exn) (cls : Value) (d : Option Addr) : Prop :=
  ct x.cls = some cls ∧ ((x.fs = [] ∧ d = none) ∨ (x.fs ≠ [] ∧ ∃ dd ws, d = some dd ∧ H dd = some (.xd ws) ∧ ws.map (·.1) = x.fs.map (·.1) ∧ Dens K μ H (x.fs.map (·.2)) (ws.map (·.2))))

section
variable (K : PySem.W.Frag) (ct : Ctb) (W : WX) (σ : L2.St)
def PO {α : Type} (μ : List Addr) (H : Hp) (R : α → Hh → List Addr → Hp → Prop) : Out α → Prop
  | .ok a h' => ∀ μ' H', Step μ H μ' H' → RelH K μ' H' h' → R a h' μ' H'
  | .err x h' => ∀ μ' H' cls d, Step μ H μ' H' → RelH K μ' H' h' → ExcR K ct μ' H' x cls d → W cls d σ H'
  | .bad => False
def POo {α : Type} (μ : List Addr) (H : Hp) (R : α → Hh → List Addr → Hp → Prop) : Option (α × Hh) → Prop
  | some (a, h') => ∀ μ' H', Step μ H μ' H' → RelH K μ' H' h' → R a h' μ' H'
  | none => False
end
section
variable {K : PySem.W.Frag} {ct : Ctb} {W : WX} {σ : L2.St} {μ μ1 : List Addr} {H H1 : Hp} {α β : Type} {R R' : α → Hh → List Addr → Hp → Prop}
theorem PO.step (s : Step μ H μ1 H1) {o : Out α} (p : PO K ct W σ μ H R o) : PO K ct W σ μ1 H1 R o := by
  cases o with
  | ok a h => exact fun μ' H' s' r => p μ' H' (s.trans s') r
  | err x h => exact fun μ' H' c d s' r e => p μ' H' c d (s.trans s') r e
  | bad => exact p
theorem PO.mono {o : Out α} (p : PO K ct W σ μ H R o) (i : ∀ a h' μ' H', Step μ H μ' H' → RelH K μ' H' h' → R a h' μ' H' → R' a h' μ' H') : PO K ct W σ μ H R' o := by
  cases o with
  | ok a h => exact fun μ' H' s' r => i a h μ' H' s' r (p μ' H' s' r)
  | err x h => exact p
  | bad => exact p
theorem PO.bind {o : Out α} {f : α → Hh → Out β} {R : β → Hh → List Addr → Hp → Prop} (p : PO K ct W σ μ H R (o.bind f)) :
    PO K ct W σ μ H (fun a h1 μ1 H1 => PO K ct W σ μ1 H1 R (f a h1)) o := by
  cases o with
  | ok a h => exact fun μ' H' s' r => PO.step s' (show PO K ct W σ μ H R (f a h) from p)
  | err x h => exact p
  | bad => exact p
theorem PO.ofO {o : Option (α × Hh)} (p : PO K ct W σ μ H R (Out.ofO o)) : POo K μ H R o := by
  cases o with
  | none => exact p
  | some a => obtain ⟨a, h⟩ := a; exact p
theorem POo.mono {o : Option (α × Hh)} (p : POo K μ H R o) (i : ∀ a h' μ' H', Step μ H μ' H' → RelH K μ' H' h' → R a h' μ' H' → R' a h' μ' H') : POo K μ H R' o := by
  cases o with
  | none => exact p
  | some a => obtain ⟨a, h⟩ := a; exact fun μ' H' s r => i _ _ _ _ s r (p μ' H' s r)
end

/-! ### mirrored readings -/
section
variable (K : PySem.W.Frag) (ct : Ctb) (W : WX)
def rdE (m : ME) : TE := fun σ H Q => ∃ μ ρ h, RelS K μ H ρ σ ∧ RelH K μ H h ∧ PO K ct W σ μ H (fun d _ μ' H' => ∀ v, Den K μ' H' d v → Q v H') (m ρ h)
def rdA (m : MA) : TA := fun σ H Q => ∃ μ ρ h, RelS K μ H ρ σ ∧ RelH K μ H h ∧ PO K ct W σ μ H (fun d _ μ' H' => ∀ v, Dens K μ' H' d v → Q v H') (m ρ h)
def rdT (m : MT) : TT := fun σ H Q => ∃ μ ρ h, RelS K μ H ρ σ ∧ RelH K μ H h ∧ PO K ct W σ μ H (fun b _ _ H' => Q b H') (m ρ h)
def rdS (m : MS) : TS := fun D σ H => ∃ μ ρ h, RelS K μ H ρ σ ∧ RelH K μ H h ∧ match m ρ h with
  | .nx ρ' h' => ∀ μ' H' σ', Step μ H μ' H' → RelH K μ' H' h' → RelS K μ' H' ρ' σ' → D.nx σ' H'
  | .bk ρ' h' => ∀ μ' H' σ', Step μ H μ' H' → RelH K μ' H' h' → RelS K μ' H' ρ' σ' → D.bk σ' H'
  | .ct ρ' h' => ∀ μ' H' σ', Step μ H μ' H' → RelH K μ' H' h' → RelS K μ' H' ρ' σ' → D.ct σ' H'
  | .rt d h' => ∀ μ' H' v, Step μ H μ' H' → RelH K μ' H' h' → Den K μ' H' d v → D.rt v H'
  | .er x ρ' h' => ∀ μ' H' σ' cls d, Step μ H μ' H' → RelH K μ' H' h' → RelS K μ' H' ρ' σ' → ExcR K ct μ' H' x cls d → W cls d σ' H'
  | .bad => False
/-- values in, one value out -/
def r1 (g : D → Hh → Option (D × Hh)) : V → Hp → VK → Prop := fun x H Q => ∃ μ h a, Den K μ H a x ∧ RelH K μ H h ∧ POo K μ H (fun d _ μ' H' => ∀ v, Den K μ' H' d v → Q v H') (g a h)
def r2 (g : D → D → Hh → Option (D × Hh)) : R2 := fun x y H Q => ∃ μ h a b, Den K μ H a x ∧ Den K μ H b y ∧ RelH K μ H h ∧ POo K μ H (fun d _ μ' H' => ∀ v, Den K μ' H' d v → Q v H') (g a b h)
def rN (g : List D → Hh → Option (D × Hh)) : List V → Hp → VK → Prop := fun xs H Q => ∃ μ h as, Dens K μ H as xs ∧ RelH K μ H h ∧ POo K μ H (fun d _ μ' H' => ∀ v, Den K μ' H' d v → Q v H') (g as h)
end
abbrev SE (X : Cx) (ct : Ctb) (W : WX) (e : Expr) (m : ME) : Prop := PE X e (rdE X.K ct W m)
abbrev SA (X : Cx) (ct : Ctb) (W : WX) (es : List Expr) (m : MA) : Prop := PA X es (rdA X.K ct W m)
abbrev ST (X : Cx) (ct : Ctb) (W : WX) (e : Expr) (m : MT) : Prop := PT X e (rdT X.K ct W m)
abbrev SS (X : Cx) (ct : Ctb) (W : WX) (s : Stmt) (m : MS) : Prop := PS X s (rdS X.K ct W m)
abbrev SSs (X : Cx) (ct : Ctb) (W : WX) (s : List Stmt) (m : MS) : Prop := PSs X s (rdS X.K ct W m)

section
variable {X : Cx} {ct : Ctb} {W : WX}
theorem _root_.L2.PE.imp {e : Expr} {t t' : TE} (h : PE X e t) (i : ∀ σ H Q, t' σ H Q → t σ H Q) : PE X e t' := ⟨fun pins s σ H Q I q => h.run pins s σ H Q I (i σ H Q q)⟩
theorem _root_.L2.PA.imp {e : List Expr} {t t' : TA} (h : PA X e t) (i : ∀ σ H Q, t' σ H Q → t σ H Q) : PA X e t' := ⟨fun pos pins s σ H Q I q => h.run pos pins s σ H Q I (i σ H Q q)⟩
theorem _root_.L2.PT.imp {e : Expr} {t t' : TT} (h : PT X e t) (i : ∀ σ H Q, t' σ H Q → t σ H Q) : PT X e t' := ⟨fun pins s σ H Q I q => h.run pins s σ H Q I (i σ H Q q)⟩
theorem _root_.L2.PS.imp {e : Stmt} {t t' : TS} (h : PS X e t) (i : ∀ D σ H, t' D σ H → t D σ H) : PS X e t' := ⟨fun pins s σ H D I q => h.run pins s σ H D I (i D σ H q)⟩
theorem _root_.L2.PSs.imp {e : List Stmt} {t t' : TS} (h : PSs X e t) (i : ∀ D σ H, t' D σ H → t D σ H) : PSs X e t' := ⟨fun pins s σ H D I q => h.run pins s σ H D I (i D σ H q)⟩

/-- the first part of a computation, then the rest -/
theorem rdE.go {K : PySem.W.Frag} {ma : ME} {β : Type} {f : D → Hh → Out β} {σ : L2.St} {H : Hp} {ρ : Rho} {h : Hh} {μ : List Addr} {R : β → Hh → List Addr → Hp → Prop} (rs : RelS K μ H ρ σ) (rh : RelH K μ H h) (p : PO K ct W σ μ H R ((ma ρ h).bind f))
    {Q : VK} (k : ∀ d h1 μ1 H1 v, Step μ H μ1 H1 → RelS K μ1 H1 ρ σ → RelH K μ1 H1 h1 → Den K μ1 H1 d v → PO K ct W σ μ1 H1 R (f d h1) → Q v H1) : rdE K ct W ma σ H Q :=
  ⟨μ, ρ, h, rs, rh, p.bind.mono fun d h1 μ1 H1 s r q v dv => k d h1 μ1 H1 v s (rs.mono s) r dv q⟩
theorem rdA.go {K : PySem.W.Frag} {ma : MA} {β : Type} {f : List D → Hh → Out β} {σ : L2.St} {H : Hp} {ρ : Rho} {h : Hh} {μ : List Addr} {R : β → Hh → List Addr → Hp → Prop} (rs : RelS K μ H ρ σ) (rh : RelH K μ H h) (p : PO K ct W σ μ H R ((ma ρ h).bind f))
    {Q : List V → Hp → Prop} (k : ∀ d h1 μ1 H1 v, Step μ H μ1 H1 → RelS K μ1 H1 ρ σ → RelH K μ1 H1 h1 → Dens K μ1 H1 d v → PO K ct W σ μ1 H1 R (f d h1) → Q v H1) : rdA K ct W ma σ H Q :=
  ⟨μ, ρ, h, rs, rh, p.bind.mono fun d h1 μ1 H1 s r q v dv => k d h1 μ1 H1 v s (rs.mono s) r dv q⟩
theorem rdT.go {K : PySem.W.Frag} {ma : MT} {β : Type} {f : Bool → Hh → Out β} {σ : L2.St} {H : Hp} {ρ : Rho} {h : Hh} {μ : List Addr} {R : β → Hh → List Addr → Hp → Prop} (rs : RelS K μ H ρ σ) (rh : RelH K μ H h) (p : PO K ct W σ μ H R ((ma ρ h).bind f))
    {Q : Bool → Hp → Prop} (k : ∀ d h1 μ1 H1, Step μ H μ1 H1 → RelS K μ1 H1 ρ σ → RelH K μ1 H1 h1 → PO K ct W σ μ1 H1 R (f d h1) → Q d H1) : rdT K ct W ma σ H Q :=
  ⟨μ, ρ, h, rs, rh, p.bind.mono fun d h1 μ1 H1 s r q => k d h1 μ1 H1 s (rs.mono s) r q⟩
/-- an end -/
theorem PO.at {K : PySem.W.Frag} {σ : L2.St} {α : Type} {μ : List Addr} {H : Hp} {R : α → Hh → List Addr → Hp → Prop} {a : α} {h : Hh} (rh : RelH K μ H h) (p : PO K ct W σ μ H R (.ok a h)) : R a h μ H := p μ H Step.refl rh

/-! ### names and constants -/
def mC (d : D) : ME := fun _ h => .ok d h
def mVar (i : Nat) : ME := fun ρ h => match ρ[i]? with
  | some (some d) => .ok d h
  | _ => .bad
theorem se_var (i : Nat) {x : Str} {pos : Pos} (hN : X.N[i]? = some x := by rfl) (hv : Vis X.env.scope x := by first | exact Or.inl rfl | exact Or.inr (Or.inl rfl) | exact Or.inr (Or.inr rfl)) (hd : (x == ("__debug__" : Str)) = false := by decide)
    (hcd : (x == ("__classdict__" : Str)) = false := by decide) : SE X ct W (.Name x pos) (mVar i) :=
  (pe_var hN hv hd hcd).imp fun σ H Q ⟨μ, ρ, h, rs, rh, p⟩ => by
    unfold mVar at p
    split at p
    · rename_i d e
      obtain ⟨v, e1, dv⟩ := rs.get i d e
      exact ⟨v, e1, p.at rh v dv⟩
    · exact p.elim
theorem se_c {e : Expr} {v : V} {d : D} (h : PE X e (tC v)) (hd : ∀ μ H, Den X.K μ H d v) : SE X ct W e (mC d) :=
  h.imp fun σ H Q ⟨μ, ρ, h, rs, rh, p⟩ => p.at rh v (hd μ H)
theorem se_int {i j pos} : SE X ct W (.Constant (.int i) j pos) (mC (.int i)) := se_c pe_int fun _ _ => rfl
theorem se_bl {i j pos} : SE X ct W (.Constant (.bool i) j pos) (mC (.bl i)) := se_c pe_bl fun _ _ => rfl
theorem se_non {j pos} : SE X ct W (.Constant .none j pos) (mC .non) := se_c pe_non fun _ _ => rfl
theorem se_str {i j pos} : SE X ct W (.Constant (.str i) j pos) (mC (.str i)) := se_c pe_str fun _ _ => rfl
/-- a module's constant -/
theorem se_glob {x : Str} {pos : Pos} {u : Value} {v : V} {d : D} (hg : Gl X x) (hm : X.mg x = some u) (r : RelV v u) (hd : ∀ μ H, Den X.K μ H d v) (hdb : (x == ("__debug__" : Str)) = false := by decide) : SE X ct W (.Name x pos) (mC d) :=
  se_c (pe_glob hg hm r hdb) hd

/-! ### argument lists -/
def mNil : MA := fun _ h => .ok [] h
def mCons (m : ME) (r : MA) : MA := fun ρ h => (m ρ h).bind fun d h1 => (r ρ h1).bind fun ds h2 => .ok (d :: ds) h2
theorem sa_nil : SA X ct W [] mNil := L2.PA.imp pa_nil fun σ H Q ⟨μ, ρ, h, rs, rh, p⟩ => p.at rh [] rfl
theorem sa_cons {e : Expr} {es : List Expr} {m : ME} {r : MA} (ha : SE X ct W e m) (hr : SA X ct W es r) (hs : starEach (e :: es) X.env = (false, eval e X.env) :: starEach es X.env := by rfl) : SA X ct W (e :: es) (mCons m r) :=
  L2.PA.imp (pa_cons ha hr hs) fun σ H Q ⟨μ, ρ, h, rs, rh, p⟩ => rdE.go rs rh p fun d h1 μ1 H1 v s1 rs1 rh1 dv p1 => rdA.go rs1 rh1 p1 fun ds h2 μ2 H2 vs s2 rs2 rh2 dvs p2 =>
    p2.at rh2 (v :: vs) ⟨v, vs, rfl, dv.mono s2, dvs⟩
/-! ### operators by values -/
def mOp (g : D → D → Hh → Option (D × Hh)) (ma mb : ME) : ME := fun ρ h => (ma ρ h).bind fun a h1 => (mb ρ h1).bind fun b h2 => Out.ofO (g a b h2)
def mUn (g : D → Hh → Option (D × Hh)) (ma : ME) : ME := fun ρ h => (ma ρ h).bind fun a h1 => Out.ofO (g a h1)
theorem op_go {g : D → D → Hh → Option (D × Hh)} {ma mb : ME} (σ : L2.St) (H : Hp) (Q : VK) (q : rdE X.K ct W (mOp g ma mb) σ H Q) : tOp (r2 X.K g) (rdE X.K ct W ma) (rdE X.K ct W mb) σ H Q := by
  obtain ⟨μ, ρ, h, rs, rh, p⟩ := q
  exact rdE.go rs rh p fun a h1 μ1 H1 v s1 rs1 rh1 da p1 => rdE.go rs1 rh1 p1 fun b h2 μ2 H2 w s2 rs2 rh2 db p2 => ⟨μ2, h2, a, b, da.mono s2, db, rh2, p2.ofO⟩
theorem un_go {g : D → Hh → Option (D × Hh)} {ma : ME} (σ : L2.St) (H : Hp) (Q : VK) (q : rdE X.K ct W (mUn g ma) σ H Q) : tUn (r1 X.K g) (rdE X.K ct W ma) σ H Q := by
  obtain ⟨μ, ρ, h, rs, rh, p⟩ := q
  exact rdE.go rs rh p fun a h1 μ1 H1 v s1 rs1 rh1 da p1 => ⟨μ1, h1, a, da, rh1, p1.ofO⟩
theorem se_op {a b : Expr} {op : Operator} {pos : Pos} {g : D → D → Hh → Option (D × Hh)} {ma mb : ME} (ho : OpR X (binaryOp op) (r2 X.K g)) (ha : SE X ct W a ma) (hb : SE X ct W b mb) : SE X ct W (.BinOp a op b pos) (mOp g ma mb) :=
  (pe_op ho ha hb).imp op_go
theorem se_un {a : Expr} {op : UnaryOp} {pos : Pos} {g : D → Hh → Option (D × Hh)} {ma : ME} (ho : UnR X (unaryOp op) (r1 X.K g)) (ha : SE X ct W a ma) : SE X ct W (.UnaryOp op a pos) (mUn g ma) :=
  (pe_un ho ha).imp un_go
theorem se_cmp {a b : Expr} {op : CmpOp} {pos : Pos} {g : D → D → Hh → Option (D × Hh)} {ma mb : ME} (ho : OpR X (compareOp op) (r2 X.K g)) (ha : SE X ct W a ma) (hb : SE X ct W b mb) (hm : behindInMarks op b = false) : SE X ct W (.Compare a [op] [b] pos) (mOp g ma mb) :=
  (pe_cmpR ho ha hb hm).imp op_go
theorem se_ix {a b : Expr} {pos : Pos} {g : D → D → Hh → Option (D × Hh)} {ma mb : ME} (ho : IxR X (r2 X.K g)) (ha : SE X ct W a ma) (hb : SE X ct W b mb) (hs : PlainIx b) : SE X ct W (.Subscript a b pos) (mOp g ma mb) :=
  (pe_ix ho ha hb hs).imp op_go
/-- a built-in by its name -/
def mB (g : List D → Hh → Option (D × Hh)) (ma : MA) : ME := fun ρ h => (ma ρ h).bind fun as h1 => Out.ofO (g as h1)
theorem b_go {g : List D → Hh → Option (D × Hh)} {ma : MA} (σ : L2.St) (H : Hp) (Q : VK) (q : rdE X.K ct W (mB g ma) σ H Q) : tCB (rN X.K g) (rdA X.K ct W ma) σ H Q := by
  obtain ⟨μ, ρ, h, rs, rh, p⟩ := q
  exact rdA.go rs rh p fun as h1 μ1 H1 v s1 rs1 rh1 da p1 => ⟨μ1, h1, as, da, rh1, p1.ofO⟩
theorem se_callB {id : String} {x : Str} {e : Expr} {es : List Expr} {p pos : Pos} {g : List D → Hh → Option (D × Hh)} {ma : MA} (hc : CallR X (.builtin id) (rN X.K g)) (hg : Gl X x) (hm : X.mg x = none) (hv : bootBuiltins x = some (.builtin id)) (ha : SA X ct W (e :: es) ma) (hn : x ≠ "__name__" := by decide) (hdb : (x == ("__debug__" : Str)) = false := by decide)
    (he : starEach (e :: es) X.env = (false, eval e X.env) :: starEach es X.env := by rfl) (hpl : (backTo pos (starEach es X.env)).any (·.1) = false := by rfl) : SE X ct W (.Call (.Name x p) (e :: es) [] pos) (mB g ma) :=
  (pe_callB hc hg hm hv ha hn hdb he hpl).imp b_go
theorem se_callTy {id : String} {x : Str} {e : Expr} {es : List Expr} {p pos : Pos} {g : List D → Hh → Option (D × Hh)} {ma : MA} (hc : CallR X (.type id) (rN X.K g)) (hg : Gl X x) (hm : X.mg x = none) (hv : bootBuiltins x = some (.type id)) (ha : SA X ct W (e :: es) ma) (hn : x ≠ "__name__" := by decide) (hdb : (x == ("__debug__" : Str)) = false := by decide)
    (he : starEach (e :: es) X.env = (false, eval e X.env) :: starEach es X.env := by rfl) (hpl : (backTo pos (starEach es X.env)).any (·.1) = false := by rfl) : SE X ct W (.Call (.Name x p) (e :: es) [] pos) (mB g ma) :=
  (pe_callTy hc hg hm hv ha hn hdb he hpl).imp b_go
theorem se_callFun {id : String} {x : Str} {e : Expr} {es : List Expr} {p pos : Pos} {g : List D → Hh → Option (D × Hh)} {ma : MA} (hc : CallR X (.builtin id) (rN X.K g)) (hg : Gl X x) (hm : X.mg x = some (.builtin id)) (ha : SA X ct W (e :: es) ma) (hdb : (x == ("__debug__" : Str)) = false := by decide)
    (he : starEach (e :: es) X.env = (false, eval e X.env) :: starEach es X.env := by rfl) (hpl : (backTo pos (starEach es X.env)).any (·.1) = false := by rfl) : SE X ct W (.Call (.Name x p) (e :: es) [] pos) (mB g ma) :=
  (pe_callBfun hc hg hm ha hdb he hpl).imp b_go
/-- a method of a built-in type -/
def mM (g : D → List D → Hh → Option (D × Hh)) (mo : ME) (ma : MA) : ME := fun ρ h => (mo ρ h).bind fun o h1 => (ma ρ h1).bind fun as h2 => Out.ofO (g o as h2)

/-! ### displays -/
def mTup (ma : MA) : ME := fun ρ h => (ma ρ h).bind fun as h1 => if as.length ≤ sizeLine then .ok (.tup as) h1 else .bad
def mLst (ma : MA) : ME := fun ρ h => (ma ρ h).bind fun as h1 => if as.length ≤ sizeLine then .ok (.ref h1.length) (h1 ++ [.lst as]) else .bad
def mDnew : ME := fun _ h => .ok (.ref h.length) (h ++ [.dct []])
theorem new_lst {K : PySem.W.Frag} {μ : List Addr} {H : Hp} {h : Hh} {as : List D} {vs : List V} (rh : RelH K μ H h) (dv : Dens K μ H as vs) {p : Addr} (hp : H p = none) :
    Step μ H (μ ++ [p]) (upd H p (.lst vs)) ∧ RelH K (μ ++ [p]) (upd H p (.lst vs)) (h ++ [.lst as]) ∧ Den K (μ ++ [p]) (upd H p (.lst vs)) (.ref h.length) (.ref p) := by
  have s : Step μ H (μ ++ [p]) (upd H p (.lst vs)) := Step.newT hp
  exact ⟨s, rh.push hp ⟨vs, upd_same, dv.mono s⟩, p, rfl, by rw [← rh.len]; simp⟩
theorem new_tup {K : PySem.W.Frag} {μ : List Addr} {H : Hp} {h : Hh} {as : List D} {vs : List V} (rh : RelH K μ H h) (dv : Dens K μ H as vs) {p : Addr} (hp : H p = none) :
    Step μ H μ (upd H p (.tup vs)) ∧ RelH K μ (upd H p (.tup vs)) h ∧ Den K μ (upd H p (.tup vs)) (.tup as) (.ref p) := by
  have s : Step μ H μ (upd H p (.tup vs)) := Step.new hp
  exact ⟨s, rh.new hp, p, vs, rfl, upd_same, dv.mono s⟩
theorem se_tup {es : List Expr} {k : Nat} {pos : Pos} {ma : MA} (ha : SA X ct W es ma) : SE X ct W (.Tuple es k pos) (mTup ma) :=
  (pe_tup ha).imp fun σ H Q ⟨μ, ρ, h, rs, rh, p⟩ => rdA.go rs rh p fun as h1 μ1 H1 vs s1 rs1 rh1 dv p1 => by
    split at p1
    · rename_i hl
      refine ⟨by rw [dv.length]; exact hl, fun q hq => ?_⟩
      obtain ⟨s, r, d⟩ := new_tup rh1 dv hq
      exact p1 _ _ s r _ d
    · exact p1.elim
theorem se_lst {es : List Expr} {pos : Pos} {ma : MA} (ha : SA X ct W es ma) : SE X ct W (.List es pos) (mLst ma) :=
  (pe_lst ha).imp fun σ H Q ⟨μ, ρ, h, rs, rh, p⟩ => rdA.go rs rh p fun as h1 μ1 H1 vs s1 rs1 rh1 dv p1 => by
    split at p1
    · rename_i hl
      refine ⟨by rw [dv.length]; exact hl, fun q hq => ?_⟩
      obtain ⟨s, r, d⟩ := new_lst rh1 dv hq
      exact p1 _ _ s r _ d
    · exact p1.elim
theorem se_dnew {pos : Pos} : SE X ct W (.Dict [] [] pos) mDnew :=
  pe_dnewK.imp fun σ H Q ⟨μ, ρ, h, rs, rh, p⟩ q hq => by
    have s : Step μ H (μ ++ [q]) (upd H q (.dK [])) := Step.newT hq
    exact p _ _ s (rh.push hq ⟨[], upd_same, rfl, rfl⟩) _ ⟨q, rfl, by rw [← rh.len]; simp⟩

/-! ### tests, truth -/
def mTest (m : ME) : MT := fun ρ h => (m ρ h).bind fun d h1 => match d with
  | .bl b => .ok b h1
  | _ => .bad
theorem test_go {m : ME} (σ : L2.St) (H : Hp) (Q : Bool → Hp → Prop) (q : rdT X.K ct W (mTest m) σ H Q) : tTest (rdE X.K ct W m) σ H Q := by
  obtain ⟨μ, ρ, h, rs, rh, p⟩ := q
  refine rdE.go rs rh p fun d h1 μ1 H1 v s1 rs1 rh1 dv p1 => ?_
  split at p1
  · exact ⟨_, dv, p1.at rh1⟩
  · exact p1.elim
theorem st_cmp {a b : Expr} {op : CmpOp} {pos : Pos} {g : D → D → Hh → Option (D × Hh)} {ma mb : ME} (ho : OpR X (compareOp op) (r2 X.K g)) (ha : SE X ct W a ma) (hb : SE X ct W b mb) (hm : behindInMarks op b = false) : ST X ct W (.Compare a [op] [b] pos) (mTest (mOp g ma mb)) :=
  (pt_cmpR ho ha hb hm).imp fun σ H Q q => by
    obtain ⟨μ, ρ, h, rs, rh, p⟩ := test_go σ H Q q
    exact op_go σ H _ ⟨μ, ρ, h, rs, rh, p⟩
/-- an expression that gives True or False -/
theorem st_val {e : Expr} {m : ME} (he : SE X ct W e m) (h : ∀ {t : TE}, PE X e t → PT X e (tB t) := by exact fun h => pt_val h) : ST X ct W e (mTest m) :=
  (h he).imp fun σ H Q q => test_go σ H Q q
def mAnd (a b : MT) : MT := fun ρ h => (a ρ h).bind fun c h1 => if c = true then b ρ h1 else .ok false h1
def mOr (a b : MT) : MT := fun ρ h => (a ρ h).bind fun c h1 => if c = true then .ok true h1 else b ρ h1
def mNot (a : MT) : MT := fun ρ h => (a ρ h).bind fun c h1 => .ok (!c) h1
abbrev SW (X : Cx) (ct : Ctb) (W : WX) (e : Expr) (m : MT) : Prop := PW X e (rdT X.K ct W m)
theorem _root_.L2.PW.imp {e : Expr} {t t' : TT} (h : PW X e t) (i : ∀ σ H Q, t' σ H Q → t σ H Q) : PW X e t' := ⟨fun whole pins s σ H Q I q => h.run whole pins s σ H Q I (i σ H Q q)⟩
theorem sw_and1 {a : Expr} {m : MT} {pos : Pos} (h : ST X ct W a m) : SW X ct W (.BoolOp .And [a] pos) m := pw_and1 h
theorem sw_or1 {a : Expr} {m : MT} {pos : Pos} (h : ST X ct W a m) : SW X ct W (.BoolOp .Or [a] pos) m := pw_or1 h
theorem sw_and {a b : Expr} {rest : List Expr} {ma mb : MT} {pos : Pos} (ha : ST X ct W a ma) (hb : SW X ct W (.BoolOp .And (b :: rest) pos) mb) : SW X ct W (.BoolOp .And (a :: b :: rest) pos) (mAnd ma mb) :=
  (pw_and ha hb).imp fun σ H Q ⟨μ, ρ, h, rs, rh, p⟩ => rdT.go rs rh p fun c h1 μ1 H1 s1 rs1 rh1 p1 => by
    cases c with
    | true => exact ⟨μ1, ρ, h1, rs1, rh1, p1⟩
    | false => exact p1.at rh1
theorem sw_or {a b : Expr} {rest : List Expr} {ma mb : MT} {pos : Pos} (ha : ST X ct W a ma) (hb : SW X ct W (.BoolOp .Or (b :: rest) pos) mb) : SW X ct W (.BoolOp .Or (a :: b :: rest) pos) (mOr ma mb) :=
  (pw_or ha hb).imp fun σ H Q ⟨μ, ρ, h, rs, rh, p⟩ => rdT.go rs rh p fun c h1 μ1 H1 s1 rs1 rh1 p1 => by
    cases c with
    | true => exact p1.at rh1
    | false => exact ⟨μ1, ρ, h1, rs1, rh1, p1⟩
theorem st_w {e : Expr} {m : MT} (h : SW X ct W e m) : ST X ct W e m := PW.pt h
theorem st_not {a : Expr} {m : MT} {pos : Pos} (h : ST X ct W a m) : ST X ct W (.UnaryOp .Not a pos) (mNot m) :=
  (pt_not h).imp fun σ H Q ⟨μ, ρ, h, rs, rh, p⟩ => rdT.go rs rh p fun c h1 μ1 H1 s1 rs1 rh1 p1 => p1.at rh1
/-- and, or, not as values, all but the last True or False -/
def mAndV (a b : ME) : ME := fun ρ h => (mTest a ρ h).bind fun c h1 => if c = true then b ρ h1 else .ok (.bl false) h1
def mOrV (a b : ME) : ME := fun ρ h => (mTest a ρ h).bind fun c h1 => if c = true then .ok (.bl true) h1 else b ρ h1
def mNotV (a : ME) : ME := fun ρ h => (mTest a ρ h).bind fun c h1 => .ok (.bl (!c)) h1
theorem bool_go {K : PySem.W.Frag} {ma : ME} {β : Type} {f : Bool → Hh → Out β} {σ : L2.St} {H : Hp} {ρ : Rho} {h : Hh} {μ : List Addr} {R : β → Hh → List Addr → Hp → Prop} (rs : RelS K μ H ρ σ) (rh : RelH K μ H h) (p : PO K ct W σ μ H R ((mTest ma ρ h).bind f))
    {Q : VK} (k : ∀ c h1 μ1 H1, Step μ H μ1 H1 → RelS K μ1 H1 ρ σ → RelH K μ1 H1 h1 → PO K ct W σ μ1 H1 R (f c h1) → Q (.bl c) H1) : rdE K ct W ma σ H Q := by
  have p' : PO K ct W σ μ H R ((ma ρ h).bind fun d h1 => (match d with | .bl b => Out.ok b h1 | _ => .bad : Out Bool).bind f) := by
    unfold mTest at p
    cases e : ma ρ h with
    | ok d h1 => rw [e] at p; exact p
    | err x h1 => rw [e] at p; exact p
    | bad => rw [e] at p; exact p
  refine rdE.go rs rh p' fun d h1 μ1 H1 v s1 rs1 rh1 dv p1 => ?_
  cases d with
  | bl b =>
    have dv : v = .bl b := dv
    subst dv
    exact k b h1 μ1 H1 s1 rs1 rh1 p1
  | _ => exact p1.elim
theorem se_and1 {a : Expr} {m : ME} {op : BoolOp} {pos : Pos} (h : SE X ct W a m) : SE X ct W (.BoolOp op [a] pos) m := pe_one h
theorem se_and {a b : Expr} {rest : List Expr} {ma mb : ME} {pos : Pos} (ha : SE X ct W a ma) (hb : SE X ct W (.BoolOp .And (b :: rest) pos) mb) : SE X ct W (.BoolOp .And (a :: b :: rest) pos) (mAndV ma mb) :=
  (pe_and ha hb).imp fun σ H Q ⟨μ, ρ, h, rs, rh, p⟩ => bool_go rs rh p fun c h1 μ1 H1 s1 rs1 rh1 p1 => ⟨c, rfl, by
    cases c with
    | true => exact ⟨μ1, ρ, h1, rs1, rh1, p1⟩
    | false => exact p1.at rh1 _ rfl⟩
theorem se_or {a b : Expr} {rest : List Expr} {ma mb : ME} {pos : Pos} (ha : SE X ct W a ma) (hb : SE X ct W (.BoolOp .Or (b :: rest) pos) mb) : SE X ct W (.BoolOp .Or (a :: b :: rest) pos) (mOrV ma mb) :=
  (pe_or ha hb).imp fun σ H Q ⟨μ, ρ, h, rs, rh, p⟩ => bool_go rs rh p fun c h1 μ1 H1 s1 rs1 rh1 p1 => ⟨c, rfl, by
    cases c with
    | true => exact p1.at rh1 _ rfl
    | false => exact ⟨μ1, ρ, h1, rs1, rh1, p1⟩⟩
theorem se_not {a : Expr} {m : ME} {pos : Pos} (h : SE X ct W a m) : SE X ct W (.UnaryOp .Not a pos) (mNotV m) :=
  (pe_not h).imp fun σ H Q ⟨μ, ρ, h, rs, rh, p⟩ => bool_go rs rh p fun c h1 μ1 H1 s1 rs1 rh1 p1 => ⟨c, rfl, p1.at rh1 _ rfl⟩
def mIf (t : MT) (a b : ME) : ME := fun ρ h => (t ρ h).bind fun c h1 => if c = true then a ρ h1 else b ρ h1
theorem se_if {t a b : Expr} {mt : MT} {ma mb : ME} {pos : Pos} (ht : ST X ct W t mt) (ha : SE X ct W a ma) (hb : SE X ct W b mb) : SE X ct W (.IfExp t a b pos) (mIf mt ma mb) :=
  (pe_ifExp ht ha hb).imp fun σ H Q ⟨μ, ρ, h, rs, rh, p⟩ => rdT.go rs rh p fun c h1 μ1 H1 s1 rs1 rh1 p1 => by
    cases c with
    | true => exact ⟨μ1, ρ, h1, rs1, rh1, p1⟩
    | false => exact ⟨μ1, ρ, h1, rs1, rh1, p1⟩
/-- a < b < c -/
def mChain (g g' : D → D → Hh → Option (D × Hh)) (ma mb mc : ME) : ME := fun ρ h => (ma ρ h).bind fun a h1 => (mb ρ h1).bind fun b h2 => (Out.ofO (g a b h2)).bind fun r h3 => match r with
  | .bl true => (mc ρ h3).bind fun c h4 => Out.ofO (g' b c h4)
  | .bl false => .ok (.bl false) h3
  | _ => .bad
theorem chain_go {g g' : D → D → Hh → Option (D × Hh)} {ma mb mc : ME} (σ : L2.St) (H : Hp) (Q : VK) (q : rdE X.K ct W (mChain g g' ma mb mc) σ H Q) : tChain (r2 X.K g) (r2 X.K g') (rdE X.K ct W ma) (rdE X.K ct W mb) (rdE X.K ct W mc) σ H Q := by
  obtain ⟨μ, ρ, h, rs, rh, p⟩ := q
  refine rdE.go rs rh p fun a h1 μ1 H1 v s1 rs1 rh1 da p1 => rdE.go rs1 rh1 p1 fun b h2 μ2 H2 w s2 rs2 rh2 db p2 => ⟨μ2, h2, a, b, da.mono s2, db, rh2, p2.bind.ofO.mono fun r h3 μ3 H3 s3 rh3 p3 z dz => ?_⟩
  have rs3 := rs2.mono s3
  split at p3
  · refine ⟨true, dz, ?_⟩
    rw [if_pos rfl]
    exact rdE.go rs3 rh3 p3 fun c h4 μ4 H4 w4 s4 rs4 rh4 dc p4 => ⟨μ4, h4, b, c, (db.mono s3).mono s4, dc, rh4, p4.ofO⟩
  · refine ⟨false, dz, ?_⟩
    rw [if_neg Bool.false_ne_true]
    exact p3.at rh3 _ rfl
  · exact p3.elim
theorem se_chain {a b c : Expr} {op op' : CmpOp} {pos : Pos} {g g' : D → D → Hh → Option (D × Hh)} {ma mb mc : ME} (ho : OpR X (compareOp op) (r2 X.K g)) (ho' : OpR X (compareOp op') (r2 X.K g')) (ha : SE X ct W a ma) (hb : SE X ct W b mb) (hc : SE X ct W c mc) (hm : lastMarks [op, op'] [b, c] = false := by rfl) :
    SE X ct W (.Compare a [op, op'] [b, c] pos) (mChain g g' ma mb mc) := (pe_chain ho ho' ha hb hc hm).imp chain_go
theorem st_chain {a b c : Expr} {op op' : CmpOp} {pos : Pos} {g g' : D → D → Hh → Option (D × Hh)} {ma mb mc : ME} (ho : OpR X (compareOp op) (r2 X.K g)) (ho' : OpR X (compareOp op') (r2 X.K g')) (ha : SE X ct W a ma) (hb : SE X ct W b mb) (hc : SE X ct W c mc) (hm : lastMarks [op, op'] [b, c] = false := by rfl) :
    ST X ct W (.Compare a [op, op'] [b, c] pos) (mTest (mChain g g' ma mb mc)) := (pt_chain ho ho' ha hb hc hm).imp fun σ H Q q => by
    obtain ⟨μ, ρ, h, rs, rh, p⟩ := test_go σ H Q q
    exact chain_go σ H _ ⟨μ, ρ, h, rs, rh, p⟩
end
end PI
/-! Statements, loops, calls of defs, exceptions. -/
namespace PI
open PySem PySem.Spec L2
open PyProof.Rows hiding St

/-- what follows a statement's mirror -/
def PSt (K : PySem.W.Frag) (ct : Ctb) (W : WX) (μ : List Addr) (H : Hp) (D : Ends) : OutS → Prop
  | .nx ρ' h' => ∀ μ' H' σ', Step μ H μ' H' → RelH K μ' H' h' → RelS K μ' H' ρ' σ' → D.nx σ' H'
  | .bk ρ' h' => ∀ μ' H' σ', Step μ H μ' H' → RelH K μ' H' h' → RelS K μ' H' ρ' σ' → D.bk σ' H'
  | .ct ρ' h' => ∀ μ' H' σ', Step μ H μ' H' → RelH K μ' H' h' → RelS K μ' H' ρ' σ' → D.ct σ' H'
  | .rt d h' => ∀ μ' H' v, Step μ H μ' H' → RelH K μ' H' h' → Den K μ' H' d v → D.rt v H'
  | .er x ρ' h' => ∀ μ' H' σ' cls d, Step μ H μ' H' → RelH K μ' H' h' → RelS K μ' H' ρ' σ' → ExcR K ct μ' H' x cls d → W cls d σ' H'
  | .bad => False
section
variable {K : PySem.W.Frag} {ct : Ctb} {W : WX} {μ μ1 : List Addr} {H H1 : Hp} {D D' : Ends} {o : OutS}
theorem PSt.step (s : Step μ H μ1 H1) (p : PSt K ct W μ H D o) : PSt K ct W μ1 H1 D o := by
  cases o with
  | nx ρ h => exact fun μ' H' σ' s' => p μ' H' σ' (s.trans s')
  | bk ρ h => exact fun μ' H' σ' s' => p μ' H' σ' (s.trans s')
  | ct ρ h => exact fun μ' H' σ' s' => p μ' H' σ' (s.trans s')
  | rt d h => exact fun μ' H' σ' s' => p μ' H' σ' (s.trans s')
  | er x ρ h => exact fun μ' H' σ' c d s' => p μ' H' σ' c d (s.trans s')
  | bad => exact p
theorem rdS_def {m : MS} {σ : L2.St} : rdS K ct W m D σ H ↔ ∃ μ ρ h, RelS K μ H ρ σ ∧ RelH K μ H h ∧ PSt K ct W μ H D (m ρ h) := by
  unfold rdS PSt
  exact Iff.rfl
end
def Out.bindS {α : Type} (o : Out α) (ρ : Rho) (f : α → Hh → OutS) : OutS := match o with
  | .ok a h => f a h
  | .err x h => .er x ρ h
  | .bad => .bad
def OutS.seq (o : OutS) (f : Rho → Hh → OutS) : OutS := match o with
  | .nx ρ h => f ρ h
  | o => o
@[simp] theorem Out.bindS_ok {α : Type} {a : α} {h : Hh} {ρ : Rho} {f : α → Hh → OutS} : (Out.ok a h).bindS ρ f = f a h := rfl
@[simp] theorem Out.bindS_err {α : Type} {x : Exn} {h : Hh} {ρ : Rho} {f : α → Hh → OutS} : (Out.err x h : Out α).bindS ρ f = .er x ρ h := rfl
@[simp] theorem Out.bindS_bad {α : Type} {ρ : Rho} {f : α → Hh → OutS} : (Out.bad : Out α).bindS ρ f = .bad := rfl
@[simp] theorem OutS.seq_nx {ρ : Rho} {h : Hh} {f : Rho → Hh → OutS} : (OutS.nx ρ h).seq f = f ρ h := rfl
@[simp] theorem OutS.seq_rt {d : D} {h : Hh} {f : Rho → Hh → OutS} : (OutS.rt d h).seq f = .rt d h := rfl
@[simp] theorem OutS.seq_bk {ρ : Rho} {h : Hh} {f : Rho → Hh → OutS} : (OutS.bk ρ h).seq f = .bk ρ h := rfl
@[simp] theorem OutS.seq_ct {ρ : Rho} {h : Hh} {f : Rho → Hh → OutS} : (OutS.ct ρ h).seq f = .ct ρ h := rfl
@[simp] theorem OutS.seq_er {x : Exn} {ρ : Rho} {h : Hh} {f : Rho → Hh → OutS} : (OutS.er x ρ h).seq f = .er x ρ h := rfl
@[simp] theorem OutS.seq_bad {f : Rho → Hh → OutS} : (OutS.bad).seq f = .bad := rfl

section
variable {X : Cx} {ct : Ctb} {W : WX}
theorem PSt.bindS {K : PySem.W.Frag} {α : Type} {o : Out α} {ρ : Rho} {f : α → Hh → OutS} {μ : List Addr} {H : Hp} {D : Ends} {σ : L2.St} (rs : RelS K μ H ρ σ) (p : PSt K ct W μ H D (o.bindS ρ f)) :
    PO K ct W σ μ H (fun a h1 μ1 H1 => PSt K ct W μ1 H1 D (f a h1)) o := by
  cases o with
  | ok a h => exact fun μ' H' s' r => PSt.step s' (show PSt K ct W μ H D (f a h) from p)
  | err x h => exact fun μ' H' c d s r e => p μ' H' σ c d s r (rs.mono s) e
  | bad => exact p
theorem rdE.goS {K : PySem.W.Frag} {ma : ME} {f : D → Hh → OutS} {σ : L2.St} {H : Hp} {ρ : Rho} {h : Hh} {μ : List Addr} {D : Ends} (rs : RelS K μ H ρ σ) (rh : RelH K μ H h) (p : PSt K ct W μ H D ((ma ρ h).bindS ρ f))
    {Q : VK} (k : ∀ d h1 μ1 H1 v, Step μ H μ1 H1 → RelS K μ1 H1 ρ σ → RelH K μ1 H1 h1 → Den K μ1 H1 d v → PSt K ct W μ1 H1 D (f d h1) → Q v H1) : rdE K ct W ma σ H Q :=
  ⟨μ, ρ, h, rs, rh, (PSt.bindS rs p).mono fun d h1 μ1 H1 s r q v dv => k d h1 μ1 H1 v s (rs.mono s) r dv q⟩
theorem rdA.goS {K : PySem.W.Frag} {ma : MA} {f : List D → Hh → OutS} {σ : L2.St} {H : Hp} {ρ : Rho} {h : Hh} {μ : List Addr} {D : Ends} (rs : RelS K μ H ρ σ) (rh : RelH K μ H h) (p : PSt K ct W μ H D ((ma ρ h).bindS ρ f))
    {Q : List V → Hp → Prop} (k : ∀ d h1 μ1 H1 v, Step μ H μ1 H1 → RelS K μ1 H1 ρ σ → RelH K μ1 H1 h1 → Dens K μ1 H1 d v → PSt K ct W μ1 H1 D (f d h1) → Q v H1) : rdA K ct W ma σ H Q :=
  ⟨μ, ρ, h, rs, rh, (PSt.bindS rs p).mono fun d h1 μ1 H1 s r q v dv => k d h1 μ1 H1 v s (rs.mono s) r dv q⟩
theorem rdT.goS {K : PySem.W.Frag} {ma : MT} {f : Bool → Hh → OutS} {σ : L2.St} {H : Hp} {ρ : Rho} {h : Hh} {μ : List Addr} {D : Ends} (rs : RelS K μ H ρ σ) (rh : RelH K μ H h) (p : PSt K ct W μ H D ((ma ρ h).bindS ρ f))
    {Q : Bool → Hp → Prop} (k : ∀ d h1 μ1 H1, Step μ H μ1 H1 → RelS K μ1 H1 ρ σ → RelH K μ1 H1 h1 → PSt K ct W μ1 H1 D (f d h1) → Q d H1) : rdT K ct W ma σ H Q :=
  ⟨μ, ρ, h, rs, rh, (PSt.bindS rs p).mono fun d h1 μ1 H1 s r q => k d h1 μ1 H1 s (rs.mono s) r q⟩

/-! ### blocks -/
def mNx : MS := fun ρ h => .nx ρ h
def mSeq (a b : MS) : MS := fun ρ h => (a ρ h).seq b
theorem sss_nil : SSs X ct W [] mNx := ⟨fun pins s σ H D I ⟨μ, ρ, h, rs, rh, p⟩ => wpAny_execs_nil ⟨σ, H, I, p μ H σ Step.refl rh rs⟩⟩
theorem seq_go {K : PySem.W.Frag} {a b : MS} {D : Ends} {σ : L2.St} {H : Hp} (q : rdS K ct W (mSeq a b) D σ H) : rdS K ct W a { D with nx := rdS K ct W b D } σ H := by
  obtain ⟨μ, ρ, h, rs, rh, p⟩ := q
  refine ⟨μ, ρ, h, rs, rh, ?_⟩
  have p : PSt K ct W μ H D ((a ρ h).seq b) := p
  cases e : a ρ h with
  | nx ρ' h' =>
    rw [e] at p
    exact fun μ' H' σ' s r rs' => ⟨μ', ρ', h', rs', r, PSt.step s p⟩
  | bk ρ' h' => rw [e] at p; exact p
  | ct ρ' h' => rw [e] at p; exact p
  | rt d h' => rw [e] at p; exact p
  | er x ρ' h' => rw [e] at p; exact p
  | bad => rw [e] at p; exact p
theorem sss_cons {s : Stmt} {r : List Stmt} {a b : MS} (h1 : SS X ct W s a) (h2 : SSs X ct W r b) : SSs X ct W (s :: r) (mSeq a b) :=
  L2.PSs.imp (pss_cons h1 h2) fun D σ H q => seq_go q
theorem sss_one {s : Stmt} {a : MS} (h1 : SS X ct W s a) : SSs X ct W [s] a :=
  L2.PSs.imp (pss_one h1) fun D σ H q => q
theorem ss_pass {pos : Pos} : SS X ct W (.Pass pos) mNx := ps_pass.imp fun D σ H ⟨μ, ρ, h, rs, rh, p⟩ => p μ H σ Step.refl rh rs
theorem ss_break {pos : Pos} : SS X ct W (.Break pos) (fun ρ h => .bk ρ h) := ps_break.imp fun D σ H ⟨μ, ρ, h, rs, rh, p⟩ => p μ H σ Step.refl rh rs
theorem ss_continue {pos : Pos} : SS X ct W (.Continue pos) (fun ρ h => .ct ρ h) := ps_continue.imp fun D σ H ⟨μ, ρ, h, rs, rh, p⟩ => p μ H σ Step.refl rh rs
def mRet (m : ME) : MS := fun ρ h => (m ρ h).bindS ρ fun d h1 => .rt d h1
theorem ss_ret {e : Expr} {m : ME} {pos : Pos} (he : SE X ct W e m) : SS X ct W (.Return (some e) pos) (mRet m) :=
  (ps_ret he).imp fun D σ H ⟨μ, ρ, h, rs, rh, p⟩ => rdE.goS rs rh p fun d h1 μ1 H1 v s1 rs1 rh1 dv p1 => p1 μ1 H1 v Step.refl rh1 dv
def mRetN : MS := fun _ h => .rt .non h
theorem ss_retN {pos : Pos} : SS X ct W (.Return none pos) mRetN := ps_retN.imp fun D σ H ⟨μ, ρ, h, rs, rh, p⟩ => p μ H .non Step.refl rh rfl
def mDrop (m : ME) : MS := fun ρ h => (m ρ h).bindS ρ fun _ h1 => .nx ρ h1
theorem ss_expr {e : Expr} {m : ME} {pos : Pos} (he : SE X ct W e m) (hs : swapsWith e none pos.line X.env = pure false := by rfl) : SS X ct W (.Expr e pos) (mDrop m) :=
  (ps_expr he hs).imp fun D σ H ⟨μ, ρ, h, rs, rh, p⟩ => rdE.goS rs rh p fun d h1 μ1 H1 v s1 rs1 rh1 dv p1 => p1 μ1 H1 σ Step.refl rh1 rs1
def mIfS (t : MT) (a b : MS) : MS := fun ρ h => (t ρ h).bindS ρ fun c h1 => if c = true then a ρ h1 else b ρ h1
theorem ss_if {t : Expr} {a b : List Stmt} {mt : MT} {ma mb : MS} {pos : Pos} (ht : ST X ct W t mt) (ha : SSs X ct W a ma) (hb : SSs X ct W b mb) : SS X ct W (.If t a b pos) (mIfS mt ma mb) :=
  (ps_if ht ha hb).imp fun D σ H ⟨μ, ρ, h, rs, rh, p⟩ => rdT.goS rs rh p fun c h1 μ1 H1 s1 rs1 rh1 p1 => by
    cases c with
    | true => exact ⟨μ1, ρ, h1, rs1, rh1, p1⟩
    | false => exact ⟨μ1, ρ, h1, rs1, rh1, p1⟩

/-! ### targets: a value stored -/
abbrev MG := D → Rho → Hh → Option (Rho × Hh)
def rdG (K : PySem.W.Frag) (m : MG) : TG := fun v σ H Q => ∃ μ ρ h d, RelS K μ H ρ σ ∧ RelH K μ H h ∧ Den K μ H d v ∧ match m d ρ h with
  | some (ρ', h') => ∀ μ' H' σ', Step μ H μ' H' → RelH K μ' H' h' → RelS K μ' H' ρ' σ' → Q σ' H'
  | none => False
abbrev MGs := List D → Rho → Hh → Option (Rho × Hh)
def rdGs (K : PySem.W.Frag) (m : MGs) : TGs := fun vs σ H Q => ∃ μ ρ h ds, RelS K μ H ρ σ ∧ RelH K μ H h ∧ Dens K μ H ds vs ∧ match m ds ρ h with
  | some (ρ', h') => ∀ μ' H' σ', Step μ H μ' H' → RelH K μ' H' h' → RelS K μ' H' ρ' σ' → Q σ' H'
  | none => False
abbrev SG (X : Cx) (tg : Expr) (m : MG) : Prop := PG X tg (rdG X.K m)
abbrev SGs (X : Cx) (tg : List Expr) (m : MGs) : Prop := PGs X tg (rdGs X.K m)
theorem _root_.L2.PG.imp {e : Expr} {t t' : TG} (h : PG X e t) (i : ∀ v σ H Q, t' v σ H Q → t v σ H Q) : PG X e t' := ⟨fun pins s σ H v u Q I r q => h.run pins s σ H v u Q I r (i v σ H Q q)⟩
theorem _root_.L2.PGs.imp {e : List Expr} {t t' : TGs} (h : PGs X e t) (i : ∀ v σ H Q, t' v σ H Q → t v σ H Q) : PGs X e t' := ⟨fun pins s σ H v u Q I r q => h.run pins s σ H v u Q I r (i v σ H Q q)⟩
def gmName (i : Nat) : MG := fun d ρ h => some (ρ.set i (some d), h)
theorem sg_name {i : Nat} {x : Str} {pos : Pos} (hN : X.N.Nodup) (hi : X.N[i]? = some x) (hx : Loc X.env.scope x) (hf : X.fn x = true ∨ X.env.scope.names.lookup x = some .local := by first | exact .inl rfl | exact .inr rfl | assumption) : SG X (.Name x pos) (gmName i) :=
  (pg_name hN hi hx hf).imp fun v σ H Q ⟨μ, ρ, h, d, rs, rh, dv, p⟩ => p μ H _ Step.refl rh (rs.set dv)
def gmNil : MGs := fun ds ρ h => match ds with
  | [] => some (ρ, h)
  | _ => none
def gmCons (a : MG) (b : MGs) : MGs := fun ds ρ h => match ds with
  | d :: r => (a d ρ h).bind fun p => b r p.1 p.2
  | [] => none
theorem sgs_nil : SGs X [] gmNil := pgs_nil.imp fun vs σ H Q ⟨μ, ρ, h, ds, rs, rh, dv, p⟩ => by
  cases ds with
  | nil =>
    have dv : vs = [] := dv
    exact ⟨dv, p μ H σ Step.refl rh rs⟩
  | cons d r => exact p.elim
theorem sgs_cons {e : Expr} {es : List Expr} {a : MG} {b : MGs} (h1 : SG X e a) (h2 : SGs X es b) (hs : (assignEach (e :: es) X.env).map (·.2) = assign e X.env :: (assignEach es X.env).map (·.2) := by rfl) : SGs X (e :: es) (gmCons a b) :=
  (pgs_cons h1 h2 hs).imp fun vs σ H Q ⟨μ, ρ, h, ds, rs, rh, dv, p⟩ => by
    cases ds with
    | nil => exact p.elim
    | cons d r =>
      obtain ⟨v, vr, e, q1, q2⟩ := dv
      refine ⟨v, vr, e, μ, ρ, h, d, rs, rh, q1, ?_⟩
      have p : (match (a d ρ h).bind fun p => b r p.1 p.2 with
        | some (ρ', h') => ∀ μ' H' σ', Step μ H μ' H' → RelH X.K μ' H' h' → RelS X.K μ' H' ρ' σ' → Q σ' H'
        | none => False) := p
      cases ea : a d ρ h with
      | none => rw [ea] at p; exact p.elim
      | some z =>
        obtain ⟨ρ1, h1⟩ := z
        rw [ea] at p
        intro μ1 H1 σ1 s1 rh1 rs1
        refine ⟨μ1, ρ1, h1, r, rs1, rh1, q2.mono s1, ?_⟩
        have p : (match b r ρ1 h1 with
          | some (ρ', h') => ∀ μ' H' σ', Step μ H μ' H' → RelH X.K μ' H' h' → RelS X.K μ' H' ρ' σ' → Q σ' H'
          | none => False) := p
        cases eb : b r ρ1 h1 with
        | none => rw [eb] at p; exact p.elim
        | some z =>
          obtain ⟨ρ2, h2⟩ := z
          rw [eb] at p
          exact fun μ2 H2 σ2 s2 => p μ2 H2 σ2 (s1.trans s2)
/-- a, b, .. = a tuple -/
def gmTup (n : Nat) (m : MGs) : MG := fun d ρ h => match d with
  | .tup ds => if ds.length = n then m ds ρ h else none
  | _ => none
theorem sg_tup {es : List Expr} {k : Nat} {m : MGs} {n : Nat} {pos : Pos} (hc : X.calm = true) (h : SGs X es m)
    (hn : (assignEach es X.env).length = n := by rfl) (hst : (assignEach es X.env).findIdx? (·.1) = none := by rfl) : SG X (.Tuple es k pos) (gmTup n m) :=
  (pg_tup hc h hn hst).imp fun v σ H Q ⟨μ, ρ, h, d, rs, rh, dv, p⟩ => by
    cases d with
    | tup ds =>
      obtain ⟨a, vs, e, q, r⟩ := dv
      by_cases hl : ds.length = n
      · have p : (match (if ds.length = n then m ds ρ h else none) with
          | some (ρ', h') => ∀ μ' H' σ', Step μ H μ' H' → RelH X.K μ' H' h' → RelS X.K μ' H' ρ' σ' → Q σ' H'
          | none => False) := p
        rw [if_pos hl] at p
        exact ⟨a, vs, e, SqT.of q, by rw [r.length]; exact hl, μ, ρ, h, ds, rs, rh, r, p⟩
      · have p : (match (if ds.length = n then m ds ρ h else none) with
          | some (ρ', h') => ∀ μ' H' σ', Step μ H μ' H' → RelH X.K μ' H' h' → RelS X.K μ' H' ρ' σ' → Q σ' H'
          | none => False) := p
        rw [if_neg hl] at p
        exact p.elim
    | _ => exact p.elim
/-- target = value -/
def mAsg (m : ME) (g : MG) : MS := fun ρ h => (m ρ h).bindS ρ fun d h1 => match g d ρ h1 with
  | some (ρ', h') => .nx ρ' h'
  | none => .bad
theorem asg_go {m : ME} {g : MG} {D : Ends} {σ : L2.St} {H : Hp} (q : rdS X.K ct W (mAsg m g) D σ H) : tAsg (rdE X.K ct W m) (rdG X.K g) D σ H := by
  obtain ⟨μ, ρ, h, rs, rh, p⟩ := q
  refine rdE.goS rs rh p fun d h1 μ1 H1 v s1 rs1 rh1 dv p1 => ⟨μ1, ρ, h1, d, rs1, rh1, dv, ?_⟩
  cases e : g d ρ h1 with
  | none =>
    have p1 : PSt X.K ct W μ1 H1 D (match g d ρ h1 with | some (ρ', h') => .nx ρ' h' | none => .bad) := p1
    rw [e] at p1
    exact p1.elim
  | some z =>
    have p1 : PSt X.K ct W μ1 H1 D (match g d ρ h1 with | some (ρ', h') => .nx ρ' h' | none => .bad) := p1
    rw [e] at p1
    exact p1
theorem ss_asg {tg e : Expr} {m : ME} {g : MG} {pos : Pos} (he : SE X ct W e m) (hg : SG X tg g) (hs : swapsWithSole [tg] e pos.line X.env = pure false := by rfl) (hw : swappedStores [tg] e X.env = pure none := by rfl)
    (h1 : (assignEach [tg] X.env).map (·.2) = [assign tg X.env] := by rfl) : SS X ct W (.Assign [tg] e pos) (mAsg m g) :=
  (ps_asg he hg hs hw h1).imp fun D σ H q => asg_go q
def mSet (i : Nat) (m : ME) : MS := fun ρ h => (m ρ h).bindS ρ fun d h1 => .nx (ρ.set i (some d)) h1
theorem ss_set {i : Nat} {x : Str} {e : Expr} {m : ME} {pos pos' : Pos} (hN : X.N.Nodup) (hi : X.N[i]? = some x) (hx : Loc X.env.scope x) (he : SE X ct W e m) (hs : swapsWith e (some (.Name x pos')) pos.line X.env = pure false := by rfl) (hf : X.fn x = true ∨ X.env.scope.names.lookup x = some .local := by first | exact .inl rfl | exact .inr rfl | assumption) :
    SS X ct W (.Assign [.Name x pos'] e pos) (mSet i m) :=
  (ps_set hN hi hx he hs hf).imp fun D σ H ⟨μ, ρ, h, rs, rh, p⟩ => rdE.goS rs rh p fun d h1 μ1 H1 v s1 rs1 rh1 dv p1 => p1 μ1 H1 _ Step.refl rh1 (rs1.set dv)
/-- a, b = x, y -/
def mPar (i j : Nat) (ma : MA) : MS := fun ρ h => (ma ρ h).bindS ρ fun ds h1 => match ds with
  | [d, e] => .nx ((ρ.set i (some d)).set j (some e)) h1
  | _ => .bad
theorem ss_par {i j : Nat} {x y : Str} {a b : Expr} {ma : MA} {px py pt pos : Pos} {kt k2 pt2} (hc : X.calm = true) (hN : X.N.Nodup) (hi : X.N[i]? = some x) (hj : X.N[j]? = some y) (hij : i ≠ j)
    (hx : X.env.scope.names.lookup x = some .local) (hy : X.env.scope.names.lookup y = some .local) (ha : SA X ct W [a, b] ma)
    (hw : swappedStores [.Tuple [.Name x px, .Name y py] kt pt] (.Tuple [a, b] k2 pt2) X.env = pure (some [x, y]))
    (hs : swapsWithSole [.Tuple [.Name x px, .Name y py] kt pt] (.Tuple [a, b] k2 pt2) pos.line X.env = pure false := by rfl) :
    SS X ct W (.Assign [.Tuple [.Name x px, .Name y py] kt pt] (.Tuple [a, b] k2 pt2) pos) (mPar i j ma) :=
  (ps_par hc hN hi hj hij hx hy ha hw hs).imp fun D σ H ⟨μ, ρ, h, rs, rh, p⟩ => rdA.goS rs rh p fun ds h1 μ1 H1 vs s1 rs1 rh1 dv p1 => by
    split at p1
    · obtain ⟨v, vr, rfl, q1, w, wr, rfl, q2, q3⟩ := dv
      have q3 : wr = [] := q3
      subst q3
      exact ⟨v, w, rfl, p1 μ1 H1 _ Step.refl rh1 ((rs1.set q1).set q2)⟩
    · exact p1.elim
/-- name op= e -/
def mAug (i : Nat) (g : D → D → Hh → Option (D × Hh)) (m : ME) : MS := fun ρ h => match ρ[i]? with
  | some (some x) => (m ρ h).bindS ρ fun y h1 => (Out.ofO (g x y h1)).bindS ρ fun z h2 => .nx (ρ.set i (some z)) h2
  | _ => .bad
theorem ss_aug {i : Nat} {x : Str} {e : Expr} {m : ME} {op : Operator} {g : D → D → Hh → Option (D × Hh)} {pos pos' : Pos} (hN : X.N.Nodup) (hi : X.N[i]? = some x) (hx : Loc X.env.scope x) (he : SE X ct W e m) (ho : PIp X op (r2 X.K g)) (hf : X.fn x = true ∨ X.env.scope.names.lookup x = some .local := by first | exact .inl rfl | exact .inr rfl | assumption) :
    SS X ct W (.AugAssign (.Name x pos') op e pos) (mAug i g m) :=
  (ps_aug hN hi hx he ho hf).imp fun D σ H ⟨μ, ρ, h, rs, rh, p⟩ => by
    have p : PSt X.K ct W μ H D (mAug i g m ρ h) := p
    unfold mAug at p
    split at p
    · rename_i d ed
      obtain ⟨v, e1, dv⟩ := rs.get i d ed
      exact ⟨v, e1, rdE.goS rs rh p fun y h1 μ1 H1 w s1 rs1 rh1 dy p1 => ⟨μ1, h1, d, y, dv.mono s1, dy, rh1, (PSt.bindS (W := W) rs1 p1).ofO.mono fun z h2 μ2 H2 s2 rh2 p2 u du => p2 μ2 H2 _ Step.refl rh2 ((rs1.mono s2).set du)⟩⟩
    · exact p.elim

/-! ### while -/
def whileL (c : MT) (b : MS) : Nat → MS
  | 0, _, _ => .bad
  | n + 1, ρ, h => (c ρ h).bindS ρ fun t h1 => if t = true then
      match b ρ h1 with
      | .nx ρ' h' => whileL c b n ρ' h'
      | .ct ρ' h' => whileL c b n ρ' h'
      | .bk ρ' h' => .nx ρ' h'
      | .rt d h' => .rt d h'
      | .er x ρ' h' => .er x ρ' h'
      | .bad => .bad
    else .nx ρ h1
theorem ss_while {c : Expr} {body : List Stmt} {pos : Pos} {mc : MT} {mb : MS} (n : Rho → Hh → Nat) (hp : PassesOwn (model X.prog X.w) X.A X.env X.xe) (hc : ST X ct W c mc) (hb : SSs X ct W body mb) :
    SS X ct W (.While c body [] pos) (fun ρ h => whileL mc mb (n ρ h) ρ h) :=
  (ps_while hp hc hb).imp fun D σ H ⟨μ, ρ, h, rs, rh, p⟩ => by
    have p : PSt X.K ct W μ H D (whileL mc mb (n ρ h) ρ h) := p
    refine ⟨fun m σ' H' => ∃ μ' ρ' h', RelS X.K μ' H' ρ' σ' ∧ RelH X.K μ' H' h' ∧ PSt X.K ct W μ' H' D (whileL mc mb m ρ' h'), ⟨n ρ h, μ, ρ, h, rs, rh, p⟩, ?_⟩
    rintro m σ' H' ⟨μ', ρ', h', rs', rh', p'⟩
    cases m with
    | zero => exact p'.elim
    | succ m =>
      refine rdT.goS rs' rh' p' fun t h1 μ1 H1 s1 rs1 rh1 p1 => ?_
      cases t with
      | false =>
        rw [if_neg Bool.false_ne_true]
        rw [if_neg Bool.false_ne_true] at p1
        exact p1 μ1 H1 _ Step.refl rh1 rs1
      | true =>
        rw [if_pos rfl]
        rw [if_pos rfl] at p1
        refine ⟨fun σ2 H2 => ∃ μ2 ρ2 h2, RelS X.K μ2 H2 ρ2 σ2 ∧ RelH X.K μ2 H2 h2 ∧ PSt X.K ct W μ2 H2 D (whileL mc mb m ρ2 h2), fun σ2 H2 w2 => ⟨m, Nat.lt_succ_self _, w2⟩, μ1, ρ', h1, rs1, rh1, ?_⟩
        cases e : mb ρ' h1 with
        | nx ρ2 h2 => rw [e] at p1; exact fun μ2 H2 σ2 s2 rh2 rs2 => ⟨μ2, ρ2, h2, rs2, rh2, PSt.step s2 p1⟩
        | ct ρ2 h2 => rw [e] at p1; exact fun μ2 H2 σ2 s2 rh2 rs2 => ⟨μ2, ρ2, h2, rs2, rh2, PSt.step s2 p1⟩
        | bk ρ2 h2 => rw [e] at p1; exact p1
        | rt d h2 => rw [e] at p1; exact p1
        | er x ρ2 h2 => rw [e] at p1; exact p1
        | bad => rw [e] at p1; exact p1

/-! ### for -/
/-- what a walked thing gives, turn by turn: the item, or the end, from the heap as it stands -/
structure MIt where
  /-- none: it can't be told; some none: the end; some (some d): an item -/
  at_ : Nat → Hh → Option (Option D)
  /-- at most so many turns -/
  most : Nat
abbrev MI := Rho → Hh → Out MIt
/-- the mirror J of an iterator It -/
structure ItR (K : PySem.W.Frag) (μ : List Addr) (H : Hp) (J : It) (j : MIt) : Prop where
  stop : ∀ i μ' H' h', Step μ H μ' H' → RelH K μ' H' h' → j.at_ i h' = some none → J.stop i H'
  go : ∀ i μ' H' h' d, Step μ H μ' H' → RelH K μ' H' h' → j.at_ i h' = some (some d) → J.go i H' ∧ ∀ x H'', J.yld i H' x H'' → Step μ' H' μ' H'' ∧ RelH K μ' H'' h' ∧ Den K μ' H'' d x
def rdI (K : PySem.W.Frag) (ct : Ctb) (W : WX) (m : MI) : TI := fun σ H R => ∃ μ ρ h, RelS K μ H ρ σ ∧ RelH K μ H h ∧ PO K ct W σ μ H (fun j _ μ' H' => ∀ J, ItR K μ' H' J j → R J H') (m ρ h)
abbrev SI (X : Cx) (ct : Ctb) (W : WX) (tg iter : Expr) (m : MI) : Prop := PI X tg iter (rdI X.K ct W m)
theorem _root_.L2.PI.imp {tg e : Expr} {t t' : TI} (h : L2.PI X tg e t) (i : ∀ σ H R, t' σ H R → t σ H R) : L2.PI X tg e t' := ⟨fun pins s σ H R I q => h.run pins s σ H R I (i σ H R q)⟩
def forL (j : MIt) (g : MG) (b : MS) : Nat → Nat → MS
  | 0, i, ρ, h => match j.at_ i h with
    | some none => .nx ρ h
    | _ => .bad
  | n + 1, i, ρ, h => match j.at_ i h with
    | some none => .nx ρ h
    | some (some d) => match g d ρ h with
      | none => .bad
      | some (ρ1, h1) => match b ρ1 h1 with
        | .nx ρ' h' => forL j g b n (i + 1) ρ' h'
        | .ct ρ' h' => forL j g b n (i + 1) ρ' h'
        | .bk ρ' h' => .nx ρ' h'
        | .rt d h' => .rt d h'
        | .er x ρ' h' => .er x ρ' h'
        | .bad => .bad
    | none => .bad
def mFor (m : MI) (g : MG) (b : MS) : MS := fun ρ h => (m ρ h).bindS ρ fun j h1 => forL j g b j.most 0 ρ h1
theorem ss_for {tg iter : Expr} {body : List Stmt} {pos : Pos} {m : MI} {g : MG} {b : MS} (hp : PassesOwn (model X.prog X.w) X.A X.env X.xe) (hc : X.calm = true) (hi : L2.PI X tg iter (rdI X.K ct W m)) (hg : SG X tg g) (hb : SSs X ct W body b)
    (hs : ∀ x, foldedSetIterable iter X.env x = pure x := by intro _; rfl) : SS X ct W (.For tg iter body [] pos) (mFor m g b) :=
  (ps_for hp hc hi hg hb hs).imp fun D σ H ⟨μ, ρ, h, rs, rh, p⟩ => by
    refine ⟨μ, ρ, h, rs, rh, (PSt.bindS (W := W) rs p).mono fun j h1 μ1 H1 s1 rh1 p1 J ij => ?_⟩
    have rs1 := rs.mono s1
    refine ⟨fun i m σ' H' => ∃ μ' ρ' h', Step μ1 H1 μ' H' ∧ RelS X.K μ' H' ρ' σ' ∧ RelH X.K μ' H' h' ∧ PSt X.K ct W μ' H' D (forL j g b m i ρ' h'), ⟨j.most, μ1, ρ, h1, Step.refl, rs1, rh1, p1⟩, ?_⟩
    rintro i m σ' H' ⟨μ', ρ', h', st, rs', rh', p'⟩
    have stop : j.at_ i h' = some none → PSt X.K ct W μ' H' D (.nx ρ' h') → (J.stop i H' ∧ D.nx σ' H') := fun e q => ⟨ij.stop i μ' H' h' st rh' e, q μ' H' σ' Step.refl rh' rs'⟩
    cases m with
    | zero =>
      unfold forL at p'
      split at p'
      · rename_i e
        exact .inl (stop e p')
      · exact p'.elim
    | succ m =>
      unfold forL at p'
      split at p'
      · rename_i e
        exact .inl (stop e p')
      · rename_i d e
        obtain ⟨go, yl⟩ := ij.go i μ' H' h' d st rh' e
        refine .inr ⟨go, fun σ2 H2 => ∃ μ2 ρ2 h2, Step μ1 H1 μ2 H2 ∧ RelS X.K μ2 H2 ρ2 σ2 ∧ RelH X.K μ2 H2 h2 ∧ PSt X.K ct W μ2 H2 D (forL j g b m (i + 1) ρ2 h2), fun σ2 H2 w2 => ⟨m, Nat.lt_succ_self _, w2⟩, fun x H'' y => ?_⟩
        obtain ⟨st2, rh2, dx⟩ := yl x H'' y
        refine ⟨μ', ρ', h', d, rs'.mono st2, rh2, dx, ?_⟩
        cases eg : g d ρ' h' with
        | none => rw [eg] at p'; exact p'.elim
        | some z =>
          obtain ⟨ρ3, h3⟩ := z
          rw [eg] at p'
          intro μ3 H3 σ3 st3 rh3 rs3
          have st4 := (st.trans st2).trans st3
          have p' : PSt X.K ct W μ' H' D (match b ρ3 h3 with
            | .nx ρ' h' => forL j g b m (i + 1) ρ' h'
            | .ct ρ' h' => forL j g b m (i + 1) ρ' h'
            | .bk ρ' h' => .nx ρ' h'
            | .rt d h' => .rt d h'
            | .er x ρ' h' => .er x ρ' h'
            | .bad => .bad) := p'
          have p' := PSt.step (st2.trans st3) p'
          refine ⟨μ3, ρ3, h3, rs3, rh3, ?_⟩
          cases e : b ρ3 h3 with
          | nx ρ2 h2 => rw [e] at p'; exact fun μ2 H2 σ2 s2 rh2 rs2 => ⟨μ2, ρ2, h2, st4.trans s2, rs2, rh2, PSt.step s2 p'⟩
          | ct ρ2 h2 => rw [e] at p'; exact fun μ2 H2 σ2 s2 rh2 rs2 => ⟨μ2, ρ2, h2, st4.trans s2, rs2, rh2, PSt.step s2 p'⟩
          | bk ρ2 h2 => rw [e] at p'; exact p'
          | rt d h2 => rw [e] at p'; exact p'
          | er x ρ2 h2 => rw [e] at p'; exact p'
          | bad => rw [e] at p'; exact p'
      · exact p'.elim
end
end PI
/-! Defs, calls, exceptions. -/
namespace PI
open PySem PySem.Spec L2
open PyProof.Rows hiding St

/-- what a def gives, by its mirror f -/
def spM (K : PySem.W.Frag) (ct : Ctb) (n : Nat) (f : FnM) : Sp := fun vs H Q E => ∃ μ h ds, ds.length = n ∧ Dens K μ H ds vs ∧ RelH K μ H h ∧ PO K ct (fun c d _ H' => E c d H') [] μ H (fun d _ μ' H' => ∀ v, Den K μ' H' d v → Q v H') (f ds h)
def OutS.out : OutS → Out D
  | .nx _ h => .ok .non h
  | .rt d h => .ok d h
  | .er x _ h => .err x h
  | _ => .bad
@[simp] theorem OutS.out_nx {ρ : Rho} {h : Hh} : (OutS.nx ρ h).out = .ok .non h := rfl
@[simp] theorem OutS.out_rt {d : D} {h : Hh} : (OutS.rt d h).out = .ok d h := rfl
@[simp] theorem OutS.out_er {x : Exn} {ρ : Rho} {h : Hh} : (OutS.er x ρ h).out = .err x h := rfl
/-- the mirror of a def with N names -/
def mFn (N : Nat) (b : MS) : FnM := fun ds h => (b (ds.map some ++ List.replicate (N - ds.length) none) h).out
theorem PO.wish {K : PySem.W.Frag} {ct : Ctb} {W W' : WX} {σ σ' : L2.St} {α : Type} {μ : List Addr} {H : Hp} {R : α → Hh → List Addr → Hp → Prop} {o : Out α} (p : PO K ct W σ μ H R o) (i : ∀ c d H', W c d σ H' → W' c d σ' H') : PO K ct W' σ' μ H R o := by
  cases o with
  | ok a h => exact p
  | err x h => exact fun μ' H' c d s r e => i _ _ _ (p μ' H' c d s r e)
  | bad => exact p
theorem starts {K : PySem.W.Frag} {μ : List Addr} {H : Hp} {ds : List D} {vs : List V} (N : List Str) (dv : Dens K μ H ds vs) : RelS K μ H (ds.map some ++ List.replicate (N.length - ds.length) none) (L2.start N vs) := by
  have hl := dv.length
  refine ⟨by unfold L2.start; simp [hl], fun i d e => ?_⟩
  by_cases hi : i < ds.length
  · rw [List.getElem?_append_left (by simpa using hi), List.getElem?_map] at e
    cases q : ds[i]? with
    | none => rw [q] at e; cases e
    | some d' =>
      rw [q] at e
      cases e
      obtain ⟨v, e1, e2⟩ := dv.get q
      refine ⟨v, ?_, e2⟩
      unfold L2.start
      rw [List.getElem?_append_left (by simp; omega), List.getElem?_map, e1]
      rfl
  · rw [List.getElem?_append_right (by simp; omega), List.getElem?_replicate] at e
    split at e <;> cases e
section
variable {P : Program} {w : World} {K : PySem.W.Frag} {mg : Str → Option Value} {base : Heap} {ct : Ctb}
/-- THE RULE for a def -/
theorem fn_ok {x qual : Str} {st : Stmt} {f : Addr} {fd : FuncData} {N ps : List Str} {k : Nat} {b : MS} (F : Fun K x qual st f fd) (S : FnScope N ps (defScope st))
    (hbody : ∀ (cdv : Value) (A : Around) (outer : List Env) (s : Shared) (H : Hp) (E : XK), Room k (A.deeper (envOfC qual (defScope st) s.heap.objs.size f cdv)) →
      Takes (cxOf (L2.CX P w) P w K mg base N qual (defScope st) f cdv A outer s H E) (fun c d _ H' => E c d H') →
      PassesOwn (model P w) (cxOf (L2.CX P w) P w K mg base N qual (defScope st) f cdv A outer s H E).A (cxOf (L2.CX P w) P w K mg base N qual (defScope st) f cdv A outer s H E).env (cxOf (L2.CX P w) P w K mg base N qual (defScope st) f cdv A outer s H E).xe →
      SSs (cxOf (L2.CX P w) P w K mg base N qual (defScope st) f cdv A outer s H E) ct (fun c d _ H' => E c d H') (defBody st) b) : FnOk P w K mg base (L2.CX P w) (k + 1) f fd ps (spM K ct ps.length (mFn N.length b)) := by
  refine F.okX S (fun vs H Q E h => ?_) (fun cdv A outer s H vs Q E hr h => ⟨_, hbody cdv A outer s H E hr (takes_of rfl rfl rfl rfl) (passes_of rfl), ?_⟩)
  · obtain ⟨μ, h, ds, e, dv, _⟩ := h
    rw [dv.length, e]
  · obtain ⟨μ, h, ds, e, dv, rh, p⟩ := h
    refine ⟨μ, _, h, starts N dv, rh, ?_⟩
    have p : PO K ct (fun c d _ H' => E c d H') [] μ H (fun d _ μ' H' => ∀ v, Den K μ' H' d v → Q v H') (b (ds.map some ++ List.replicate (N.length - ds.length) none) h).out := p
    cases eb : b (ds.map some ++ List.replicate (N.length - ds.length) none) h with
    | nx ρ h' => rw [eb] at p; exact fun μ' H' σ' s r _ => p μ' H' s r .non rfl
    | rt d h' => rw [eb] at p; exact fun μ' H' v s r dv => p μ' H' s r v dv
    | er x ρ h' => rw [eb] at p; exact fun μ' H' σ' c d s r _ e => p μ' H' c d s r e
    | bk ρ h' => rw [eb] at p; exact p.elim
    | ct ρ h' => rw [eb] at p; exact p.elim
    | bad => rw [eb] at p; exact p.elim
/-- another mirror that says less -/
theorem fn_imp {f : Addr} {fd : FuncData} {ps : List Str} {k n : Nat} {g g' : FnM} (F : FnOk P w K mg base (L2.CX P w) k f fd ps (spM K ct n g))
    (i : ∀ ds h μ H vs R, ds.length = n → Dens K μ H ds vs → RelH K μ H h → ∀ W, PO K ct W [] μ H R (g' ds h) → PO K ct W [] μ H R (g ds h)) : FnOk P w K mg base (L2.CX P w) k f fd ps (spM K ct n g') :=
  F.imp fun vs H Q E ⟨μ, h, ds, e, dv, rh, p⟩ => ⟨μ, h, ds, e, dv, rh, i ds h μ H vs _ e dv rh _ p⟩
end

/-! ### calls -/
section
variable {X : Cx} {ct : Ctb} {W : WX}
def mCall (n : Nat) (f : FnM) (ma : MA) : ME := fun ρ h => (ma ρ h).bind fun ds h1 => if ds.length = n then f ds h1 else .bad
theorem call_go {n : Nat} {f : FnM} {ma : MA} (σ : L2.St) (H : Hp) (Q : VK) (q : rdE X.K ct W (mCall n f ma) σ H Q) : tCallS (spM X.K ct n f) (WE W) (rdA X.K ct W ma) σ H Q := by
  obtain ⟨μ, ρ, h, rs, rh, p⟩ := q
  refine rdA.go rs rh p fun ds h1 μ1 H1 vs s1 rs1 rh1 dv p1 => ?_
  by_cases hl : ds.length = n
  · rw [if_pos hl] at p1
    exact ⟨μ1, h1, ds, hl, dv, rh1, p1.wish fun _ _ _ z => z⟩
  · rw [if_neg hl] at p1
    exact p1.elim
theorem se_call {k n : Nat} {fa : Addr} {fd : FuncData} {ps : List Str} {f : FnM} {x : Str} {p pos : Pos} {e : Expr} {es : List Expr} {ma : MA} (F : FnOk X.prog X.w X.K X.mg X.base (L2.CX X.prog X.w) k fa fd ps (spM X.K ct n f)) (hr : Room k X.A) (hg : Gl X x) (hm : X.mg x = some (.ref fa)) (hk : PySem.W.keepIn X.K (.ref fa) = true) (hb : Binds X.K fd ps []) (tk : Takes X W)
    (ha : SA X ct W (e :: es) ma) (hdb : (x == ("__debug__" : Str)) = false := by decide) (he : starEach (e :: es) X.env = (false, eval e X.env) :: starEach es X.env := by rfl) (hpl : (backTo pos (starEach es X.env)).any (·.1) = false := by rfl) :
    SE X ct W (.Call (.Name x p) (e :: es) [] pos) (mCall n f ma) :=
  (pe_callS F hr hg hm hk hb (fun σ => passAt tk σ) ha hdb he hpl).imp call_go
/-- keyword arguments alone: g puts them into the parameters' order -/
abbrev SK (X : Cx) (ct : Ctb) (W : WX) (kws : List Keyword) (m : MA) : Prop := PK X kws (rdA X.K ct W m)
theorem sk_nil : SK X ct W [] mNil := ⟨fun _ _ _ _ _ _ I ⟨μ, ρ, h, rs, rh, p⟩ => pk_nil.run default _ _ _ _ _ I (p.at rh [] rfl)⟩
theorem sk_cons {nm : Option Str} {e : Expr} {kpos : Pos} {kws : List Keyword} {m : ME} {r : MA} (ha : SE X ct W e m) (hr : SK X ct W kws r) : SK X ct W (⟨nm, e, kpos⟩ :: kws) (mCons m r) :=
  ⟨fun pos pins s σ H Q I ⟨μ, ρ, h, rs, rh, p⟩ => (pk_cons ha hr).run pos pins s σ H Q I (rdE.go rs rh p fun d h1 μ1 H1 v s1 rs1 rh1 dv p1 => rdA.go rs1 rh1 p1 fun ds h2 μ2 H2 vs s2 rs2 rh2 dvs p2 =>
    p2.at rh2 (v :: vs) ⟨v, vs, rfl, dv.mono s2, dvs⟩)⟩
/-- the places of the keywords' values among the parameters -/
def perm {α : Type} (pl : List Nat) (xs : List α) : List α := pl.filterMap fun i => xs[i]?
theorem Vals.perm {xs : List V} {us : List Value} (r : Vals xs us) : ∀ pl : List Nat, Vals (perm pl xs) (perm pl us)
  | [] => .nil
  | i :: pl => by
    have t := Vals.perm r pl
    unfold PI.perm at *
    cases e : xs[i]? with
    | none =>
      have e2 := Vals.none_of r e
      rw [List.filterMap_cons_none e, List.filterMap_cons_none e2]
      exact t
    | some x =>
      obtain ⟨u, e2, q⟩ := Vals.get r e
      rw [List.filterMap_cons_some e, List.filterMap_cons_some e2]
      exact .cons q t
theorem Dens.perm {K : PySem.W.Frag} {μ : List Addr} {H : Hp} {ds : List D} {vs : List V} (r : Dens K μ H ds vs) : ∀ pl : List Nat, Dens K μ H (perm pl ds) (perm pl vs)
  | [] => rfl
  | i :: pl => by
    have t := Dens.perm r pl
    unfold PI.perm at *
    cases e : ds[i]? with
    | none =>
      have e2 : vs[i]? = none := by
        rw [List.getElem?_eq_none_iff] at e ⊢
        rw [r.length]; exact e
      rw [List.filterMap_cons_none e, List.filterMap_cons_none e2]
      exact t
    | some x =>
      obtain ⟨u, e2, q⟩ := r.get e
      rw [List.filterMap_cons_some e, List.filterMap_cons_some e2]
      exact ⟨_, _, rfl, q, t⟩
def mCallK (n : Nat) (pl : List Nat) (f : FnM) (mk : MA) : ME := fun ρ h => (mk ρ h).bind fun ds h1 => if (perm pl ds).length = n then f (perm pl ds) h1 else .bad
/-- f(a=x, b=y): no positional argument -/
theorem se_callK {k n : Nat} {pl : List Nat} {fa : Addr} {fd : FuncData} {ps ks : List Str} {f : FnM} {x : Str} {p pos : Pos} {kws : List Keyword} {mk : MA} (F : FnOk X.prog X.w X.K X.mg X.base (L2.CX X.prog X.w) k fa fd ps (spM X.K ct n f)) (hr : Room k X.A) (hg : Gl X x) (hm : X.mg x = some (.ref fa)) (hk : PySem.W.keepIn X.K (.ref fa) = true)
    (hb : ∀ (s : Shared) (ws : List Value), (perm pl ws).length = ps.length → BindsTo s fd ⟨[], ks.zip ws⟩ (ps.zip (perm pl ws))) (tk : Takes X W)
    (hkw : SK X ct W kws mk) (hall : (backToKw pos (keywordEach kws X.env)).all (·.1.isSome) = true := by rfl) (hks : (backToKw pos (keywordEach kws X.env)).filterMap (·.1) = ks := by rfl)
    (hdb : (x == ("__debug__" : Str)) = false := by decide)
    (hpl : ((backTo pos (starEach [] X.env)).any (·.1) || (backToKw pos (keywordEach kws X.env)).any (·.1.isNone)) = false := by rfl) :
    SE X ct W (.Call (.Name x p) [] kws pos) (mCallK n pl f mk) := by
  refine ⟨fun pins s σ H Q I q => ?_⟩
  obtain ⟨μ, ρ, h, rs, rh, po⟩ := q
  refine wpAny_Call_Name_kw (ld_glob I hg hm ?_ hdb)
  refine PySem.W.callWith_KW0 (h₀ := X.base) I.ok.mod.kin hk hall ?_ hpl
  refine thn (hkw.run pos pins s σ H (fun zs H1 => ∃ μ1 h1 ds, Dens X.K μ1 H1 ds zs ∧ RelH X.K μ1 H1 h1 ∧ PO X.K ct W σ μ1 H1 (fun d _ μ' H' => ∀ v, Den X.K μ' H' d v → Q v H') (if (perm pl ds).length = n then f (perm pl ds) h1 else .bad)) I
    (rdA.go rs rh po fun ds h1 μ1 H1 vs s1 rs1 rh1 dv p1 => ⟨μ1, h1, ds, dv, rh1, p1⟩)) fun ws s2 h2 => ?_
  obtain ⟨zs, H1, I1, rz, μ1, h1, ds, dv, rh1, p1⟩ := h2
  refine ⟨I1.kIn, ?_⟩
  rw [hks]
  by_cases hl : (perm pl ds).length = n
  · rw [if_pos hl] at p1
    have rp := Vals.perm rz pl
    have dp := Dens.perm dv pl
    have sp : spM X.K ct n f (perm pl zs) H1 Q (WE W σ) := ⟨μ1, h1, perm pl ds, hl, dp, rh1, p1.wish fun _ _ _ z => z⟩
    have hlen : (perm pl ws).length = ps.length := by rw [← rp.length]; exact F.len _ _ _ _ sp
    show wpAny _ _ (call (.ref fa) ([] ++ []) (ks.zip ws)) _ _ s2
    refine wpAny_call (codeAny_mono (F.run X.A X.stack s2 H1 ⟨[], ks.zip ws⟩ (perm pl ws) (perm pl zs) Q (WE W σ) hr I1.env0 (hb s2 ws hlen) rp sp) fun r s' hq => ?_)
    cases r with
    | error e => exact passAt tk σ pins H1 s2 e s' I1 hq
    | ok fl =>
      cases fl with
      | ret u => exact I1.after hq
      | next => exact False.elim hq
      | brk => exact False.elim hq
      | cont => exact False.elim hq
  · rw [if_neg hl] at p1
    exact p1.elim

/-- a def as its callers see it -/
structure FnI (P : Program) (w : World) (K : PySem.W.Frag) (mg : Str → Option Value) (base : Heap) (ct : Ctb) (k : Nat) (x : Str) (ps : List Str) (f : FnM) : Prop where
  ex : ∃ fa fd, mg x = some (.ref fa) ∧ PySem.W.keepIn K (.ref fa) = true ∧ Binds K fd ps [] ∧ FnOk P w K mg base (L2.CX P w) k fa fd ps (spM K ct ps.length f)
theorem se_callI {k n : Nat} {ps : List Str} {f : FnM} {x : Str} {p pos : Pos} {e : Expr} {es : List Expr} {ma : MA} (F : FnI X.prog X.w X.K X.mg X.base ct k x ps f) (hn : ps.length = n) (hr : Room k X.A) (hg : Gl X x) (tk : Takes X W)
    (ha : SA X ct W (e :: es) ma) (hdb : (x == ("__debug__" : Str)) = false := by decide) (he : starEach (e :: es) X.env = (false, eval e X.env) :: starEach es X.env := by rfl) (hpl : (backTo pos (starEach es X.env)).any (·.1) = false := by rfl) :
    SE X ct W (.Call (.Name x p) (e :: es) [] pos) (mCall n f ma) := by
  obtain ⟨fa, fd, hm, hk, hb, hF⟩ := F.ex
  subst hn
  exact se_call hF hr hg hm hk hb tk ha hdb he hpl
/-- keyword arguments bind so -/
def KwB (fd : FuncData) (ps ks : List Str) (pl : List Nat) : Prop := ∀ (s : Shared) (ws : List Value), (perm pl ws).length = ps.length → BindsTo s fd ⟨[], ks.zip ws⟩ (ps.zip (perm pl ws))
structure FnK (P : Program) (w : World) (K : PySem.W.Frag) (mg : Str → Option Value) (base : Heap) (ct : Ctb) (k : Nat) (x : Str) (ps ks : List Str) (pl : List Nat) (f : FnM) : Prop where
  ex : ∃ fa fd, mg x = some (.ref fa) ∧ PySem.W.keepIn K (.ref fa) = true ∧ KwB fd ps ks pl ∧ FnOk P w K mg base (L2.CX P w) k fa fd ps (spM K ct ps.length f)
theorem se_callKI {k n : Nat} {pl : List Nat} {ps ks : List Str} {f : FnM} {x : Str} {p pos : Pos} {kws : List Keyword} {mk : MA} (F : FnK X.prog X.w X.K X.mg X.base ct k x ps ks pl f) (hn : ps.length = n) (hr : Room k X.A) (hg : Gl X x) (tk : Takes X W)
    (hkw : SK X ct W kws mk) (hall : (backToKw pos (keywordEach kws X.env)).all (·.1.isSome) = true := by rfl) (hks : (backToKw pos (keywordEach kws X.env)).filterMap (·.1) = ks := by rfl)
    (hdb : (x == ("__debug__" : Str)) = false := by decide)
    (hpl : ((backTo pos (starEach [] X.env)).any (·.1) || (backToKw pos (keywordEach kws X.env)).any (·.1.isNone)) = false := by rfl) :
    SE X ct W (.Call (.Name x p) [] kws pos) (mCallK n pl f mk) := by
  obtain ⟨fa, fd, hm, hk, hb, hF⟩ := F.ex
  subst hn
  exact se_callK hF hr hg hm hk hb tk hkw hall hks hdb hpl
/-- an own exception class without an __init__ -/
structure ExcI (K : PySem.W.Frag) (mg : Str → Option Value) (x : Str) (C : Addr) : Prop where
  g : mg x = some (.ref C)
  x : PySem.W.excIn K C [.type "ValueError", .type "Exception", .type "BaseException", .type "object"] "ValueError.__new__" = true
  k : PySem.W.keepIn K (.ref C) = true
  b : PySem.W.subIn K (.ref C) (.type "BaseException") = some true
  t : PySem.W.typeIn K (.ref C) = some (.type "type")
  i : PySem.W.isClsIn K C = true
/-! ### raise, try -/
def mRaise (c : Str) : MS := fun ρ h => .er ⟨c, []⟩ ρ h
/-- raise C('..'), C an own class without an __init__ -/
theorem ss_raise {C : Addr} {bmB : List Value} {B newId initId : String} {x m cn : Str} {j : Nat} {p p2 pos pos2 : Pos} (hc : X.calm = true) (tk : Takes X W) (hct : ct cn = some (.ref C)) (F : ExcBaseFacts B newId initId bmB) (q : PySem.W.excIn X.K C bmB newId = true) (gC : X.mg x = some (.ref C)) (kC : PySem.W.keepIn X.K (.ref C) = true) (r : Raises X (.ref C)) (hg : Gl X x)
    (hdb : (x == ("__debug__" : Str)) = false := by decide) : SS X ct W (.Raise (some (.Call (.Name x p) [.Constant (.str m) j p2] [] pos)) none pos2) (mRaise cn) :=
  (ps_raise hc tk (pmk_own F q gC kC r hg hdb)).imp fun D σ H ⟨μ, ρ, h, rs, rh, po⟩ => po μ H σ (.ref C) none Step.refl rh rs ⟨hct, .inl ⟨rfl, rfl⟩⟩
/-- raise C('..') -/
theorem ss_raiseI {C : Addr} {x m : Str} {j : Nat} {p p2 pos pos2 : Pos} (hc : X.calm = true) (tk : Takes X W) (T : ExcI X.K X.mg x C) (hct : ct x = some (.ref C)) (hg : Gl X x) (hdb : (x == ("__debug__" : Str)) = false := by decide) :
    SS X ct W (.Raise (some (.Call (.Name x p) [.Constant (.str m) j p2] [] pos)) none pos2) (mRaise x) :=
  ss_raise hc tk hct PySem.F.excBase_ValueError T.x T.g T.k (raises_own T.b T.t) hg hdb
end
end PI
/-! Operations by values. -/
namespace PI
open PySem PySem.Spec L2
open PyProof.Rows hiding St

abbrev G1 := D → Hh → Option (D × Hh)
abbrev G2 := D → D → Hh → Option (D × Hh)
abbrev GN := List D → Hh → Option (D × Hh)
section
variable {K : PySem.W.Frag} {μ : List Addr} {H : Hp} {h : Hh} {Q : VK}
/-- an end that makes nothing -/
theorem POo.fin {d : D} (rh : RelH K μ H h) (p : POo K μ H (fun d _ μ' H' => ∀ v, Den K μ' H' d v → Q v H') (some (d, h))) {v : V} (dv : Den K μ H d v) : Q v H := p μ H Step.refl rh v dv
theorem POo.finL {as : List D} {vs : List V} (rh : RelH K μ H h) (dv : Dens K μ H as vs) (p : POo K μ H (fun d _ μ' H' => ∀ v, Den K μ' H' d v → Q v H') (some (.ref h.length, h ++ [.lst as]))) (q : Addr) (hq : H q = none) : Q (.ref q) (upd H q (.lst vs)) := by
  obtain ⟨s, r, d⟩ := new_lst rh dv hq
  exact p _ _ s r _ d
theorem POo.finT {as : List D} {vs : List V} (rh : RelH K μ H h) (dv : Dens K μ H as vs) (p : POo K μ H (fun d _ μ' H' => ∀ v, Den K μ' H' d v → Q v H') (some (.tup as, h))) (q : Addr) (hq : H q = none) : Q (.ref q) (upd H q (.tup vs)) := by
  obtain ⟨s, r, d⟩ := new_tup rh dv hq
  exact p _ _ s r _ d
theorem den_lst {i : Nat} {v : V} {xs : List D} (rh : RelH K μ H h) (dv : Den K μ H (.ref i) v) (hi : h[i]? = some (.lst xs)) : ∃ a vs, v = .ref a ∧ μ[i]? = some a ∧ H a = some (.lst vs) ∧ Dens K μ H xs vs := by
  obtain ⟨a, e, ha⟩ := dv
  obtain ⟨b, hb, vs, hv, d⟩ := rh.obj i _ hi
  rw [ha] at hb
  cases hb
  exact ⟨a, vs, e, ha, hv, d⟩
theorem Den.to_int {i : Int} {v : V} (h : Den K μ H (.int i) v) : v = .int i := h
theorem Den.to_str {i : Str} {v : V} (h : Den K μ H (.str i) v) : v = .str i := h
theorem Den.to_bl {i : Bool} {v : V} (h : Den K μ H (.bl i) v) : v = .bl i := h
theorem Den.to_non {v : V} (h : Den K μ H .non v) : v = .non := h
end

/-! ### numbers -/
def mulOk (i j : Int) : Bool := decide ((-(2 ^ 64) < i ∧ i < 2 ^ 64) ∨ (-(2 ^ 64) < j ∧ j < 2 ^ 64)) || decide (i.natAbs.log2 + j.natAbs.log2 < 1000000)
def divOk (j : Int) : Bool := decide (0 < j) && (decide (j < 1073741824) || decide (j.natAbs.log2 < 9000))
def powOk (i j : Int) : Bool := decide (0 ≤ j ∧ j ≤ 1000000 ∧ i.natAbs < 2 ^ 64)
theorem mulOk_l {i j : Int} (h : -(2 ^ 64) < i ∧ i < 2 ^ 64) : mulOk i j = true := by unfold mulOk; rw [decide_eq_true (.inl h)]; rfl
theorem mulOk_r {i j : Int} (h : -(2 ^ 64) < j ∧ j < 2 ^ 64) : mulOk i j = true := by unfold mulOk; rw [decide_eq_true (.inr h)]; rfl
theorem mulOk_w {i j : Int} (h : i.natAbs.log2 + j.natAbs.log2 < 1000000) : mulOk i j = true := by unfold mulOk; rw [decide_eq_true h, Bool.or_true]
theorem divOk_n {j : Int} (h : 0 < j) (h2 : j < 1073741824) : divOk j = true := by unfold divOk; rw [decide_eq_true h, decide_eq_true h2]; rfl
theorem divOk_w {j : Int} (h : 0 < j) (h2 : j.natAbs.log2 < 9000) : divOk j = true := by unfold divOk; rw [decide_eq_true h, decide_eq_true h2, Bool.or_true]; rfl
def oAdd : G2
  | .int i, .int j, h => some (.int (i + j), h)
  | .str x, .str y, h => if x.length + y.length ≤ sizeLine then some (.str (x ++ y), h) else none
  | .tup xs, .tup ys, h => if xs.length + ys.length ≤ sizeLine then some (.tup (xs ++ ys), h) else none
  | .ref a, .ref b, h => match h[a]?, h[b]? with
    | some (.lst xs), some (.lst ys) => if xs.length + ys.length ≤ sizeLine then some (.ref h.length, h ++ [.lst (xs ++ ys)]) else none
    | _, _ => none
  | _, _, _ => none
def oSub : G2
  | .int i, .int j, h => some (.int (i - j), h)
  | _, _, _ => none
def oMul : G2
  | .int i, .int j, h => if mulOk i j = true then some (.int (i * j), h) else none
  | .ref a, .int k, h => match h[a]? with
    | some (.lst xs) => if -(2 ^ 63) ≤ k ∧ k < 2 ^ 63 ∧ xs.length * k.toNat ≤ sizeLine then some (.ref h.length, h ++ [.lst (List.replicate k.toNat xs).flatten]) else none
    | _ => none
  | _, _, _ => none
def oFdiv : G2
  | .int i, .int j, h => if divOk j = true then some (.int (i / j), h) else none
  | _, _, _ => none
def oMod : G2
  | .int i, .int j, h => if 0 < j then some (.int (i % j), h) else none
  | _, _, _ => none
def oPow : G2
  | .int i, .int j, h => if powOk i j = true then some (.int (i ^ j.toNat), h) else none
  | _, _, _ => none
def oNeg : G1
  | .int i, h => some (.int (-i), h)
  | _, _ => none
theorem Dens.rep {K : PySem.W.Frag} {μ : List Addr} {H : Hp} {ds : List D} {vs : List V} (d : Dens K μ H ds vs) : ∀ n, Dens K μ H (List.replicate n ds).flatten (List.replicate n vs).flatten
  | 0 => rfl
  | n + 1 => by
    rw [List.replicate_succ, List.replicate_succ, List.flatten_cons, List.flatten_cons]
    exact d.append (Dens.rep d n)
theorem Dens.nil_iff {K : PySem.W.Frag} {μ : List Addr} {H : Hp} {ds : List D} {vs : List V} (d : Dens K μ H ds vs) : vs = [] ↔ ds = [] := by
  have := d.length
  constructor
  · rintro rfl; exact List.eq_nil_of_length_eq_zero (by simpa using this.symm)
  · rintro rfl; exact List.eq_nil_of_length_eq_zero (by simpa using this)
section
variable {X : Cx}
theorem op_addM : OpR X (binaryOp .Add) (r2 X.K oAdd) := by
  intro pins s σ H x y v u Q I rx ry ⟨μ, h, a, b, da, db, rh, p⟩
  unfold oAdd at p
  split at p
  · exact op_add pins s σ H x y v u Q I rx ry ⟨_, _, da, db, p.fin rh rfl⟩
  · split at p
    · rename_i hl
      exact op_add_str pins s σ H x y v u Q I rx ry ⟨_, _, da, db, hl, p.fin rh rfl⟩
    · exact p.elim
  · split at p
    · rename_i xs ys hl
      obtain ⟨a1, vs, rfl, q1, d1⟩ := da
      obtain ⟨a2, ws, rfl, q2, d2⟩ := db
      refine op_catA pins s σ H _ _ v u Q I rx ry ⟨a1, a2, vs, ws, rfl, rfl, SqT.of q1, SqT.of q2, by rw [d1.length, d2.length]; exact hl, fun e => ?_, fun e1 e2 => ?_, fun e1 e2 q hq => p.finT rh (d1.append d2) q hq⟩
      · have e := d1.nil_iff.mp e
        subst e
        exact p.fin rh ⟨a2, ws, rfl, q2, d2⟩
      · have e2 := d2.nil_iff.mp e2
        subst e2
        rw [List.append_nil] at p
        exact p.fin rh ⟨a1, vs, rfl, q1, d1⟩
    · exact p.elim
  · split at p
    · rename_i e1 e2
      split at p
      · rename_i hl
        obtain ⟨a1, vs, rfl, _, q1, d1⟩ := den_lst rh da e1
        obtain ⟨a2, ws, rfl, _, q2, d2⟩ := den_lst rh db e2
        exact op_cat pins s σ H _ _ v u Q I rx ry ⟨a1, a2, vs, ws, rfl, rfl, q1, q2, by rw [d1.length, d2.length]; exact hl, fun q hq => p.finL rh (d1.append d2) q hq⟩
      · exact p.elim
    · exact p.elim
  · exact p.elim
theorem op_subM : OpR X (binaryOp .Sub) (r2 X.K oSub) := by
  intro pins s σ H x y v u Q I rx ry ⟨μ, h, a, b, da, db, rh, p⟩
  unfold oSub at p
  split at p
  · exact op_sub pins s σ H x y v u Q I rx ry ⟨_, _, da, db, p.fin rh rfl⟩
  · exact p.elim
theorem op_mulM : OpR X (binaryOp .Mult) (r2 X.K oMul) := by
  intro pins s σ H x y v u Q I rx ry ⟨μ, h, a, b, da, db, rh, p⟩
  unfold oMul at p
  split at p
  · split at p
    · rename_i i j hm
      unfold mulOk at hm
      rcases Bool.or_eq_true_iff.mp hm with hm | hm
      · have hq := of_decide_eq_true hm
        exact op_mul pins s σ H x y v u Q I rx ry ⟨_, _, da, db, hq, p.fin rh rfl⟩
      · have hq := of_decide_eq_true hm
        exact op_mulW pins s σ H x y v u Q I rx ry ⟨_, _, da, db, hq, p.fin rh rfl⟩
    · exact p.elim
  · split at p
    · rename_i e1
      split at p
      · rename_i hl
        obtain ⟨a1, vs, rfl, _, q1, d1⟩ := den_lst rh da e1
        exact op_rep pins s σ H _ _ v u Q I rx ry ⟨a1, _, vs, rfl, db, q1, hl.1, hl.2.1, by rw [d1.length]; exact hl.2.2, fun q hq => p.finL rh (d1.rep _) q hq⟩
      · exact p.elim
    · exact p.elim
  · exact p.elim
theorem op_fdivM : OpR X (binaryOp .FloorDiv) (r2 X.K oFdiv) := by
  intro pins s σ H x y v u Q I rx ry ⟨μ, h, a, b, da, db, rh, p⟩
  unfold oFdiv at p
  split at p
  · split at p
    · rename_i i j hm
      unfold divOk at hm
      obtain ⟨h0, hm⟩ := Bool.and_eq_true_iff.mp hm
      rcases Bool.or_eq_true_iff.mp hm with hm | hm
      · exact op_fdiv pins s σ H x y v u Q I rx ry ⟨_, _, da, db, ⟨of_decide_eq_true h0, of_decide_eq_true hm⟩, p.fin rh rfl⟩
      · exact op_fdivW pins s σ H x y v u Q I rx ry ⟨_, _, da, db, ⟨of_decide_eq_true h0, of_decide_eq_true hm⟩, p.fin rh rfl⟩
    · exact p.elim
  · exact p.elim
theorem op_modM : OpR X (binaryOp .Mod) (r2 X.K oMod) := by
  intro pins s σ H x y v u Q I rx ry ⟨μ, h, a, b, da, db, rh, p⟩
  unfold oMod at p
  split at p
  · split at p
    · rename_i hm
      exact op_mod pins s σ H x y v u Q I rx ry ⟨_, _, da, db, hm, p.fin rh rfl⟩
    · exact p.elim
  · exact p.elim
theorem op_powM : OpR X (binaryOp .Pow) (r2 X.K oPow) := by
  intro pins s σ H x y v u Q I rx ry ⟨μ, h, a, b, da, db, rh, p⟩
  unfold oPow at p
  split at p
  · split at p
    · rename_i hm
      unfold powOk at hm
      have hq := of_decide_eq_true hm
      exact op_pow pins s σ H x y v u Q I rx ry ⟨_, _, da, db, hq, p.fin rh rfl⟩
    · exact p.elim
  · exact p.elim
theorem un_negM : UnR X (unaryOp .USub) (r1 X.K oNeg) := by
  intro pins s σ H x v Q I rx ⟨μ, h, a, da, rh, p⟩
  unfold oNeg at p
  split at p
  · exact un_neg pins s σ H x v Q I rx ⟨_, da, p.fin rh rfl⟩
  · exact p.elim
def oIAdd : G2
  | .int i, .int j, h => some (.int (i + j), h)
  | .str x, .str y, h => if x.length + y.length ≤ sizeLine then some (.str (x ++ y), h) else none
  | _, _, _ => none
theorem ip_addM : PIp X .Add (r2 X.K oIAdd) := by
  intro pins s σ H x y v u Q I rx ry ⟨μ, h, a, b, da, db, rh, p⟩
  unfold oIAdd at p
  split at p
  · exact ip_add pins s σ H x y v u Q I rx ry ⟨_, _, da, db, p.fin rh rfl⟩
  · split at p
    · rename_i hl
      exact iop_add_str pins s σ H x y v u Q I rx ry ⟨_, _, da, db, hl, p.fin rh rfl⟩
    · exact p.elim
  · exact p.elim
theorem ip_subM : PIp X .Sub (r2 X.K oSub) := by
  intro pins s σ H x y v u Q I rx ry ⟨μ, h, a, b, da, db, rh, p⟩
  unfold oSub at p
  split at p
  · exact ip_sub pins s σ H x y v u Q I rx ry ⟨_, _, da, db, p.fin rh rfl⟩
  · exact p.elim

/-! ### comparisons -/
def oCmp (r : Int → Int → Bool) : G2
  | .int i, .int j, h => some (.bl (r i j), h)
  | _, _, _ => none
abbrev oLt : G2 := oCmp fun i j => decide (i < j)
abbrev oLe : G2 := oCmp fun i j => decide (i ≤ j)
abbrev oGt : G2 := oCmp fun i j => decide (j < i)
abbrev oGe : G2 := oCmp fun i j => decide (j ≤ i)
theorem op_cmpM {op : CmpOp} {r : Int → Int → Bool} (ho : OpR X (compareOp op) (rI0 fun i j => .bl (r i j))) : OpR X (compareOp op) (r2 X.K (oCmp r)) := by
  intro pins s σ H x y v u Q I rx ry ⟨μ, h, a, b, da, db, rh, p⟩
  unfold oCmp at p
  split at p
  · exact ho pins s σ H x y v u Q I rx ry ⟨_, _, da, db, p.fin rh rfl⟩
  · exact p.elim
theorem op_ltM : OpR X (compareOp .Lt) (r2 X.K oLt) := op_cmpM op_lt
theorem op_leM : OpR X (compareOp .LtE) (r2 X.K oLe) := op_cmpM op_le
theorem op_gtM : OpR X (compareOp .Gt) (r2 X.K oGt) := op_cmpM op_gt
theorem op_geM : OpR X (compareOp .GtE) (r2 X.K oGe) := op_cmpM op_ge
mutual
def toPy (h : Hh) : Nat → D → Option PyData
  | _, .non => some .none
  | _, .bl b => some (.bool b)
  | _, .int i => some (.int i)
  | _, .str x => some (.str x)
  | 0, _ => none
  | n + 1, .tup xs => (toPys h n xs).map .tuple
  | n + 1, .rot xs => (toPys h n xs).map .tuple
  | n + 1, .rol xs => (toPys h n xs).map .list
  | n + 1, .ref i => match h[i]? with
    | some (.lst xs) => (toPys h n xs).map .list
    | _ => none
  | _, .ex _ => none
termination_by n d => (n, 0)
def toPys (h : Hh) : Nat → List D → Option (List PyData)
  | _, [] => some []
  | n, d :: ds => match toPy h n d, toPys h n ds with
    | some e, some es => some (e :: es)
    | _, _ => none
termination_by n ds => (n, ds.length + 1)
end
def scalD : D → D → Option Bool
  | .int i, .int j => some (i == j)
  | .str x, .str y => some (x == y)
  | .bl a, .bl b => some (a == b)
  | .non, .non => some true
  | .non, .int _ => some false | .int _, .non => some false | .non, .bl _ => some false | .bl _, .non => some false | .non, .str _ => some false | .str _, .non => some false
  | .int _, .str _ => some false | .str _, .int _ => some false | .bl _, .str _ => some false | .str _, .bl _ => some false
  | _, _ => none
def oEqB (a b : D) (h : Hh) : Option Bool := match scalD a b with
  | some c => some c
  | none => match toPy h 64 a, toPy h 64 b with
    | some d, some e => if SeqAt.shaped d && SeqAt.shaped e then some (PyData.eqv d e) else none
    | _, _ => none
def oEq : G2 := fun a b h => (oEqB a b h).map fun c => (.bl c, h)
def oNe : G2 := fun a b h => (oEqB a b h).map fun c => (.bl (!c), h)
mutual
theorem toPy_dp {K : PySem.W.Frag} {μ : List Addr} {H : Hp} {h : Hh} (rh : RelH K μ H h) : ∀ (n : Nat) (d : D) (v : V) (e : PyData), toPy h n d = some e → Den K μ H d v → Dp K H v e
  | n, .non, _, _, e, dv => by
    unfold toPy at e; cases e; cases dv.to_non; exact .non
  | n, .bl b, _, _, e, dv => by
    unfold toPy at e; cases e; cases dv.to_bl; exact .bl b
  | n, .int b, _, _, e, dv => by
    unfold toPy at e; cases e; cases dv.to_int; exact .int b
  | n, .str b, _, _, e, dv => by
    unfold toPy at e; cases e; cases dv.to_str; exact .str b
  | 0, .tup xs, _, _, e, dv => by unfold toPy at e; cases e
  | 0, .rot xs, _, _, e, dv => by unfold toPy at e; cases e
  | 0, .rol xs, _, _, e, dv => by unfold toPy at e; cases e
  | 0, .ref xs, _, _, e, dv => by unfold toPy at e; cases e
  | 0, .ex xs, _, _, e, dv => by unfold toPy at e; cases e
  | n + 1, .ex xs, _, _, e, dv => by unfold toPy at e; cases e
  | n + 1, .tup xs, _, _, e, dv => by
    unfold toPy at e
    cases q : toPys h n xs with
    | none => rw [q] at e; cases e
    | some es =>
      rw [q] at e
      cases e
      obtain ⟨a, vs, rfl, h1, h2⟩ := dv
      exact .tup (SqT.of h1) (toPys_dp rh n xs vs es q h2)
  | n + 1, .rot xs, _, _, e, dv => by
    unfold toPy at e
    cases q : toPys h n xs with
    | none => rw [q] at e; cases e
    | some es =>
      rw [q] at e
      cases e
      obtain ⟨a, vs, rfl, h1, h2⟩ := dv
      exact .tup h1 (toPys_dp rh n xs vs es q h2)
  | n + 1, .rol xs, _, _, e, dv => by
    unfold toPy at e
    cases q : toPys h n xs with
    | none => rw [q] at e; cases e
    | some es =>
      rw [q] at e
      cases e
      obtain ⟨a, vs, rfl, h1, h2⟩ := dv
      exact .lst h1.sq (toPys_dp rh n xs vs es q h2)
  | n + 1, .ref i, _, _, e, dv => by
    unfold toPy at e
    split at e
    · rename_i xs hi
      obtain ⟨a, vs, rfl, _, h1, h2⟩ := den_lst rh dv hi
      cases q : toPys h n xs with
      | none => rw [q] at e; cases e
      | some es =>
        rw [q] at e
        cases e
        exact .lst (SqL.of h1) (toPys_dp rh n xs vs es q h2)
    · cases e
termination_by n d => (n, 0)
theorem toPys_dp {K : PySem.W.Frag} {μ : List Addr} {H : Hp} {h : Hh} (rh : RelH K μ H h) : ∀ (n : Nat) (ds : List D) (vs : List V) (es : List PyData), toPys h n ds = some es → Dens K μ H ds vs → DpAll K H vs es
  | n, [], _, _, e, dv => by
    unfold toPys at e
    cases e
    have dv : _ = [] := dv
    rw [dv]
    exact .nil
  | n, d :: ds, _, _, e, dv => by
    unfold toPys at e
    obtain ⟨v, vr, rfl, h1, h2⟩ := dv
    cases q1 : toPy h n d with
    | none => rw [q1] at e; cases e
    | some e1 =>
      cases q2 : toPys h n ds with
      | none => rw [q1, q2] at e; cases e
      | some e2 =>
        rw [q1, q2] at e
        cases e
        exact .cons (toPy_dp rh n d v e1 q1 h1) (toPys_dp rh n ds vr e2 q2 h2)
termination_by n ds => (n, ds.length + 1)
end
theorem scal_ok {K : PySem.W.Frag} {μ : List Addr} {H : Hp} {a b : D} {x y : V} {c : Bool} (e : scalD a b = some c) (da : Den K μ H a x) (db : Den K μ H b y) : scal x y = true ∧ decide (x = y) = c := by
  unfold scalD at e
  split at e <;> first
    | (cases e; cases da.to_int; cases db.to_int; refine ⟨rfl, ?_⟩; exact dec_int)
    | (cases e; cases da.to_str; cases db.to_str; refine ⟨rfl, ?_⟩; rw [Bool.eq_iff_iff]; simp)
    | (cases e; cases da.to_bl; cases db.to_bl; refine ⟨rfl, ?_⟩; rw [Bool.eq_iff_iff]; simp)
    | (cases e; cases da; cases db; exact ⟨rfl, rfl⟩)
    | cases e
theorem op_eqM (hu : X.A.units + 64 < cLine) : OpR X (compareOp .Eq) (r2 X.K oEq) := by
  intro pins s σ H x y v u Q I rx ry ⟨μ, h, a, b, da, db, rh, p⟩
  unfold oEq oEqB at p
  split at p
  · rename_i c e
    obtain ⟨h1, h2⟩ := scal_ok e da db
    exact op_eq pins s σ H x y v u Q I rx ry ⟨h1, by rw [h2]; exact p.fin rh rfl⟩
  · split at p
    · rename_i d e ed ee
      split at p
      · rename_i hs
        obtain ⟨s1, s2⟩ := Bool.and_eq_true_iff.mp hs
        exact op_eqD hu pins s σ H x y v u Q I rx ry ⟨d, e, toPy_dp rh _ _ _ _ ed da, toPy_dp rh _ _ _ _ ee db, s1, s2, p.fin rh rfl⟩
      · exact p.elim
    · exact p.elim
theorem op_neM (hu : X.A.units + 64 < cLine) : OpR X (compareOp .NotEq) (r2 X.K oNe) := by
  intro pins s σ H x y v u Q I rx ry ⟨μ, h, a, b, da, db, rh, p⟩
  unfold oNe oEqB at p
  split at p
  · rename_i c e
    obtain ⟨h1, h2⟩ := scal_ok e da db
    exact op_ne pins s σ H x y v u Q I rx ry ⟨h1, by rw [h2]; exact p.fin rh rfl⟩
  · split at p
    · rename_i d e ed ee
      split at p
      · rename_i hs
        obtain ⟨s1, s2⟩ := Bool.and_eq_true_iff.mp hs
        exact op_neD hu pins s σ H x y v u Q I rx ry ⟨d, e, toPy_dp rh _ _ _ _ ed da, toPy_dp rh _ _ _ _ ee db, s1, s2, p.fin rh rfl⟩
      · exact p.elim
    · exact p.elim
def isNon : D → Bool
  | .non => true
  | _ => false
theorem isNon_ok {K : PySem.W.Frag} {μ : List Addr} {H : Hp} {a : D} {x : V} (d : Den K μ H a x) : decide (x = .non) = isNon a := by
  cases a with
  | non => cases d.to_non; rfl
  | bl b => cases d.to_bl; rfl
  | int b => cases d.to_int; rfl
  | str b => cases d.to_str; rfl
  | tup b => obtain ⟨_, _, rfl, _⟩ := d; rfl
  | rot b => obtain ⟨_, _, rfl, _⟩ := d; rfl
  | rol b => obtain ⟨_, _, rfl, _⟩ := d; rfl
  | ref b => obtain ⟨_, rfl, _⟩ := d; rfl
  | ex b => have d : x = .ref b := d; subst d; rfl
/-- a is None -/
def oIsN : G2
  | a, .non, h => some (.bl (isNon a), h)
  | _, _, _ => none
def oNotN : G2
  | a, .non, h => some (.bl (!isNon a), h)
  | _, _, _ => none
theorem op_isM : OpR X (compareOp .Is) (r2 X.K oIsN) := by
  intro pins s σ H x y v u Q I rx ry ⟨μ, h, a, b, da, db, rh, p⟩
  unfold oIsN at p
  split at p
  · exact op_isN pins s σ H x y v u Q I rx ry ⟨db, by rw [isNon_ok da]; exact p.fin rh rfl⟩
  · exact p.elim
theorem op_notM : OpR X (compareOp .IsNot) (r2 X.K oNotN) := by
  intro pins s σ H x y v u Q I rx ry ⟨μ, h, a, b, da, db, rh, p⟩
  unfold oNotN at p
  split at p
  · exact op_notN pins s σ H x y v u Q I rx ry ⟨db, by rw [isNon_ok da]; exact p.fin rh rfl⟩
  · exact p.elim

/-! ### subscripts -/
def oIx : G2
  | .tup xs, .int i, h => (atI xs i).map fun d => (d, h)
  | .rot xs, .int i, h => (atI xs i).map fun d => (d, h)
  | .rol xs, .int i, h => (atI xs i).map fun d => (d, h)
  | .str z, .int i, h => if z.length ≤ sizeLine then (atI z.cps.toList i).map fun c => (.str ⟨#[c]⟩, h) else none
  | .ref a, .int i, h => match h[a]? with
    | some (.lst xs) => (atI xs i).map fun d => (d, h)
    | _ => none
  | _, _, _ => none
theorem Dens.atI {K : PySem.W.Frag} {μ : List Addr} {H : Hp} {ds : List D} {vs : List V} {i : Int} {d : D} (r : Dens K μ H ds vs) (e : L2.atI ds i = some d) : ∃ v, L2.atI vs i = some v ∧ Den K μ H d v := by
  unfold L2.atI at e ⊢
  rw [r.length]
  cases q : ixN ds.length i with
  | none => rw [q] at e; cases e
  | some j =>
    rw [q] at e
    exact r.get e
theorem ix_M : IxR X (r2 X.K oIx) := by
  intro value slice pins s σ H x y v u Q I rx ry ⟨μ, h, a, b, da, db, rh, p⟩ hs
  unfold oIx at p
  split at p
  · cases e : atI _ _ with
    | none => rw [e] at p; exact p.elim
    | some d =>
      rw [e] at p
      obtain ⟨a1, vs, rfl, q1, d1⟩ := da
      obtain ⟨w, e1, dw⟩ := d1.atI e
      exact ix_tup value slice pins s σ H _ _ v u Q I rx ry ⟨a1, vs, _, w, rfl, db, SqT.of q1, e1, p.fin rh dw⟩ hs
  · cases e : atI _ _ with
    | none => rw [e] at p; exact p.elim
    | some d =>
      rw [e] at p
      obtain ⟨a1, vs, rfl, q1, d1⟩ := da
      obtain ⟨w, e1, dw⟩ := d1.atI e
      exact ix_tup value slice pins s σ H _ _ v u Q I rx ry ⟨a1, vs, _, w, rfl, db, q1, e1, p.fin rh dw⟩ hs
  · cases e : atI _ _ with
    | none => rw [e] at p; exact p.elim
    | some d =>
      rw [e] at p
      obtain ⟨a1, vs, rfl, q1, d1⟩ := da
      obtain ⟨w, e1, dw⟩ := d1.atI e
      exact ix_list value slice pins s σ H _ _ v u Q I rx ry ⟨a1, vs, _, w, rfl, db, q1.sq, e1, p.fin rh dw⟩ hs
  · split at p
    · rename_i hl
      cases e : atI _ _ with
      | none => rw [e] at p; exact p.elim
      | some d =>
        rw [e] at p
        exact ix_str value slice pins s σ H _ _ v u Q I rx ry ⟨_, _, d, da, db, hl, e, p.fin rh rfl⟩ hs
    · exact p.elim
  · split at p
    · rename_i hi
      cases e : atI _ _ with
      | none => rw [e] at p; exact p.elim
      | some d =>
        rw [e] at p
        obtain ⟨a1, vs, rfl, _, q1, d1⟩ := den_lst rh da hi
        obtain ⟨w, e1, dw⟩ := d1.atI e
        exact ix_list value slice pins s σ H _ _ v u Q I rx ry ⟨a1, vs, _, w, rfl, db, SqL.of q1, e1, p.fin rh dw⟩ hs
    · exact p.elim
  · exact p.elim
/-- the store xs[i] = v -/
def oSet : D → D → D → Hh → Option Hh
  | .ref a, .int k, v, h => match h[a]? with
    | some (.lst xs) => (ixN xs.length k).map fun j => h.set a (.lst (xs.set j v))
    | _ => none
  | _, _, _, _ => none
def rset (K : PySem.W.Frag) (g : D → D → D → Hh → Option Hh) : TSet := fun o i v H Q => ∃ μ h a b c, Den K μ H a o ∧ Den K μ H b i ∧ Den K μ H c v ∧ RelH K μ H h ∧ match g a b c h with
  | some h' => ∀ μ' H', Step μ H μ' H' → RelH K μ' H' h' → Q H'
  | none => False
theorem put_lst {K : PySem.W.Frag} {μ : List Addr} {H : Hp} {h : Hh} {i : Nat} {a : Addr} {xs ys : List D} {vs ws : List V} (rh : RelH K μ H h) (hi : h[i]? = some (.lst xs)) (ha : μ[i]? = some a) (hv : H a = some (.lst vs)) (dw : Dens K μ H ys ws) :
    Step μ H μ (upd H a (.lst ws)) ∧ RelH K μ (upd H a (.lst ws)) (h.set i (.lst ys)) := by
  have s : Step μ H μ (upd H a (.lst ws)) := Step.set hv (fun _ z => by cases z) (fun _ _ z => by cases z) (fun _ z => by cases z)
  exact ⟨s, rh.put hi ha ⟨ws, upd_same, dw.mono s⟩⟩
theorem set_M : PSet X (rset X.K oSet) := by
  intro pins s σ H o i v ov iv u Q I ro ri rv ⟨μ, h, a, b, c, da, db, dc, rh, p⟩
  unfold oSet at p
  cases a with
  | ref a1 =>
    cases b with
    | int k1 =>
      cases e1 : h[a1]? with
      | none => simp only [e1] at p
      | some ob =>
        cases ob with
        | lst xs =>
          cases e2 : ixN xs.length k1 with
          | none => simp only [e1, e2, Option.map_none] at p
          | some j =>
            simp only [e1, e2, Option.map_some] at p
            obtain ⟨a2, vs, rfl, ha, hv, d1⟩ := den_lst rh da e1
            obtain ⟨st, r⟩ := put_lst rh e1 ha hv (Dens.set dc j d1)
            exact set_list pins s σ H _ _ _ ov iv u Q I ro ri rv ⟨a2, vs, k1, j, rfl, db, hv, by rw [d1.length]; exact e2, p _ _ st r⟩
        | dct xs => simp only [e1] at p
        | dctT xs => simp only [e1] at p
        | dlk xs => simp only [e1] at p
        | dlkT xs => simp only [e1] at p
    | _ => exact p.elim
  | _ => exact p.elim
end
end PI
/-! Built-in functions, methods, iterators. -/
namespace PI
open PySem PySem.Spec L2
open PyProof.Rows hiding St

/-! ### the type of a thing -/
def tyD (h : Hh) : D → Option String
  | .non => some "NoneType"
  | .bl _ => some "bool"
  | .int _ => some "int"
  | .str _ => some "str"
  | .tup _ => some "tuple"
  | .rot _ => some "tuple"
  | .rol _ => some "list"
  | .ref i => match h[i]? with
    | some (.lst _) => some "list"
    | some (.dct _) => some "dict"
    | some (.dctT _) => some "dict"
    | _ => none
  | .ex _ => none
theorem tyD_ok {K : PySem.W.Frag} {μ : List Addr} {H : Hp} {h : Hh} (rh : RelH K μ H h) : ∀ {d : D} {v : V} {t : String}, tyD h d = some t → Den K μ H d v → TyX K H v (.type t)
  | .non, _, _, e, dv => by cases e; cases dv.to_non; exact .base .non
  | .bl b, _, _, e, dv => by cases e; cases dv.to_bl; exact .base (.bl b)
  | .int b, _, _, e, dv => by cases e; cases dv.to_int; exact .base (.int b)
  | .str b, _, _, e, dv => by cases e; cases dv.to_str; exact .base (.str b)
  | .tup xs, _, _, e, dv => by
    cases e
    obtain ⟨a, vs, rfl, q, _⟩ := dv
    exact .base (.tup q)
  | .rot xs, _, _, e, dv => by
    cases e
    obtain ⟨a, vs, rfl, q, _⟩ := dv
    rcases q with (q | ⟨o, q⟩) | ⟨o, its, n, q1, q2, _⟩
    · exact .base (.tup q)
    · exact .fTuple q
    · exact .kTuple q1 q2
  | .rol xs, _, _, e, dv => by
    cases e
    obtain ⟨a, vs, rfl, q, _⟩ := dv
    rcases q with ⟨o, q⟩ | ⟨o, its, n, q1, q2, _⟩
    · exact .base (.frz q)
    · exact .kList q1 q2
  | .ref i, _, _, e, dv => by
    have e : (match h[i]? with
      | some (.lst _) => some "list"
      | some (.dct _) => some "dict"
      | some (.dctT _) => some "dict"
      | _ => none) = some _ := e
    obtain ⟨a, rfl, ha⟩ := dv
    split at e
    · rename_i xs hi
      cases e
      obtain ⟨b, hb, vs, hv, _⟩ := rh.obj i _ hi
      rw [ha] at hb; cases hb
      exact .base (.lst hv)
    · rename_i xs hi
      cases e
      obtain ⟨b, hb, vs, hv, _⟩ := rh.obj i _ hi
      rw [ha] at hb; cases hb
      exact .base (.dK hv)
    · rename_i xs hi
      cases e
      obtain ⟨b, hb, vs, hv, _⟩ := rh.obj i _ hi
      rw [ha] at hb; cases hb
      exact .base (.dT hv)
    · cases e
  | .ex _, _, _, e, _ => by cases e
def subT (t T : String) : Bool := t == T || (t == "bool" && T == "int")
theorem subT_ok {K : PySem.W.Frag} {t T : String} (ht : t ∈ ["NoneType", "bool", "int", "str", "tuple", "list", "dict"]) (hT : T ∈ ["int", "bool", "str", "tuple", "list", "dict"]) : PySem.W.kitOne K (.type t) (.type T) = some (subT t T) := by
  simp only [List.mem_cons, List.not_mem_nil, or_false] at ht hT
  rcases ht with rfl | rfl | rfl | rfl | rfl | rfl | rfl <;> rcases hT with rfl | rfl | rfl | rfl | rfl | rfl <;> exact kit_ty (by decide +kernel)
theorem tyD_mem {h : Hh} {d : D} {t : String} (e : tyD h d = some t) : t ∈ ["NoneType", "bool", "int", "str", "tuple", "list", "dict"] := by
  unfold tyD at e
  repeat' split at e
  all_goals first | (cases e; simp) | cases e
/-- isinstance(x, T) -/
def mIsi (T : String) (m : ME) : ME := fun ρ h => (m ρ h).bind fun d h1 => match tyD h1 d with
  | some t => .ok (.bl (subT t T)) h1
  | none => .bad
section
variable {X : Cx} {ct : Ctb} {W : WX}
theorem se_isi {e : Expr} {T : String} {x : Str} {p p2 pos : Pos} {m : ME} (hT : T ∈ ["int", "bool", "str", "tuple", "list", "dict"]) (hg : Gl X "isinstance") (hm : X.mg "isinstance" = none) (hgx : Gl X x) (hmx : X.mg x = none) (hv : bootBuiltins x = some (.type T)) (ha : SE X ct W e m) (hnx : x ≠ "__name__" := by decide) (hdx : (x == ("__debug__" : Str)) = false := by decide)
    (hs2 : starEach [.Name x p2] X.env = (false, eval (.Name x p2) X.env) :: starEach [] X.env := by rfl) (he : starEach [e, .Name x p2] X.env = (false, eval e X.env) :: starEach [.Name x p2] X.env := by rfl) (hpl : (backTo pos (starEach [.Name x p2] X.env)).any (·.1) = false := by rfl) :
    SE X ct W (.Call (.Name "isinstance" p) [e, .Name x p2] [] pos) (mIsi T m) :=
  (pe_callB call_isi hg hm PyProof.Rows.boot_isinstance (pa_cons ha (pa_cons (pe_bltn (v := .ty T) hgx hmx hv rfl hnx hdx) pa_nil hs2) he) (by decide) (by decide) he hpl).imp fun σ H Q ⟨μ, ρ, h, rs, rh, po⟩ => rdE.go rs rh po fun d h1 μ1 H1 v s1 rs1 rh1 dv p1 => by
    split at p1
    · rename_i t et
      exact ⟨v, .ty T, .type t, .type T, subT t T, rfl, .ty T, tyD_ok rh1 et dv, subT_ok (tyD_mem et) hT, p1.at rh1 _ rfl⟩
    · exact p1.elim
end

/-! ### built-ins by values -/
def lenD (h : Hh) : D → Option Nat
  | .str x => if x.length ≤ sizeLine then some x.length else none
  | .tup xs => some xs.length
  | .rot xs => some xs.length
  | .rol xs => some xs.length
  | .ref i => match h[i]? with
    | some (.lst xs) => some xs.length
    | _ => none
  | _ => none
def bLen : GN
  | [d], h => match lenD h d with
    | some n => some (.int (n : Int), h)
    | none => none
  | _, _ => none
def bAbs : GN
  | [.int i], h => some (.int (if i < 0 then -i else i), h)
  | _, _ => none
def bInt : GN
  | [.int i], h => some (.int i, h)
  | [.bl b], h => some (.int (if b then 1 else 0), h)
  | _, _ => none
def bGcd : GN
  | [.int a, .int b], h => some (.int ((Nat.gcd a.natAbs b.natAbs : Nat) : Int), h)
  | _, _ => none
def bMax2 : GN
  | [.int i, .int j], h => some (.int (if j > i then j else i), h)
  | _, _ => none
def bMin2 : GN
  | [.int i, .int j], h => some (.int (if j < i then j else i), h)
  | _, _ => none
/-- list(x) -/
def bList : GN
  | [.tup xs], h => some (.ref h.length, h ++ [.lst xs])
  | [.rot xs], h => some (.ref h.length, h ++ [.lst xs])
  | [.rol xs], h => some (.ref h.length, h ++ [.lst xs])
  | [.ref i], h => match h[i]? with
    | some (.lst xs) => some (.ref h.length, h ++ [.lst xs])
    | _ => none
  | _, _ => none
/-- tuple(x) -/
def bTuple : GN
  | [.tup xs], h => some (.tup xs, h)
  | [.rot xs], h => some (.rot xs, h)
  | [.rol xs], h => some (.tup xs, h)
  | [.ref i], h => match h[i]? with
    | some (.lst xs) => some (.tup xs, h)
    | _ => none
  | _, _ => none
theorem dens1 {K : PySem.W.Frag} {μ : List Addr} {H : Hp} {d : D} {vs : List V} (h : Dens K μ H [d] vs) : ∃ v, vs = [v] ∧ Den K μ H d v := by
  obtain ⟨v, vr, e, q, r⟩ := h
  have r : vr = [] := r
  subst r
  exact ⟨v, e, q⟩
theorem dens2 {K : PySem.W.Frag} {μ : List Addr} {H : Hp} {d e : D} {vs : List V} (h : Dens K μ H [d, e] vs) : ∃ v w, vs = [v, w] ∧ Den K μ H d v ∧ Den K μ H e w := by
  obtain ⟨v, vr, e, q, r⟩ := h
  obtain ⟨w, ew, z⟩ := dens1 r
  subst ew
  exact ⟨v, w, e, q, z⟩
section
variable {X : Cx}
theorem cr_len : CallR X (.builtin "len") (rN X.K bLen) := by
  intro pins s σ H xs us Q I r ⟨μ, h, as, da, rh, p⟩
  unfold bLen at p
  split at p
  · split at p
    · rename_i d n e
      obtain ⟨v, rfl, dv⟩ := dens1 da
      refine call_len pins s σ H _ us Q I r ⟨v, n, rfl, ?_, p.fin rh rfl⟩
      unfold lenD at e
      split at e
      · split at e
        · rename_i hl
          cases e
          cases dv.to_str
          exact ⟨hl, rfl⟩
        · cases e
      · cases e
        obtain ⟨a, vs, rfl, q, dd⟩ := dv
        exact .inr ⟨vs, SqT.of q, by rw [dd.length]⟩
      · cases e
        obtain ⟨a, vs, rfl, q, dd⟩ := dv
        exact .inr ⟨vs, q, by rw [dd.length]⟩
      · cases e
        obtain ⟨a, vs, rfl, q, dd⟩ := dv
        exact .inl ⟨vs, q.sq, by rw [dd.length]⟩
      · split at e
        · rename_i hi
          cases e
          obtain ⟨a, vs, rfl, _, q, dd⟩ := den_lst rh dv hi
          exact .inl ⟨vs, SqL.of q, by rw [dd.length]⟩
        · cases e
      · cases e
    · exact p.elim
  · exact p.elim
theorem cr_abs : CallR X (.builtin "abs") (rN X.K bAbs) := by
  intro pins s σ H xs us Q I r ⟨μ, h, as, da, rh, p⟩
  unfold bAbs at p
  split at p
  · obtain ⟨v, rfl, dv⟩ := dens1 da
    cases dv.to_int
    exact call_abs pins s σ H _ us Q I r ⟨_, rfl, p.fin rh rfl⟩
  · exact p.elim
theorem cr_int : CallR X (.type "int") (rN X.K bInt) := by
  intro pins s σ H xs us Q I r ⟨μ, h, as, da, rh, p⟩
  unfold bInt at p
  split at p
  · obtain ⟨v, rfl, dv⟩ := dens1 da
    cases dv.to_int
    exact call_int1 pins s σ H _ us Q I r (.inl ⟨_, rfl, p.fin rh rfl⟩)
  · obtain ⟨v, rfl, dv⟩ := dens1 da
    cases dv.to_bl
    exact call_int1 pins s σ H _ us Q I r (.inr ⟨_, rfl, p.fin rh rfl⟩)
  · exact p.elim
theorem cr_gcdM : CallR X (.builtin "math.gcd") (rN X.K bGcd) := by
  intro pins s σ H xs us Q I r ⟨μ, h, as, da, rh, p⟩
  unfold bGcd at p
  split at p
  · obtain ⟨v, w, rfl, dv, dw⟩ := dens2 da
    cases dv.to_int
    cases dw.to_int
    exact cr_gcd pins s σ H _ us Q I r ⟨_, _, rfl, p.fin rh rfl⟩
  · exact p.elim
theorem cr_max2 (hc : X.calm = true) : CallR X (.builtin "max") (rN X.K bMax2) := by
  intro pins s σ H xs us Q I r ⟨μ, h, as, da, rh, p⟩
  unfold bMax2 at p
  split at p
  · obtain ⟨v, w, rfl, dv, dw⟩ := dens2 da
    cases dv.to_int
    cases dw.to_int
    exact call_max2 hc pins s σ H _ us Q I r ⟨_, _, rfl, p.fin rh rfl⟩
  · exact p.elim
theorem cr_min2 (hc : X.calm = true) : CallR X (.builtin "min") (rN X.K bMin2) := by
  intro pins s σ H xs us Q I r ⟨μ, h, as, da, rh, p⟩
  unfold bMin2 at p
  split at p
  · obtain ⟨v, w, rfl, dv, dw⟩ := dens2 da
    cases dv.to_int
    cases dw.to_int
    exact call_min2 hc pins s σ H _ us Q I r ⟨_, _, rfl, p.fin rh rfl⟩
  · exact p.elim
theorem cr_list : CallR X (.type "list") (rN X.K bList) := by
  intro pins s σ H xs us Q I r ⟨μ, h, as, da, rh, p⟩
  unfold bList at p
  split at p
  · obtain ⟨v, rfl, a, vs, rfl, q, dd⟩ := dens1 da
    exact call_list_of pins s σ H _ us Q I r ⟨a, vs, rfl, .inr (SqT.of q), fun l hl => p.finL rh dd l hl⟩
  · obtain ⟨v, rfl, a, vs, rfl, q, dd⟩ := dens1 da
    exact call_list_of pins s σ H _ us Q I r ⟨a, vs, rfl, .inr q, fun l hl => p.finL rh dd l hl⟩
  · obtain ⟨v, rfl, a, vs, rfl, q, dd⟩ := dens1 da
    exact call_list_of pins s σ H _ us Q I r ⟨a, vs, rfl, .inl q.sq, fun l hl => p.finL rh dd l hl⟩
  · split at p
    · rename_i hi
      obtain ⟨v, rfl, dv⟩ := dens1 da
      obtain ⟨a, vs, rfl, _, q, dd⟩ := den_lst rh dv hi
      exact call_list_of pins s σ H _ us Q I r ⟨a, vs, rfl, .inl (SqL.of q), fun l hl => p.finL rh dd l hl⟩
    · exact p.elim
  · exact p.elim
theorem cr_tuple : CallR X (.type "tuple") (rN X.K bTuple) := by
  intro pins s σ H xs us Q I r ⟨μ, h, as, da, rh, p⟩
  unfold bTuple at p
  split at p
  · obtain ⟨v, rfl, a, vs, rfl, q, dd⟩ := dens1 da
    exact call_tuple_of pins s σ H _ us Q I r ⟨a, vs, rfl, .inr ⟨SqT.of q, p.fin rh ⟨a, vs, rfl, q, dd⟩⟩⟩
  · obtain ⟨v, rfl, a, vs, rfl, q, dd⟩ := dens1 da
    exact call_tuple_of pins s σ H _ us Q I r ⟨a, vs, rfl, .inr ⟨q, p.fin rh ⟨a, vs, rfl, q, dd⟩⟩⟩
  · obtain ⟨v, rfl, a, vs, rfl, q, dd⟩ := dens1 da
    exact call_tuple_of pins s σ H _ us Q I r ⟨a, vs, rfl, .inl ⟨q.sq, fun l hl => p.finT rh dd l hl⟩⟩
  · split at p
    · rename_i hi
      obtain ⟨v, rfl, dv⟩ := dens1 da
      obtain ⟨a, vs, rfl, _, q, dd⟩ := den_lst rh dv hi
      exact call_tuple_of pins s σ H _ us Q I r ⟨a, vs, rfl, .inl ⟨SqL.of q, fun l hl => p.finT rh dd l hl⟩⟩
    · exact p.elim
  · exact p.elim
end

/-! ### list.append, and items changed by an operator -/
def mMset (g : D → List D → Hh → Option (D × Hh)) (mo : ME) (ma : MA) : ME := fun ρ h => (mo ρ h).bind fun o h1 => match o with
  | .ref i => match h1[i]? with
    | some (.lst _) => (ma ρ h1).bind fun as h2 => Out.ofO (g o as h2)
    | _ => .bad
  | _ => .bad
def lAppend : D → List D → Hh → Option (D × Hh)
  | .ref i, [d], h => match h[i]? with
    | some (.lst xs) => if xs.length < sizeLine then some (.non, h.set i (.lst (xs ++ [d]))) else none
    | _ => none
  | _, _, _ => none
section
variable {X : Cx} {ct : Ctb} {W : WX}
def rM (K : PySem.W.Frag) (g : D → List D → Hh → Option (D × Hh)) : V → List V → Hp → VK → Prop := fun x xs H Q => ∃ μ h a as, Den K μ H a x ∧ Dens K μ H as xs ∧ RelH K μ H h ∧ POo K μ H (fun d _ μ' H' => ∀ v, Den K μ' H' d v → Q v H') (g a as h)
theorem mt_appendM : MtM X "list.append" (rM X.K lAppend) := by
  intro pins s σ H x xs v us Q I rx rv ⟨μ, h, a, as, da, das, rh, p⟩
  unfold lAppend at p
  split at p
  · split at p
    · rename_i hi
      split at p
      · rename_i hl
        obtain ⟨b, vs, rfl, ha, hv, dd⟩ := den_lst rh da hi
        obtain ⟨w, rfl, dw⟩ := dens1 das
        obtain ⟨st, r⟩ := put_lst rh hi ha hv (dd.append das)
        exact mt_append pins s σ H _ _ v us Q I rx rv ⟨b, vs, w, rfl, rfl, hv, by rw [dd.length]; exact hl, p _ _ st r _ rfl⟩
      · exact p.elim
    · exact p.elim
  · exact p.elim
/-- a method of a list -/
theorem se_lm {o e : Expr} {es : List Expr} {name : Str} {id : String} {apos cpos : Pos} {g : D → List D → Hh → Option (D × Hh)} {mo : ME} {ma : MA} (slot : Slot "list" name id) (hty : typeOf (.builtin id) = pure (.type "method_descriptor")) (hm : MtR X id (rM X.K g)) (ho : SE X ct W o mo) (ha : SA X ct W (e :: es) ma)
    (hbase : attributeBase o name X.env (eval o X.env) = eval o X.env := by rfl)
    (hfew : ((backTo cpos (starEach (e :: es) X.env)).all (fun x => !x.1) && (backToKw cpos (keywordEach [] X.env)).all (fun x => x.1.isSome) && decide ((e :: es).length + ([] : List Keyword).length + (if ([] : List Keyword).isEmpty then 0 else 1) < 30)) = true := by rfl)
    (he : starEach (e :: es) X.env = (false, eval e X.env) :: starEach es X.env := by rfl) (hpl : (backTo cpos (starEach es X.env)).any (·.1) = false := by rfl) (hline : (apos.endLine == cpos.line) = true := by rfl) :
    SE X ct W (.Call (.Attribute o name apos) (e :: es) [] cpos) (mMset g mo ma) := by
  refine L2.PE.imp (pe_bm PySem.F.plainAttrs_list slot hty hm ho ha hbase hfew hline he hpl) fun σ H Q ⟨μ, ρ, h, rs, rh, p⟩ => rdE.go rs rh p fun d h1 μ1 H1 v s1 rs1 rh1 dv p1 => ?_
  split at p1
  · rename_i i
    split at p1
    · rename_i xs hi
      obtain ⟨a, vs, rfl, ha, hv, dd⟩ := den_lst rh1 dv hi
      exact ⟨.inl ⟨rfl, vs, SqL.of hv⟩, rdA.go rs1 rh1 p1 fun as h2 μ2 H2 ws s2 rs2 rh2 das p2 => ⟨μ2, h2, .ref i, as, dv.mono s2, das, rh2, p2.ofO⟩⟩
    · exact p1.elim
  · exact p1.elim
/-- xs[i], a list, 0 ≤ i -/
def oIxL : G2
  | .ref a, .int i, h => match h[a]? with
    | some (.lst xs) => if 0 ≤ i ∧ i < 2 ^ 63 then (xs[i.toNat]?).map fun d => (d, h) else none
    | _ => none
  | _, _, _ => none
theorem get_M : PGet X (r2 X.K oIxL) := by
  intro pins s σ H o i ov iv Q I ro ri ⟨μ, h, a, b, da, db, rh, p⟩
  cases a with
  | ref a1 =>
    cases b with
    | int k =>
      cases hi : h[a1]? with
      | none => simp only [oIxL, hi] at p; exact p.elim
      | some ob =>
        cases ob with
        | lst xs =>
          by_cases h0 : 0 ≤ k ∧ k < 2 ^ 63
          · cases e : xs[k.toNat]? with
            | none => simp only [oIxL, hi, if_pos h0, e, Option.map_none] at p; exact p.elim
            | some d =>
              simp only [oIxL, hi, if_pos h0, e, Option.map_some] at p
              obtain ⟨a2, vs, rfl, _, hv, dd⟩ := den_lst rh da hi
              cases ro
              cases db.to_int
              obtain ⟨t, rfl⟩ := ri
              obtain ⟨its, r, pl, hz⟩ := I.list (SqL.of hv)
              obtain ⟨w, ew, dw⟩ := dd.get e
              obtain ⟨u, eu, ru⟩ := r.get ew
              exact wpAny_getItem_list pl.isList h0.1 h0.2 (by simpa using eu) ⟨w, H, I, ru, p.fin rh dw⟩
          · simp only [oIxL, hi, if_neg h0] at p; exact p.elim
        | dct xs => simp only [oIxL, hi] at p; exact p.elim
        | dctT xs => simp only [oIxL, hi] at p; exact p.elim
        | dlk xs => simp only [oIxL, hi] at p; exact p.elim
        | dlkT xs => simp only [oIxL, hi] at p; exact p.elim
    | _ => exact p.elim
  | _ => exact p.elim
/-- o[i] = e -/
def gmSub (g : D → D → D → Hh → Option Hh) (mo mi : ME) : MG := fun d ρ h => match mo ρ h with
  | .ok o h1 => match mi ρ h1 with
    | .ok i h2 => (g o i d h2).map fun h3 => (ρ, h3)
    | _ => none
  | _ => none
theorem sg_sub {o i : Expr} {mo mi : ME} {pos : Pos} {g : D → D → D → Hh → Option Hh} (ho : SE X ct W o mo) (hi : SE X ct W i mi) (hs : PSet X (rset X.K g))
    (ha : ∀ v, assign (.Subscript o i pos) X.env v = (do
      let ov ← holding [v] (eval o X.env)
      let iv ← holding [v, ov] (eval i X.env)
      standAt pos
      holding [v, ov, iv] (setItem ov iv v)
      release [v, ov, iv] []) := by intro _; rfl) : SG X (.Subscript o i pos) (gmSub g mo mi) :=
  (pg_sub ho hi hs ha).imp fun v σ H Q ⟨μ, ρ, h, d, rs, rh, dv, p⟩ => by
    cases e1 : mo ρ h with
    | ok od h1 =>
      cases e2 : mi ρ h1 with
      | ok idd h2 =>
        cases e3 : g od idd d h2 with
        | some h3 =>
          have hg : gmSub g mo mi d ρ h = some (ρ, h3) := by unfold gmSub; simp only [e1, e2, e3, Option.map_some]
          rw [hg] at p
          refine ⟨μ, ρ, h, rs, rh, ?_⟩
          rw [e1]
          intro μ1 H1 s1 rh1 x dx
          refine ⟨μ1, ρ, h1, rs.mono s1, rh1, ?_⟩
          rw [e2]
          intro μ2 H2 s2 rh2 y dy
          refine ⟨μ2, h2, od, idd, d, dx.mono s2, dy, (dv.mono s1).mono s2, rh2, ?_⟩
          rw [e3]
          intro μ3 H3 s3 rh3
          exact p μ3 H3 σ ((s1.trans s2).trans s3) rh3 (((rs.mono s1).mono s2).mono s3)
        | none =>
          have hg : gmSub g mo mi d ρ h = none := by unfold gmSub; simp only [e1, e2, e3, Option.map_none]
          rw [hg] at p
          exact p.elim
      | err x h2 =>
        have hg : gmSub g mo mi d ρ h = none := by unfold gmSub; simp only [e1, e2]
        rw [hg] at p
        exact p.elim
      | bad =>
        have hg : gmSub g mo mi d ρ h = none := by unfold gmSub; simp only [e1, e2]
        rw [hg] at p
        exact p.elim
    | err x h2 =>
      have hg : gmSub g mo mi d ρ h = none := by unfold gmSub; simp only [e1]
      rw [hg] at p
      exact p.elim
    | bad =>
      have hg : gmSub g mo mi d ρ h = none := by unfold gmSub; simp only [e1]
      rw [hg] at p
      exact p.elim
/-- o[i] op= e -/
def mAugS (g : G2) (gi : G2) (gs : D → D → D → Hh → Option Hh) (mo mi me : ME) : MS := fun ρ h => (mo ρ h).bindS ρ fun o h1 => (mi ρ h1).bindS ρ fun i h2 => (Out.ofO (g o i h2)).bindS ρ fun x h3 => (me ρ h3).bindS ρ fun y h4 => (Out.ofO (gi x y h4)).bindS ρ fun z h5 => match gs o i z h5 with
  | some h6 => .nx ρ h6
  | none => .bad
theorem ss_augS {o i e : Expr} {mo mi me : ME} {g gi : G2} {gs : D → D → D → Hh → Option Hh} {op : Operator} {tpos pos : Pos} (ho : SE X ct W o mo) (hi : SE X ct W i mi) (hg : PGet X (r2 X.K g)) (he : SE X ct W e me) (hp : PIp X op (r2 X.K gi)) (hs : PSet X (rset X.K gs))
    (ha : ∀ ov iv new, augStore i ov iv new = (do holding [new, ov, iv] (setItem ov iv new); release [new, ov, iv] []; pure .next) := by intros; rfl) : SS X ct W (.AugAssign (.Subscript o i tpos) op e pos) (mAugS g gi gs mo mi me) :=
  (ps_augS ho hi hg he hp hs ha).imp fun D σ H ⟨μ, ρ, h, rs, rh, p⟩ => rdE.goS rs rh p fun od h1 μ1 H1 ov s1 rs1 rh1 do1 p1 => rdE.goS rs1 rh1 p1 fun id1 h2 μ2 H2 iv s2 rs2 rh2 di1 p2 =>
    ⟨μ2, h2, od, id1, do1.mono s2, di1, rh2, (PSt.bindS (W := W) rs2 p2).ofO.mono fun x h3 μ3 H3 s3 rh3 p3 xv dx => rdE.goS (rs2.mono s3) rh3 p3 fun y h4 μ4 H4 yv s4 rs4 rh4 dy p4 =>
      ⟨μ4, h4, x, y, dx.mono s4, dy, rh4, (PSt.bindS (W := W) rs4 p4).ofO.mono fun z h5 μ5 H5 s5 rh5 p5 zv dz => ⟨μ5, h5, od, id1, z, (((do1.mono s2).mono s3).mono s4).mono s5, ((di1.mono s3).mono s4).mono s5, dz, rh5, by
        split at p5
        · rename_i h6 e6
          try rw [e6]
          exact fun μ6 H6 s6 rh6 => p5 μ6 H6 σ s6 rh6 ((rs4.mono s5).mono s6)
        · exact p5.elim⟩⟩⟩
end

/-! ### iterators -/
section
variable {X : Cx} {ct : Ctb} {W : WX} {tg : Expr}
/-- over a tuple, a list that is only read, or a list of ours -/
def jSeq (xs : List D) : MIt := ⟨fun i _ => some xs[i]?, xs.length⟩
def jRef (a : Nat) (n : Nat) : MIt := ⟨fun i h => match h[a]? with
  | some (.lst xs) => some xs[i]?
  | _ => none, n⟩
def jRng (lo : Int) (n : Nat) : MIt := ⟨fun i _ => some (if i < n then some (.int (lo + i)) else none), n⟩
def iterD : D → Hh → Option MIt
  | .tup xs, _ => some (jSeq xs)
  | .rot xs, _ => some (jSeq xs)
  | _, _ => none
def iterL : D → Hh → Option MIt
  | .rol xs, _ => some (jSeq xs)
  | .ref a, h => match h[a]? with
    | some (.lst xs) => some (jRef a xs.length)
    | _ => none
  | _, _ => none
def miOf (f : D → Hh → Option MIt) (m : ME) : MI := fun ρ h => (m ρ h).bind fun d h1 => match f d h1 with
  | some j => .ok j h1
  | none => .bad
theorem itr_tup {K : PySem.W.Frag} {μ : List Addr} {H : Hp} {a : Addr} {xs : List D} {vs : List V} (q : SqT K H a vs) (d : Dens K μ H xs vs) : ItR K μ H (Itt K a) (jSeq xs) where
  stop := fun i μ' H' h' s rh e => ⟨vs, s.sqT q, by
    have e : xs[i]? = none := Option.some.inj e
    rw [d.length]
    exact List.getElem?_eq_none_iff.mp e⟩
  go := fun i μ' H' h' x s rh e => by
    have e : xs[i]? = some x := Option.some.inj e
    obtain ⟨v, e1, dv⟩ := d.get e
    refine ⟨⟨vs, v, s.sqT q, e1⟩, fun y H'' hy => ?_⟩
    obtain ⟨rfl, hy⟩ := hy
    have ey := hy vs (s.sqT q)
    rw [e1] at ey
    cases ey
    exact ⟨Step.refl, rh, dv.mono s⟩
theorem itr_rol {K : PySem.W.Frag} {μ : List Addr} {H : Hp} {a : Addr} {xs : List D} {vs : List V} (q : RoL K H a vs) (d : Dens K μ H xs vs) : ItR K μ H (Itl K a) (jSeq xs) where
  stop := fun i μ' H' h' s rh e => ⟨vs, (s.roL q).sq, by
    have e : xs[i]? = none := Option.some.inj e
    rw [d.length]
    exact List.getElem?_eq_none_iff.mp e⟩
  go := fun i μ' H' h' x s rh e => by
    have e : xs[i]? = some x := Option.some.inj e
    obtain ⟨v, e1, dv⟩ := d.get e
    refine ⟨⟨vs, v, (s.roL q).sq, e1⟩, fun y H'' hy => ?_⟩
    obtain ⟨rfl, hy⟩ := hy
    have ey := hy vs (s.roL q).sq
    rw [e1] at ey
    cases ey
    exact ⟨Step.refl, rh, dv.mono s⟩
theorem itr_ref {K : PySem.W.Frag} {μ : List Addr} {H : Hp} {a : Nat} {p : Addr} {n : Nat} (hp : μ[a]? = some p) : ItR K μ H (Itl K p) (jRef a n) where
  stop := fun i μ' H' h' s rh e => by
    have e : (match h'[a]? with | some (.lst xs) => some xs[i]? | _ => none) = some none := e
    split at e
    · rename_i xs hi
      obtain ⟨b, hb, vs, hv, d⟩ := rh.obj a _ hi
      rw [s.get hp] at hb
      cases hb
      exact ⟨vs, SqL.of hv, by rw [d.length]; exact List.getElem?_eq_none_iff.mp (Option.some.inj e)⟩
    · cases e
  go := fun i μ' H' h' x s rh e => by
    have e : (match h'[a]? with | some (.lst xs) => some xs[i]? | _ => none) = some (some x) := e
    split at e
    · rename_i xs hi
      obtain ⟨b, hb, vs, hv, d⟩ := rh.obj a _ hi
      rw [s.get hp] at hb
      cases hb
      obtain ⟨v, e1, dv⟩ := d.get (Option.some.inj e)
      refine ⟨⟨vs, v, SqL.of hv, e1⟩, fun y H'' hy => ?_⟩
      obtain ⟨rfl, hy⟩ := hy
      have ey := hy vs (SqL.of hv)
      rw [e1] at ey
      cases ey
      exact ⟨Step.refl, rh, dv⟩
    · cases e
theorem itr_rng {K : PySem.W.Frag} {μ : List Addr} {H : Hp} {lo : Int} {n : Nat} : ItR K μ H (Itr lo n) (jRng lo n) where
  stop := fun i μ' H' h' s rh e => by
    have e : (if i < n then some (D.int (lo + i)) else none) = none := Option.some.inj e
    split at e
    · cases e
    · rename_i h
      exact Nat.le_of_not_lt h
  go := fun i μ' H' h' x s rh e => by
    have e : (if i < n then some (D.int (lo + i)) else none) = some x := Option.some.inj e
    split at e
    · rename_i h
      cases e
      refine ⟨h, fun y H'' hy => ?_⟩
      obtain ⟨rfl, rfl⟩ := hy
      exact ⟨Step.refl, rh, rfl⟩
    · cases e
theorem si_tup {e : Expr} {m : ME} (he : SE X ct W e m) : L2.PI X tg e (rdI X.K ct W (miOf iterD m)) :=
  (pi_tup he).imp fun σ H R ⟨μ, ρ, h, rs, rh, p⟩ => rdE.go rs rh p fun d h1 μ1 H1 v s1 rs1 rh1 dv p1 => by
    split at p1
    · rename_i j ej
      unfold iterD at ej
      split at ej
      · cases ej
        obtain ⟨a, vs, rfl, q, dd⟩ := dv
        exact ⟨a, rfl, ⟨vs, SqT.of q⟩, p1.at rh1 _ (itr_tup (SqT.of q) dd)⟩
      · cases ej
        obtain ⟨a, vs, rfl, q, dd⟩ := dv
        exact ⟨a, rfl, ⟨vs, q⟩, p1.at rh1 _ (itr_tup q dd)⟩
      · cases ej
    · exact p1.elim
theorem si_list {e : Expr} {m : ME} (he : SE X ct W e m) : L2.PI X tg e (rdI X.K ct W (miOf iterL m)) :=
  (pi_list he).imp fun σ H R ⟨μ, ρ, h, rs, rh, p⟩ => rdE.go rs rh p fun d h1 μ1 H1 v s1 rs1 rh1 dv p1 => by
    split at p1
    · rename_i j ej
      unfold iterL at ej
      split at ej
      · cases ej
        obtain ⟨a, vs, rfl, q, dd⟩ := dv
        exact ⟨a, rfl, ⟨vs, q.sq⟩, p1.at rh1 _ (itr_rol q dd)⟩
      · split at ej
        · rename_i hi
          cases ej
          obtain ⟨a, vs, rfl, ha, hv, dd⟩ := den_lst rh1 dv hi
          exact ⟨a, rfl, ⟨vs, SqL.of hv⟩, p1.at rh1 _ (itr_ref ha)⟩
        · cases ej
      · cases ej
    · exact p1.elim
def miRng1 (m : ME) : MI := fun ρ h => (m ρ h).bind fun d h1 => match d with
  | .int n => if -(2 ^ 62) ≤ n ∧ n < 2 ^ 62 then .ok (jRng 0 n.toNat) h1 else .bad
  | _ => .bad
def miRng2 (m m' : ME) : MI := fun ρ h => (m ρ h).bind fun d h1 => (m' ρ h1).bind fun e h2 => match d, e with
  | .int i, .int j => if -(2 ^ 62) ≤ i ∧ i < 2 ^ 62 ∧ -(2 ^ 62) ≤ j ∧ j < 2 ^ 62 then .ok (jRng i (j - i).toNat) h2 else .bad
  | _, _ => .bad
theorem si_rng1 {a : Expr} {m : ME} {p pos : Pos} (hg : Gl X "range") (hm : X.mg "range" = none) (ha : SE X ct W a m) (hs : starEach [a] X.env = [(false, eval a X.env)] := by rfl) :
    L2.PI X tg (.Call (.Name "range" p) [a] [] pos) (rdI X.K ct W (miRng1 m)) :=
  (pi_range1 hg hm (pa_cons ha pa_nil hs) hs).imp fun σ H R ⟨μ, ρ, h, rs, rh, p⟩ => rdE.go rs rh p fun d h1 μ1 H1 v s1 rs1 rh1 dv p1 => by
    split at p1
    · split at p1
      · rename_i hn
        cases dv.to_int
        exact ⟨_, rfl, hn.1, hn.2, p1.at rh1 _ itr_rng⟩
      · exact p1.elim
    · exact p1.elim
theorem si_rng2 {a b : Expr} {m m' : ME} {p pos : Pos} (hg : Gl X "range") (hm : X.mg "range" = none) (ha : SE X ct W a m) (hb : SE X ct W b m') (hs : starEach [a, b] X.env = [(false, eval a X.env), (false, eval b X.env)] := by rfl) (hs2 : starEach [b] X.env = [(false, eval b X.env)] := by rfl) :
    L2.PI X tg (.Call (.Name "range" p) [a, b] [] pos) (rdI X.K ct W (miRng2 m m')) :=
  (pi_range2 hg hm (pa_cons ha (pa_cons hb pa_nil hs2) (by rw [hs, hs2])) hs hs2).imp fun σ H R ⟨μ, ρ, h, rs, rh, p⟩ => rdE.go rs rh p fun d h1 μ1 H1 v s1 rs1 rh1 dv p1 => rdE.go rs1 rh1 p1 fun e h2 μ2 H2 w s2 rs2 rh2 dw p2 => by
    split at p2
    · split at p2
      · rename_i hn
        cases dv.to_int
        cases dw.to_int
        exact ⟨_, _, rfl, hn, p2.at rh2 _ itr_rng⟩
      · exact p2.elim
    · exact p2.elim
end
/-- the int in a slot -/
def slotInt (i : Nat) (ρ : Rho) : Int := match ρ.getD i none with
  | some (.int b) => b
  | _ => 0
end PI
/-! try with several clauses, with or without a name. -/
namespace PI
open PySem PySem.Spec L2
open PyProof.Rows hiding St

abbrev W0 : WX := fun _ _ _ _ => False
abbrev Hd := Str × Option Nat × (Addr → Exn → MS)
/-- one value for all -/
noncomputable def uni (f : Addr → OutS) : OutS := open Classical in if ∀ a, f a = f 0 then f 0 else .bad
theorem uni_eq {f : Addr → OutS} {o : OutS} (h : ∀ a, f a = o) : uni f = o := by
  unfold uni
  rw [if_pos (fun a => by rw [h a, h 0])]
  exact h 0
theorem uni_pst {K : PySem.W.Frag} {ct : Ctb} {W : WX} {μ : List Addr} {H : Hp} {D : Ends} {f : Addr → OutS} (p : PSt K ct W μ H D (uni f)) (a : Addr) : PSt K ct W μ H D (f a) := by
  unfold uni at p
  split at p
  · rename_i h
    rw [h a]
    exact p
  · exact p.elim
/-- the exception's name goes behind the suite -/
def unName (i : Nat) : OutS → OutS
  | .nx ρ h => .nx (ρ.set i none) h
  | .bk ρ h => .bk (ρ.set i none) h
  | .ct ρ h => .ct (ρ.set i none) h
  | .rt d h => .rt d h
  | _ => .bad
/-- a suite that raises is not mirrored -/
def noEr : OutS → OutS
  | .er _ _ _ => .bad
  | o => o
noncomputable def clauses (sb : Str → Str → Bool) (x : Exn) (ρ : Rho) (h : Hh) : List Hd → OutS
  | [] => .er x ρ h
  | (c, none, ms) :: r => if sb x.cls c = true then uni fun a => noEr (ms a x ρ h) else clauses sb x ρ h r
  | (c, some i, ms) :: r => if sb x.cls c = true then uni fun a => unName i (ms a x (ρ.set i (some (.ex a))) h) else clauses sb x ρ h r
noncomputable def mTry (sb : Str → Str → Bool) (b : MS) (hs : List Hd) : MS := fun ρ h => match b ρ h with
  | .er x ρ' h' => clauses sb x ρ' h' hs
  | o => o
inductive HdsM (X : Cx) (ct : Ctb) (sb : Str → Str → Bool) : List ExceptHandler → List Hd → Prop
  | nil : HdsM X ct sb [] []
  | plain {x : Str} {c : Value} {ms : Addr → Exn → MS} {b₀ : Stmt} {suite : List Stmt} {np pos' : Pos} {hds : List ExceptHandler} {l : List Hd} (hc : Names X x c) (hsb : ∀ z cz, ct z = some cz → PySem.W.exmOne X.K cz c = some (sb z x))
      (hsu : ∀ (a : Addr) (oe : Obj) (cls : Value) (d : Option Addr) (pn : List (Addr × Obj)) (e : Exn), Zc cls d oe → (∃ vs, oe.data = .fields vs) → ct e.cls = some cls → (e.fs = [] → d = none) → SSs (X.suite a ((a, oe) :: pn)) ct W0 (b₀ :: suite) (ms a e)) (r : HdsM X ct sb hds l) :
      HdsM X ct sb (.ExceptHandler (some (.Name x np)) none (b₀ :: suite) pos' :: hds) ((x, none, ms) :: l)
  | named {x n : Str} {i : Nat} {c : Value} {ms : Addr → Exn → MS} {b₀ : Stmt} {suite : List Stmt} {np pos' : Pos} {hds : List ExceptHandler} {l : List Hd} (hi : X.N[i]? = some n) (hln : X.env.kindOf n = some .local) (hc : Names X x c) (hsb : ∀ z cz, ct z = some cz → PySem.W.exmOne X.K cz c = some (sb z x))
      (hsu : ∀ (a : Addr) (oe : Obj) (cls : Value) (d : Option Addr) (pn : List (Addr × Obj)) (e : Exn), Zc cls d oe → (∃ vs, oe.data = .fields vs) → ct e.cls = some cls → (e.fs = [] → d = none) → SSs (X.suite a ((a, oe) :: pn)) ct W0 (b₀ :: suite) (ms a e)) (r : HdsM X ct sb hds l) :
      HdsM X ct sb (.ExceptHandler (some (.Name x np)) (some n) (b₀ :: suite) pos' :: hds) ((x, some i, ms) :: l)
section
variable {X : Cx} {ct : Ctb} {W : WX}
/-- what the clauses wish of an exception of the body -/
noncomputable def wishC (K : PySem.W.Frag) (ct : Ctb) (sb : Str → Str → Bool) (W : WX) (D : Ends) (hs : List Hd) : WX := fun cls d σ H => ∃ μ ρ h x, RelS K μ H ρ σ ∧ RelH K μ H h ∧ ExcR K ct μ H x cls d ∧ PSt K ct W μ H D (clauses sb x ρ h hs)
theorem ss_try {body : List Stmt} {h₀ : ExceptHandler} {hds : List ExceptHandler} {pos : Pos} {mb : MS} {l : List Hd} {sb : Str → Str → Bool}
    (hs : X.stack = X.env :: X.outer) (hf : X.env.frame = some X.env.locals) (hN : X.N.Nodup) (tk : Takes X W)
    (hb : ∀ (W : WX) (pn : List (Addr × Obj)) (xe : Value → Shared → Prop), Takes (X.tr pn xe) W → PassesOwn (model X.prog X.w) X.A X.env xe → SSs (X.tr pn xe) ct W body mb)
    (hh : HdsM X ct sb (h₀ :: hds) l) : SS X ct W (.Try body (h₀ :: hds) [] [] pos) (mTry sb mb l) := by
  refine ⟨fun pins s σ H D I hq => ?_⟩
  have ok := I.ok
  have frames : X.A.frames = some (X.env :: X.outer) := by rw [ok.frames, hs]
  refine wpAny_Try_except ?_
  obtain ⟨μ, ρ, h, rs, rh, p⟩ := hq
  have p : PSt X.K ct W μ H D (match mb ρ h with | .er x ρ' h' => clauses sb x ρ' h' l | o => o) := p
  have start : rdS X.K ct (wishC X.K ct sb W D l) mb D σ H := by
    refine ⟨μ, ρ, h, rs, rh, ?_⟩
    cases e : mb ρ h with
    | nx ρ' h' => rw [e] at p; exact p
    | bk ρ' h' => rw [e] at p; exact p
    | ct ρ' h' => rw [e] at p; exact p
    | rt d h' => rw [e] at p; exact p
    | bad => rw [e] at p; exact p
    | er x ρ' h' =>
      rw [e] at p
      exact fun μ' H' σ' cls d s r rs' ex => ⟨μ', ρ', h', x, rs', r, ex, PSt.step s p⟩
  refine wpAny_mono ((hb (wishC X.K ct sb W D l) (X.pn ++ pins)
    (fun e t1 => wpAny (model X.prog X.w) X.A (noteFrame e X.env) (fun _ t2 => wpAny (model X.prog X.w) X.A (setFlight e none) (fun _ t3 => wpAny (model X.prog X.w) X.A (handleBy e X.env (h₀ :: hds)) (SP X pins D) X.xe t3) X.xe t2) X.xe t1)
    (fun u t xx => ?_) PassesOwn.looking).run [] s σ H D (I.toTry _) start) (fun f t hsp => ?_) (fun e t he => he)
  · obtain ⟨ea, B, sB, pinsB, σB, HB, cls, d, rfl, JT, hnb, upB, skyB, hna, hos, hag, wish⟩ := xx
    have JB : Inv X pins σB HB sB := JT.ofTry ok
    have skyE : Sky B (X.env :: X.outer) ea (Zc cls d) X.env.locals t.heap := by rw [← hs]; exact skyB
    show wpAny (model X.prog X.w) X.A (noteFrame (.ref ea) X.env) _ _ _
    refine Sky.land Zc.steady frames hf skyE fun hp3 fly3 ups3 => ?_
    have J3 : Inv X pins σB HB { t with heap := hp3 } := JB.landed hnb fly3.1 (upB.trans ups3) hos hag
    obtain ⟨o3, v3, ho3, hz3, hd3⟩ := fly3.there
    have notOne : ∀ {g : Heap} {o : Obj} {vs : Array Value}, g.FunFrames B (X.env :: X.outer) → g.get? ea = some o → o.data = .fields vs → ea ∉ frs (X.env :: X.outer) := fun {g o vs} ff eo ed hm => by
      obtain ⟨_, o2, eo2, hnf⟩ := ff.mem hm
      rw [eo] at eo2
      cases eo2
      exact hnf _ ed
    have outF := notOne fly3.2.2.1 ho3 hd3
    have outL : ea ≠ X.env.locals := fun z => outF (List.mem_filterMap.mpr ⟨X.env, List.mem_cons_self, by rw [hf, z]⟩)
    have outO : ea ∉ X.fs := fun hm => by
      obtain ⟨en, hen, qn⟩ := List.mem_filterMap.mp hm
      exact outF (List.mem_filterMap.mpr ⟨en, List.mem_cons_of_mem _ hen, qn⟩)
    have S3 := J3.suite ho3 hd3 hna outL outO
    obtain ⟨μ2, ρ2, h2, x, rs2, rh2, ex, p2⟩ := wish
    have ectx : ct x.cls = some cls := ex.1
    have enone : x.fs = [] → d = none := fun z => by
      rcases ex.2 with q | q
      · exact q.2
      · exact absurd z q.1
    have go : ∀ {hds' : List ExceptHandler} {l' : List Hd}, HdsM X ct sb hds' l' → PSt X.K ct W μ2 HB D (clauses sb x ρ2 h2 l') →
        wpAny (model X.prog X.w) X.A (handleBy (.ref ea) X.env hds') (SP X pins D) X.xe { t with heap := hp3 } := by
      intro hds' l' hk
      induction hk with
      | nil =>
        intro q
        have out : W cls d σB HB := q μ2 HB σB cls d Step.refl rh2 rs2 ex
        refine wpAny_handleBy_nil ?_
        obtain ⟨k1, k2, k3, oe, vs, T, oT, ts', he, hz, hd, h1, hr⟩ := id fly3
        unfold PySem.passOn
        refine wpAny_bind (wpAny_field he hd h1 ?_)
        rw [if_neg (show ¬ ((Value.ref T == Value.none) = true) from by simp)]
        have fin : wpAny (model X.prog X.w) X.A (setFlight (.ref ea) X.env.frame) (fun _ t4 => wpAny (model X.prog X.w) X.A (throw (.ref ea) : Sem Flow) (SP X pins D) X.xe t4) X.xe { t with heap := hp3 } := by
          rw [hf]
          refine HandSPX.setFlight_upZ fly3 fun h4 hh4 up4 => wpAny_throw (tk _ _ ?_)
          exact ⟨ea, B, sB, pins, σB, HB, cls, d, rfl, JB, hnb, (upB.trans ups3).trans up4, .inr (.inr (by rw [hs]; exact hh4)), hna, hos, hag, out⟩
        first
          | exact wpAny_bind (wpAny_pure (wpAny_bind fin))
          | exact wpAny_bind fin
      | @plain xn c ms b₀ suite np pos' hds2 l2 hc hsb hsu r ih =>
        intro q
        have hb1 := hsb _ _ ectx
        refine wpAny_handleBy_cons (codeAny_handlers_test ?_) (by intro z; cases z)
        have LT : PySem.W.Looks (model X.prog X.w) hp3 (typeOf (.ref ea)) cls := fun A Q E s k q => wpAny_typeOf_ref (k _ _ ho3) (by rw [hz3.1]; exact q)
        have LM := PySem.W.exm_one (M := model X.prog X.w) (J3.kIn) LT hb1
        have test : ∀ {Q : Value → Shared → Prop} {E : Value → Shared → Prop}, Q c { t with heap := hp3 } → wpAny (model X.prog X.w) (X.A.mark (some (.ref ea))) (eval (.Name xn np) X.env) Q E { t with heap := hp3 } := fun {Q E} z => by
          obtain ⟨hg, hdbg, hm | ⟨hm, hv, hnn⟩⟩ := hc
          · exact ld_glob (X := X.suite ea ((ea, o3) :: (X.pn ++ pins))) S3 hg hm z hdbg
          · exact ld_blt (X := X.suite ea ((ea, o3) :: (X.pn ++ pins))) S3 hg hm hv z hnn hdbg
        refine test (LM.here ?_)
        have q : PSt X.K ct W μ2 HB D (if sb x.cls xn = true then uni fun a => noEr (ms a x ρ2 h2) else clauses sb x ρ2 h2 l2) := q
        cases eb : sb x.cls xn with
        | true =>
          rw [eb, if_pos rfl] at q
          have q := uni_pst q ea
          refine codeAny_handlers_suite ?_
          refine HandSPX.lands_againZ fly3 fun h4 fl4 up4 => ?_
          have J4 : Inv X pins σB HB { t with heap := h4 } := JB.landed hnb fl4.1 ((upB.trans ups3).trans up4) hos hag
          obtain ⟨oe4, vs4, he4, hz4, hd4⟩ := fl4.there
          have S4 := J4.suite he4 hd4 hna outL outO
          have rd : rdS X.K ct W0 (ms ea x) D σB HB := by
            refine ⟨μ2, ρ2, h2, rs2, rh2, ?_⟩
            cases em : ms ea x ρ2 h2 with
            | er x' ρ' h' => rw [em] at q; exact q.elim
            | nx ρ' h' => rw [em] at q; exact q
            | bk ρ' h' => rw [em] at q; exact q
            | ct ρ' h' => rw [em] at q; exact q
            | rt d h' => rw [em] at q; exact q
            | bad => rw [em] at q; exact q
          refine wpAny_mono ((hsu ea oe4 cls d (X.pn ++ pins) x hz4 ⟨_, hd4⟩ ectx enone).run [] _ _ HB _ S4 rd) (fun f t6 hsp => ?_) (fun _ _ z => False.elim z)
          cases f with
          | next =>
            obtain ⟨σ6, H6, S6, q6⟩ := hsp
            exact ⟨_, _, S6.unsuite ok, q6⟩
          | brk =>
            obtain ⟨σ6, H6, S6, q6⟩ := hsp
            exact ⟨_, _, S6.unsuite ok, q6⟩
          | cont =>
            obtain ⟨σ6, H6, S6, q6⟩ := hsp
            exact ⟨_, _, S6.unsuite ok, q6⟩
          | ret u =>
            obtain ⟨v6, σ6, H6, S6, r6, q6⟩ := hsp
            exact ⟨_, _, _, S6.unsuite ok, r6, q6⟩
        | false =>
          rw [eb, if_neg Bool.false_ne_true] at q
          show wpAny _ X.A (handleBy (.ref ea) X.env hds2) _ _ _
          exact ih q
      | @named xn n i c ms b₀ suite np pos' hds2 l2 hi hln hc hsb hsu r ih =>
        intro q
        have hloc : Loc X.env.scope n := .inl hln
        have hb1 := hsb _ _ ectx
        refine wpAny_handleBy_cons (codeAny_handlers_test ?_) (by intro z; cases z)
        have LT : PySem.W.Looks (model X.prog X.w) hp3 (typeOf (.ref ea)) cls := fun A Q E s k q => wpAny_typeOf_ref (k _ _ ho3) (by rw [hz3.1]; exact q)
        have LM := PySem.W.exm_one (M := model X.prog X.w) (J3.kIn) LT hb1
        have test : ∀ {Q : Value → Shared → Prop} {E : Value → Shared → Prop}, Q c { t with heap := hp3 } → wpAny (model X.prog X.w) (X.A.mark (some (.ref ea))) (eval (.Name xn np) X.env) Q E { t with heap := hp3 } := fun {Q E} z => by
          obtain ⟨hg, hdbg, hm | ⟨hm, hv, hnn⟩⟩ := hc
          · exact ld_glob (X := X.suite ea ((ea, o3) :: (X.pn ++ pins))) S3 hg hm z hdbg
          · exact ld_blt (X := X.suite ea ((ea, o3) :: (X.pn ++ pins))) S3 hg hm hv z hnn hdbg
        refine test (LM.here ?_)
        have q : PSt X.K ct W μ2 HB D (if sb x.cls xn = true then uni fun a => unName i (ms a x (ρ2.set i (some (.ex a))) h2) else clauses sb x ρ2 h2 l2) := q
        cases eb : sb x.cls xn with
        | true =>
          rw [eb, if_pos rfl] at q
          have q := uni_pst q ea
          refine codeAny_handlers_suite_as ?_
          refine HandSPX.lands_againZ fly3 fun h4 fl4 up4 => ?_
          have J4 : Inv X pins σB HB { t with heap := h4 } := JB.landed hnb fl4.1 ((upB.trans ups3).trans up4) hos hag
          obtain ⟨oe4, vs4, he4, hz4, hd4⟩ := fl4.there
          have S4 := J4.suite he4 hd4 hna outL outO
          refine store_ok (X := X.suite ea ((ea, oe4) :: (X.pn ++ pins))) (v := .ref ea) S4 hN hi hloc rfl (fun s5 S5 => ?_) (.inr hln)
          have rd : rdS X.K ct W0 (ms ea x) { nx := fun σ' H' => D.nx (σ'.set i none) H', rt := D.rt, bk := fun σ' H' => D.bk (σ'.set i none) H', ct := fun σ' H' => D.ct (σ'.set i none) H' } (σB.set i (some (.ref ea))) HB := by
            refine ⟨μ2, ρ2.set i (some (.ex ea)), h2, rs2.set rfl, rh2, ?_⟩
            cases em : ms ea x (ρ2.set i (some (.ex ea))) h2 with
            | er x' ρ' h' => rw [em] at q; exact q.elim
            | nx ρ' h' => rw [em] at q; exact fun μ' H' σ' s r rs' => q μ' H' (σ'.set i none) s r rs'.clear
            | bk ρ' h' => rw [em] at q; exact fun μ' H' σ' s r rs' => q μ' H' (σ'.set i none) s r rs'.clear
            | ct ρ' h' => rw [em] at q; exact fun μ' H' σ' s r rs' => q μ' H' (σ'.set i none) s r rs'.clear
            | rt d h' => rw [em] at q; exact q
            | bad => rw [em] at q; exact q
          refine wpAny_mono ((hsu ea oe4 cls d (X.pn ++ pins) x hz4 ⟨_, hd4⟩ ectx enone).run [] s5 _ HB _ S5 rd) (fun f t6 hsp => ?_) (fun _ _ z => False.elim z)
          have end_ : ∀ {σ6 : L2.St} {H6 : Hp} {Q : Shared → Prop}, Inv (X.suite ea ((ea, oe4) :: (X.pn ++ pins))) [] σ6 H6 t6 → (∀ t7, Inv X pins (σ6.set i none) H6 t7 → Q t7) →
              wpAny (model X.prog X.w) X.A (do bindName X.env n .none; unbindBehindTheSuite X.env n pos') (fun _ t7 => Q t7) X.xe t6 := fun {σ6 H6 Q} S6 hq => gone_ok (S6.unsuite ok) hN hi hln hq
          cases f with
          | next =>
            obtain ⟨σ6, H6, S6, q6⟩ := hsp
            exact end_ S6 fun t7 J7 => ⟨_, _, J7, q6⟩
          | brk =>
            obtain ⟨σ6, H6, S6, q6⟩ := hsp
            exact end_ S6 fun t7 J7 => ⟨_, _, J7, q6⟩
          | cont =>
            obtain ⟨σ6, H6, S6, q6⟩ := hsp
            exact end_ S6 fun t7 J7 => ⟨_, _, J7, q6⟩
          | ret u =>
            obtain ⟨v6, σ6, H6, S6, r6, q6⟩ := hsp
            exact end_ S6 fun t7 J7 => ⟨_, _, _, J7, r6, q6⟩
        | false =>
          rw [eb, if_neg Bool.false_ne_true] at q
          show wpAny _ X.A (handleBy (.ref ea) X.env hds2) _ _ _
          exact ih q
    exact go hh p2
  · cases f with
    | next =>
      obtain ⟨σ', H', J', q⟩ := hsp
      exact wpAny_execs_nil ⟨σ', H', J'.ofTry ok, q⟩
    | brk =>
      obtain ⟨σ', H', J', q⟩ := hsp
      exact ⟨σ', H', J'.ofTry ok, q⟩
    | cont =>
      obtain ⟨σ', H', J', q⟩ := hsp
      exact ⟨σ', H', J'.ofTry ok, q⟩
    | ret u =>
      obtain ⟨v, σ', H', J', r, q⟩ := hsp
      exact ⟨v, σ', H', J'.ofTry ok, r, q⟩
/-- isinstance(e, T), e the exception that the suite holds -/
def mIsE (i : Nat) (a : Addr) (e : Exn) (b : Bool) : ME := fun ρ h => match ρ[i]? with
  | some (some (.ex a')) => if a' = a ∧ e.fs = [] then .ok (.bl b) h else .bad
  | _ => .bad
theorem se_isE {a : Addr} {oe : Obj} {cls : Value} {d : Option Addr} {pn : List (Addr × Obj)} {e : Exn} {i : Nat} {x n : Str} {p p1 p2 pos : Pos} {c : V} {cv : Value} {isb : Str → Bool} (hz : Zc cls d oe) (hf : ∃ vs, oe.data = .fields vs) (hcl : ct e.cls = some cls) (hd : e.fs = [] → d = none)
    (hX : ∀ k v, ct k = some v → ∃ C, v = .ref C ∧ ExcC X.K C ∧ PySem.W.kitOne X.K (.ref C) cv = some (isb k)) (hN : X.N[i]? = some n) (hv : Vis X.env.scope n) (hg : Gl X "isinstance") (hm : X.mg "isinstance" = none)
    (hc : PE (X.suite a ((a, oe) :: pn)) (.Name x p2) (tC c)) (hcv : ∀ u, RelV c u → u = cv) (hnd : (n == ("__debug__" : Str)) = false := by decide) (hncd : (n == ("__classdict__" : Str)) = false := by decide)
    (hs2 : starEach [.Name x p2] X.env = (false, eval (.Name x p2) X.env) :: starEach [] X.env := by rfl) (he : starEach [.Name n p1, .Name x p2] X.env = (false, eval (.Name n p1) X.env) :: starEach [.Name x p2] X.env := by rfl) (hpl : (backTo pos (starEach [.Name x p2] X.env)).any (·.1) = false := by rfl) :
    SE (X.suite a ((a, oe) :: pn)) ct W0 (.Call (.Name "isinstance" p) [.Name n p1, .Name x p2] [] pos) (mIsE i a e (isb e.cls)) := by
  obtain ⟨C, rfl, hC, hk⟩ := hX _ _ hcl
  refine ⟨fun pins s σ H Q I ⟨μ, ρ, h, rs, rh, po⟩ => ?_⟩
  unfold mIsE at po
  split at po
  · rename_i a' ea
    split at po
    · rename_i hh
      obtain ⟨rfl, hfs⟩ := hh
      have hd := hd hfs
      subst hd
      obtain ⟨v, hv1, hv2⟩ := rs.get i _ ea
      have hv2 : v = .ref a' := hv2
      subst hv2
      exact (pe_callB (X := X.suite a' ((a', oe) :: pn)) (call_isE (X := X) hC hz hf) hg hm PyProof.Rows.boot_isinstance (pa_cons (pe_var (i := i) hN hv hnd hncd) (pa_cons hc pa_nil hs2) he) (by decide) (by decide) he hpl).run pins s σ H Q I
        ⟨_, hv1, c, cv, isb e.cls, rfl, hcv, hk, po.at rh _ rfl⟩
    · exact po.elim
  · exact po.elim
end
end PI
/-! The end: what the top has written, the law's own promise. -/
namespace PI
open PySem PySem.Spec L2
open PyProof.Rows hiding St

/-- a def as the top has written it -/
structure DefI (K : PySem.W.Frag) (mg : Str → Option Value) (x : Str) (st : Stmt) (ps : List Str) (kws : List (List Str × List Nat)) : Prop where
  ex : ∃ fa fd, Fun K x x st fa fd ∧ mg x = some (.ref fa) ∧ Binds K fd ps [] ∧ ∀ p ∈ kws, KwB fd ps p.1 p.2
theorem defI_mk {K : PySem.W.Frag} {h : Heap} {mg : Str → Option Value} {x : Str} {st : Stmt} {ps : List Str} {kws : List (List Str × List Nat)} {f : Addr} {oc : Value} {od an : Option Addr} {osl : Array (Option Value)} {kV doc pm cdv ct : Value} (X : K.In h) (G : h.Ns mainGlobals mg)
    (a : PySem.W.nsIn K mainGlobals x = some (some (.ref f))) (l : K.lookup f = some ⟨oc, od, .func (PySem.W.fnOf x x (defArgs st) (defBody st) (defScope st) .none kV doc pm an cdv ct), osl⟩)
    (c : PySem.W.codeIn K cdv x = true) (k : PySem.W.keepIn K (.ref f) = true)
    (hb : ∀ (kV doc pm : Value) (an : Option Addr) (cdv ct : Value) (us : List Value), us.length = ps.length → bindArgs (PySem.W.fnOf x x (defArgs st) (defBody st) (defScope st) .none kV doc pm an cdv ct) ⟨us, []⟩ = pure (ps.zip us))
    (hk : ∀ (kV doc pm : Value) (an : Option Addr) (cdv ct : Value), ∀ p ∈ kws, KwB (PySem.W.fnOf x x (defArgs st) (defBody st) (defScope st) .none kV doc pm an cdv ct) ps p.1 p.2) : DefI K mg x st ps kws := by
  have F := fun_mk (st := st) l c k
  exact ⟨f, _, F, PySem.W.mg_of X G a, F.binds hb, hk _ _ _ _ _ _⟩
section
variable {P : Program} {w : World} {K : PySem.W.Frag} {mg : Str → Option Value} {base : Heap} {ct : Ctb}
theorem FnI.mono {j k : Nat} {x : Str} {ps : List Str} {f : FnM} (F : FnI P w K mg base ct j x ps f) (h : j ≤ k) : FnI P w K mg base ct k x ps f := by
  obtain ⟨fa, fd, a, b, c, d⟩ := F.ex
  exact ⟨fa, fd, a, b, c, d.mono h⟩
theorem FnK.mono {j k : Nat} {x : Str} {ps ks : List Str} {pl : List Nat} {f : FnM} (F : FnK P w K mg base ct j x ps ks pl f) (h : j ≤ k) : FnK P w K mg base ct k x ps ks pl f := by
  obtain ⟨fa, fd, a, b, c, d⟩ := F.ex
  exact ⟨fa, fd, a, b, c, d.mono h⟩
/-- a def's mirror, from its body's -/
theorem DefI.fn {k : Nat} {x : Str} {st : Stmt} {ps : List Str} {kws : List (List Str × List Nat)} {f : FnM} (D : DefI K mg x st ps kws) (h : ∀ {fa fd}, Fun K x x st fa fd → FnOk P w K mg base (L2.CX P w) k fa fd ps (spM K ct ps.length f)) : FnI P w K mg base ct k x ps f := by
  obtain ⟨fa, fd, F, m, b, _⟩ := D.ex
  exact ⟨fa, fd, m, F.kp, b, h F⟩
theorem DefI.kw {k : Nat} {x : Str} {st : Stmt} {ps : List Str} {kws : List (List Str × List Nat)} {f : FnM} (D : DefI K mg x st ps kws) {ks : List Str} {pl : List Nat} (hp : (ks, pl) ∈ kws) (h : ∀ {fa fd}, Fun K x x st fa fd → FnOk P w K mg base (L2.CX P w) k fa fd ps (spM K ct ps.length f)) : FnK P w K mg base ct k x ps ks pl f := by
  obtain ⟨fa, fd, F, m, _, b⟩ := D.ex
  exact ⟨fa, fd, m, F.kp, b _ hp, h F⟩
/-- a closed thing: its own addresses lie below n -/
def D.lt (n : Nat) : D → Bool
  | .ref i => decide (i < n)
  | .tup xs => D.ltS n xs
  | .rot xs => D.ltS n xs
  | .rol xs => D.ltS n xs
  | _ => true
where D.ltS (n : Nat) : List D → Bool
  | [] => true
  | d :: ds => D.lt n d && D.ltS n ds
end
/-- what the row asks of the law -/
def spLaw (K : PySem.W.Frag) : Sp := fun vs H Q _ => ∃ (a : Addr) (ns : List Int), vs = [.ref a] ∧ Only H ∧ SqL K H a (ns.map V.int) ∧ ns.length ≤ 63 ∧ ∀ H', Q (.bl true) H'
theorem law_sp {K : PySem.W.Frag} {ct : Ctb} {f : FnM} (hf : ∀ ns : List Int, ns.length ≤ 63 → ∃ h, f [.rol (ns.map D.int)] [] = .ok (.bl true) h) (vs : List V) (H : Hp) (Q : VK) (E : XK) (q : spLaw K vs H Q E) : spM K ct 1 f vs H Q E := by
  obtain ⟨a, ns, rfl, hO, hS, hl, hq⟩ := q
  obtain ⟨h', e⟩ := hf ns hl
  have ro : RoL K H a (ns.map V.int) := by
    rcases hS with (hS | ⟨o, hS⟩) | hS
    · rcases hO a with z | ⟨o, xs, z⟩
      · rw [hS] at z; cases z
      · rw [hS] at z; cases z
    · exact .inl ⟨o, hS⟩
    · exact .inr hS
  refine ⟨[], [], [.rol (ns.map D.int)], rfl, ⟨_, _, rfl, ⟨a, _, rfl, ro, Dens.ints ns⟩, rfl⟩, ⟨rfl, fun i j a e => by simp at e, fun i o e => by simp at e⟩, ?_⟩
  rw [e]
  intro μ' H' s r v dv
  have dv : v = .bl true := dv
  rw [dv]
  exact hq H'
theorem walkM {l : PySem.W.OpenLaw} {k : Nat} {q : Program} {loose : List Str} {XP : (Str → Option Value) → Heap → Prop} {YP : World → Heap → Prop} {d : DefRec} {K : Params → PySem.W.Frag} (hn : l.most = some 63) (hdf : d.params.defaults = []) (hr : Room k callerA)
    (hY : ∀ (w : World) (h : Heap), YP w h → (K w.params).In h)
    (F : ∀ (w : World) (mg : Str → Option Value) (fa : Addr) (h : Heap), (K w.params).In h → h.Ns mainGlobals mg → mg d.name = some (.ref fa) →
      ∃ fd : FuncData, (∀ (s : Shared) (u : Value), BindsTo s fd ⟨[u], []⟩ [("script", u)]) ∧ ∀ base : Heap, (K w.params).In base → base.Ns mainGlobals mg → FnOk l.prog w (K w.params) mg base (L2.CX l.prog w) k fa fd ["script"] (spLaw (K w.params))) :
    PySem.W.WalkO q loose XP YP l.row.toRowW d [] (fun f vs => PySem.call f vs) :=
  L2.walk_of (n := 63) (k := k) (x := "script") (CX := fun w => L2.CX l.prog w) (sp := fun w => spLaw (K w.params)) hn (by decide) hdf hr hY F (fun _ _ a ns hl hO hS => ⟨a, ns, rfl, hO, hS, hl, fun _ => rfl⟩)
    fun _ _ _ _ _ z => by obtain ⟨_, _, _, _, _, _, _, _, _, _, _, _, z⟩ := z; exact z
/-- facts of own exception classes -/
theorem kit_ref {K : PySem.W.Frag} {R C : Addr} {b : Bool} (hd : PySem.W.hasDictIn K C = true) (t : PySem.W.typeIn K (.ref C) = some (.type "type")) (s : PySem.W.subIn K (.ref R) (.ref C) = some b) (e : R = C → b = true) : PySem.W.kitOne K (.ref R) (.ref C) = some b := by
  obtain ⟨cd, hc, _⟩ := PySem.W.any_some hd
  unfold PySem.W.kitOne
  split
  · rename_i h
    have : R = C := Value.ref.inj (beq_iff_eq.mp h)
    rw [e this]
  · unfold PySem.W.kitCls
    have e2 : ((PySem.W.clsIn K C).isSome && PySem.W.typeIn K (.ref C) == some (.type "type")) = true := by rw [hc, t] <;> rfl
    dsimp only
    rw [if_pos e2]
    exact s
theorem kit_tyE {K : PySem.W.Frag} {R : Addr} {T : String} {b : Bool} (m : PySem.W.kitMeta T = true) (s : PySem.W.subIn K (.ref R) (.type T) = some b) : PySem.W.kitOne K (.ref R) (.type T) = some b := by
  unfold PySem.W.kitOne
  split
  · rename_i h
    have : Value.ref R = .type T := beq_iff_eq.mp h
    cases this
  · unfold PySem.W.kitCls
    dsimp only
    rw [if_pos m]
    exact s
end PI
/-! How a mirror is reckoned: its parts as equations. -/
namespace PI
open PySem PySem.Spec L2
open PyProof.Rows hiding St
section
variable {ρ : Rho} {h : Hh} {d e : D} {a b c : ME} {s t u : MT} {x y z : MS} {m : MA} {i j : Int} {n : Nat} {g g' : G2} {k : G1} {w w' : Str}
@[simp] theorem mC_ap : mC d ρ h = .ok d h := rfl
@[simp] theorem mVar_0 : mVar 0 (some d :: ρ) h = .ok d h := rfl
@[simp] theorem mVar_s {o : Option D} : mVar (n + 1) (o :: ρ) h = mVar n ρ h := rfl
@[simp] theorem mNil_ap : mNil ρ h = .ok [] h := rfl
@[simp] theorem mCons_ap : mCons a m ρ h = (a ρ h).bind fun d h1 => (m ρ h1).bind fun ds h2 => .ok (d :: ds) h2 := rfl
@[simp] theorem mOp_ap : mOp g a b ρ h = (a ρ h).bind fun a h1 => (b ρ h1).bind fun b h2 => Out.ofO (g a b h2) := rfl
@[simp] theorem mUn_ap : mUn k a ρ h = (a ρ h).bind fun a h1 => Out.ofO (k a h1) := rfl
@[simp] theorem mB_ap {g : GN} : mB g m ρ h = (m ρ h).bind fun as h1 => Out.ofO (g as h1) := rfl
@[simp] theorem mTup_ap : mTup m ρ h = (m ρ h).bind fun as h1 => if as.length ≤ sizeLine then .ok (.tup as) h1 else .bad := rfl
@[simp] theorem mLst_ap : mLst m ρ h = (m ρ h).bind fun as h1 => if as.length ≤ sizeLine then .ok (.ref h1.length) (h1 ++ [.lst as]) else .bad := rfl
@[simp] theorem mDnew_ap : mDnew ρ h = .ok (.ref h.length) (h ++ [.dct []]) := rfl
@[simp] theorem mTest_ap : mTest a ρ h = (a ρ h).bind fun d h1 => match d with
  | .bl b => .ok b h1
  | _ => .bad := rfl
@[simp] theorem mAnd_ap : mAnd s t ρ h = (s ρ h).bind fun c h1 => if c = true then t ρ h1 else .ok false h1 := rfl
@[simp] theorem mOr_ap : mOr s t ρ h = (s ρ h).bind fun c h1 => if c = true then .ok true h1 else t ρ h1 := rfl
@[simp] theorem mNot_ap : mNot s ρ h = (s ρ h).bind fun c h1 => .ok (!c) h1 := rfl
@[simp] theorem mAndV_ap : mAndV a b ρ h = (mTest a ρ h).bind fun c h1 => if c = true then b ρ h1 else .ok (.bl false) h1 := rfl
@[simp] theorem mOrV_ap : mOrV a b ρ h = (mTest a ρ h).bind fun c h1 => if c = true then .ok (.bl true) h1 else b ρ h1 := rfl
@[simp] theorem mNotV_ap : mNotV a ρ h = (mTest a ρ h).bind fun c h1 => .ok (.bl (!c)) h1 := rfl
@[simp] theorem mIf_ap : mIf s a b ρ h = (s ρ h).bind fun c h1 => if c = true then a ρ h1 else b ρ h1 := rfl
@[simp] theorem mChain_ap : mChain g g' a b c ρ h = (a ρ h).bind fun a h1 => (b ρ h1).bind fun b h2 => (Out.ofO (g a b h2)).bind fun r h3 => match r with
  | .bl true => (c ρ h3).bind fun c h4 => Out.ofO (g' b c h4)
  | .bl false => .ok (.bl false) h3
  | _ => .bad := rfl
@[simp] theorem mCall_ap {f : FnM} : mCall n f m ρ h = (m ρ h).bind fun ds h1 => if ds.length = n then f ds h1 else .bad := rfl
@[simp] theorem mCallK_ap {f : FnM} {pl : List Nat} : mCallK n pl f m ρ h = (m ρ h).bind fun ds h1 => if (perm pl ds).length = n then f (perm pl ds) h1 else .bad := rfl
@[simp] theorem mIsi_ap {T : String} : mIsi T a ρ h = (a ρ h).bind fun d h1 => match tyD h1 d with
  | some t => .ok (.bl (subT t T)) h1
  | none => .bad := rfl
@[simp] theorem mMset_ap {l : D → List D → Hh → Option (D × Hh)} : mMset l a m ρ h = (a ρ h).bind fun o h1 => match o with
  | .ref i => match h1[i]? with
    | some (.lst _) => (m ρ h1).bind fun as h2 => Out.ofO (l o as h2)
    | _ => .bad
  | _ => .bad := rfl
@[simp] theorem mNx_ap : mNx ρ h = .nx ρ h := rfl
@[simp] theorem mSeq_ap : mSeq x y ρ h = (x ρ h).seq y := rfl
@[simp] theorem mRet_ap : mRet a ρ h = (a ρ h).bindS ρ fun d h1 => .rt d h1 := rfl
@[simp] theorem mRetN_ap : mRetN ρ h = .rt .non h := rfl
@[simp] theorem mDrop_ap : mDrop a ρ h = (a ρ h).bindS ρ fun _ h1 => .nx ρ h1 := rfl
@[simp] theorem mIfS_ap : mIfS s x y ρ h = (s ρ h).bindS ρ fun c h1 => if c = true then x ρ h1 else y ρ h1 := rfl
@[simp] theorem mSet_ap : mSet n a ρ h = (a ρ h).bindS ρ fun d h1 => .nx (ρ.set n (some d)) h1 := rfl
@[simp] theorem mAsg_ap {g : MG} : mAsg a g ρ h = (a ρ h).bindS ρ fun d h1 => match g d ρ h1 with
  | some (ρ', h') => .nx ρ' h'
  | none => .bad := rfl
@[simp] theorem mPar_ap {i j : Nat} : mPar i j m ρ h = (m ρ h).bindS ρ fun ds h1 => match ds with
  | [d, e] => .nx ((ρ.set i (some d)).set j (some e)) h1
  | _ => .bad := rfl
@[simp] theorem mAug_ap : mAug n g a ρ h = match ρ[n]? with
  | some (some x) => (a ρ h).bindS ρ fun y h1 => (Out.ofO (g x y h1)).bindS ρ fun z h2 => .nx (ρ.set n (some z)) h2
  | _ => .bad := rfl
@[simp] theorem mAugS_ap {gs : D → D → D → Hh → Option Hh} : mAugS g g' gs a b c ρ h = (a ρ h).bindS ρ fun o h1 => (b ρ h1).bindS ρ fun i h2 => (Out.ofO (g o i h2)).bindS ρ fun x h3 => (c ρ h3).bindS ρ fun y h4 => (Out.ofO (g' x y h4)).bindS ρ fun z h5 => match gs o i z h5 with
  | some h6 => .nx ρ h6
  | none => .bad := rfl
@[simp] theorem mRaise_ap {q : Str} : mRaise q ρ h = .er ⟨q, []⟩ ρ h := rfl
@[simp] theorem mFor_ap {mi : MI} {g : MG} : mFor mi g x ρ h = (mi ρ h).bindS ρ fun j h1 => forL j g x j.most 0 ρ h1 := rfl
@[simp] theorem gmName_ap : gmName n d ρ h = some (ρ.set n (some d), h) := rfl
@[simp] theorem gmTup_ap {g : MGs} {ds : List D} : gmTup n g (.tup ds) ρ h = if ds.length = n then g ds ρ h else none := rfl
@[simp] theorem gmNil_ap : gmNil [] ρ h = some (ρ, h) := rfl
@[simp] theorem gmCons_ap {p : MG} {q : MGs} {ds : List D} : gmCons p q (d :: ds) ρ h = (p d ρ h).bind fun r => q ds r.1 r.2 := rfl
@[simp] theorem gmSub_ap {gs : D → D → D → Hh → Option Hh} : gmSub gs a b d ρ h = match a ρ h with
  | .ok o h1 => match b ρ h1 with
    | .ok i h2 => (gs o i d h2).map fun h3 => (ρ, h3)
    | _ => none
  | _ => none := rfl
@[simp] theorem oAdd_int : oAdd (.int i) (.int j) h = some (.int (i + j), h) := rfl
@[simp] theorem oIAdd_int : oIAdd (.int i) (.int j) h = some (.int (i + j), h) := rfl
@[simp] theorem oSub_int : oSub (.int i) (.int j) h = some (.int (i - j), h) := rfl
@[simp] theorem oMul_int : oMul (.int i) (.int j) h = if mulOk i j = true then some (.int (i * j), h) else none := rfl
@[simp] theorem oFdiv_int : oFdiv (.int i) (.int j) h = if divOk j = true then some (.int (i / j), h) else none := rfl
@[simp] theorem oMod_int : oMod (.int i) (.int j) h = if 0 < j then some (.int (i % j), h) else none := rfl
@[simp] theorem oPow_int : oPow (.int i) (.int j) h = if powOk i j = true then some (.int (i ^ j.toNat), h) else none := rfl
@[simp] theorem oNeg_int : oNeg (.int i) h = some (.int (-i), h) := rfl
@[simp] theorem oCmp_int {r : Int → Int → Bool} : oCmp r (.int i) (.int j) h = some (.bl (r i j), h) := rfl
@[simp] theorem oEq_int : oEq (.int i) (.int j) h = some (.bl (i == j), h) := rfl
@[simp] theorem oNe_int : oNe (.int i) (.int j) h = some (.bl (!(i == j)), h) := rfl
@[simp] theorem oEq_str : oEq (.str w) (.str w') h = some (.bl (w == w'), h) := rfl
@[simp] theorem oNe_str : oNe (.str w) (.str w') h = some (.bl (!(w == w')), h) := rfl
@[simp] theorem oIsN_ap : oIsN d .non h = some (.bl (isNon d), h) := rfl
@[simp] theorem oNotN_ap : oNotN d .non h = some (.bl (!isNon d), h) := rfl
@[simp] theorem oIx_tup {xs : List D} : oIx (.tup xs) (.int i) h = (atI xs i).map fun d => (d, h) := rfl
@[simp] theorem oIx_rol {xs : List D} : oIx (.rol xs) (.int i) h = (atI xs i).map fun d => (d, h) := rfl
@[simp] theorem oIx_ref : oIx (.ref n) (.int i) h = match h[n]? with
  | some (.lst xs) => (atI xs i).map fun d => (d, h)
  | _ => none := rfl
@[simp] theorem oIxL_ref : oIxL (.ref n) (.int i) h = match h[n]? with
  | some (.lst xs) => if 0 ≤ i ∧ i < 2 ^ 63 then (xs[i.toNat]?).map fun d => (d, h) else none
  | _ => none := rfl
@[simp] theorem oSet_ref : oSet (.ref n) (.int i) d h = match h[n]? with
  | some (.lst xs) => (ixN xs.length i).map fun j => h.set n (.lst (xs.set j d))
  | _ => none := rfl
@[simp] theorem bLen_tup {xs : List D} : bLen [.tup xs] h = some (.int xs.length, h) := rfl
@[simp] theorem bLen_rol {xs : List D} : bLen [.rol xs] h = some (.int xs.length, h) := rfl
theorem bLen_ref {xs : List D} (e : h[n]? = some (.lst xs)) : bLen [.ref n] h = some (.int xs.length, h) := by
  simp [bLen, lenD, e]
@[simp] theorem bAbs_int : bAbs [.int i] h = some (.int (if i < 0 then -i else i), h) := rfl
@[simp] theorem bInt_int : bInt [.int i] h = some (.int i, h) := rfl
@[simp] theorem bInt_bl {b : Bool} : bInt [.bl b] h = some (.int (if b then 1 else 0), h) := rfl
@[simp] theorem bGcd_int : bGcd [.int i, .int j] h = some (.int ((Nat.gcd i.natAbs j.natAbs : Nat) : Int), h) := rfl
@[simp] theorem bMax2_int : bMax2 [.int i, .int j] h = some (.int (if j > i then j else i), h) := rfl
@[simp] theorem bMin2_int : bMin2 [.int i, .int j] h = some (.int (if j < i then j else i), h) := rfl
@[simp] theorem bList_tup {xs : List D} : bList [.tup xs] h = some (.ref h.length, h ++ [.lst xs]) := rfl
@[simp] theorem bList_rol {xs : List D} : bList [.rol xs] h = some (.ref h.length, h ++ [.lst xs]) := rfl
@[simp] theorem bTuple_tup {xs : List D} : bTuple [.tup xs] h = some (.tup xs, h) := rfl
@[simp] theorem atI_0 {α : Type} {p : α} {xs : List α} : atI (p :: xs) 0 = some p := by simp [atI, ixN]
@[simp] theorem atI_1 {α : Type} {p q : α} {xs : List α} : atI (p :: q :: xs) 1 = some q := by
  have e : atI (p :: q :: xs) ((1 : Nat) : Int) = some q := atI_nat rfl
  exact e
@[simp] theorem atI_2 {α : Type} {p q r : α} {xs : List α} : atI (p :: q :: r :: xs) 2 = some r := by
  have e : atI (p :: q :: r :: xs) ((2 : Nat) : Int) = some r := atI_nat rfl
  exact e
@[simp] theorem atI_3 {α : Type} {p q r s : α} {xs : List α} : atI (p :: q :: r :: s :: xs) 3 = some s := by
  have e : atI (p :: q :: r :: s :: xs) ((3 : Nat) : Int) = some s := atI_nat rfl
  exact e
theorem mFn_ap {N : Nat} {b : MS} {ds : List D} {ρ : Rho} (e : ds.map some ++ List.replicate (N - ds.length) none = ρ) : mFn N b ds h = (b ρ h).out := by
  unfold mFn
  rw [e]
@[simp] theorem size_le {n : Nat} (h : n ≤ 1000) : n ≤ sizeLine := Nat.le_trans h (by decide)
end
end PI
namespace PI
open PySem PySem.Spec L2
/-- a loop that runs through -/
theorem forL_nx {j : MIt} {g : MG} {b : MS} {n : Nat} (P : Nat → Rho → Hh → Prop)
    (hit : ∀ i ρ h, i < n → P i ρ h → ∃ d ρ1 h1 ρ' h', j.at_ i h = some (some d) ∧ g d ρ h = some (ρ1, h1) ∧ (b ρ1 h1 = .nx ρ' h' ∨ b ρ1 h1 = .ct ρ' h') ∧ P (i + 1) ρ' h')
    (hend : ∀ ρ h, P n ρ h → j.at_ n h = some none) : ∀ m i ρ h, i + m = n → P i ρ h → ∃ ρ' h', forL j g b m i ρ h = .nx ρ' h' ∧ P n ρ' h'
  | 0, i, ρ, h, e, p => by
    have e : i = n := by omega
    subst e
    refine ⟨ρ, h, ?_, p⟩
    unfold forL
    rw [hend ρ h p]
  | m + 1, i, ρ, h, e, p => by
    obtain ⟨d, ρ1, h1, ρ', h', e1, e2, e3, p'⟩ := hit i ρ h (by omega) p
    obtain ⟨ρ2, h2, e4, p2⟩ := forL_nx P hit hend m (i + 1) ρ' h' (by omega) p'
    refine ⟨ρ2, h2, ?_, p2⟩
    unfold forL
    rw [e1]
    simp only [e2]
    rcases e3 with e3 | e3 <;> rw [e3] <;> exact e4
@[simp] theorem jRng_most {lo : Int} {n : Nat} : (jRng lo n).most = n := rfl
@[simp] theorem jRef_most {a n : Nat} : (jRef a n).most = n := rfl
@[simp] theorem jSeq_most {xs : List D} : (jSeq xs).most = xs.length := rfl
theorem jRng_at {lo : Int} {n i : Nat} {h : Hh} (hi : i < n) : (jRng lo n).at_ i h = some (some (.int (lo + i))) := by simp [jRng, hi]
theorem jRng_end {lo : Int} {n : Nat} {h : Hh} : (jRng lo n).at_ n h = some none := by simp [jRng]
end PI
namespace PI
open PySem PySem.Spec L2
section
variable {h g : Hh} {n a b : Nat}
@[simp] theorem bLen_refM : bLen [.ref n] h = match h[n]? with
  | some (.lst xs) => some (.int xs.length, h)
  | _ => none := by
  cases e : h[n]? with
  | none => simp [bLen, lenD, e]
  | some o => cases o <;> simp [bLen, lenD, e]
@[simp] theorem bList_refM : bList [.ref n] h = match h[n]? with
  | some (.lst xs) => some (.ref h.length, h ++ [.lst xs])
  | _ => none := rfl
@[simp] theorem bTuple_refM : bTuple [.ref n] h = match h[n]? with
  | some (.lst xs) => some (.tup xs, h)
  | _ => none := rfl
@[simp] theorem oAdd_ref : oAdd (.ref a) (.ref b) h = match h[a]?, h[b]? with
  | some (.lst xs), some (.lst ys) => if xs.length + ys.length ≤ sizeLine then some (.ref h.length, h ++ [.lst (xs ++ ys)]) else none
  | _, _ => none := rfl
@[simp] theorem getApp {k : Nat} : (h ++ g)[h.length + k]? = g[k]? := by
  rw [List.getElem?_append_right (by omega)]
  congr 1
  omega
@[simp] theorem getApp0 : (h ++ g)[h.length]? = g[0]? := getApp (k := 0)
end
theorem atI_some {α : Type} {L : List α} {r : Int} (h0 : 0 ≤ r) (h1 : r < L.length) : ∃ d, atI L r = some d ∧ d ∈ L := by
  obtain ⟨j, rfl⟩ : ∃ j : Nat, r = j := ⟨r.toNat, by omega⟩
  have hl : j < L.length := by omega
  exact ⟨L[j], atI_nat (List.getElem?_eq_getElem hl), List.getElem_mem hl⟩
end PI
namespace PI
open PySem PySem.Spec L2
theorem for_nx {j : MIt} {g : MG} {b : MS} {ρ : Rho} {h : Hh} (n : Nat) (P : Nat → Rho → Hh → Prop) (init : P 0 ρ h) (hend : ∀ ρ h, P n ρ h → j.at_ n h = some none)
    (hit : ∀ i ρ h, i < n → P i ρ h → ∃ d ρ1 h1 ρ' h', j.at_ i h = some (some d) ∧ g d ρ h = some (ρ1, h1) ∧ (b ρ1 h1 = .nx ρ' h' ∨ b ρ1 h1 = .ct ρ' h') ∧ P (i + 1) ρ' h') :
    ∃ ρ' h', forL j g b n 0 ρ h = .nx ρ' h' ∧ P n ρ' h' := forL_nx P hit hend n 0 ρ h (by omega) init
end PI
/-! Comprehensions. -/
namespace PI
open PySem PySem.Spec L2
open PyProof.Rows hiding St
/-! ### targets of a block's own names -/
def wipeR (ρ : Rho) : List Nat → Rho
  | [] => ρ
  | v :: vs => (wipeR ρ vs).set v none
theorem wipe_rel {K : PySem.W.Frag} {μ : List Addr} {H : Hp} {ρ : Rho} {σ : L2.St} (r : RelS K μ H ρ σ) : ∀ vs, RelS K μ H (wipeR ρ vs) (L2.wipe σ vs)
  | [] => r
  | v :: vs => (wipe_rel r vs).clear
theorem wipe_setc {σ : L2.St} {i : Nat} {x : Option V} : ∀ vs : List Nat, i ∉ vs → L2.wipe (σ.set i x) vs = (L2.wipe σ vs).set i x
  | [], _ => rfl
  | v :: vs, h => by
    unfold L2.wipe
    rw [wipe_setc vs (fun z => h (List.mem_cons_of_mem _ z)), List.set_comm _ _ (fun z => h (by rw [z]; exact List.mem_cons_self))]
theorem wipe_in {σ : L2.St} {i : Nat} {x : Option V} : ∀ vs : List Nat, i ∈ vs → L2.wipe (σ.set i x) vs = L2.wipe σ vs
  | v :: vs, h => by
    unfold L2.wipe
    by_cases hi : i ∈ vs
    · rw [wipe_in vs hi]
    · have e : i = v := by
        rcases List.mem_cons.mp h with h | h
        · exact h
        · exact absurd h hi
      rw [wipe_setc vs hi, e, List.set_set]
theorem wipe_out {σ : L2.St} : ∀ vs us : List Nat, (∀ v ∈ vs, v ∈ us) → L2.wipe (L2.wipe σ vs) us = L2.wipe σ us
  | [], us, _ => rfl
  | v :: vs, us, h => by
    show L2.wipe ((L2.wipe σ vs).set v none) us = _
    rw [wipe_in us (h v List.mem_cons_self)]
    exact wipe_out vs us fun x hx => h x (List.mem_cons_of_mem _ hx)
def rdGv (K : PySem.W.Frag) (vs : List Nat) (m : MG) : TG := fun v σ H Q => ∃ μ ρ h d, RelS K μ H ρ σ ∧ RelH K μ H h ∧ Den K μ H d v ∧ match m d ρ h with
  | some (ρ', h') => ∀ μ' H' σ', Step μ H μ' H' → RelH K μ' H' h' → RelS K μ' H' ρ' σ' → L2.wipe σ' vs = L2.wipe σ vs → Q σ' H'
  | none => False
def rdGvs (K : PySem.W.Frag) (vs : List Nat) (m : MGs) : TGs := fun xs σ H Q => ∃ μ ρ h ds, RelS K μ H ρ σ ∧ RelH K μ H h ∧ Dens K μ H ds xs ∧ match m ds ρ h with
  | some (ρ', h') => ∀ μ' H' σ', Step μ H μ' H' → RelH K μ' H' h' → RelS K μ' H' ρ' σ' → L2.wipe σ' vs = L2.wipe σ vs → Q σ' H'
  | none => False
section
variable {X : Cx} {ct : Ctb} {W : WX} {vs : List Nat}
theorem sgv_name {i : Nat} {x : Str} {pos : Pos} (hN : X.N.Nodup) (hi : X.N[i]? = some x) (hx : Loc X.env.scope x) (hv : i ∈ vs) (hf : X.fn x = true ∨ X.env.scope.names.lookup x = some .local := by first | exact .inl rfl | exact .inr rfl | assumption) : PG X (.Name x pos) (rdGv X.K vs (gmName i)) :=
  (pg_name hN hi hx hf).imp fun v σ H Q ⟨μ, ρ, h, d, rs, rh, dv, p⟩ => p μ H _ Step.refl rh (rs.set dv) (wipe_in vs hv)
theorem sgvs_nil : PGs X [] (rdGvs X.K vs gmNil) := pgs_nil.imp fun xs σ H Q ⟨μ, ρ, h, ds, rs, rh, dv, p⟩ => by
  unfold gmNil at p
  cases ds with
  | nil => exact ⟨dv, p μ H σ Step.refl rh rs rfl⟩
  | cons d ds => exact p.elim
theorem sgvs_cons {t : Expr} {ts : List Expr} {a : MG} {b : MGs} (ha : PG X t (rdGv X.K vs a)) (hb : PGs X ts (rdGvs X.K vs b)) (hs : (assignEach (t :: ts) X.env).map (·.2) = assign t X.env :: (assignEach ts X.env).map (·.2) := by rfl) : PGs X (t :: ts) (rdGvs X.K vs (gmCons a b)) :=
  (pgs_cons ha hb hs).imp fun xs σ H Q ⟨μ, ρ, h, ds, rs, rh, dv, p⟩ => by
    unfold gmCons at p
    cases ds with
    | nil => exact p.elim
    | cons d ds =>
      obtain ⟨v, vr, rfl, dv, dr⟩ := dv
      dsimp only at p
      refine ⟨v, vr, rfl, μ, ρ, h, d, rs, rh, dv, ?_⟩
      cases e : a d ρ h with
      | none => rw [e] at p; exact p.elim
      | some r =>
        obtain ⟨ρ1, h1⟩ := r
        rw [e] at p
        intro μ1 H1 σ1 s1 rh1 rs1 w1
        refine ⟨μ1, ρ1, h1, ds, rs1, rh1, dr.mono s1, ?_⟩
        have p : match b ds ρ1 h1 with
          | some (ρ', h') => ∀ μ' H' σ', Step μ H μ' H' → RelH X.K μ' H' h' → RelS X.K μ' H' ρ' σ' → L2.wipe σ' vs = L2.wipe σ vs → Q σ' H'
          | none => False := p
        cases e2 : b ds ρ1 h1 with
        | none => rw [e2] at p; exact p.elim
        | some r2 =>
          obtain ⟨ρ2, h2⟩ := r2
          rw [e2] at p
          exact fun μ2 H2 σ2 s2 rh2 rs2 w2 => p μ2 H2 σ2 (s1.trans s2) rh2 rs2 (w2.trans w1)
theorem sgv_tup {es : List Expr} {k : Nat} {m : MGs} {n : Nat} {pos : Pos} (hc : X.calm = true) (h : PGs X es (rdGvs X.K vs m))
    (hn : (assignEach es X.env).length = n := by rfl) (hst : (assignEach es X.env).findIdx? (·.1) = none := by rfl) : PG X (.Tuple es k pos) (rdGv X.K vs (gmTup n m)) :=
  (pg_tup hc h hn hst).imp fun v σ H Q ⟨μ, ρ, h, d, rs, rh, dv, p⟩ => by
    unfold gmTup at p
    cases d with
    | tup ds =>
      obtain ⟨a, xs, e, q, r⟩ := dv
      dsimp only at p
      by_cases hl : ds.length = n
      · rw [if_pos hl] at p
        exact ⟨a, xs, e, SqT.of q, by rw [r.length]; exact hl, μ, ρ, h, ds, rs, rh, r, p⟩
      · rw [if_neg hl] at p
        exact p.elim
    | _ => exact p.elim
end
/-! ### list comprehensions -/
def lcL (j : MIt) (g : MG) (t : MT) (e : ME) (k : Nat) (ρ : Rho) : Nat → Nat → Hh → Option Hh
  | 0, i, h => match j.at_ i h with
    | some none => some h
    | _ => none
  | n + 1, i, h => match j.at_ i h with
    | some none => some h
    | some (some d) => match g d ρ h with
      | none => none
      | some (ρ1, h1) => match t ρ1 h1 with
        | .ok true h2 => match e ρ1 h2 with
          | .ok y h3 => match h3[k]? with
            | some (.lst acc) => if acc.length < sizeLine then lcL j g t e k ρ n (i + 1) (h3.set k (.lst (acc ++ [y]))) else none
            | _ => none
          | _ => none
        | .ok false h2 => lcL j g t e k ρ n (i + 1) h2
        | _ => none
    | none => none
def mLc (m : MI) (g : MG) (t : MT) (e : ME) (vs : List Nat) : ME := fun ρ h => (m ρ h).bind fun j h1 => match lcL j g t e h1.length (wipeR ρ vs) j.most 0 (h1 ++ [.lst []]) with
  | some h2 => .ok (.ref h1.length) h2
  | none => .bad
abbrev WN : WX := fun _ _ _ _ => False
def mYes : MT := fun _ h => .ok true h
section
variable {X : Cx} {ct : Ctb} {W : WX}
abbrev STs (X : Cx) (ct : Ctb) (W : WX) (es : List Expr) (m : MT) : Prop := PTs X es (rdT X.K ct W m)
theorem _root_.L2.PTs.imp {es : List Expr} {t t' : TT} (h : PTs X es t) (i : ∀ σ H Q, t' σ H Q → t σ H Q) : PTs X es t' := ⟨fun pins s σ H Q I q => h.run pins s σ H Q I (i σ H Q q)⟩
theorem sts_nil : STs X ct W [] mYes := pts_nil.imp fun σ H Q ⟨μ, ρ, h, rs, rh, p⟩ => p.at rh
theorem sts_one {e : Expr} {m : MT} (h : ST X ct W e m) : STs X ct W [e] m := pts_one h
theorem lc_go {elt tg iter : Expr} {wi : MI} {vs : List Nat} {g : MG} {t : MT} {e : ME} {σ : L2.St} {H : Hp} {K : PySem.W.Frag} {Q : VK} (hq : rdE K ct W (mLc wi g t e vs) σ H Q) : tLc (rdI K ct W wi) (rdGv K vs g) (rdT K ct WN t) (rdE K ct WN e) vs σ H Q := by
  obtain ⟨μ, ρ, h, rs, rh, p⟩ := hq
  refine ⟨μ, ρ, h, rs, rh, (PO.bind p).mono fun j h1 μ1 H1 s1 rh1 p1 J ij D hD => ?_⟩
  have rs1 := rs.mono s1
  have st2 : Step μ1 H1 (μ1 ++ [D]) (upd H1 D (.lst [])) := Step.newT hD
  have rh2 : RelH K (μ1 ++ [D]) (upd H1 D (.lst [])) (h1 ++ [.lst []]) := rh1.push hD ⟨[], upd_same, rfl⟩
  have hk : (μ1 ++ [D])[h1.length]? = some D := by rw [← rh1.len]; simp
  generalize hk0 : h1.length = k at *
  generalize hρ : wipeR ρ vs = ρ0 at *
  have rs2 : RelS K (μ1 ++ [D]) (upd H1 D (.lst [])) ρ0 (L2.wipe σ vs) := by rw [← hρ]; exact wipe_rel (rs1.mono st2) vs
  refine ⟨fun i m H' => ∃ μ' h' hf, Step (μ1 ++ [D]) (upd H1 D (.lst [])) μ' H' ∧ RelH K μ' H' h' ∧ lcL j g t e k ρ0 m i h' = some hf ∧ ∀ μ'' H'', Step μ' H' μ'' H'' → RelH K μ'' H'' hf → Q (.ref D) H'', ⟨j.most, ?_⟩, ?_⟩
  · cases eL : lcL j g t e k ρ0 j.most 0 (h1 ++ [.lst []]) with
    | none => rw [eL] at p1; exact p1.elim
    | some hf =>
      rw [eL] at p1
      exact ⟨_, _, hf, Step.refl, rh2, eL, fun μ'' H'' s'' r'' => p1 μ'' H'' (st2.trans s'') r'' _ ⟨D, rfl, s''.get hk⟩⟩
  · rintro i m H' ⟨μ', h', hf, st', rh', eL, fin⟩
    have stop : j.at_ i h' = some none → hf = h' → (J.stop i H' ∧ Q (.ref D) H') := fun e1 e2 => ⟨ij.stop i μ' H' h' (st2.trans st') rh' e1, fin μ' H' Step.refl (e2 ▸ rh')⟩
    cases m with
    | zero =>
      unfold lcL at eL
      split at eL
      · rename_i e1
        exact .inl (stop e1 (Option.some.inj eL).symm)
      · cases eL
    | succ m =>
      unfold lcL at eL
      split at eL
      · rename_i e1
        exact .inl (stop e1 (Option.some.inj eL).symm)
      · rename_i d e1
        obtain ⟨go, yl⟩ := ij.go i μ' H' h' d (st2.trans st') rh' e1
        refine .inr ⟨go, fun H2 => ∃ μ2 h2 hf, Step (μ1 ++ [D]) (upd H1 D (.lst [])) μ2 H2 ∧ RelH K μ2 H2 h2 ∧ lcL j g t e k ρ0 m (i + 1) h2 = some hf ∧ ∀ μ'' H'', Step μ2 H2 μ'' H'' → RelH K μ'' H'' hf → Q (.ref D) H'', fun H2 w2 => ⟨m, Nat.lt_succ_self _, w2⟩, fun x H'' y => ?_⟩
        obtain ⟨st3, rh3, dx⟩ := yl x H'' y
        refine ⟨μ', ρ0, h', d, (rs2.mono st').mono st3, rh3, dx, ?_⟩
        cases eg : g d ρ0 h' with
        | none => rw [eg] at eL; cases eL
        | some z =>
          obtain ⟨ρ3, h3⟩ := z
          rw [eg] at eL
          intro μ4 H4 σ4 st4 rh4 rs4 w4
          refine ⟨w4.trans (wipe_out vs vs fun _ z => z), μ4, ρ3, h3, rs4, rh4, ?_⟩
          dsimp only at eL
          cases et : t ρ3 h3 with
          | err x h4 => rw [et] at eL; cases eL
          | bad => rw [et] at eL; cases eL
          | ok b h4 =>
            rw [et] at eL
            intro μ5 H5 st5 rh5
            cases b with
            | false =>
              simp only [Bool.false_eq_true, if_false]
              exact ⟨μ5, h4, hf, ((st'.trans st3).trans st4).trans st5, rh5, eL, fun μ'' H'' s'' => fin μ'' H'' (((st3.trans st4).trans st5).trans s'')⟩
            | true =>
              simp only [if_true]
              refine ⟨μ5, ρ3, h4, rs4.mono st5, rh5, ?_⟩
              dsimp only at eL
              cases ee : e ρ3 h4 with
              | err x h5 => rw [ee] at eL; cases eL
              | bad => rw [ee] at eL; cases eL
              | ok y h5 =>
                rw [ee] at eL
                intro μ6 H6 st6 rh6 v dv
                dsimp only at eL
                have st36 := ((st3.trans st4).trans st5).trans st6
                split at eL
                · rename_i acc hacc
                  split at eL
                  · rename_i hl
                    have hD6 : μ6[k]? = some D := (st'.trans st36).get hk
                    obtain ⟨a, ea, vacc, hv, dacc⟩ := rh6.obj k _ hacc
                    rw [hD6] at ea
                    cases ea
                    obtain ⟨sp, rp⟩ := put_lst rh6 hacc hD6 hv (dacc.append (ds := acc) (es := [y]) (ws := [v]) ⟨v, [], rfl, dv, rfl⟩)
                    exact ⟨vacc, hv, by rw [dacc.length]; exact hl, μ6, _, hf, (st'.trans st36).trans sp, rp, eL, fun μ'' H'' s'' => fin μ'' H'' ((st36.trans sp).trans s'')⟩
                  · cases eL
                · cases eL
      · cases eL
theorem se_lc {elt tg iter : Expr} {ifs : List Expr} {scope : Scope} (own : List (Str × Nat)) {pos : Pos} {wi : MI} {g : MG} {t : MT} {e : ME} (hc : X.calm = true) (hN : X.N.Nodup) (hi : L2.PI X tg iter (rdI X.K ct W wi)) (ok : BlkOk X.N X.env.scope scope own)
    (hg : ∀ (s : Shared) (H : Hp) (C : Addr) (cl : List (Str × Addr)) (fp : List Addr), PG (X.blk s H scope (compEnvC scope cl C X.env) fp) tg (rdGv X.K (own.map (·.2)) g))
    (ht : ∀ (s : Shared) (H : Hp) (C : Addr) (cl : List (Str × Addr)) (fp : List Addr), STs (X.blk s H scope (compEnvC scope cl C X.env) fp) ct WN ifs t)
    (he : ∀ (s : Shared) (H : Hp) (C : Addr) (cl : List (Str × Addr)) (fp : List Addr), SE (X.blk s H scope (compEnvC scope cl C X.env) fp) ct WN elt e) (hs : ∀ x, foldedSetIterable iter X.env x = pure x := by intro _; rfl) :
    SE X ct W (.ListComp elt [⟨tg, iter, ifs, 0⟩] scope pos) (mLc wi g t e (own.map (·.2))) :=
  L2.PE.imp (pe_lc hc hN hi ok hg ht he hs) fun σ H Q q => lc_go (elt := elt) (tg := tg) (iter := iter) q
theorem ss_setLc {i : Nat} {y : Str} {py : Pos} {elt tg iter : Expr} {ifs : List Expr} {scope : Scope} (own : List (Str × Nat)) {pos spos : Pos} {wi : MI} {g : MG} {t : MT} {e : ME} (hc : X.calm = true) (hN : X.N.Nodup) (hy : X.N[i]? = some y) (hyl : X.env.scope.names.lookup y = some .local)
    (hsw : swapsWith (.ListComp elt [⟨tg, iter, ifs, 0⟩] scope pos) (some (.Name y py)) spos.line X.env = pure true) (hi : L2.PI X tg iter (rdI X.K ct W wi)) (ok : BlkOk X.N X.env.scope scope own)
    (hg : ∀ (s : Shared) (H : Hp) (C : Addr) (cl : List (Str × Addr)) (fp : List Addr), PG (X.blk s H scope (compEnvC scope cl C X.env) fp) tg (rdGv X.K (own.map (·.2)) g))
    (ht : ∀ (s : Shared) (H : Hp) (C : Addr) (cl : List (Str × Addr)) (fp : List Addr), STs (X.blk s H scope (compEnvC scope cl C X.env) fp) ct WN ifs t)
    (he : ∀ (s : Shared) (H : Hp) (C : Addr) (cl : List (Str × Addr)) (fp : List Addr), SE (X.blk s H scope (compEnvC scope cl C X.env) fp) ct WN elt e) (hs : ∀ x, foldedSetIterable iter X.env x = pure x := by intro _; rfl) :
    SS X ct W (.Assign [.Name y py] (.ListComp elt [⟨tg, iter, ifs, 0⟩] scope pos) spos) (mSet i (mLc wi g t e (own.map (·.2)))) :=
  (ps_setLc hc hN hy hyl hsw hi ok hg ht he hs).imp fun D σ H ⟨μ, ρ, h, rs, rh, p⟩ => by
    refine lc_go (ct := ct) (W := W) (elt := elt) (tg := tg) (iter := iter) (t := t) (e := e) ?_
    exact rdE.goS rs rh p fun d h1 μ1 H1 v s1 rs1 rh1 dv p1 => p1 μ1 H1 _ Step.refl rh1 (rs1.set dv)
end
end PI
/-! More walks: any sequence or text, zip, enumerate. -/
namespace PI
open PySem PySem.Spec L2
open PyProof.Rows hiding St
/-- the item of a sequence at a place -/
def srcAt (d : D) (i : Nat) (h : Hh) : Option (Option D) := match d with
  | .tup xs => some xs[i]?
  | .rot xs => some xs[i]?
  | .rol xs => some xs[i]?
  | .ref a => match h[a]? with
    | some (.lst xs) => some xs[i]?
    | _ => none
  | _ => none
def srcLen (d : D) (h : Hh) : Nat := match d with
  | .tup xs => xs.length
  | .rot xs => xs.length
  | .rol xs => xs.length
  | .ref a => match h[a]? with
    | some (.lst xs) => xs.length
    | _ => 0
  | _ => 0
def isLs (d : D) (h : Hh) : Bool := match d with
  | .rol _ => true
  | .ref a => match h[a]? with
    | some (.lst _) => true
    | _ => false
  | _ => false
def isTs (d : D) : Bool := match d with
  | .tup _ => true
  | .rot _ => true
  | _ => false
section
variable {K : PySem.W.Frag} {μ : List Addr} {H : Hp} {h : Hh} {a : Addr} {d : D} {v : V}
def Src (K : PySem.W.Frag) (S : Hp → List V → Prop) (μ : List Addr) (H : Hp) (d : D) : Prop := ∀ μ' H' h', Step μ H μ' H' → RelH K μ' H' h' → ∀ i o, srcAt d i h' = some o → match o with
  | some x => ∃ xs w, S H' xs ∧ xs[i]? = some w ∧ Den K μ' H' x w
  | none => ∃ xs, S H' xs ∧ xs.length ≤ i
theorem src_of {S : Hp → List V → Prop} {xs : List D} {vs : List V} (hs : ∀ μ' H', Step μ H μ' H' → S H' vs) (dd : Dens K μ H xs vs) (e : ∀ i h', srcAt d i h' = some xs[i]?) : Src K S μ H d := by
  intro μ' H' h' st rh i o eo
  rw [e] at eo
  cases eo
  have dd' := dd.mono st
  cases ex : xs[i]? with
  | none => exact ⟨vs, hs _ _ st, by rw [dd.length]; exact List.getElem?_eq_none_iff.mp ex⟩
  | some x =>
    obtain ⟨w, e1, dw⟩ := dd'.get ex
    exact ⟨vs, w, hs _ _ st, e1, dw⟩
theorem src_ts (ht : isTs d = true) (dv : Den K μ H d v) : ∃ a vs, v = .ref a ∧ SqT K H a vs ∧ Src K (fun H' => SqT K H' a) μ H d := by
  cases d with
  | tup xs =>
    obtain ⟨a, vs, rfl, q, dd⟩ := dv
    exact ⟨a, vs, rfl, SqT.of q, src_of (fun μ' H' st => st.sqT (SqT.of q)) dd fun _ _ => rfl⟩
  | rot xs =>
    obtain ⟨a, vs, rfl, q, dd⟩ := dv
    exact ⟨a, vs, rfl, q, src_of (fun μ' H' st => st.sqT q) dd fun _ _ => rfl⟩
  | _ => cases ht
theorem src_ls (rh : RelH K μ H h) (ht : isLs d h = true) (dv : Den K μ H d v) : ∃ a vs, v = .ref a ∧ SqL K H a vs ∧ Src K (fun H' => SqL K H' a) μ H d := by
  unfold isLs at ht
  split at ht
  · obtain ⟨a, vs, rfl, q, dd⟩ := dv
    exact ⟨a, vs, rfl, q.sq, src_of (fun μ' H' st => (st.roL q).sq) dd fun _ _ => rfl⟩
  · rename_i i
    split at ht
    · rename_i xs hi
      obtain ⟨a, vs, rfl, ha, q, dd⟩ := den_lst rh dv hi
      refine ⟨a, vs, rfl, SqL.of q, fun μ' H' h' st rh' j o eo => ?_⟩
      have eo : (match h'[i]? with | some (.lst xs) => some xs[j]? | _ => none) = some o := eo
      split at eo
      · rename_i ys hi'
        cases eo
        obtain ⟨b, hb, ws, hw, dw⟩ := rh'.obj i _ hi'
        rw [st.get ha] at hb
        cases hb
        cases ey : ys[j]? with
        | none => exact ⟨ws, SqL.of hw, by rw [dw.length]; exact List.getElem?_eq_none_iff.mp ey⟩
        | some x =>
          obtain ⟨w, e1, d1⟩ := dw.get ey
          exact ⟨ws, w, SqL.of hw, e1, d1⟩
      · cases eo
    · cases ht
  · cases ht
/-- a sequence, by its items -/
def jSrc (d : D) (n : Nat) : MIt := ⟨fun i h => srcAt d i h, n⟩
theorem itr_srcT {n : Nat} (s : Src K (fun H' => SqT K H' a) μ H d) : ItR K μ H (Itt K a) (jSrc d n) where
  stop := fun i μ' H' h' st rh e => s μ' H' h' st rh i none e
  go := fun i μ' H' h' x st rh e => by
    obtain ⟨xs, w, q, e1, dw⟩ := s μ' H' h' st rh i (some x) e
    refine ⟨⟨xs, w, q, e1⟩, fun y H'' hy => ?_⟩
    obtain ⟨rfl, hy⟩ := hy
    have ey := hy xs q
    rw [e1] at ey
    cases ey
    exact ⟨Step.refl, rh, dw⟩
theorem itr_srcL {n : Nat} (s : Src K (fun H' => SqL K H' a) μ H d) : ItR K μ H (Itl K a) (jSrc d n) where
  stop := fun i μ' H' h' st rh e => s μ' H' h' st rh i none e
  go := fun i μ' H' h' x st rh e => by
    obtain ⟨xs, w, q, e1, dw⟩ := s μ' H' h' st rh i (some x) e
    refine ⟨⟨xs, w, q, e1⟩, fun y H'' hy => ?_⟩
    obtain ⟨rfl, hy⟩ := hy
    have ey := hy xs q
    rw [e1] at ey
    cases ey
    exact ⟨Step.refl, rh, dw⟩
/-- both, item by item -/
def jZip (d e : D) (n : Nat) : MIt := ⟨fun i h => match srcAt d i h, srcAt e i h with
  | some (some x), some (some y) => some (some (.tup [x, y]))
  | some none, some _ => some none
  | some _, some none => some none
  | _, _ => none, n⟩
theorem zip_at {e : D} {i : Nat} {n : Nat} {o : Option D} (q : (jZip d e n).at_ i h = some o) : (∃ x y, srcAt d i h = some (some x) ∧ srcAt e i h = some (some y) ∧ o = some (.tup [x, y])) ∨ (o = none ∧ ∃ p r, srcAt d i h = some p ∧ srcAt e i h = some r ∧ (p = none ∨ r = none)) := by
  unfold jZip at q
  dsimp only at q
  split at q
  · rename_i x y e1 e2; exact .inl ⟨x, y, e1, e2, (Option.some.inj q).symm⟩
  · rename_i p e1 e2; exact .inr ⟨(Option.some.inj q).symm, none, p, e1, e2, .inl rfl⟩
  · rename_i p _ e1 e2; exact .inr ⟨(Option.some.inj q).symm, p, none, e1, e2, .inr rfl⟩
  · cases q
theorem itr_zip {S T : Hp → List V → Prop} {J : It} {e : D} {n : Nat} (s : Src K S μ H d) (t : Src K T μ H e)
    (hgo : J.go = fun i H => ∃ (xs ys : List V) (x y : V), S H xs ∧ T H ys ∧ xs[i]? = some x ∧ ys[i]? = some y)
    (hy : J.yld = fun i H v H' => ∃ p x y, v = .ref p ∧ H p = none ∧ H' = upd H p (.tup [x, y]) ∧ (∀ xs, S H xs → xs[i]? = some x) ∧ ∀ ys, T H ys → ys[i]? = some y)
    (hst : J.stop = fun i H => ∃ xs ys : List V, S H xs ∧ T H ys ∧ (xs.length ≤ i ∨ ys.length ≤ i)) : ItR K μ H J (jZip d e n) where
  stop := fun i μ' H' h' st rh q => by
    rw [hst]
    rcases zip_at q with ⟨_, _, _, _, z⟩ | ⟨_, p, r, e1, e2, z⟩
    · cases z
    · have s1 := s μ' H' h' st rh i p e1
      have t1 := t μ' H' h' st rh i r e2
      cases p with
      | none =>
        obtain ⟨xs, q1, l1⟩ := s1
        cases r with
        | none => obtain ⟨ys, q2, l2⟩ := t1; exact ⟨xs, ys, q1, q2, .inl l1⟩
        | some y => obtain ⟨ys, w, q2, _⟩ := t1; exact ⟨xs, ys, q1, q2, .inl l1⟩
      | some x =>
        obtain ⟨xs, w, q1, _⟩ := s1
        cases r with
        | none => obtain ⟨ys, q2, l2⟩ := t1; exact ⟨xs, ys, q1, q2, .inr l2⟩
        | some y => rcases z with z | z <;> cases z
  go := fun i μ' H' h' x st rh q => by
    rcases zip_at q with ⟨x1, y1, e1, e2, z⟩ | ⟨z, _⟩
    · cases z
      obtain ⟨xs, w1, q1, f1, d1⟩ := s μ' H' h' st rh i _ e1
      obtain ⟨ys, w2, q2, f2, d2⟩ := t μ' H' h' st rh i _ e2
      rw [hgo, hy]
      refine ⟨⟨xs, ys, w1, w2, q1, q2, f1, f2⟩, fun v H'' yy => ?_⟩
      obtain ⟨p, x, y, rfl, hp, rfl, g1, g2⟩ := yy
      have k1 := g1 xs q1
      have k2 := g2 ys q2
      rw [f1] at k1
      rw [f2] at k2
      cases k1
      cases k2
      have sn : Step μ' H' μ' (upd H' p (.tup [w1, w2])) := Step.new hp
      exact ⟨sn, rh.new hp, p, [w1, w2], rfl, upd_same, w1, [w2], rfl, d1.mono sn, w2, [], rfl, d2.mono sn, rfl⟩
    · cases z
/-- with its number -/
def jEnum (d : D) (n : Nat) : MIt := ⟨fun i h => (srcAt d i h).map fun o => o.map fun x => .tup [.int (i : Nat), x], n⟩
theorem itr_enum {n : Nat} (s : Src K (fun H' => SqL K H' a) μ H d) : ItR K μ H (Ite K a) (jEnum d n) where
  stop := fun i μ' H' h' st rh q => by
    have q : (srcAt d i h').map (fun o => o.map fun x => D.tup [.int (i : Nat), x]) = some none := q
    cases e : srcAt d i h' with
    | none => rw [e] at q; cases q
    | some o =>
      rw [e] at q
      cases o with
      | some x => cases q
      | none => exact s μ' H' h' st rh i none e
  go := fun i μ' H' h' x st rh q => by
    have q : (srcAt d i h').map (fun o => o.map fun x => D.tup [.int (i : Nat), x]) = some (some x) := q
    cases e : srcAt d i h' with
    | none => rw [e] at q; cases q
    | some o =>
      rw [e] at q
      cases o with
      | none => cases q
      | some x0 =>
        cases q
        obtain ⟨xs, w, q1, f1, d1⟩ := s μ' H' h' st rh i _ e
        refine ⟨⟨xs, w, q1, f1⟩, fun v H'' yy => ?_⟩
        obtain ⟨p, y, rfl, hp, rfl, g1⟩ := yy
        have k1 := g1 xs q1
        rw [f1] at k1
        cases k1
        have sn : Step μ' H' μ' (upd H' p (.tup [.int (i : Nat), w])) := Step.new hp
        exact ⟨sn, rh.new hp, p, _, rfl, upd_same, _, [w], rfl, rfl, w, [], rfl, d1.mono sn, rfl⟩
end
/-! ### texts -/
def sgn (c : Nat) : D := .str ⟨#[c]⟩
def jStr (z : Str) : MIt := ⟨fun i _ => some ((z.cps.toList[i]?).map sgn), z.length⟩
theorem itr_str {K : PySem.W.Frag} {μ : List Addr} {H : Hp} {z : Str} : ItR K μ H (Its z) (jStr z) where
  stop := fun i μ' H' h' st rh q => by
    have q : (z.cps.toList[i]?).map sgn = none := Option.some.inj q
    have q : z.cps.toList[i]? = none := by
      cases e : z.cps.toList[i]? with
      | none => rfl
      | some c => rw [e] at q; cases q
    have := List.getElem?_eq_none_iff.mp q
    show z.cps.size ≤ i
    simpa using this
  go := fun i μ' H' h' x st rh q => by
    have q : (z.cps.toList[i]?).map sgn = some x := Option.some.inj q
    cases e : z.cps.toList[i]? with
    | none => rw [e] at q; cases q
    | some c =>
      rw [e] at q
      cases q
      have hi : i < z.cps.size := by simpa using (List.getElem?_eq_some_iff.mp e).1
      refine ⟨hi, fun v H'' yy => ?_⟩
      obtain ⟨rfl, c', e', rfl⟩ := yy
      have : z.cps.toList[i]? = some c' := by rw [Array.getElem?_toList]; exact e'
      rw [e] at this
      cases this
      exact ⟨Step.refl, rh, rfl⟩
/-- any sequence, or a text -/
def iterA (d : D) (h : Hh) : Option MIt := match d with
  | .str z => some (jStr z)
  | d => if isTs d || isLs d h then some (jSrc d (srcLen d h)) else none
section
variable {X : Cx} {ct : Ctb} {W : WX} {tg : Expr}
theorem pi_anyM {e : Expr} {te : TE} (he : PE X e te) : L2.PI X tg e (fun σ H R => te σ H fun v H1 => (∃ z, v = .str z ∧ R (Its z) H1) ∨ (∃ a xs, v = .ref a ∧ SqL X.K H1 a xs ∧ R (Itl X.K a) H1) ∨ ∃ a xs, v = .ref a ∧ SqT X.K H1 a xs ∧ R (Itt X.K a) H1) := by
  constructor
  intro pins s σ H R I q
  refine thn (he.run pins s σ H _ I q) fun v s1 ⟨y, H1, I1, r1, q1⟩ => ?_
  have single : ∀ b ∈ [s1.heap.objs.size], FpOk X pins H1 b := fun b hb => by
    rw [List.mem_singleton.mp hb]
    exact I1.fpOk (Nat.le_refl _) (I1.hok.fresh (Nat.le_refl _))
  rcases q1 with ⟨z, ez, q1⟩ | ⟨a, xs, ea, hq, q1⟩ | ⟨a, xs, ea, hq, q1⟩
  · subst ez
    obtain ⟨t, rfl⟩ := r1
    cases ascii : z.cps.all (· < 128)
    · exact wpAny_pyIter_wide ascii (pi_one (tk := s1.toks) I1 _ (turn_str _ z t "str_iterator" (Or.inr rfl)) ⟨_, Heap.get?_push_size _ rfl, rfl, rfl⟩ q1)
    · exact wpAny_pyIter_ascii ascii (pi_one (tk := s1.toks) I1 _ (turn_str _ z t "str_ascii_iterator" (Or.inl rfl)) ⟨_, Heap.get?_push_size _ rfl, rfl, rfl⟩ q1)
  · subst ea
    cases r1
    obtain ⟨us, ru, pu, _⟩ := I1.list hq
    exact wpAny_pyIter_list pu.isList ⟨_, [s1.heap.objs.size], _, _, H1, rfl, I1.kept (t' := s1.toks) fun _ _ k => Heap.get?_push_of_some _ k, turn_list a _, ⟨_, Heap.get?_push_size _ rfl, rfl, rfl⟩, single, q1⟩
  · subst ea
    cases r1
    obtain ⟨us, ru, pu, _⟩ := I1.tuple hq
    exact wpAny_pyIter_tuple (show s1.heap.IsTuple a us.toArray from pu) ⟨_, [s1.heap.objs.size], _, _, H1, rfl, I1.kept (t' := s1.toks) fun _ _ k => Heap.get?_push_of_some _ k, turn_tuple a _, ⟨_, Heap.get?_push_size _ rfl, rfl, rfl⟩, single, q1⟩
theorem si_any {e : Expr} {m : ME} (he : SE X ct W e m) : L2.PI X tg e (rdI X.K ct W (miOf iterA m)) :=
  (pi_anyM he).imp fun σ H R ⟨μ, ρ, h, rs, rh, p⟩ => rdE.go rs rh p fun d h1 μ1 H1 v s1 rs1 rh1 dv p1 => by
    split at p1
    · rename_i j ej
      unfold iterA at ej
      split at ej
      · cases ej
        cases dv.to_str
        exact .inl ⟨_, rfl, p1.at rh1 _ itr_str⟩
      · split at ej
        · rename_i hb
          cases ej
          rcases Bool.or_eq_true_iff.mp hb with hb | hb
          · obtain ⟨a, vs, rfl, q, s⟩ := src_ts hb dv
            exact .inr (.inr ⟨a, vs, rfl, q, p1.at rh1 _ (itr_srcT s)⟩)
          · obtain ⟨a, vs, rfl, q, s⟩ := src_ls rh1 hb dv
            exact .inr (.inl ⟨a, vs, rfl, q, p1.at rh1 _ (itr_srcL s)⟩)
        · cases ej
    · exact p1.elim
/-- zip(x, y) -/
def miZip (a b : ME) : MI := fun ρ h => (a ρ h).bind fun d h1 => (b ρ h1).bind fun e h2 => if (isTs d && isTs e) || (isLs d h2 && isLs e h2) then .ok (jZip d e (min (srcLen d h2) (srcLen e h2))) h2 else .bad
theorem si_zip {e e2 : Expr} {m m2 : ME} {p pos tpos : Pos} {elts : List Expr} {kk : Nat} (hg : Gl X "zip") (hm : X.mg "zip" = none) (h1 : SE X ct W e m) (h2 : SE X ct W e2 m2)
    (hs : starEach [e, e2] X.env = (false, eval e X.env) :: starEach [e2] X.env := by rfl) (hs2 : starEach [e2] X.env = (false, eval e2 X.env) :: starEach [] X.env := by rfl) (hpl : (backTo pos (starEach [e2] X.env)).any (·.1) = false := by rfl) :
    L2.PI X (.Tuple elts kk tpos) (.Call (.Name "zip" p) [e, e2] [] pos) (rdI X.K ct W (miZip m m2)) :=
  (RZ.pi_zipA hg hm (pa_cons h1 (pa_cons h2 pa_nil hs2) hs) hs hpl).imp fun σ H R ⟨μ, ρ, h, rs, rh, p⟩ => rdE.go rs rh p fun d h1 μ1 H1 v s1 rs1 rh1 dv p1 => rdE.go rs1 rh1 p1 fun e h2 μ2 H2 w s2 rs2 rh2 dw p2 => by
    split at p2
    · rename_i hb
      rcases Bool.or_eq_true_iff.mp hb with hb | hb
      · obtain ⟨b1, b2⟩ := Bool.and_eq_true_iff.mp hb
        obtain ⟨a, vs, rfl, q, s⟩ := src_ts b1 (dv.mono s2)
        obtain ⟨b, ws, rfl, r, t⟩ := src_ts b2 dw
        exact ⟨a, b, vs, ws, rfl, .inr ⟨q, r, p2.at rh2 _ (itr_zip s t rfl rfl rfl)⟩⟩
      · obtain ⟨b1, b2⟩ := Bool.and_eq_true_iff.mp hb
        obtain ⟨a, vs, rfl, q, s⟩ := src_ls rh2 b1 (dv.mono s2)
        obtain ⟨b, ws, rfl, r, t⟩ := src_ls rh2 b2 dw
        exact ⟨a, b, vs, ws, rfl, .inl ⟨q, r, p2.at rh2 _ (itr_zip s t rfl rfl rfl)⟩⟩
    · exact p2.elim
/-- enumerate(x) -/
def miEnum (a : ME) : MI := fun ρ h => (a ρ h).bind fun d h1 => if isLs d h1 then .ok (jEnum d (srcLen d h1)) h1 else .bad
theorem si_enum {e : Expr} {m : ME} {p pos tpos : Pos} {elts : List Expr} {kk : Nat} (hg : Gl X "enumerate") (hm : X.mg "enumerate" = none) (h1 : SE X ct W e m) (hs : starEach [e] X.env = [(false, eval e X.env)] := by rfl) :
    L2.PI X (.Tuple elts kk tpos) (.Call (.Name "enumerate" p) [e] [] pos) (rdI X.K ct W (miEnum m)) :=
  (pi_enum hg hm (pa_cons h1 pa_nil hs) hs).imp fun σ H R ⟨μ, ρ, h, rs, rh, p⟩ => rdE.go rs rh p fun d h1 μ1 H1 v s1 rs1 rh1 dv p1 => by
    split at p1
    · rename_i hb
      obtain ⟨a, vs, rfl, q, s⟩ := src_ls rh1 hb dv
      exact ⟨a, vs, rfl, q, p1.at rh1 _ (itr_enum s)⟩
    · exact p1.elim
end
end PI
/-! Dicts by keys, membership, slices. -/
namespace PI
open PySem PySem.Spec L2
open PyProof.Rows hiding St
/-! ### dicts: a key's value, a store -/
section
variable {κ : Type} [DecidableEq κ]
def valD (kvs : List (κ × D)) (k : κ) : Option D := (kvs.find? fun kv => decide (kv.1 = k)).map (·.2)
def putD (kvs : List (κ × D)) (k : κ) (v : D) : List (κ × D) :=
  if (kvs.any fun kv => decide (kv.1 = k)) = true then kvs.map (fun kv => if kv.1 = k then (kv.1, v) else kv) else kvs ++ [(k, v)]
def dropD (kvs : List (κ × D)) (k : κ) : List (κ × D) := kvs.filter fun kv => decide (kv.1 ≠ k)
variable {K : PySem.W.Frag} {μ : List Addr} {H : Hp}
def OptR (K : PySem.W.Frag) (μ : List Addr) (H : Hp) (r : Option D) (w : Option V) : Prop := match r with
  | some d => ∃ v, w = some v ∧ Den K μ H d v
  | none => w = none
/-- pairs by pairs -/
def KDen (K : PySem.W.Frag) (μ : List Addr) (H : Hp) : List (κ × D) → List (κ × V) → Prop
  | [], ws => ws = []
  | p :: r, ws => ∃ v s, ws = (p.1, v) :: s ∧ Den K μ H p.2 v ∧ KDen K μ H r s
theorem kden_of : ∀ {kvs : List (κ × D)} {ws : List (κ × V)}, ws.map (·.1) = kvs.map (·.1) → Dens K μ H (kvs.map (·.2)) (ws.map (·.2)) → KDen K μ H kvs ws
  | [], ws, e, _ => by simpa [KDen] using e
  | p :: r, [], e, _ => by simp at e
  | p :: r, (k, v) :: s, e, d => by
    simp only [List.map_cons, List.cons.injEq] at e
    obtain ⟨v', vr, e1, d1, d2⟩ := d
    simp only [List.map_cons, List.cons.injEq] at e1
    obtain ⟨rfl, rfl⟩ := e1
    obtain ⟨rfl, e2⟩ := e
    exact ⟨v, s, rfl, d1, kden_of e2 d2⟩
theorem KDen.keys : ∀ {kvs : List (κ × D)} {ws : List (κ × V)}, KDen K μ H kvs ws → ws.map (·.1) = kvs.map (·.1)
  | [], ws, h => by
    have h : ws = [] := h
    rw [h]; rfl
  | p :: r, ws, h => by
    obtain ⟨v, s, rfl, _, h⟩ := h
    simp [KDen.keys h]
theorem KDen.vals : ∀ {kvs : List (κ × D)} {ws : List (κ × V)}, KDen K μ H kvs ws → Dens K μ H (kvs.map (·.2)) (ws.map (·.2))
  | [], ws, h => by
    have h : ws = [] := h
    rw [h]; rfl
  | p :: r, ws, h => by
    obtain ⟨v, s, rfl, d, h⟩ := h
    exact ⟨v, _, rfl, d, KDen.vals h⟩
theorem KDen.length {kvs : List (κ × D)} {ws : List (κ × V)} (h : KDen K μ H kvs ws) : ws.length = kvs.length := by
  have := congrArg List.length h.keys
  simpa using this
theorem KDen.val (k : κ) : ∀ {kvs : List (κ × D)} {ws : List (κ × V)}, KDen K μ H kvs ws → OptR K μ H (valD kvs k) (valV ws k)
  | [], ws, h => by
    have h : ws = [] := h
    rw [h]; rfl
  | p :: r, ws, h => by
    obtain ⟨v, s, rfl, d, h⟩ := h
    by_cases e : p.1 = k
    · have e1 : valD (p :: r) k = some p.2 := by simp [valD, List.find?_cons, e]
      rw [e1]
      exact ⟨v, valV_pos (p := (p.1, v)) e, d⟩
    · have e1 : valD (p :: r) k = valD r k := by simp [valD, List.find?_cons, e]
      rw [e1]
      have ih := KDen.val k h
      rw [valV_neg (p := (p.1, v)) e]
      exact ih
theorem KDen.any (k : κ) : ∀ {kvs : List (κ × D)} {ws : List (κ × V)}, KDen K μ H kvs ws → (ws.any fun kv => decide (kv.1 = k)) = kvs.any fun kv => decide (kv.1 = k)
  | [], ws, h => by
    have h : ws = [] := h
    rw [h]; rfl
  | p :: r, ws, h => by
    obtain ⟨v, s, rfl, d, h⟩ := h
    simp only [List.any_cons, KDen.any k h]
theorem KDen.app : ∀ {kvs qs : List (κ × D)} {ws us : List (κ × V)}, KDen K μ H kvs ws → KDen K μ H qs us → KDen K μ H (kvs ++ qs) (ws ++ us)
  | [], _, ws, _, h, g => by
    have h : ws = [] := h
    rw [h]; exact g
  | p :: r, _, ws, _, h, g => by
    obtain ⟨v, s, rfl, d, h⟩ := h
    exact ⟨v, _, rfl, d, KDen.app h g⟩
theorem KDen.over {k : κ} {d : D} {v : V} (dv : Den K μ H d v) : ∀ {kvs : List (κ × D)} {ws : List (κ × V)}, KDen K μ H kvs ws → KDen K μ H (kvs.map fun kv => if kv.1 = k then (kv.1, d) else kv) (ws.map fun kv => if kv.1 = k then (kv.1, v) else kv)
  | [], ws, h => by
    have h : ws = [] := h
    rw [h]; rfl
  | p :: r, ws, h => by
    obtain ⟨w, s, rfl, dw, h⟩ := h
    by_cases e : p.1 = k
    · simp only [List.map_cons, if_pos e]
      exact ⟨v, _, rfl, dv, KDen.over dv h⟩
    · simp only [List.map_cons, if_neg e]
      exact ⟨w, _, rfl, dw, KDen.over dv h⟩
theorem KDen.put {k : κ} {d : D} {v : V} (dv : Den K μ H d v) {kvs : List (κ × D)} {ws : List (κ × V)} (h : KDen K μ H kvs ws) : KDen K μ H (putD kvs k d) (putK ws k v) := by
  unfold putD putK
  rw [h.any k]
  split
  · exact h.over dv
  · exact h.app ⟨v, [], rfl, dv, rfl⟩
theorem KDen.drop {k : κ} : ∀ {kvs : List (κ × D)} {ws : List (κ × V)}, KDen K μ H kvs ws → KDen K μ H (dropD kvs k) (dropK ws k)
  | [], ws, h => by
    have h : ws = [] := h
    rw [h]; rfl
  | p :: r, ws, h => by
    obtain ⟨w, s, rfl, dw, h⟩ := h
    have ih := KDen.drop (k := k) h
    unfold dropD dropK at *
    by_cases e : p.1 = k
    · simp only [List.filter_cons, ne_eq, e, not_true_eq_false, decide_false, Bool.false_eq_true, if_false]
      exact ih
    · simp only [List.filter_cons, ne_eq, e, not_false_eq_true, decide_true, if_true]
      exact ⟨w, _, rfl, dw, ih⟩
theorem KDen.mono {μ1 : List Addr} {H1 : Hp} (s : Step μ H μ1 H1) : ∀ {kvs : List (κ × D)} {ws : List (κ × V)}, KDen K μ H kvs ws → KDen K μ1 H1 kvs ws
  | [], ws, h => h
  | p :: r, ws, h => by
    obtain ⟨w, s', rfl, dw, h⟩ := h
    exact ⟨w, s', rfl, dw.mono s, KDen.mono s h⟩
end
/-- a key as data -/
def keyD : D → Option Key
  | .int i => some (.inl i)
  | .str x => some (.inr x)
  | _ => none
def keysD : List D → Option (List Key)
  | [] => some []
  | d :: ds => match keyD d, keysD ds with
    | some k, some ks => some (k :: ks)
    | _, _ => none
section
variable {K : PySem.W.Frag} {μ : List Addr} {H : Hp} {h : Hh}
theorem keyD_ok {d : D} {v : V} {k : Key} (e : keyD d = some k) (dv : Den K μ H d v) : v = kV k := by
  unfold keyD at e
  split at e
  · cases e; cases dv.to_int; rfl
  · cases e; cases dv.to_str; rfl
  · cases e
theorem keysD_ok : ∀ {ds : List D} {vs : List V} {ks : List Key}, keysD ds = some ks → Dens K μ H ds vs → vs = ks.map kV
  | [], vs, ks, e, dd => by
    cases e
    have dd : vs = [] := dd
    rw [dd]; rfl
  | d :: ds, vs, ks, e, dd => by
    unfold keysD at e
    split at e
    · rename_i k ks' e1 e2
      cases e
      obtain ⟨v, vr, rfl, dv, dr⟩ := dd
      rw [keyD_ok e1 dv, keysD_ok e2 dr]
      rfl
    · cases e
theorem den_dct {i : Nat} {v : V} {kvs : List (Key × D)} (rh : RelH K μ H h) (dv : Den K μ H (.ref i) v) (hi : h[i]? = some (.dct kvs)) : ∃ a ws, v = .ref a ∧ μ[i]? = some a ∧ H a = some (.dK ws) ∧ KDen K μ H kvs ws := by
  obtain ⟨a, e, ha⟩ := dv
  obtain ⟨b, hb, vs, hv, e1, d⟩ := rh.obj i _ hi
  rw [ha] at hb
  cases hb
  exact ⟨a, vs, e, ha, hv, kden_of e1 d⟩
theorem den_dctT {i : Nat} {v : V} {kvs : List (List Key × D)} (rh : RelH K μ H h) (dv : Den K μ H (.ref i) v) (hi : h[i]? = some (.dctT kvs)) : ∃ a ws, v = .ref a ∧ μ[i]? = some a ∧ H a = some (.dT ws) ∧ KDen K μ H kvs ws := by
  obtain ⟨a, e, ha⟩ := dv
  obtain ⟨b, hb, vs, hv, e1, d⟩ := rh.obj i _ hi
  rw [ha] at hb
  cases hb
  exact ⟨a, vs, e, ha, hv, kden_of e1 d⟩
theorem den_dlk {i : Nat} {v : V} {kvs : List (Key × D)} (rh : RelH K μ H h) (dv : Den K μ H (.ref i) v) (hi : h[i]? = some (.dlk kvs)) : ∃ a o ws, v = .ref a ∧ μ[i]? = some a ∧ H a = some (.frz o (.dK ws)) ∧ KDen K μ H kvs ws := by
  obtain ⟨a, e, ha⟩ := dv
  obtain ⟨b, hb, o, vs, hv, e1, d⟩ := rh.obj i _ hi
  rw [ha] at hb
  cases hb
  exact ⟨a, o, vs, e, ha, hv, kden_of e1 d⟩
theorem den_dlkT {i : Nat} {v : V} {kvs : List (List Key × D)} (rh : RelH K μ H h) (dv : Den K μ H (.ref i) v) (hi : h[i]? = some (.dlkT kvs)) : ∃ a o ws, v = .ref a ∧ μ[i]? = some a ∧ H a = some (.frz o (.dT ws)) ∧ KDen K μ H kvs ws := by
  obtain ⟨a, e, ha⟩ := dv
  obtain ⟨b, hb, o, vs, hv, e1, d⟩ := rh.obj i _ hi
  rw [ha] at hb
  cases hb
  exact ⟨a, o, vs, e, ha, hv, kden_of e1 d⟩
/-- what stands at a key: none: it can't be told -/
def getD? (o k : D) (h : Hh) : Option (Option D) := match o with
  | .ref i => match h[i]? with
    | some (.dct kvs) => (keyD k).map fun k => valD kvs k
    | some (.dctT kvs) => match k with
      | .tup ds => (keysD ds).map fun k => valD kvs k
      | _ => none
    | some (.dlk kvs) => (keyD k).map fun k => valD kvs k
    | some (.dlkT kvs) => match k with
      | .tup ds => (keysD ds).map fun k => valD kvs k
      | _ => none
    | _ => none
  | _ => none
theorem getD_ok {o k : D} {x y : V} {r : Option D} (rh : RelH K μ H h) (dx : Den K μ H o x) (dy : Den K μ H k y) (e : getD? o k h = some r) : ∃ a w, x = .ref a ∧ DGet H a y w ∧ OptR K μ H r w := by
  cases o with
  | ref i =>
    cases hi : h[i]? with
    | none => simp [getD?, hi] at e
    | some ob =>
      cases ob with
      | lst xs => simp [getD?, hi] at e
      | dlk kvs =>
        obtain ⟨a, o, ws, rfl, _, ha, kd⟩ := den_dlk rh dx hi
        simp only [getD?, hi] at e
        cases ek : keyD k with
        | none => rw [ek] at e; cases e
        | some k' =>
          rw [ek] at e
          cases e
          cases keyD_ok ek dy
          exact ⟨a, valV ws k', rfl, .inl ⟨ws, k', .inr ⟨o, ha⟩, rfl, rfl⟩, kd.val k'⟩
      | dlkT kvs =>
        obtain ⟨a, o, ws, rfl, _, ha, kd⟩ := den_dlkT rh dx hi
        simp only [getD?, hi] at e
        cases k with
        | tup ds =>
          obtain ⟨b, vs, rfl, hb, dd⟩ := dy
          dsimp only at e
          cases ek : keysD ds with
          | none => rw [ek] at e; cases e
          | some k' =>
            rw [ek] at e
            cases e
            cases keysD_ok ek dd
            exact ⟨a, valV ws k', rfl, .inr ⟨ws, k', b, .inr ⟨o, ha⟩, rfl, hb, rfl⟩, kd.val k'⟩
        | _ => cases e
      | dct kvs =>
        obtain ⟨a, ws, rfl, _, ha, kd⟩ := den_dct rh dx hi
        simp only [getD?, hi] at e
        cases ek : keyD k with
        | none => rw [ek] at e; cases e
        | some k' =>
          rw [ek] at e
          cases e
          cases keyD_ok ek dy
          exact ⟨a, valV ws k', rfl, DGet.k ha, kd.val k'⟩
      | dctT kvs =>
        obtain ⟨a, ws, rfl, _, ha, kd⟩ := den_dctT rh dx hi
        simp only [getD?, hi] at e
        cases k with
        | tup ds =>
          obtain ⟨b, vs, rfl, hb, dd⟩ := dy
          dsimp only at e
          cases ek : keysD ds with
          | none => rw [ek] at e; cases e
          | some k' =>
            rw [ek] at e
            cases e
            cases keysD_ok ek dd
            exact ⟨a, valV ws k', rfl, DGet.t ha hb, kd.val k'⟩
        | _ => cases e
  | _ => simp [getD?] at e
def setD? (o k v : D) (h : Hh) : Option Hh := match o with
  | .ref i => match h[i]? with
    | some (.dct kvs) => match keyD k with
      | some k => if kvs.length < sizeLine then some (h.set i (.dct (putD kvs k v))) else none
      | none => none
    | some (.dctT kvs) => match k with
      | .tup ds => match keysD ds with
        | some k => if kvs.length < sizeLine then some (h.set i (.dctT (putD kvs k v))) else none
        | none => none
      | _ => none
    | _ => none
  | _ => none
theorem setD_ok {o k d : D} {x y v : V} {h' : Hh} (rh : RelH K μ H h) (dx : Den K μ H o x) (dy : Den K μ H k y) (dv : Den K μ H d v) (e : setD? o k d h = some h') : ∃ a H', x = .ref a ∧ DPut H a y v H' ∧ Step μ H μ H' ∧ RelH K μ H' h' := by
  cases o with
  | ref i =>
    cases hi : h[i]? with
    | none => simp [setD?, hi] at e
    | some ob =>
      cases ob with
      | lst xs => simp [setD?, hi] at e
      | dlk xs => simp [setD?, hi] at e
      | dlkT xs => simp [setD?, hi] at e
      | dct kvs =>
        obtain ⟨a, ws, rfl, ha, hw, kd⟩ := den_dct rh dx hi
        simp only [setD?, hi] at e
        cases ek : keyD k with
        | none => rw [ek] at e; cases e
        | some k' =>
          rw [ek] at e
          dsimp only at e
          split at e
          · rename_i hl
            cases e
            cases keyD_ok ek dy
            have sp : Step μ H μ (upd H a (.dK (putK ws k' v))) := Step.set hw (fun _ z => by cases z) (fun _ _ z => by cases z) (fun _ z => by cases z)
            have kp := (kd.put (k := k') dv).mono sp
            exact ⟨a, _, rfl, DPut.k hw (by rw [kd.length]; exact hl), sp, rh.put hi ha ⟨_, upd_same, kp.keys, kp.vals⟩⟩
          · cases e
      | dctT kvs =>
        obtain ⟨a, ws, rfl, ha, hw, kd⟩ := den_dctT rh dx hi
        simp only [setD?, hi] at e
        cases k with
        | tup ds =>
          obtain ⟨b, vs, rfl, hb, dd⟩ := dy
          dsimp only at e
          cases ek : keysD ds with
          | none => rw [ek] at e; cases e
          | some k' =>
            rw [ek] at e
            dsimp only at e
            split at e
            · rename_i hl
              cases e
              cases keysD_ok ek dd
              have sp : Step μ H μ (upd H a (.dT (putK ws k' v))) := Step.set hw (fun _ z => by cases z) (fun _ _ z => by cases z) (fun _ z => by cases z)
              have kp := (kd.put (k := k') dv).mono sp
              exact ⟨a, _, rfl, DPut.t hw hb (by rw [kd.length]; exact hl), sp, rh.put hi ha ⟨_, upd_same, kp.keys, kp.vals⟩⟩
            · cases e
        | _ => cases e
  | _ => simp [setD?] at e
end
section
variable {X : Cx} {ct : Ctb} {W : WX}
theorem ix_dictM (hu : X.A.units + 1 < cLine) : IxR X (fun x y H Q => ∃ a v, x = .ref a ∧ DGet H a y (some v) ∧ Q v H) := by
  rintro value slice pins s σ H x y ov iv Q I rx ry ⟨a, z, rfl, g, q⟩ hs
  obtain rfl : ov = Value.ref a := rx
  have isd := dict_typeIs I g
  unfold subscriptTail
  refine wpAny_bind ?_
  rw [getitemInPython_of_ne isd.not_modules]
  refine wpAny_bind (wpAny_specialOf isd PySem.F.slot_dict_getitem.lookup ?_)
  have last : wpAny (model X.prog X.w) X.A (subscripted slice false (.ref a) iv) (fun r s₃ => wpAny (model X.prog X.w) X.A (letTemporaryGo value (.ref a) r >>= fun _ => pure r) (EP X pins σ Q) X.xe s₃) X.xe s := by
    rw [hs]
    exact wpAny_operating (d_getItem hu I g ry fun w s1 I1 r1 => wpAny_bind (wpAny_letTemporaryGo (wpAny_pure ⟨z, H, I1, r1, q⟩)))
  first
    | exact wpAny_bind (wpAny_pure (wpAny_bind last))
    | exact wpAny_pure (wpAny_bind last)
    | exact wpAny_bind last
/-- any o[i] -/
def oGet : G2 := fun o i h => match getD? o i h with
  | some r => r.map fun d => (d, h)
  | none => oIx o i h
theorem ix_A {k : Nat} (hr : Room k X.A) : IxR X (r2 X.K oGet) := by
  intro value slice pins s σ H x y v u Q I rx ry ⟨μ, h, a, b, da, db, rh, p⟩ hs
  unfold oGet at p
  split at p
  · rename_i r e
    obtain ⟨c, w, rfl, g, q⟩ := getD_ok rh da db e
    cases r with
    | none => exact p.elim
    | some d =>
      obtain ⟨z, rfl, dz⟩ := q
      exact ix_dictM (hu_of hr) value slice pins s σ H _ _ v u Q I rx ry ⟨c, z, rfl, g, p.fin rh dz⟩ hs
  · exact ix_M value slice pins s σ H x y v u Q I rx ry ⟨μ, h, a, b, da, db, rh, p⟩ hs
/-- any o[i] = v -/
def oPut : D → D → D → Hh → Option Hh := fun o i v h => match oSet o i v h with
  | some h' => some h'
  | none => setD? o i v h
theorem set_A {k : Nat} (hr : Room k X.A) : PSet X (rset X.K oPut) := by
  intro pins s σ H o i v ov iv u Q I ro ri rv ⟨μ, h, a, b, c, da, db, dc, rh, p⟩
  unfold oPut at p
  cases e : oSet a b c h with
  | some h' => rw [e] at p; exact set_M pins s σ H o i v ov iv u Q I ro ri rv ⟨μ, h, a, b, c, da, db, dc, rh, by rw [e]; exact p⟩
  | none =>
    rw [e] at p
    have p : match setD? a b c h with
      | some h' => ∀ μ' H', Step μ H μ' H' → RelH X.K μ' H' h' → Q H'
      | none => False := p
    cases e2 : setD? a b c h with
    | none => rw [e2] at p; exact p.elim
    | some h' =>
      rw [e2] at p
      obtain ⟨d, H', rfl, g, st, r⟩ := setD_ok rh da db dc e2
      obtain rfl : ov = Value.ref d := ro
      exact d_setItem (hu_of hr) I g ri rv fun s1 I1 => ⟨H', I1, p μ H' st r⟩
end
end PI
/-! Membership, slices, list methods, built-ins over lists. -/
namespace PI
open PySem PySem.Spec L2
open PyProof.Rows hiding St
/-! ### membership -/
/-- the items of a sequence as they stand -/
def seqD (h : Hh) : D → Option (List D)
  | .tup xs => some xs
  | .rot xs => some xs
  | .rol xs => some xs
  | .ref a => match h[a]? with
    | some (.lst xs) => some xs
    | _ => none
  | _ => none
def inSeq (a b : D) (h : Hh) : Option Bool := match seqD h b with
  | some xs => match toPy h 62 a, toPys h 62 xs with
    | some d, some ds => if d.canLay0 = true ∧ d.depth ≤ 63 ∧ PyData.canLayAll0 ds = true then some (ds.any fun z => PyData.eqv z d) else none
    | _, _ => none
  | none => none
def inStr : D → D → Option Bool
  | .str x, .str z => if x.length = 1 then some (decide (x.cps.toList.headD 0 ∈ z.cps.toList)) else some (!(Builtin.Str.occurrences z x 0 z.length 1).isEmpty)
  | _, _ => none
def oInB (a b : D) (h : Hh) : Option Bool := match inStr a b with
  | some r => some r
  | none => match getD? b a h with
    | some r => some r.isSome
    | none => inSeq a b h
def oIn : G2 := fun a b h => (oInB a b h).map fun r => (.bl r, h)
def oNotIn : G2 := fun a b h => (oInB a b h).map fun r => (.bl (!r), h)
section
variable {X : Cx} {ct : Ctb} {W : WX}
theorem one_sign {x : Str} (h : x.length = 1) : x = ⟨#[x.cps.toList.headD 0]⟩ := by
  obtain ⟨⟨l⟩⟩ := x
  have h : l.length = 1 := h
  match l, h with
  | [c], _ => rfl
theorem seqD_ok {K : PySem.W.Frag} {μ : List Addr} {H : Hp} {h : Hh} {d : D} {v : V} {xs : List D} (rh : RelH K μ H h) (dv : Den K μ H d v) (e : seqD h d = some xs) : ∃ a vs, v = .ref a ∧ (SqL K H a vs ∨ SqT K H a vs) ∧ Dens K μ H xs vs := by
  cases d with
  | tup ys =>
    cases e
    obtain ⟨a, vs, rfl, q, dd⟩ := dv
    exact ⟨a, vs, rfl, .inr (SqT.of q), dd⟩
  | rot ys =>
    cases e
    obtain ⟨a, vs, rfl, q, dd⟩ := dv
    exact ⟨a, vs, rfl, .inr q, dd⟩
  | rol ys =>
    cases e
    obtain ⟨a, vs, rfl, q, dd⟩ := dv
    exact ⟨a, vs, rfl, .inl q.sq, dd⟩
  | ref i =>
    have e : (match h[i]? with | some (.lst xs) => some xs | _ => none) = some xs := e
    split at e
    · rename_i ys hi
      cases e
      obtain ⟨a, vs, rfl, _, q, dd⟩ := den_lst rh dv hi
      exact ⟨a, vs, rfl, .inl (SqL.of q), dd⟩
    · cases e
  | _ => cases e
theorem inSeq_ok {pins : List (Addr × Obj)} {s : Shared} {σ : L2.St} {H : Hp} {x y : V} {v u : Value} {Q : VK} {μ : List Addr} {h : Hh} {a b : D} {r neg : Bool} {k : Nat} (hr : Room k X.A) (I : L2.Inv X pins σ H s) (rx : RelV x v) (ry : RelV y u) (da : Den X.K μ H a x) (db : Den X.K μ H b y) (rh : RelH X.K μ H h) (e : inSeq a b h = some r)
    (q : Q (.bl (if neg then !r else r)) H) : wpAny (model X.prog X.w) X.A (compareOp (if neg then .NotIn else .In) v u) (EP X pins σ Q) X.xe s := by
  unfold inSeq at e
  split at e
  · rename_i xs exs
    split at e
    · rename_i d ds ed eds
      split at e
      · rename_i c
        obtain ⟨c1, c2, c3⟩ := c
        cases e
        obtain ⟨p, vs, rfl, sq, dd⟩ := seqD_ok rh db exs
        obtain ⟨as, r1⟩ := Dp.reads I d x v (toPy_dp rh _ _ _ _ ed da) rx
        have ha := toPys_dp rh _ _ _ _ eds dd
        have hu : X.A.units + 1 + min (PyData.depthAll ds) d.depth < cLine := by have := hr.units; omega
        rcases sq with sq | sq
        · obtain ⟨bs, r2⟩ := Dp.reads I (.list ds) _ u (.lst sq ha) ry
          cases neg
          · exact SeqAt.in_list_reads r2 r1 c3 c1 hu ⟨.bl _, H, I, rfl, q⟩
          · exact SeqAt.notIn_list_reads r2 r1 c3 c1 hu ⟨.bl _, H, I, rfl, q⟩
        · obtain ⟨bs, r2⟩ := Dp.reads I (.tuple ds) _ u (.tup sq ha) ry
          cases neg
          · exact SeqAt.in_tuple_reads r2 r1 c3 c1 hu ⟨.bl _, H, I, rfl, q⟩
          · exact SeqAt.notIn_tuple_reads r2 r1 c3 c1 hu ⟨.bl _, H, I, rfl, q⟩
      · cases e
    · cases e
  · cases e
theorem op_inA {k : Nat} (hr : Room k X.A) : OpR X (compareOp .In) (r2 X.K oIn) := by
  intro pins s σ H x y v u Q I rx ry ⟨μ, h, a, b, da, db, rh, p⟩
  unfold oIn oInB at p
  cases e1 : inStr a b with
  | some r =>
    rw [e1] at p
    unfold inStr at e1
    split at e1
    · cases da.to_str
      cases db.to_str
      split at e1
      · rename_i x z hl
        cases e1
        have sg := one_sign hl
        generalize hc : x.cps.toList.headD 0 = c at *
        subst sg
        exact op_in_sign pins s σ H _ _ v u Q I rx ry ⟨c, z, rfl, rfl, p.fin rh rfl⟩
      · cases e1
        exact op_in_str pins s σ H _ _ v u Q I rx ry ⟨_, _, rfl, rfl, p.fin rh rfl⟩
    · cases e1
  | none =>
    rw [e1] at p
    dsimp only at p
    cases e2 : getD? b a h with
    | some r =>
      rw [e2] at p
      obtain ⟨c, w, rfl, g, q⟩ := getD_ok rh db da e2
      obtain rfl : u = Value.ref c := ry
      have ew : w.isSome = r.isSome := by
        cases r with
        | none => have q : w = none := q; rw [q]; rfl
        | some d => obtain ⟨z, rfl, _⟩ := q; rfl
      exact d_in (hu_of hr) I g rx fun s1 I1 => ⟨.bl _, H, I1, rfl, p.fin rh (by rw [ew]; rfl)⟩
    | none =>
      rw [e2] at p
      dsimp only at p
      cases e3 : inSeq a b h with
      | none => rw [e3] at p; exact p.elim
      | some r =>
        rw [e3] at p
        exact inSeq_ok (neg := false) hr I rx ry da db rh e3 (p.fin rh rfl)
theorem op_notInA {k : Nat} (hr : Room k X.A) : OpR X (compareOp .NotIn) (r2 X.K oNotIn) := by
  intro pins s σ H x y v u Q I rx ry ⟨μ, h, a, b, da, db, rh, p⟩
  unfold oNotIn oInB at p
  cases e1 : inStr a b with
  | some r =>
    rw [e1] at p
    unfold inStr at e1
    split at e1
    · cases da.to_str
      cases db.to_str
      split at e1
      · rename_i x z hl
        cases e1
        have sg := one_sign hl
        generalize hc : x.cps.toList.headD 0 = c at *
        subst sg
        exact op_notIn_sign pins s σ H _ _ v u Q I rx ry ⟨c, z, rfl, rfl, p.fin rh rfl⟩
      · cases e1
        exact op_notin_str pins s σ H _ _ v u Q I rx ry ⟨_, _, rfl, rfl, p.fin rh rfl⟩
    · cases e1
  | none =>
    rw [e1] at p
    dsimp only at p
    cases e2 : getD? b a h with
    | some r =>
      rw [e2] at p
      obtain ⟨c, w, rfl, g, q⟩ := getD_ok rh db da e2
      obtain rfl : u = Value.ref c := ry
      have ew : w.isSome = r.isSome := by
        cases r with
        | none => have q : w = none := q; rw [q]; rfl
        | some d => obtain ⟨z, rfl, _⟩ := q; rfl
      exact d_notIn (hu_of hr) I g rx fun s1 I1 => ⟨.bl _, H, I1, rfl, p.fin rh (by rw [ew]; rfl)⟩
    | none =>
      rw [e2] at p
      dsimp only at p
      cases e3 : inSeq a b h with
      | none => rw [e3] at p; exact p.elim
      | some r =>
        rw [e3] at p
        exact inSeq_ok (neg := true) hr I rx ry da db rh e3 (p.fin rh rfl)
/-! ### slices -/
def cutD (xs : List D) (lo hi : Option Int) : List D := (xs.drop (HT.sIx xs.length 0 lo)).take (HT.sIx xs.length xs.length hi - HT.sIx xs.length 0 lo)
def oSl (d : D) (lo hi : Option Int) (h : Hh) : Option (D × Hh) := match d with
  | .str z => if z.length ≤ sizeLine then some (.str (cutS z lo hi), h) else none
  | .tup xs => some (.tup (cutD xs lo hi), h)
  | .rot xs => if HT.sIx xs.length 0 lo = 0 ∧ HT.sIx xs.length xs.length hi = xs.length then some (.rot xs, h) else some (.tup (cutD xs lo hi), h)
  | .rol xs => some (.ref h.length, h ++ [.lst (cutD xs lo hi)])
  | .ref a => match h[a]? with
    | some (.lst xs) => some (.ref h.length, h ++ [.lst (cutD xs lo hi)])
    | _ => none
  | _ => none
theorem Dens.cut {K : PySem.W.Frag} {μ : List Addr} {H : Hp} {xs : List D} {vs : List V} {lo hi : Option Int} (dd : Dens K μ H xs vs) : Dens K μ H (cutD xs lo hi) (cutV vs lo hi) := by
  unfold cutD cutV
  rw [dd.length]
  exact (dd.drop _).take _
def rSlM (K : PySem.W.Frag) : V → Option Int → Option Int → Hp → VK → Prop := fun x lo hi H Q => ∃ μ h a, Den K μ H a x ∧ RelH K μ H h ∧ POo K μ H (fun d _ μ' H' => ∀ v, Den K μ' H' d v → Q v H') (oSl a lo hi h)
theorem cut_all {α : Type} {xs : List α} {lo hi : Nat} (h : lo = 0 ∧ hi = xs.length) : (xs.drop lo).take (hi - lo) = xs := by
  obtain ⟨rfl, rfl⟩ := h
  simp
theorem sl_M : SlR X (rSlM X.K) := by
  intro pins s σ H x v vl vu lo hi sl Q I rx hs pl pu ⟨μ, h, a, da, rh, p⟩
  unfold oSl at p
  split at p
  · cases da.to_str
    split at p
    · rename_i hl
      exact sl_str pins s σ H _ v vl vu lo hi sl Q I rx hs pl pu ⟨_, rfl, hl, p.fin rh rfl⟩
    · exact p.elim
  · rename_i xs
    obtain ⟨c, vs, rfl, q, dd⟩ := da
    refine sl_tupA pins s σ H _ v vl vu lo hi sl Q I rx hs pl pu ⟨c, vs, rfl, SqT.of q, fun e => ?_, fun _ pp hp => p.finT rh dd.cut pp hp⟩
    have ec : cutD xs lo hi = xs := by
      unfold cutD
      rw [dd.length] at e
      exact cut_all e
    rw [ec] at p
    exact p.fin rh ⟨c, vs, rfl, q, dd⟩
  · rename_i xs
    obtain ⟨c, vs, rfl, q, dd⟩ := da
    refine sl_tupA pins s σ H _ v vl vu lo hi sl Q I rx hs pl pu ⟨c, vs, rfl, q, fun e => ?_, fun e pp hp => ?_⟩
    · rw [dd.length] at e
      rw [if_pos e] at p
      exact p.fin rh ⟨c, vs, rfl, q, dd⟩
    · rw [dd.length] at e
      rw [if_neg e] at p
      exact p.finT rh dd.cut pp hp
  · obtain ⟨c, vs, rfl, q, dd⟩ := da
    exact sl_list pins s σ H _ v vl vu lo hi sl Q I rx hs pl pu ⟨c, vs, rfl, q.sq, fun pp hp => p.finL rh dd.cut pp hp⟩
  · split at p
    · rename_i hi'
      obtain ⟨c, vs, rfl, _, q, dd⟩ := den_lst rh da hi'
      exact sl_list pins s σ H _ v vl vu lo hi sl Q I rx hs pl pu ⟨c, vs, rfl, SqL.of q, fun pp hp => p.finL rh dd.cut pp hp⟩
    · exact p.elim
  · exact p.elim
/-- a bound, or none -/
abbrev MO := Rho → Hh → Out (Option Int)
def moN : MO := fun _ h => .ok none h
def moS (m : ME) : MO := fun ρ h => (m ρ h).bind fun d h1 => match d with
  | .int i => .ok (some i) h1
  | _ => .bad
def rdO (K : PySem.W.Frag) (ct : Ctb) (W : WX) (m : MO) : TO := fun σ H Q => ∃ μ ρ h, RelS K μ H ρ σ ∧ RelH K μ H h ∧ PO K ct W σ μ H (fun o _ μ' H' => Q o H') (m ρ h)
theorem so_none : L2.PO X none (rdO X.K ct W moN) := by
  constructor
  intro pins s σ H Q I ⟨μ, ρ, h, rs, rh, p⟩
  exact po_none.run pins s σ H Q I (p.at rh)
theorem so_some {e : Expr} {m : ME} (he : SE X ct W e m) : L2.PO X (some e) (rdO X.K ct W (moS m)) := by
  constructor
  intro pins s σ H Q I ⟨μ, ρ, h, rs, rh, p⟩
  refine (po_some he).run pins s σ H Q I (rdE.go rs rh p fun d h1 μ1 H1 v s1 rs1 rh1 dv p1 => ?_)
  split at p1
  · cases dv.to_int
    exact ⟨_, rfl, p1.at rh1⟩
  · exact p1.elim
def mSl (m : ME) (lo hi : MO) : ME := fun ρ h => (m ρ h).bind fun d h1 => (lo ρ h1).bind fun l h2 => (hi ρ h2).bind fun u h3 => Out.ofO (oSl d l u h3)
theorem se_sl {e : Expr} {lo hi : Option Expr} {m : ME} {ml mh : MO} {p2 pos : Pos} (he : SE X ct W e m) (hl : L2.PO X lo (rdO X.K ct W ml)) (hh : L2.PO X hi (rdO X.K ct W mh)) : SE X ct W (.Subscript e (.Slice lo hi none p2) pos) (mSl m ml mh) :=
  (pe_slice sl_M he hl hh).imp fun σ H Q ⟨μ, ρ, h, rs, rh, p⟩ => rdE.go rs rh p fun d h1 μ1 H1 v s1 rs1 rh1 dv p1 =>
    ⟨μ1, ρ, h1, rs1, rh1, (PO.bind p1).mono fun l h2 μ2 H2 s2 rh2 p2 => ⟨μ2, ρ, h2, rs1.mono s2, rh2, (PO.bind p2).mono fun u h3 μ3 H3 s3 rh3 p3 => ⟨μ3, h3, d, (dv.mono s2).mono s3, rh3, p3.ofO⟩⟩⟩
/-! ### methods of lists -/
def lPop : D → List D → Hh → Option (D × Hh)
  | .ref i, [], h => match h[i]? with
    | some (.lst xs) => (xs[xs.length - 1]?).map fun d => (d, h.set i (.lst xs.dropLast))
    | _ => none
  | _, _, _ => none
def lPopAt : D → List D → Hh → Option (D × Hh)
  | .ref i, [.int k], h => match h[i]? with
    | some (.lst xs) => if -(2 ^ 63) ≤ k ∧ k < 2 ^ 63 then (seqIndex? k xs.length).bind fun j => (xs[j]?).map fun d => (d, h.set i (.lst (xs.eraseIdx j))) else none
    | _ => none
  | _, _, _ => none
def lInsert : D → List D → Hh → Option (D × Hh)
  | .ref i, [.int k, d], h => match h[i]? with
    | some (.lst xs) => if xs.length < sizeLine ∧ 0 ≤ k ∧ k < 2 ^ 63 then some (.non, h.set i (.lst (xs.take k.toNat ++ [d] ++ xs.drop k.toNat))) else none
    | _ => none
  | _, _, _ => none
def lExtend : D → List D → Hh → Option (D × Hh)
  | .ref i, [.ref j], h => match h[i]?, h[j]? with
    | some (.lst xs), some (.lst ys) => if xs.length + ys.length ≤ sizeLine then some (.non, h.set i (.lst (xs ++ ys))) else none
    | _, _ => none
  | _, _, _ => none
theorem Dens.last {K : PySem.W.Frag} {μ : List Addr} {H : Hp} {xs : List D} {vs : List V} (dd : Dens K μ H xs vs) : Dens K μ H xs.dropLast vs.dropLast := by
  rw [List.dropLast_eq_take, List.dropLast_eq_take, dd.length]
  exact dd.take _
theorem Dens.erase {K : PySem.W.Frag} {μ : List Addr} {H : Hp} {xs : List D} {vs : List V} (j : Nat) (dd : Dens K μ H xs vs) : Dens K μ H (xs.eraseIdx j) (vs.eraseIdx j) := by
  rw [List.eraseIdx_eq_take_drop_succ, List.eraseIdx_eq_take_drop_succ]
  exact (dd.take _).append (dd.drop _)
theorem Dens.zero {K : PySem.W.Frag} {μ : List Addr} {H : Hp} {vs : List V} (h : Dens K μ H [] vs) : vs = [] := h
theorem mt_popM : MtM X "list.pop" (rM X.K lPop) := by
  intro pins s σ H x xs v us Q I rx rv ⟨μ, h, a, as, da, das, rh, p⟩
  unfold lPop at p
  split at p
  · split at p
    · rename_i ys hi
      cases e : ys[ys.length - 1]? with
      | none => rw [e] at p; exact p.elim
      | some d =>
        rw [e] at p
        obtain ⟨b, vs, rfl, ha, hv, dd⟩ := den_lst rh da hi
        obtain ⟨w, ew, dw⟩ := dd.get e
        obtain ⟨st, r⟩ := put_lst rh hi ha hv dd.last
        exact mt_pop pins s σ H _ _ v us Q I rx rv ⟨b, vs, w, rfl, das.zero, hv, by rw [dd.length]; exact ew, p _ _ st r _ (dw.mono st)⟩
    · exact p.elim
  · exact p.elim
theorem mt_popAtM : MtM X "list.pop" (rM X.K lPopAt) := by
  intro pins s σ H x xs v us Q I rx rv ⟨μ, h, a, as, da, das, rh, p⟩
  unfold lPopAt at p
  split at p
  · split at p
    · rename_i ys hi
      split at p
      · rename_i hb
        cases ej : seqIndex? _ ys.length with
        | none => rw [ej] at p; exact p.elim
        | some j =>
          rw [ej] at p
          simp only [Option.bind_some] at p
          cases e : ys[j]? with
          | none => rw [e] at p; exact p.elim
          | some d =>
            rw [e] at p
            obtain ⟨b, vs, rfl, ha, hv, dd⟩ := den_lst rh da hi
            obtain ⟨k, rfl, dk⟩ := dens1 das
            cases dk.to_int
            obtain ⟨w, ew, dw⟩ := dd.get e
            obtain ⟨st, r⟩ := put_lst rh hi ha hv (dd.erase j)
            exact mt_popAt pins s σ H _ _ v us Q I rx rv ⟨b, vs, _, j, w, rfl, rfl, hv, hb.1, hb.2, by rw [dd.length]; exact ej, ew, p _ _ st r _ (dw.mono st)⟩
      · exact p.elim
    · exact p.elim
  · exact p.elim
theorem mt_insertM : MtR X "list.insert" (rM X.K lInsert) := by
  intro pins s σ H x xs v us Q I rx rv ⟨μ, h, a, as, da, das, rh, p⟩
  unfold lInsert at p
  split at p
  · rename_i k d
    split at p
    · rename_i ys hi
      split at p
      · rename_i hb
        obtain ⟨b, vs, rfl, ha, hv, dd⟩ := den_lst rh da hi
        obtain ⟨kk, w, rfl, dk, dw⟩ := dens2 das
        cases dk.to_int
        have one : Dens X.K μ H [d] [w] := ⟨w, [], rfl, dw, rfl⟩
        have dn := ((dd.take k.toNat).append one).append (dd.drop k.toNat)
        obtain ⟨st, r⟩ := put_lst rh hi ha hv dn
        exact mt_insert pins s σ H _ _ v us Q I rx rv ⟨b, vs, _, w, rfl, rfl, hv, by rw [dd.length]; exact hb.1, hb.2.1, hb.2.2, p _ _ st r _ rfl⟩
      · exact p.elim
    · exact p.elim
  · exact p.elim
theorem mt_extendM : MtM X "list.extend" (rM X.K lExtend) := by
  intro pins s σ H x xs v us Q I rx rv ⟨μ, h, a, as, da, das, rh, p⟩
  unfold lExtend at p
  split at p
  · split at p
    · rename_i hi hj
      split at p
      · rename_i hl
        obtain ⟨b, vs, rfl, ha, hv, dd⟩ := den_lst rh da hi
        obtain ⟨w, rfl, dw⟩ := dens1 das
        obtain ⟨c, ws, rfl, hc, hw, de⟩ := den_lst rh dw hj
        obtain ⟨st, r⟩ := put_lst rh hi ha hv (dd.append de)
        exact mt_extend pins s σ H _ _ v us Q I rx rv ⟨b, c, vs, ws, rfl, rfl, hv, hw, by rw [dd.length, de.length]; exact hl, p _ _ st r _ rfl⟩
      · exact p.elim
    · exact p.elim
  · exact p.elim
/-- a method of a list, without arguments -/
theorem se_lm0 {o : Expr} {name : Str} {id : String} {apos cpos : Pos} {g : D → List D → Hh → Option (D × Hh)} {mo : ME} (slot : Slot "list" name id) (hty : typeOf (.builtin id) = pure (.type "method_descriptor")) (hm : MtR X id (rM X.K g)) (ho : SE X ct W o mo)
    (hbase : attributeBase o name X.env (eval o X.env) = eval o X.env := by rfl) (hline : (apos.endLine == cpos.line) = true := by rfl) : SE X ct W (.Call (.Attribute o name apos) [] [] cpos) (mMset g mo mNil) := by
  refine L2.PE.imp (pe_bm0 PySem.F.plainAttrs_list slot hty hm ho hbase hline) fun σ H Q ⟨μ, ρ, h, rs, rh, p⟩ => rdE.go rs rh p fun d h1 μ1 H1 v s1 rs1 rh1 dv p1 => ?_
  split at p1
  · rename_i i
    split at p1
    · rename_i xs hi
      obtain ⟨a, vs, rfl, ha, hv, dd⟩ := den_lst rh1 dv hi
      have p1 : PO X.K ct W σ μ1 H1 _ (Out.ofO (g (.ref i) [] h1)) := p1
      exact ⟨.inl ⟨rfl, vs, SqL.of hv⟩, μ1, h1, .ref i, [], dv, rfl, rh1, p1.ofO⟩
    · exact p1.elim
  · exact p1.elim
/-! ### over lists -/
def boolsD : List D → Option (List Bool)
  | [] => some []
  | .bl b :: ds => (boolsD ds).map (b :: ·)
  | _ :: _ => none
def intsD : List D → Option (List Int)
  | [] => some []
  | .int b :: ds => (intsD ds).map (b :: ·)
  | _ :: _ => none
theorem boolsD_eq : ∀ {ds : List D} {bs : List Bool}, boolsD ds = some bs → ds = bs.map D.bl
  | [], bs, e => by cases e; rfl
  | .bl b :: ds, bs, e => by
    unfold boolsD at e
    cases q : boolsD ds with
    | none => rw [q] at e; cases e
    | some r => rw [q] at e; cases e; rw [boolsD_eq q]; rfl
  | .non :: _, _, e => by cases e
  | .int _ :: _, _, e => by cases e
  | .str _ :: _, _, e => by cases e
  | .tup _ :: _, _, e => by cases e
  | .rot _ :: _, _, e => by cases e
  | .rol _ :: _, _, e => by cases e
  | .ref _ :: _, _, e => by cases e
  | .ex _ :: _, _, e => by cases e
theorem intsD_eq : ∀ {ds : List D} {bs : List Int}, intsD ds = some bs → ds = bs.map D.int
  | [], bs, e => by cases e; rfl
  | .int b :: ds, bs, e => by
    unfold intsD at e
    cases q : intsD ds with
    | none => rw [q] at e; cases e
    | some r => rw [q] at e; cases e; rw [intsD_eq q]; rfl
  | .non :: _, _, e => by cases e
  | .bl _ :: _, _, e => by cases e
  | .str _ :: _, _, e => by cases e
  | .tup _ :: _, _, e => by cases e
  | .rot _ :: _, _, e => by cases e
  | .rol _ :: _, _, e => by cases e
  | .ref _ :: _, _, e => by cases e
  | .ex _ :: _, _, e => by cases e
theorem Dens.bools {K : PySem.W.Frag} {μ : List Addr} {H : Hp} : ∀ {bs : List Bool} {vs : List V}, Dens K μ H (bs.map D.bl) vs → vs = bs.map V.bl
  | [], vs, h => h
  | b :: bs, vs, h => by
    obtain ⟨v, r, rfl, d, h⟩ := h
    cases d.to_bl
    rw [Dens.bools h]; rfl
theorem Dens.ints' {K : PySem.W.Frag} {μ : List Addr} {H : Hp} : ∀ {bs : List Int} {vs : List V}, Dens K μ H (bs.map D.int) vs → vs = bs.map V.int
  | [], vs, h => h
  | b :: bs, vs, h => by
    obtain ⟨v, r, rfl, d, h⟩ := h
    cases d.to_int
    rw [Dens.ints' h]; rfl
def bAll : GN
  | [d], h => if isLs d h = true then (seqD h d).bind fun xs => (boolsD xs).map fun bs => (.bl (bs.all id), h) else none
  | _, _ => none
def bAny : GN
  | [d], h => if isLs d h = true then (seqD h d).bind fun xs => (boolsD xs).map fun bs => (.bl (bs.any id), h) else none
  | _, _ => none
def bSum : GN
  | [d], h => if isLs d h = true then (seqD h d).bind fun xs => (intsD xs).map fun bs => (.int bs.sum, h) else none
  | _, _ => none
theorem seqL_ok {K : PySem.W.Frag} {μ : List Addr} {H : Hp} {h : Hh} {d : D} {v : V} {xs : List D} (rh : RelH K μ H h) (dv : Den K μ H d v) (l : isLs d h = true) (e : seqD h d = some xs) : ∃ a vs, v = .ref a ∧ SqL K H a vs ∧ Dens K μ H xs vs := by
  cases d with
  | rol ys =>
    cases e
    obtain ⟨a, vs, rfl, q, dd⟩ := dv
    exact ⟨a, vs, rfl, q.sq, dd⟩
  | ref i =>
    have e : (match h[i]? with | some (.lst xs) => some xs | _ => none) = some xs := e
    split at e
    · rename_i ys hi
      cases e
      obtain ⟨a, vs, rfl, _, q, dd⟩ := den_lst rh dv hi
      exact ⟨a, vs, rfl, SqL.of q, dd⟩
    · cases e
  | _ => cases l
theorem cr_allM (hc : X.calm = true) : CallR X (.builtin "all") (rN X.K bAll) := by
  intro pins s σ H xs us Q I r ⟨μ, h, as, da, rh, p⟩
  unfold bAll at p
  split at p
  · split at p
    · rename_i hl
      cases e : seqD h _ with
      | none => rw [e] at p; exact p.elim
      | some ys =>
        rw [e] at p
        simp only [Option.bind_some] at p
        cases e2 : boolsD ys with
        | none => rw [e2] at p; exact p.elim
        | some bs =>
          rw [e2] at p
          obtain ⟨v, rfl, dv⟩ := dens1 da
          obtain ⟨a, vs, rfl, q, dd⟩ := seqL_ok rh dv hl e
          rw [boolsD_eq e2] at dd
          cases dd.bools
          exact cr_all hc pins s σ H _ us Q I r ⟨a, bs, rfl, q, p.fin rh rfl⟩
    · exact p.elim
  · exact p.elim
theorem cr_anyM (hc : X.calm = true) : CallR X (.builtin "any") (rN X.K bAny) := by
  intro pins s σ H xs us Q I r ⟨μ, h, as, da, rh, p⟩
  unfold bAny at p
  split at p
  · split at p
    · rename_i hl
      cases e : seqD h _ with
      | none => rw [e] at p; exact p.elim
      | some ys =>
        rw [e] at p
        simp only [Option.bind_some] at p
        cases e2 : boolsD ys with
        | none => rw [e2] at p; exact p.elim
        | some bs =>
          rw [e2] at p
          obtain ⟨v, rfl, dv⟩ := dens1 da
          obtain ⟨a, vs, rfl, q, dd⟩ := seqL_ok rh dv hl e
          rw [boolsD_eq e2] at dd
          cases dd.bools
          exact cr_any hc pins s σ H _ us Q I r ⟨a, bs, rfl, q, p.fin rh rfl⟩
    · exact p.elim
  · exact p.elim
theorem cr_sumM (hc : X.calm = true) : CallR X (.builtin "sum") (rN X.K bSum) := by
  intro pins s σ H xs us Q I r ⟨μ, h, as, da, rh, p⟩
  unfold bSum at p
  split at p
  · split at p
    · rename_i hl
      cases e : seqD h _ with
      | none => rw [e] at p; exact p.elim
      | some ys =>
        rw [e] at p
        simp only [Option.bind_some] at p
        cases e2 : intsD ys with
        | none => rw [e2] at p; exact p.elim
        | some bs =>
          rw [e2] at p
          obtain ⟨v, rfl, dv⟩ := dens1 da
          obtain ⟨a, vs, rfl, q, dd⟩ := seqL_ok rh dv hl e
          rw [intsD_eq e2] at dd
          cases dd.ints'
          exact cr_sum hc pins s σ H _ us Q I r ⟨a, bs, rfl, q, p.fin rh rfl⟩
    · exact p.elim
  · exact p.elim
/-- str(n) -/
def bStr : GN
  | [.int i], h => if i.natAbs.log2 < 1920 then some (.str (toString i), h) else none
  | _, _ => none
theorem cr_strM : CallR X (.type "str") (rN X.K bStr) := by
  intro pins s σ H xs us Q I r ⟨μ, h, as, da, rh, p⟩
  unfold bStr at p
  split at p
  · split at p
    · rename_i hl
      obtain ⟨v, rfl, dv⟩ := dens1 da
      cases dv.to_int
      exact call_str_int pins s σ H _ us Q I r ⟨_, rfl, hl, p.fin rh rfl⟩
    · exact p.elim
  · exact p.elim
end
end PI
/-! Constants of the module; dict.get. -/
namespace PI
open PySem PySem.Spec L2
open PyProof.Rows hiding St
/-- a name of the module stands for a thing -/
structure CoI (K : PySem.W.Frag) (mg : Str → Option Value) (x : Str) (d : D) : Prop where
  ex : ∃ u v, mg x = some u ∧ RelV v u ∧ ∀ μ H, Den K μ H d v
theorem coI_int {K : PySem.W.Frag} {mg : Str → Option Value} {x : Str} {i : Int} {t : Tok} (h : mg x = some (.int i t)) : CoI K mg x (.int i) := ⟨_, .int i, h, ⟨t, rfl⟩, fun _ _ => rfl⟩
theorem coI_str {K : PySem.W.Frag} {mg : Str → Option Value} {x : Str} {i : Str} {t : Tok} (h : mg x = some (.str i t)) : CoI K mg x (.str i) := ⟨_, .str i, h, ⟨t, rfl⟩, fun _ _ => rfl⟩
theorem valsS : ∀ {us : List Value} {xs : List Str}, us.map (fun u => match u with | .str z _ => some z | _ => none) = xs.map some → Vals (xs.map V.str) us
  | [], [], _ => .nil
  | [], x :: xs, e => by simp at e
  | u :: us, [], e => by simp at e
  | u :: us, x :: xs, e => by
    simp only [List.map_cons, List.cons.injEq] at e
    obtain ⟨e1, e2⟩ := e
    refine .cons ?_ (valsS e2)
    cases u <;> first | (cases e1; exact ⟨_, rfl⟩) | cases e1
theorem densS {K : PySem.W.Frag} {μ : List Addr} {H : Hp} : ∀ xs : List Str, Dens K μ H (xs.map D.str) (xs.map V.str)
  | [] => rfl
  | x :: xs => ⟨_, _, rfl, rfl, densS xs⟩
/-- a tuple of texts -/
theorem coI_strs {K : PySem.W.Frag} {mg : Str → Option Value} {x : Str} {a : Addr} {o : Obj} {its : Array Value} {n : Nat} {xs : List Str} (h : mg x = some (.ref a)) (hk : K.lookup a = some o) (hc : o.cls = .type "tuple") (hd : o.data = .seq its n) (hz : its.size ≤ sizeLine)
    (e : its.toList.map (fun u => match u with | .str z _ => some z | _ => none) = xs.map some) : CoI K mg x (.rot (xs.map D.str)) :=
  ⟨_, .ref a, h, rfl, fun μ H => ⟨a, xs.map V.str, rfl, .inr ⟨o, its, n, hk, hc, hd, hz, valsS e⟩, densS xs⟩⟩
section
variable {X : Cx} {ct : Ctb} {W : WX}
theorem se_co {x : Str} {pos : Pos} {d : D} (C : CoI X.K X.mg x d) (hg : Gl X x) (hdb : (x == ("__debug__" : Str)) = false := by decide) : SE X ct W (.Name x pos) (mC d) := by
  obtain ⟨u, v, hm, r, hd⟩ := C.ex
  exact se_glob hg hm r hd hdb
/-- d.get(k), d.get(k, x) -/
def isDc (o : D) (h : Hh) : Bool := match o with
  | .ref i => match h[i]? with
    | some (.dct _) => true
    | some (.dctT _) => true
    | _ => false
  | _ => false
theorem isDc_ok {K : PySem.W.Frag} {μ : List Addr} {H : Hp} {h : Hh} {o : D} {v : V} (rh : RelH K μ H h) (dv : Den K μ H o v) (e : isDc o h = true) : ∃ a, v = .ref a ∧ IsD H a := by
  cases o with
  | ref i =>
    have e : (match h[i]? with | some (.dct _) => true | some (.dctT _) => true | _ => false) = true := e
    split at e
    · rename_i hi
      obtain ⟨a, ws, rfl, _, ha, _⟩ := den_dct rh dv hi
      exact ⟨a, rfl, .inl ⟨ws, .inl ha⟩⟩
    · rename_i hi
      obtain ⟨a, ws, rfl, _, ha, _⟩ := den_dctT rh dv hi
      exact ⟨a, rfl, .inr ⟨ws, .inl ha⟩⟩
    · cases e
  | _ => cases e
def mGet1 (o k : ME) : ME := fun ρ h => (o ρ h).bind fun d h1 => if isDc d h1 then (k ρ h1).bind fun e h2 => match getD? d e h2 with
  | some r => .ok (r.getD .non) h2
  | none => .bad else .bad
def mGet2 (o k x : ME) : ME := fun ρ h => (o ρ h).bind fun d h1 => if isDc d h1 then (k ρ h1).bind fun e h2 => (x ρ h2).bind fun z h3 => match getD? d e h3 with
  | some r => .ok (r.getD z) h3
  | none => .bad else .bad
theorem se_get1 {o e : Expr} {apos cpos : Pos} {mo me : ME} {k : Nat} (hr : Room k X.A) (ho : SE X ct W o mo) (he : SE X ct W e me) (m : M1 X o "get" apos e cpos) : SE X ct W (.Call (.Attribute o "get" apos) [e] [] cpos) (mGet1 mo me) :=
  (pe_dget1 (hu_of hr) ho he m).imp fun σ H Q ⟨μ, ρ, h, rs, rh, p⟩ => rdE.go rs rh p fun d h1 μ1 H1 v s1 rs1 rh1 dv p1 => by
    split at p1
    · rename_i hd
      obtain ⟨a, rfl, ia⟩ := isDc_ok rh1 dv hd
      refine ⟨a, rfl, ia, rdE.go rs1 rh1 p1 fun e h2 μ2 H2 y s2 rs2 rh2 dy p2 => ?_⟩
      split at p2
      · rename_i r er
        obtain ⟨b, w, eb, g, q⟩ := getD_ok rh2 (dv.mono s2) dy er
        cases eb
        refine ⟨w, g, ?_⟩
        cases r with
        | none => have q : w = none := q; rw [q]; exact p2.at rh2 _ rfl
        | some d => obtain ⟨z, rfl, dz⟩ := q; exact p2.at rh2 _ dz
      · exact p2.elim
    · exact p1.elim
theorem se_get2 {o e f : Expr} {apos cpos : Pos} {mo me mf : ME} {k : Nat} (hr : Room k X.A) (ho : SE X ct W o mo) (he : SE X ct W e me) (hf : SE X ct W f mf) (m : M2 X o "get" apos e f cpos) : SE X ct W (.Call (.Attribute o "get" apos) [e, f] [] cpos) (mGet2 mo me mf) :=
  (pe_dget2 (hu_of hr) ho he hf m).imp fun σ H Q ⟨μ, ρ, h, rs, rh, p⟩ => rdE.go rs rh p fun d h1 μ1 H1 v s1 rs1 rh1 dv p1 => by
    split at p1
    · rename_i hd
      obtain ⟨a, rfl, ia⟩ := isDc_ok rh1 dv hd
      refine ⟨a, rfl, ia, rdE.go rs1 rh1 p1 fun e h2 μ2 H2 y s2 rs2 rh2 dy p2 => rdE.go rs2 rh2 p2 fun f h3 μ3 H3 z s3 rs3 rh3 dz p3 => ?_⟩
      split at p3
      · rename_i r er
        obtain ⟨b, w, eb, g, q⟩ := getD_ok rh3 ((dv.mono s2).mono s3) (dy.mono s3) er
        cases eb
        refine ⟨w, g, ?_⟩
        cases r with
        | none => have q : w = none := q; rw [q]; exact p3.at rh3 _ dz
        | some d => obtain ⟨z, rfl, dz⟩ := q; exact p3.at rh3 _ dz
      · exact p3.elim
    · exact p1.elim
/-! ### a dict of tuples as keys; a written dict -/
def mDnewT : ME := fun _ h => .ok (.ref h.length) (h ++ [.dctT []])
theorem se_dnewT {pos : Pos} : SE X ct W (.Dict [] [] pos) mDnewT :=
  pe_dnewT.imp fun σ H Q ⟨μ, ρ, h, rs, rh, p⟩ => fun q hq => by
    have sn : Step μ H (μ ++ [q]) (upd H q (.dT [])) := Step.newT hq
    exact p _ _ sn (rh.push hq ⟨[], upd_same, rfl, rfl⟩) _ ⟨q, rfl, by rw [← rh.len]; simp⟩
end
end PI
/-! A dict that is walked: locked meanwhile; keys, values, pairs. -/
namespace PI
open PySem PySem.Spec L2
open PyProof.Rows hiding St
/-! ### the lock undone -/
section
variable {K : PySem.W.Frag} {μ μ' : List Addr} {H H1 : Hp} {a : Addr} {od : Obj} {u : HO}
mutual
theorem Den.unl (ha : H a = some (.frz od u)) (ut : ∀ xs, u ≠ .tup xs) (ul : ∀ xs, u ≠ .lst xs) : ∀ {d : D} {v : V}, Den K μ H d v → Den K μ (upd H a u) d v
  | .non, _, h => h
  | .bl _, _, h => h
  | .int _, _, h => h
  | .str _, _, h => h
  | .tup ds, _, h => by
    obtain ⟨b, vs, e, q, r⟩ := h
    have hb : b ≠ a := fun z => by rw [z, ha] at q; cases q
    exact ⟨b, vs, e, by rw [upd_ne hb]; exact q, Dens.unl ha ut ul r⟩
  | .rot ds, _, h => by
    obtain ⟨b, vs, e, q, r⟩ := h
    refine ⟨b, vs, e, ?_, Dens.unl ha ut ul r⟩
    rcases q with (q | ⟨o, q⟩) | q
    · have hb : b ≠ a := fun z => by rw [z, ha] at q; cases q
      exact .inl (.inl (by rw [upd_ne hb]; exact q))
    · have hb : b ≠ a := fun z => by
        rw [z, ha] at q
        cases q
        exact ut _ rfl
      exact .inl (.inr ⟨o, by rw [upd_ne hb]; exact q⟩)
    · exact .inr q
  | .rol ds, _, h => by
    obtain ⟨b, vs, e, q, r⟩ := h
    refine ⟨b, vs, e, ?_, Dens.unl ha ut ul r⟩
    rcases q with ⟨o, q⟩ | q
    · have hb : b ≠ a := fun z => by
        rw [z, ha] at q
        cases q
        exact ul _ rfl
      exact .inl ⟨o, by rw [upd_ne hb]; exact q⟩
    · exact .inr q
  | .ref i, _, h => h
  | .ex _, _, h => h
theorem Dens.unl (ha : H a = some (.frz od u)) (ut : ∀ xs, u ≠ .tup xs) (ul : ∀ xs, u ≠ .lst xs) : ∀ {ds : List D} {vs : List V}, Dens K μ H ds vs → Dens K μ (upd H a u) ds vs
  | [], _, h => h
  | d :: ds, _, h => by
    obtain ⟨v, vr, e, q, r⟩ := h
    exact ⟨v, vr, e, Den.unl ha ut ul q, Dens.unl ha ut ul r⟩
end
theorem OR.unl (ha : H a = Option.some (.frz od u)) (ut : ∀ xs, u ≠ .tup xs) (ul : ∀ xs, u ≠ .lst xs) {b : Addr} {o : Ob} (hb : b ≠ a) (x : OR K μ H b o) : OR K μ (upd H a u) b o := by
  cases o with
  | lst ds => obtain ⟨vs, e, d⟩ := x; exact ⟨vs, by rw [upd_ne hb]; exact e, d.unl ha ut ul⟩
  | dct ds => obtain ⟨vs, e, e2, d⟩ := x; exact ⟨vs, by rw [upd_ne hb]; exact e, e2, d.unl ha ut ul⟩
  | dctT ds => obtain ⟨vs, e, e2, d⟩ := x; exact ⟨vs, by rw [upd_ne hb]; exact e, e2, d.unl ha ut ul⟩
  | dlk ds => obtain ⟨o, vs, e, e2, d⟩ := x; exact ⟨o, vs, by rw [upd_ne hb]; exact e, e2, d.unl ha ut ul⟩
  | dlkT ds => obtain ⟨o, vs, e, e2, d⟩ := x; exact ⟨o, vs, by rw [upd_ne hb]; exact e, e2, d.unl ha ut ul⟩
theorem RelS.unl {ρ : Rho} {σ : L2.St} (ha : H a = some (.frz od u)) (ut : ∀ xs, u ≠ .tup xs) (ul : ∀ xs, u ≠ .lst xs) (r : RelS K μ H ρ σ) : RelS K μ (upd H a u) ρ σ :=
  ⟨r.len, fun i d e => let ⟨v, h1, h2⟩ := r.get i d e; ⟨v, h1, h2.unl ha ut ul⟩⟩
theorem RelH.unl {h : Hh} {k : Nat} {ob : Ob} (ha : H a = some (.frz od u)) (ut : ∀ xs, u ≠ .tup xs) (ul : ∀ xs, u ≠ .lst xs) (r : RelH K μ H h) (hk : μ[k]? = some a) (hl : k < h.length) (new : OR K μ (upd H a u) a ob) : RelH K μ (upd H a u) (h.set k ob) := by
  refine ⟨by simp [r.len], r.dis, fun j o' e => ?_⟩
  by_cases hij : k = j
  · subst hij
    rw [List.getElem?_set_self hl] at e
    cases e
    exact ⟨a, hk, new⟩
  · rw [List.getElem?_set_ne hij] at e
    obtain ⟨b, e1, y⟩ := r.obj j o' e
    exact ⟨b, e1, y.unl ha ut ul (fun z => hij (r.dis k j a hk (by rw [e1, z])))⟩
/-- from the unlocked to the unlocked -/
theorem Step.unl {u0 : HO} (h0 : H a = some u0) (nt : ∀ xs, u0 ≠ .tup xs) (nf : ∀ x y, u0 ≠ .frz x y) (nx : ∀ fs, u0 ≠ .xd fs) (s : Step μ (upd H a (.frz od u)) μ' H1) : Step μ H μ' (upd H1 a u) := by
  refine ⟨s.ext, fun b xs e => ?_, fun b x y e => ?_, fun b xs e => ?_⟩
  · have hb : b ≠ a := fun z => by rw [z, h0] at e; exact nt _ (Option.some.inj e)
    rw [upd_ne hb]
    exact s.tup b xs (by rw [upd_ne hb]; exact e)
  · have hb : b ≠ a := fun z => by rw [z, h0] at e; exact nf _ _ (Option.some.inj e)
    rw [upd_ne hb]
    exact s.frz b x y (by rw [upd_ne hb]; exact e)
  · have hb : b ≠ a := fun z => by rw [z, h0] at e; exact nx _ (Option.some.inj e)
    rw [upd_ne hb]
    exact s.xd b xs (by rw [upd_ne hb]; exact e)
end
def lockH (k : Nat) (h : Hh) : Option Hh := match h[k]? with
  | some (.dct kvs) => some (h.set k (.dlk kvs))
  | some (.dctT kvs) => some (h.set k (.dlkT kvs))
  | _ => none
def unlockH (k : Nat) (h : Hh) : Option Hh := match h[k]? with
  | some (.dlk kvs) => some (h.set k (.dct kvs))
  | some (.dlkT kvs) => some (h.set k (.dctT kvs))
  | _ => none
/-- what is to be locked: slot i's -/
def lkIx (i : Nat) (ρ : Rho) : Option Nat := match ρ[i]? with
  | some (some (.ref k)) => some k
  | _ => none
def mLock (i : Nat) (b : MS) : MS := fun ρ h => match lkIx i ρ with
  | none => .bad
  | some k => match lockH k h with
    | none => .bad
    | some h1 => match b ρ h1 with
      | .nx ρ' h' => match unlockH k h' with
        | some h2 => .nx ρ' h2
        | none => .bad
      | .bk ρ' h' => match unlockH k h' with
        | some h2 => .bk ρ' h2
        | none => .bad
      | .ct ρ' h' => match unlockH k h' with
        | some h2 => .ct ρ' h2
        | none => .bad
      | .rt d h' => match unlockH k h' with
        | some h2 => .rt d h2
        | none => .bad
      | _ => .bad
section
variable {K : PySem.W.Frag} {μ : List Addr} {H : Hp} {h h1 : Hh} {k : Nat}
/-- lock and unlock, in both heaps -/
theorem lock_ok (rh : RelH K μ H h) (e : lockH k h = some h1) : ∃ a u, μ[k]? = some a ∧ H a = some u ∧ Mut (some u) ∧ ∀ od, Step μ H μ (upd H a (.frz od u)) ∧ RelH K μ (upd H a (.frz od u)) h1 ∧
    ∀ μ' H' h', Step μ (upd H a (.frz od u)) μ' H' → RelH K μ' H' h' → H' a = some (.frz od u) ∧ ∀ h2, unlockH k h' = some h2 → Step μ H μ' (upd H' a u) ∧ RelH K μ' (upd H' a u) h2 ∧
      (∀ d v, Den K μ' H' d v → Den K μ' (upd H' a u) d v) ∧ ∀ ρ σ, RelS K μ' H' ρ σ → RelS K μ' (upd H' a u) ρ σ := by
  unfold lockH at e
  split at e
  · rename_i kvs hk
    cases e
    obtain ⟨a, ha, ws, hw, ek, dv⟩ := rh.obj k _ hk
    refine ⟨a, .dK ws, ha, hw, trivial, fun od => ?_⟩
    have st : Step μ H μ (upd H a (.frz od (.dK ws))) := Step.set hw (fun _ z => by cases z) (fun _ _ z => by cases z) (fun _ z => by cases z)
    refine ⟨st, rh.put hk ha ⟨od, ws, upd_same, ek, dv.mono st⟩, fun μ' H' h' s' r' => ?_⟩
    have fz : H' a = some (.frz od (.dK ws)) := s'.frz a od (.dK ws) upd_same
    refine ⟨fz, fun h2 e2 => ?_⟩
    have nt : ∀ xs, (HO.dK ws) ≠ .tup xs := fun _ z => by cases z
    have nl : ∀ xs, (HO.dK ws) ≠ .lst xs := fun _ z => by cases z
    refine ⟨Step.unl hw nt (fun _ _ z => by cases z) (fun _ z => by cases z) s', ?_, fun d v q => q.unl fz nt nl, fun ρ σ q => q.unl fz nt nl⟩
    have hk' : μ'[k]? = some a := s'.get ha
    unfold unlockH at e2
    split at e2
    · rename_i kv2 hk2
      cases e2
      obtain ⟨b, hb, o2, ws2, hw2, ek2, dv2⟩ := r'.obj k _ hk2
      rw [hk'] at hb
      cases hb
      rw [fz] at hw2
      cases hw2
      exact r'.unl fz nt nl hk' (List.getElem?_eq_some_iff.mp hk2).1 ⟨ws, upd_same, ek2, dv2.unl fz nt nl⟩
    · rename_i kv2 hk2
      obtain ⟨b, hb, o2, ws2, hw2, _⟩ := r'.obj k _ hk2
      rw [hk'] at hb
      cases hb
      rw [fz] at hw2
      cases hw2
    · cases e2
  · rename_i kvs hk
    cases e
    obtain ⟨a, ha, ws, hw, ek, dv⟩ := rh.obj k _ hk
    refine ⟨a, .dT ws, ha, hw, trivial, fun od => ?_⟩
    have st : Step μ H μ (upd H a (.frz od (.dT ws))) := Step.set hw (fun _ z => by cases z) (fun _ _ z => by cases z) (fun _ z => by cases z)
    refine ⟨st, rh.put hk ha ⟨od, ws, upd_same, ek, dv.mono st⟩, fun μ' H' h' s' r' => ?_⟩
    have fz : H' a = some (.frz od (.dT ws)) := s'.frz a od (.dT ws) upd_same
    refine ⟨fz, fun h2 e2 => ?_⟩
    have nt : ∀ xs, (HO.dT ws) ≠ .tup xs := fun _ z => by cases z
    have nl : ∀ xs, (HO.dT ws) ≠ .lst xs := fun _ z => by cases z
    refine ⟨Step.unl hw nt (fun _ _ z => by cases z) (fun _ z => by cases z) s', ?_, fun d v q => q.unl fz nt nl, fun ρ σ q => q.unl fz nt nl⟩
    have hk' : μ'[k]? = some a := s'.get ha
    unfold unlockH at e2
    split at e2
    · rename_i kv2 hk2
      obtain ⟨b, hb, o2, ws2, hw2, _⟩ := r'.obj k _ hk2
      rw [hk'] at hb
      cases hb
      rw [fz] at hw2
      cases hw2
    · rename_i kv2 hk2
      cases e2
      obtain ⟨b, hb, o2, ws2, hw2, ek2, dv2⟩ := r'.obj k _ hk2
      rw [hk'] at hb
      cases hb
      rw [fz] at hw2
      cases hw2
      exact r'.unl fz nt nl hk' (List.getElem?_eq_some_iff.mp hk2).1 ⟨ws, upd_same, ek2, dv2.unl fz nt nl⟩
    · cases e2
  · cases e
end
section
variable {X : Cx} {ct : Ctb} {W : WX}
theorem ss_lock {st : Stmt} {b : MS} (i : Nat) (hb : SS X ct W st b) : SS X ct W st (mLock i b) :=
  (ps_lock hb).imp fun D σ H ⟨μ, ρ, h, rs, rh, p⟩ => by
    unfold mLock at p
    cases ek : lkIx i ρ with
    | none => rw [ek] at p; exact p.elim
    | some k =>
      rw [ek] at p
      dsimp only at p
      cases el : lockH k h with
      | none => rw [el] at p; exact p.elim
      | some h1 =>
        rw [el] at p
        dsimp only at p
        obtain ⟨a, u, ha, hu, mu, rest⟩ := lock_ok rh el
        refine ⟨a, u, hu, mu, fun od => ?_⟩
        obtain ⟨st, rh1, back⟩ := rest od
        refine ⟨μ, ρ, h1, rs.mono st, rh1, ?_⟩
        cases eb : b ρ h1 with
        | nx ρ' h' =>
          rw [eb] at p
          intro μ' H' σ' s' r' rs'
          obtain ⟨fz, q⟩ := back μ' H' h' s' r'
          refine ⟨fz, ?_⟩
          dsimp only at p
          cases e2 : unlockH k h' with
          | none => rw [e2] at p; exact p.elim
          | some h2 =>
            rw [e2] at p
            obtain ⟨q1, q2, q3, q4⟩ := q h2 e2
            exact p _ _ _ q1 q2 (q4 _ _ rs')
        | bk ρ' h' =>
          rw [eb] at p
          intro μ' H' σ' s' r' rs'
          obtain ⟨fz, q⟩ := back μ' H' h' s' r'
          refine ⟨fz, ?_⟩
          dsimp only at p
          cases e2 : unlockH k h' with
          | none => rw [e2] at p; exact p.elim
          | some h2 =>
            rw [e2] at p
            obtain ⟨q1, q2, q3, q4⟩ := q h2 e2
            exact p _ _ _ q1 q2 (q4 _ _ rs')
        | ct ρ' h' =>
          rw [eb] at p
          intro μ' H' σ' s' r' rs'
          obtain ⟨fz, q⟩ := back μ' H' h' s' r'
          refine ⟨fz, ?_⟩
          dsimp only at p
          cases e2 : unlockH k h' with
          | none => rw [e2] at p; exact p.elim
          | some h2 =>
            rw [e2] at p
            obtain ⟨q1, q2, q3, q4⟩ := q h2 e2
            exact p _ _ _ q1 q2 (q4 _ _ rs')
        | rt d h' =>
          rw [eb] at p
          intro μ' H' v s' r' dv
          obtain ⟨fz, q⟩ := back μ' H' h' s' r'
          refine ⟨fz, ?_⟩
          dsimp only at p
          cases e2 : unlockH k h' with
          | none => rw [e2] at p; exact p.elim
          | some h2 =>
            rw [e2] at p
            obtain ⟨q1, q2, q3, q4⟩ := q h2 e2
            exact p _ _ _ q1 q2 (q3 _ _ dv)
        | er x ρ' h' => rw [eb] at p; exact p.elim
        | bad => rw [eb] at p; exact p.elim
end
/-! ### what a locked dict gives -/
def kD : Key → D
  | .inl i => .int i
  | .inr x => .str x
theorem den_kD {K : PySem.W.Frag} {μ : List Addr} {H : Hp} : ∀ k : Key, Den K μ H (kD k) (kV k)
  | .inl _ => rfl
  | .inr _ => rfl
theorem dens_kD {K : PySem.W.Frag} {μ : List Addr} {H : Hp} : ∀ ks : List Key, Dens K μ H (ks.map kD) (ks.map kV)
  | [] => rfl
  | k :: ks => ⟨_, _, rfl, den_kD k, dens_kD ks⟩
theorem KDen.get {κ : Type} [DecidableEq κ] {K : PySem.W.Frag} {μ : List Addr} {H : Hp} : ∀ {kvs : List (κ × D)} {ws : List (κ × V)} {i : Nat} {k : κ} {d : D}, KDen K μ H kvs ws → kvs[i]? = some (k, d) → ∃ v, ws[i]? = some (k, v) ∧ Den K μ H d v
  | p :: r, ws, 0, k, d, h, e => by
    obtain ⟨v, s, rfl, dv, _⟩ := h
    simp at e
    subst e
    exact ⟨v, rfl, dv⟩
  | p :: r, ws, i + 1, k, d, h, e => by
    obtain ⟨v, s, rfl, _, h⟩ := h
    simpa using KDen.get (i := i) h (by simpa using e)
  | [], _, _, _, _, _, e => by simp at e
def jKeys (k : Nat) (n : Nat) : MIt := ⟨fun i h => match h[k]? with
  | some (.dlk kvs) => some ((kvs[i]?).map fun p => kD p.1)
  | some (.dlkT kvs) => some ((kvs[i]?).map fun p => .tup (p.1.map kD))
  | _ => none, n⟩
def jItems (k : Nat) (n : Nat) : MIt := ⟨fun i h => match h[k]? with
  | some (.dlk kvs) => some ((kvs[i]?).map fun p => .tup [kD p.1, p.2])
  | some (.dlkT kvs) => some ((kvs[i]?).map fun p => .tup [.tup (p.1.map kD), p.2])
  | _ => none, n⟩
section
variable {K : PySem.W.Frag} {μ : List Addr} {H : Hp} {h : Hh} {k n : Nat} {a : Addr} {o : Obj}
theorem at_dlk {μ' : List Addr} {H' : Hp} {h' : Hh} {ws : List (Key × V)} (hk : μ[k]? = some a) (hw : H a = some (.frz o (.dK ws))) (s : Step μ H μ' H') (r : RelH K μ' H' h') : (∃ kvs, h'[k]? = some (.dlk kvs) ∧ KDen K μ' H' kvs ws) ∨ (∀ kvs, h'[k]? ≠ some (.dlk kvs)) ∧ ∀ kvs, h'[k]? ≠ some (.dlkT kvs) := by
  have hw' := s.frz _ _ _ hw
  have hk' := s.get hk
  cases e : h'[k]? with
  | none => exact .inr ⟨fun _ z => (by cases z), fun _ z => (by cases z)⟩
  | some ob =>
    obtain ⟨b, hb, x⟩ := r.obj k ob e
    rw [hk'] at hb
    cases hb
    cases ob with
    | dlk kvs =>
      obtain ⟨o2, ws2, e1, e2, dd⟩ := x
      rw [hw'] at e1
      cases e1
      exact .inl ⟨kvs, rfl, kden_of e2 dd⟩
    | dlkT kvs =>
      obtain ⟨o2, ws2, e1, _⟩ := x
      rw [hw'] at e1
      cases e1
    | _ => exact .inr ⟨fun _ z => (by cases z), fun _ z => (by cases z)⟩
theorem at_dlkT {μ' : List Addr} {H' : Hp} {h' : Hh} {ws : List (List Key × V)} (hk : μ[k]? = some a) (hw : H a = some (.frz o (.dT ws))) (s : Step μ H μ' H') (r : RelH K μ' H' h') : (∃ kvs, h'[k]? = some (.dlkT kvs) ∧ KDen K μ' H' kvs ws) ∨ (∀ kvs, h'[k]? ≠ some (.dlk kvs)) ∧ ∀ kvs, h'[k]? ≠ some (.dlkT kvs) := by
  have hw' := s.frz _ _ _ hw
  have hk' := s.get hk
  cases e : h'[k]? with
  | none => exact .inr ⟨fun _ z => (by cases z), fun _ z => (by cases z)⟩
  | some ob =>
    obtain ⟨b, hb, x⟩ := r.obj k ob e
    rw [hk'] at hb
    cases hb
    cases ob with
    | dlkT kvs =>
      obtain ⟨o2, ws2, e1, e2, dd⟩ := x
      rw [hw'] at e1
      cases e1
      exact .inl ⟨kvs, rfl, kden_of e2 dd⟩
    | dlk kvs =>
      obtain ⟨o2, ws2, e1, _⟩ := x
      rw [hw'] at e1
      cases e1
    | _ => exact .inr ⟨fun _ z => (by cases z), fun _ z => (by cases z)⟩
theorem no_at {i : Nat} {x : Option D} {f : List (Key × D) → Option D} {g : List (List Key × D) → Option D} {h' : Hh} (n : (∀ kvs, h'[k]? ≠ some (.dlk kvs)) ∧ ∀ kvs, h'[k]? ≠ some (.dlkT kvs)) (e : (match h'[k]? with
  | some (.dlk kvs) => some (f kvs)
  | some (.dlkT kvs) => some (g kvs)
  | _ => none) = some x) : False := by
  split at e
  · rename_i e1; exact n.1 _ e1
  · rename_i e1; exact n.2 _ e1
  · cases e
theorem itr_keys {ws : List (Key × V)} (hk : μ[k]? = some a) (hw : H a = some (.frz o (.dK ws))) : ItR K μ H (Itk a o ws) (jKeys k n) where
  stop := fun i μ' H' h' s r e => by
    refine ⟨s.frz _ _ _ hw, ?_⟩
    rcases at_dlk hk hw s r with ⟨kvs, e1, kd⟩ | no
    · simp only [jKeys, e1] at e
      have : kvs[i]? = none := by simpa using e
      rw [kd.length]
      exact List.getElem?_eq_none_iff.mp this
    · exact (no_at (i := i) no e).elim
  go := fun i μ' H' h' x s r e => by
    rcases at_dlk hk hw s r with ⟨kvs, e1, kd⟩ | no
    · simp only [jKeys, e1] at e
      cases ep : kvs[i]? with
      | none => rw [ep] at e; cases e
      | some p =>
        obtain ⟨q, d⟩ := p
        rw [ep] at e
        cases e
        obtain ⟨v, e2, dv⟩ := kd.get ep
        refine ⟨⟨s.frz _ _ _ hw, (List.getElem?_eq_some_iff.mp e2).1⟩, fun y H'' hy => ?_⟩
        obtain ⟨rfl, k', v', e3, rfl⟩ := hy
        rw [e2] at e3
        cases e3
        exact ⟨Step.refl, r, den_kD q⟩
    · exact (no_at (i := i) no e).elim
theorem itr_keysT {ws : List (List Key × V)} (hk : μ[k]? = some a) (hw : H a = some (.frz o (.dT ws))) : ItR K μ H (Itkt a o ws) (jKeys k n) where
  stop := fun i μ' H' h' s r e => by
    refine ⟨s.frz _ _ _ hw, ?_⟩
    rcases at_dlkT hk hw s r with ⟨kvs, e1, kd⟩ | no
    · simp only [jKeys, e1] at e
      have : kvs[i]? = none := by simpa using e
      rw [kd.length]
      exact List.getElem?_eq_none_iff.mp this
    · exact (no_at (i := i) no e).elim
  go := fun i μ' H' h' x s r e => by
    rcases at_dlkT hk hw s r with ⟨kvs, e1, kd⟩ | no
    · simp only [jKeys, e1] at e
      cases ep : kvs[i]? with
      | none => rw [ep] at e; cases e
      | some p =>
        obtain ⟨q, d⟩ := p
        rw [ep] at e
        cases e
        obtain ⟨v, e2, dv⟩ := kd.get ep
        refine ⟨⟨s.frz _ _ _ hw, (List.getElem?_eq_some_iff.mp e2).1⟩, fun y H'' hy => ?_⟩
        obtain ⟨rfl, k', v', b, e3, rfl, hb⟩ := hy
        rw [e2] at e3
        cases e3
        exact ⟨Step.refl, r, b, _, rfl, hb, dens_kD q⟩
    · exact (no_at (i := i) no e).elim
end
section
variable {X : Cx} {ct : Ctb} {W : WX} {tg : Expr}
/-- the keys of a dict that is locked -/
def lkLen (d : D) (h : Hh) : Option (Nat × Nat) := match d with
  | .ref k => match h[k]? with
    | some (.dlk kvs) => some (k, kvs.length)
    | some (.dlkT kvs) => some (k, kvs.length)
    | _ => none
  | _ => none
def miKeys (m : ME) : MI := fun ρ h => (m ρ h).bind fun d h1 => match lkLen d h1 with
  | some (k, n) => .ok (jKeys k n) h1
  | none => .bad
theorem si_keys {e : Expr} {m : ME} (he : SE X ct W e m) : L2.PI X tg e (rdI X.K ct W (miKeys m)) :=
  (pi_keys he).imp fun σ H R ⟨μ, ρ, h, rs, rh, p⟩ => rdE.go rs rh p fun d h1 μ1 H1 v s1 rs1 rh1 dv p1 => by
    cases d with
    | ref k =>
      cases hk : h1[k]? with
      | none => simp only [lkLen, hk] at p1; exact p1.elim
      | some ob =>
        cases ob with
        | dlk kvs =>
          simp only [lkLen, hk] at p1
          obtain ⟨a, o, ws, rfl, ha, hw, _⟩ := den_dlk rh1 dv hk
          exact ⟨a, o, rfl, .inl ⟨ws, hw, p1.at rh1 _ (itr_keys ha hw)⟩⟩
        | dlkT kvs =>
          simp only [lkLen, hk] at p1
          obtain ⟨a, o, ws, rfl, ha, hw, _⟩ := den_dlkT rh1 dv hk
          exact ⟨a, o, rfl, .inr ⟨ws, hw, p1.at rh1 _ (itr_keysT ha hw)⟩⟩
        | _ => simp only [lkLen, hk] at p1; exact p1.elim
    | _ => exact p1.elim
end
end PI
/-! The pairs of a dict, its keys tuples. -/
namespace PI
open PySem PySem.Spec L2
open PyProof.Rows hiding St
def ItP (d : Addr) (o : Obj) (kvs : List (List Key × V)) : It where
  go i H := H d = some (.frz o (.dT kvs)) ∧ i < kvs.length
  yld i H x H' := ∃ T k v q, kvs[i]? = some (k, v) ∧ x = .ref T ∧ H T = none ∧ H q = some (.tup (k.map kV)) ∧ H' = upd H T (.tup [.ref q, v])
  stop i H := H d = some (.frz o (.dT kvs)) ∧ kvs.length ≤ i
section
variable {X : Cx} {pins : List (Addr × Obj)} {σ : L2.St} {H : Hp} {s : Shared} {d : Addr} {o : Obj}
theorem frzP {kvs : List (List Key × V)} (I : L2.Inv X pins σ H s) (h : H d = some (.frz o (.dT kvs))) :
    (d == sysModules) = false ∧ s.heap.get? d = some o ∧ o.ExactDict ∧ ∃ (es : Array DictEntry) (ep : Nat), o.data = .dict es ep ∧ es.size = kvs.length ∧
      ∀ (i : Nat) (k : List Key) (v : V), kvs[i]? = some (k, v) → ∃ (en : DictEntry) (q : Addr), es[i]? = some en ∧ en.key = .ref q ∧ H q = some (.tup (k.map kV)) ∧ RelV v en.val := by
  obtain ⟨hd, _, nosys, rows, pair, oo, es, ep, ho, exact, hdata, ents, _⟩ := I.hok d _ h
  obtain rfl : o = oo := Option.some.inj (hd.symm.trans ho)
  refine ⟨nosys, hd, exact, es, ep, hdata, (size_of_entries ents).trans (Paired.length pair).symm, fun i k v e => ?_⟩
  obtain ⟨row, at_i, _, tupl, rv⟩ := paired_get pair e
  have z := entry_at ents i
  rw [at_i] at z
  exact ⟨_, row.2.1, z, rfl, tupl, rv⟩
end
theorem turnP {P : Program} {w : World} {K : PySem.W.Frag} {d : Addr} {o : Obj} {es : Array DictEntry} {ep : Nat} {kvs : List (List Key × V)} {elts : List Expr} {kk : Nat} {tpos : Pos} (it : Addr) (hod : o.data = .dict es ep) :
    Turn P w K (.Tuple elts kk tpos) (ItP d o kvs) [it] it (fun i h => ∃ ok ov, IsItemIter h it d i kvs.length ep ok ov) where
  mem := List.mem_singleton.mpr rfl
  obj := fun i h st b hb => by
    obtain rfl : b = it := List.mem_singleton.mp hb
    obtain ⟨ok, ov, e⟩ := st
    exact ⟨_, e, fun v z => nomatch z⟩
  keep := fun i h h' st k => by
    obtain ⟨ok, ov, e⟩ := st
    exact ⟨ok, ov, k it (List.mem_singleton.mpr rfl) _ e⟩
  item := by
    intro X hP hw hK hc i pins s σ H E I hf st hg
    subst hP hw hK
    obtain ⟨hd, hi⟩ := hg
    obtain ⟨nosys, atd, exact, es2, ep2, hd2, hsz, ents⟩ := frzP I hd
    obtain ⟨rfl, rfl⟩ := dict_ep hod hd2
    obtain ⟨⟨k, v⟩, hkv⟩ : ∃ p, kvs[i]? = some p := ⟨kvs[i], List.getElem?_eq_getElem hi⟩
    obtain ⟨en, q, hen, hkey, hq, rv⟩ := ents i k v hkv
    obtain ⟨ok, ov, hit⟩ := st
    rw [← hsz] at hit
    have hlt : it < s.heap.objs.size := Heap.lt_size hit
    have hi2 : i < es2.size := by rw [hsz]; exact hi
    have een : es2[i] = en := by
      have := Array.getElem?_eq_getElem hi2
      rw [hen] at this
      exact (Option.some.inj this).symm
    refine DT.nextI hit ⟨o, atd, exact, hod⟩ hi2 fun h' out newT grown kept => ?_
    rw [een, hkey] at out newT
    refine ⟨_, rfl, wpAny_letOwnedTupleGo_items (s := { s with heap := h' }) out fun h'' hit2 sb => ?_⟩
    have atT : h''.get? s.heap.objs.size = some { cls := .type "tuple", data := .seq #[.ref q, en.val] } := (sb.2 _ (Nat.ne_of_gt hlt)).trans newT
    have new : ObjOk X.prog X.w (upd H s.heap.objs.size (.tup [.ref q, v])) h'' s.heap.objs.size (.tup [.ref q, v]) :=
      ⟨show 2 ≤ sizeLine by decide, [.ref q, en.val], .cons rfl (.cons rv .nil), ⟨_, atT, rfl, _, rfl⟩⟩
    have I1 : L2.Inv X pins σ (upd H s.heap.objs.size (.tup [.ref q, v])) { s with heap := h'' } :=
      I.turnedNew (t' := s.toks) (ch := [it]) (fun b ob hb e => (sb.2 b (fun z => hb (List.mem_singleton.mpr z))).trans (kept b ob (fun z => hb (List.mem_singleton.mpr z)) e)) hf (Nat.le_refl _) new
    refine ⟨.ref s.heap.objs.size, _, I1, rfl, ⟨_, k, v, q, hkv, rfl, I.hok.fresh (Nat.le_refl _), hq, rfl⟩, ⟨.ref q, en.val, ?_⟩, fun b hb => ?_⟩
    · rw [← hsz]; exact hit2
    · obtain rfl : b = it := List.mem_singleton.mp hb
      rw [upd_ne (Nat.ne_of_lt hlt)]
      exact (hf b (List.mem_singleton.mpr rfl)).1
  done := by
    intro X hP hw hK hc i pins s σ H E I hf st hg
    subst hP hw hK
    obtain ⟨hd, hi⟩ := hg
    obtain ⟨f0, f1, f2, f3, f4, f5⟩ := hf it (List.mem_singleton.mpr rfl)
    obtain ⟨nosys, atd, exact, es2, ep2, hd2, hsz, ents⟩ := frzP I hd
    obtain ⟨rfl, rfl⟩ := dict_ep hod hd2
    obtain ⟨ok, ov, hit⟩ := st
    rw [← hsz] at hit
    exact DT.endI (I.ok.hd hc) hit ⟨o, atd, exact, hod⟩ (by rw [hsz]; exact hi) fun h' eb => ⟨rfl, I.turned (t' := s.toks) (fun b ob hb e => eb b ob hb e) f0 f1 f3 f4 f5⟩
  self := fun A i s Q E st h => by
    obtain ⟨_, _, e⟩ := st
    exact PySem.W.kcp_self e h
section
variable {X : Cx} {ct : Ctb} {W : WX}
def iPairs (td : TE) : TI := fun σ H R => td σ H fun x H1 => ∃ d o, x = .ref d ∧ ((∃ kvs, H1 d = some (.frz o (.dK kvs)) ∧ R (Iti d o kvs) H1) ∨ ∃ kvs, H1 d = some (.frz o (.dT kvs)) ∧ R (ItP d o kvs) H1)
theorem pi_pairs {e : Expr} {td : TE} {apos cpos : Pos} {elts : List Expr} {kk : Nat} {tpos : Pos} (he : PE X e td) (hbase : attributeBase e "items" X.env (eval e X.env) = eval e X.env := by rfl) (hline : (apos.endLine == cpos.line) = true := by rfl) :
    L2.PI X (.Tuple elts kk tpos) (.Call (.Attribute e "items" apos) [] [] cpos) (iPairs td) := by
  constructor
  intro pins s σ H R I h
  refine wpAny_Call_method (T := "dict") (id := "dict.items") hbase rfl hline PySem.F.plainAttrs_dict PySem.F.slot_dict_items PySem.F.type_dict_items ?_
  refine thn (he.run pins s σ H _ I h) fun u s1 ⟨x, H1, I1, rx, d, o, ex, q⟩ => ?_
  subst ex
  obtain rfl : u = Value.ref d := rx
  rcases q with ⟨kvs, hd, q⟩ | ⟨kvs, hd, q⟩
  · obtain ⟨nosys, atd, exact, es, ep, vs, hdata, hsz, kv, at_⟩ := I1.frzK hd
    have hl := Paired.length kv
    refine ⟨at_.dictOf.typeIs, at_.dictOf.mapOf.noDict, ?_⟩
    have I2 : L2.Inv X pins σ H1 { s1 with heap := s1.heap.push { cls := .type "dict_items", data := .fields #[.ref d] } } := I1.kept (t' := s1.toks) fun b ob q => Heap.get?_push_of_some _ q
    have last : wpAny (model X.prog X.w) X.A (pyIter (.ref s1.heap.objs.size)) (PIE X pins σ (.Tuple elts kk tpos) R) X.xe { s1 with heap := s1.heap.push { cls := .type "dict_items", data := .fields #[.ref d] } } :=
      wpAny_pyIter_items (d := d) (knd := mixKind X.prog X.w) ⟨_, Heap.get?_push_size _ rfl, rfl, rfl⟩ (at_.push _) (pi_one (tk := s1.toks) I2 _ (turn_items _ hdata) ⟨.none, .none, by rw [hl]; exact Heap.get?_push_size _ rfl⟩ q)
    show wpAny _ _ (callWith cpos (.builtin "dict.items") [.ref d] [] []) _ X.xe s1
    exact method_meetsIn PySem.F.slot_dict_items PySem.F.entry_dict_items rfl (PySem.evalArgs_none ⟨rfl, at_.dictOf.typeIs, PySem.F.args_dict_items_1 _, _, meets_dict_items (mixKind X.prog X.w) d nosys, ⟨vs, at_.dictOf⟩, last⟩)
  · obtain ⟨nosys, atd, exact, es, ep, hdata, hsz, ents⟩ := frzP I1 hd
    have raw : DT.Raw s1.heap d es ep := ⟨o, atd, exact, hdata⟩
    refine ⟨raw.typeIs, fun b z => ?_, ?_⟩
    · cases z
      exact ⟨o, atd, exact.2.1⟩
    have I2 : L2.Inv X pins σ H1 { s1 with heap := s1.heap.push { cls := .type "dict_items", data := .fields #[.ref d] } } := I1.kept (t' := s1.toks) fun b ob q => Heap.get?_push_of_some _ q
    have last : wpAny (model X.prog X.w) X.A (pyIter (.ref s1.heap.objs.size)) (PIE X pins σ (.Tuple elts kk tpos) R) X.xe { s1 with heap := s1.heap.push { cls := .type "dict_items", data := .fields #[.ref d] } } :=
      DT.iterI ⟨_, Heap.get?_push_size _ rfl, rfl, rfl⟩ (raw.push _) (pi_one (tk := s1.toks) I2 _ (turnP _ hdata) ⟨.none, .none, by rw [← hsz]; exact Heap.get?_push_size _ rfl⟩ q)
    show wpAny _ _ (callWith cpos (.builtin "dict.items") [.ref d] [] []) _ X.xe s1
    exact method_meetsIn PySem.F.slot_dict_items PySem.F.entry_dict_items rfl (PySem.evalArgs_none ⟨rfl, raw.typeIs, PySem.F.args_dict_items_1 _, _, DT.meetsItems (es := es) (ep := ep) nosys, raw, last⟩)
end
section
variable {K : PySem.W.Frag} {μ : List Addr} {H : Hp} {h : Hh} {k n : Nat} {a : Addr} {o : Obj}
theorem itr_items {ws : List (Key × V)} (hk : μ[k]? = some a) (hw : H a = some (.frz o (.dK ws))) : ItR K μ H (Iti a o ws) (jItems k n) where
  stop := fun i μ' H' h' s r e => by
    refine ⟨s.frz _ _ _ hw, ?_⟩
    rcases at_dlk hk hw s r with ⟨kvs, e1, kd⟩ | no
    · simp only [jItems, e1] at e
      have : kvs[i]? = none := by simpa using e
      rw [kd.length]
      exact List.getElem?_eq_none_iff.mp this
    · exact (no_at (i := i) no e).elim
  go := fun i μ' H' h' x s r e => by
    rcases at_dlk hk hw s r with ⟨kvs, e1, kd⟩ | no
    · simp only [jItems, e1] at e
      cases ep : kvs[i]? with
      | none => rw [ep] at e; cases e
      | some p =>
        obtain ⟨q, d⟩ := p
        rw [ep] at e
        cases e
        obtain ⟨v, e2, dv⟩ := kd.get ep
        refine ⟨⟨s.frz _ _ _ hw, (List.getElem?_eq_some_iff.mp e2).1⟩, fun y H'' hy => ?_⟩
        obtain ⟨T, k', v', e3, rfl, hT, rfl⟩ := hy
        rw [e2] at e3
        cases e3
        have sn : Step μ' H' μ' (upd H' T (.tup [kV q, v])) := Step.new hT
        exact ⟨sn, r.new hT, T, _, rfl, upd_same, _, [v], rfl, den_kD q, v, [], rfl, dv.mono sn, rfl⟩
    · exact (no_at (i := i) no e).elim
theorem itr_itemsT {ws : List (List Key × V)} (hk : μ[k]? = some a) (hw : H a = some (.frz o (.dT ws))) : ItR K μ H (ItP a o ws) (jItems k n) where
  stop := fun i μ' H' h' s r e => by
    refine ⟨s.frz _ _ _ hw, ?_⟩
    rcases at_dlkT hk hw s r with ⟨kvs, e1, kd⟩ | no
    · simp only [jItems, e1] at e
      have : kvs[i]? = none := by simpa using e
      rw [kd.length]
      exact List.getElem?_eq_none_iff.mp this
    · exact (no_at (i := i) no e).elim
  go := fun i μ' H' h' x s r e => by
    rcases at_dlkT hk hw s r with ⟨kvs, e1, kd⟩ | no
    · simp only [jItems, e1] at e
      cases ep : kvs[i]? with
      | none => rw [ep] at e; cases e
      | some p =>
        obtain ⟨q, d⟩ := p
        rw [ep] at e
        cases e
        obtain ⟨v, e2, dv⟩ := kd.get ep
        refine ⟨⟨s.frz _ _ _ hw, (List.getElem?_eq_some_iff.mp e2).1⟩, fun y H'' hy => ?_⟩
        obtain ⟨T, k', v', b, e3, rfl, hT, hb, rfl⟩ := hy
        rw [e2] at e3
        cases e3
        have sn : Step μ' H' μ' (upd H' T (.tup [.ref b, v])) := Step.new hT
        exact ⟨sn, r.new hT, T, _, rfl, upd_same, _, [v], rfl, ⟨b, _, rfl, sn.tup _ _ hb, dens_kD q⟩, v, [], rfl, dv.mono sn, rfl⟩
    · exact (no_at (i := i) no e).elim
end
section
variable {X : Cx} {ct : Ctb} {W : WX}
def miItems (m : ME) : MI := fun ρ h => (m ρ h).bind fun d h1 => match lkLen d h1 with
  | some (k, n) => .ok (jItems k n) h1
  | none => .bad
theorem si_items {e : Expr} {m : ME} {apos cpos : Pos} {elts : List Expr} {kk : Nat} {tpos : Pos} (he : SE X ct W e m) (hbase : attributeBase e "items" X.env (eval e X.env) = eval e X.env := by rfl) (hline : (apos.endLine == cpos.line) = true := by rfl) :
    L2.PI X (.Tuple elts kk tpos) (.Call (.Attribute e "items" apos) [] [] cpos) (rdI X.K ct W (miItems m)) :=
  (pi_pairs he hbase hline).imp fun σ H R ⟨μ, ρ, h, rs, rh, p⟩ => rdE.go rs rh p fun d h1 μ1 H1 v s1 rs1 rh1 dv p1 => by
    cases d with
    | ref k =>
      cases hk : h1[k]? with
      | none => simp only [lkLen, hk] at p1; exact p1.elim
      | some ob =>
        cases ob with
        | dlk kvs =>
          simp only [lkLen, hk] at p1
          obtain ⟨a, o, ws, rfl, ha, hw, _⟩ := den_dlk rh1 dv hk
          exact ⟨a, o, rfl, .inl ⟨ws, hw, p1.at rh1 _ (itr_items ha hw)⟩⟩
        | dlkT kvs =>
          simp only [lkLen, hk] at p1
          obtain ⟨a, o, ws, rfl, ha, hw, _⟩ := den_dlkT rh1 dv hk
          exact ⟨a, o, rfl, .inr ⟨ws, hw, p1.at rh1 _ (itr_itemsT ha hw)⟩⟩
        | _ => simp only [lkLen, hk] at p1; exact p1.elim
    | _ => exact p1.elim
end
end PI
/-! sorted of data: a list's items, a dict's keys. -/
namespace PI
open PySem PySem.Spec L2
open PyProof.Rows hiding St
open PySem.W (dataLe EachIs AllAlike Sortable alike)
/-- items with their data, in the data's order -/
def sortD (xs : List D) (ds : List PyData) : List D := ((xs.zip ds).mergeSort (dataLe false (·.2))).map (·.1)
def isT1 : PyData → Bool
  | .tuple (_ :: _) => true
  | _ => false
def isO1 : PyData → Bool
  | .none => false
  | .tuple _ => false
  | _ => true
def canSort (ds : List PyData) : Bool := (ds.all fun a => ds.all fun b => alike a b) && (ds.all isT1 || ds.all isO1) && (ds.all fun d => decide (d.depth ≤ 60))
theorem canSort_ok {ds : List PyData} (h : canSort ds = true) : AllAlike ds ∧ Sortable ds ∧ ∀ d ∈ ds, d.depth ≤ 60 := by
  unfold canSort at h
  simp only [Bool.and_eq_true, Bool.or_eq_true, List.all_eq_true, decide_eq_true_eq] at h
  obtain ⟨⟨h1, h2⟩, h3⟩ := h
  refine ⟨h1, ?_, h3⟩
  rcases h2 with h2 | h2
  · refine .inl fun d hd => ?_
    have := h2 d hd
    unfold isT1 at this
    split at this
    · exact ⟨_, _, rfl⟩
    · cases this
  · refine .inr fun d hd => ⟨fun e => ?_, fun xs e => ?_⟩
    · have := h2 d hd
      rw [e] at this
      cases this
    · have := h2 d hd
      rw [e] at this
      cases this
section
variable {K : PySem.W.Frag} {μ : List Addr} {H : Hp} {h : Hh}
abbrev SB := V × D × PyData
def SR (K : PySem.W.Frag) (μ : List Addr) (H : Hp) (u : Value) (b : SB) : Prop := RelV b.1 u ∧ Den K μ H b.2.1 b.1
/-- the three side by side -/
theorem side : ∀ {its : List Value} {vs : List V} {xs : List D} {ds : List PyData} (n : Nat), Vals vs its → Dens K μ H xs vs → toPys h n xs = some ds →
    ∃ bs : List SB, EachIs (SR K μ H) its bs ∧ bs.map (·.2.1) = xs ∧ bs.map (·.2.2) = ds ∧ bs.map (fun b => (b.2.1, b.2.2)) = xs.zip ds ∧ ∀ b ∈ bs, toPy h n b.2.1 = some b.2.2
  | its, vs, [], ds, n, r, dd, e => by
    have dd : vs = [] := dd
    subst dd
    cases r
    unfold toPys at e
    cases e
    exact ⟨[], .nil, rfl, rfl, rfl, fun b hb => by cases hb⟩
  | its, vs, x :: xs, ds, n, r, dd, e => by
    obtain ⟨v, vr, rfl, dv, dr⟩ := dd
    cases r with
    | cons r1 r2 =>
      unfold toPys at e
      split at e
      · rename_i d ds' e1 e2
        cases e
        obtain ⟨bs, h1, h2, h3, h4, h5⟩ := side n r2 dr e2
        refine ⟨(v, x, d) :: bs, .cons ⟨r1, dv⟩ h1, by simp [h2], by simp [h3], by simp [h4], fun b hb => ?_⟩
        rcases List.mem_cons.mp hb with rfl | hb
        · exact e1
        · exact h5 b hb
      · cases e
theorem eachR : ∀ {out : List Value} {bs : List SB}, EachIs (SR K μ H) out bs → Vals (bs.map (·.1)) out ∧ Dens K μ H (bs.map (·.2.1)) (bs.map (·.1))
  | _, _, .nil => ⟨.nil, rfl⟩
  | _, _, .cons h t => ⟨.cons h.1 (eachR t).1, _, _, rfl, h.2, (eachR t).2⟩
theorem sort_map {bs : List SB} {xs : List D} {ds : List PyData} (h : bs.map (fun b => (b.2.1, b.2.2)) = xs.zip ds) : (bs.mergeSort (dataLe false (·.2.2))).map (·.2.1) = sortD xs ds := by
  unfold sortD
  rw [← h, ← List.map_mergeSort (r := dataLe false fun b : SB => b.2.2) (f := fun b : SB => (b.2.1, b.2.2)) (fun _ _ _ _ => rfl), List.map_map]
  rfl
theorem each_mono {α β : Type} {R R' : α → β → Prop} : ∀ {as : List α} {bs : List β}, (∀ a b, b ∈ bs → R a b → R' a b) → EachIs R as bs → EachIs R' as bs
  | _, _, _, .nil => .nil
  | _, _, h, .cons r t => .cons (h _ _ List.mem_cons_self r) (each_mono (fun a b hb => h a b (List.mem_cons_of_mem _ hb)) t)
end
/-- sorted(x) -/
def keysOf (d : D) (h : Hh) : Option (List D) := match d with
  | .ref k => match h[k]? with
    | some (.dctT kvs) => some (kvs.map fun p => .tup (p.1.map kD))
    | _ => none
  | _ => none
def bSorted : GN
  | [d], h => match keysOf d h with
    | some xs => (toPys h 60 xs).bind fun ds => if canSort ds = true then some (.ref h.length, h ++ [.lst (sortD xs ds)]) else none
    | none => if isLs d h = true then (seqD h d).bind fun xs => (toPys h 60 xs).bind fun ds => if canSort ds = true then some (.ref h.length, h ++ [.lst (sortD xs ds)]) else none else none
  | _, _ => none
section
variable {X : Cx} {pins : List (Addr × Obj)} {s : Shared} {σ : L2.St} {H : Hp} {μ : List Addr} {h : Hh}
theorem sort_list {k : Nat} (hr : Room k X.A) (I : L2.Inv X pins σ H s) {a : Addr} {vs : List V} {xs : List D} {ds : List PyData} {Q : VK} (rh : RelH X.K μ H h) (hs : SqL X.K H a vs) (dd : Dens X.K μ H xs vs) (e : toPys h 60 xs = some ds) (c : canSort ds = true)
    (q : ∀ ws, Dens X.K μ H (sortD xs ds) ws → ∀ p, H p = none → Q (.ref p) (upd H p (.lst ws))) : wpAny (model X.prog X.w) X.A (call (.builtin "sorted") [.ref a]) (EP X pins σ Q) X.xe s := by
  obtain ⟨its, rv, hl, hz⟩ := I.list hs
  obtain ⟨bs, h1, h2, h3, h4, h5⟩ := side 60 rv dd e
  obtain ⟨c1, c2, c3⟩ := canSort_ok c
  have er : EachIs (fun v (b : SB) => ∃ as, Reads s.heap v b.2.2 as) its bs := each_mono (fun u b hb r => Dp.reads I b.2.2 b.1 u (toPy_dp rh _ _ _ _ (h5 b hb) r.2) r.1) h1
  have lb : bs.length = vs.length := by rw [dd.length, ← h2, List.length_map]
  refine PySem.W.sorted_data (enc := fun b : SB => b.2.2) (R := SR X.K μ H) hl.isList h1 er (by rw [h3]; exact c1) (by rw [h3]; exact c2) (by rw [lb]; exact hz) (fun b hb => ?_) fun out lo eo => ?_
  · have := c3 b.2.2 (by rw [← h3]; exact List.mem_map_of_mem hb)
    have := hr.units
    omega
  · obtain ⟨r1, r2⟩ := eachR eo
    rw [sort_map h4] at r2
    obtain ⟨ep, he⟩ := PyProof.Rows.sortedAll_at s.heap its out.toArray
    have hlen : ((bs.mergeSort (dataLe false fun b : SB => b.2.2)).map (·.1)).length ≤ sizeLine := by rw [List.length_map, List.length_mergeSort, lb]; exact hz
    exact ⟨.ref _, _, I.laid (o := .lst ((bs.mergeSort (dataLe false fun b : SB => b.2.2)).map (·.1))) (t' := s.toks) (fun _ _ => PyProof.Rows.sortedAll_old) (Nat.le_succ _) ⟨hlen, out, ep, r1, he⟩, rfl, q _ r2 _ (I.hok.fresh (Nat.le_succ _))⟩
end
mutual
theorem reads_at {h : Heap} : ∀ {v : Value} {d : PyData} {as : List Addr}, Reads h v d as → ∀ a ∈ as, ∃ o, h.get? a = some o
  | _, _, _, .none, _, m => nomatch m
  | _, _, _, .bool _, _, m => nomatch m
  | _, _, _, .int _ _, _, m => nomatch m
  | _, _, _, .str _ _, _, m => nomatch m
  | _, _, _, .list h1 _ _ h4, a, m => by
    rcases List.mem_cons.mp m with rfl | m
    · exact ⟨_, h1⟩
    · exact readsAll_at h4 a m
  | _, _, _, .tuple _ _ _ h4, a, m => readsAll_at h4 a m
  | _, _, _, .dict h1 _ _ h4 h5, a, m => by
    rcases List.mem_append.mp m with m | m
    · rcases List.mem_cons.mp m with rfl | m
      · exact ⟨_, h1⟩
      · exact readsAll_at h4 a m
    · exact readsAll_at h5 a m
theorem readsAll_at {h : Heap} : ∀ {vs : List Value} {ds : List PyData} {as : List Addr}, ReadsAll h vs ds as → ∀ a ∈ as, ∃ o, h.get? a = some o
  | _, _, _, .nil, _, m => nomatch m
  | _, _, _, .cons h1 h2, a, m => by
    rcases List.mem_append.mp m with m | m
    · exact reads_at h1 a m
    · exact readsAll_at h2 a m
end
theorem stands {P : Program} {w : World} {H : Hp} {h : Heap} {a : Addr} {o : HO} (x : ObjOk P w H h a o) : ∃ u, h.get? a = some u := by
  cases o
  case lst => obtain ⟨_, _, _, _, e⟩ := x; exact ⟨_, e⟩
  case tup => obtain ⟨_, _, _, ob, e, _⟩ := x; exact ⟨ob, e⟩
  case dK => obtain ⟨_, _, _, _, ob, _, _, e, _⟩ := x; exact ⟨ob, e⟩
  case dT => obtain ⟨_, _, _, _, ob, _, _, e, _⟩ := x; exact ⟨ob, e⟩
  case set => obtain ⟨ob, _, _, _, e, _⟩ := x; exact ⟨ob, e⟩
  case ins => obtain ⟨_, _, _, e, _⟩ := x; exact ⟨_, e⟩
  case own => exact x
  case xd => obtain ⟨_, ⟨ob, _, _, e, _⟩, _⟩ := x; exact ⟨ob, e⟩
  case rng => obtain ⟨_, _, _, e⟩ := x; exact ⟨_, e⟩
  case frz => exact ⟨_, x.1⟩
  case tbl => exact ⟨_, x⟩
  case met => exact ⟨_, x⟩
  case ext => exact x.2.1
section
variable {X : Cx} {pins : List (Addr × Obj)} {s : Shared} {σ : L2.St} {H : Hp} {μ : List Addr} {h : Hh}
theorem sort_raw {k : Nat} (hc : X.calm = true) (hr : Room k X.A) (I : L2.Inv X pins σ H s) {d : Addr} {es : Array DictEntry} {ep : Nat} {vs : List V} {xs : List D} {ds : List PyData} {Q : VK} (raw : s.heap.DictRaw d es ep) (nosys : (d == sysModules) = false) (hz : es.size ≤ sizeLine)
    (rv : Vals vs (es.toList.map (·.key))) (rh : RelH X.K μ H h) (dd : Dens X.K μ H xs vs) (e : toPys h 60 xs = some ds) (c : canSort ds = true)
    (q : ∀ ws, Dens X.K μ H (sortD xs ds) ws → ∀ p, H p = none → Q (.ref p) (upd H p (.lst ws))) : wpAny (model X.prog X.w) X.A (call (.builtin "sorted") [.ref d]) (EP X pins σ Q) X.xe s := by
  obtain ⟨bs, h1, h2, h3, h4, h5⟩ := side 60 rv dd e
  obtain ⟨c1, c2, c3⟩ := canSort_ok c
  have er : EachIs (fun v (b : SB) => ∃ as, Reads s.heap v b.2.2 as) (es.toList.map (·.key)) bs := each_mono (fun u b hb r => Dp.reads I b.2.2 b.1 u (toPy_dp rh _ _ _ _ (h5 b hb) r.2) r.1) h1
  have lv : vs.length = es.size := by rw [rv.length, List.length_map, Array.length_toList]
  have lb : bs.length = es.size := by rw [← lv, dd.length, ← h2, List.length_map]
  refine PySem.Calls.call_function_entry PyProof.Rows.kind_sorted PyProof.Rows.plain_sorted PyProof.Rows.entry_sorted (PyProof.Rows.args_sorted1 _) ?_
  unfold Builtin.«sorted»
  refine wpAny_bind (m := checkCount "sorted" 1 1 _) (wpAny_pure ?_)
  refine wpAny_bind (PySem.W.kdu_collect (A := X.A.in1) (KdlSrc.rawDict (es := es) (ep := ep) nosys) (I.ok.hd hc) raw hz fun h' tk acc hk hacc => ?_)
  have eacc : acc.toList = es.toList.map (·.key) := by
    apply List.ext_getElem?
    intro i
    rw [Array.getElem?_toList, List.getElem?_map, Array.getElem?_toList]
    cases ea : acc[i]? with
    | none =>
      have : acc.size ≤ i := by simpa using ea
      rw [hacc.1] at this
      have : es[i]? = none := Array.getElem?_eq_none this
      rw [this]; rfl
    | some v =>
      obtain ⟨hi, ev⟩ := hacc.2 i v ea
      rw [Array.getElem?_eq_getElem hi, ev]
      rfl
  rw [eacc]
  refine wpAny_bind (wpAny_newList ?_ (by rw [List.length_map, Array.length_toList]; exact hz))
  have old : ∀ b o, s.heap.get? b = some o → (h'.push { cls := .type "list", data := .seq (es.toList.map (·.key)).toArray }).get? b = some o := fun b o z => Heap.get?_push_of_some _ (hk b o z)
  have free : ∀ b o, s.heap.get? b = some o → b < h'.objs.size := fun b o z => Heap.lt_size (hk b o z)
  have none1 : s.heap.get? h'.objs.size = none := by
    cases z : s.heap.get? h'.objs.size with
    | none => rfl
    | some o => exact absurd (free _ _ z) (Nat.lt_irrefl _)
  have none2 : H h'.objs.size = none := by
    cases z : H h'.objs.size with
    | none => rfl
    | some o =>
      obtain ⟨u, eu⟩ := stands (I.hok _ _ z)
      exact absurd (free _ _ eu) (Nat.lt_irrefl _)
  have at0 : (h'.push { cls := .type "list", data := .seq (es.toList.map (·.key)).toArray }).get? h'.objs.size = some (seqObj "list" (es.toList.map (·.key)).toArray 0) := Heap.get?_push_size _ rfl
  have er2 : EachIs (fun v (b : SB) => ∃ as, Reads (h'.push { cls := .type "list", data := .seq (es.toList.map (·.key)).toArray }) v b.2.2 as ∧ h'.objs.size ∉ as) (es.toList.map (·.key)) bs := er.mono fun v b ⟨as, r⟩ =>
    ⟨as, PyProof.Rows.Reads.keeps old r, fun m => by obtain ⟨o, z⟩ := reads_at r _ m; exact absurd (free _ _ z) (Nat.lt_irrefl _)⟩
  have sorts := PySem.W.list_sort_data (prog := X.prog) (w := X.w) (A := X.A.in1) (E := X.xe) (s := { s with heap := h'.push { cls := .type "list", data := .seq (es.toList.map (·.key)).toArray }, toks := tk }) (enc := fun b : SB => b.2.2) (R := SR X.K μ H)
    (Q := fun _ s' => EP X pins σ Q (.ref h'.objs.size) s') at0 h1 er2 (by rw [h3]; exact c1) (by rw [h3]; exact c2) (by rw [lb]; exact hz) (fun b hb => by
      have := c3 b.2.2 (by rw [← h3]; exact List.mem_map_of_mem hb)
      have := hr.units
      have e1 : X.A.in1.units = X.A.units + 1 := rfl
      omega) fun out lo eo => by
        obtain ⟨r1, r2⟩ := eachR eo
        rw [sort_map h4] at r2
        obtain ⟨ep', he⟩ := PyProof.Rows.sortedHeap_at (vs := es.toList.map (·.key)) (out := out.toArray) at0
        have hlen : ((bs.mergeSort (dataLe false fun b : SB => b.2.2)).map (·.1)).length ≤ sizeLine := by rw [List.length_map, List.length_mergeSort, lb]; exact hz
        exact ⟨.ref _, _, L2.Inv.laidN (s := s) (o := .lst ((bs.mergeSort (dataLe false fun b : SB => b.2.2)).map (·.1))) (t' := tk) I (fun b o z => by
          have lt := free b o z
          rw [PyProof.Rows.sortedHeap_old (Nat.ne_of_lt lt) (Nat.lt_trans lt (by rw [PyProof.Rows.size_push']; exact Nat.lt_succ_self _))]
          exact old b o z) none1 none2 ⟨hlen, out, ep', r1, he⟩, rfl, q _ r2 _ none2⟩
  exact wpAny_bind (wpAny_holding (wpAny_mono sorts (fun _ s' x => wpAny_pure ⟨_, rfl, x⟩) fun _ _ z => z))
end
end PI
namespace PI
open PySem PySem.Spec L2
open PyProof.Rows hiding St
section
variable {X : Cx} {pins : List (Addr × Obj)} {s : Shared} {σ : L2.St} {H : Hp} {μ : List Addr} {h : Hh}
theorem pairedT {H : Hp} {P : Program} {w : World} : ∀ {ws : List (List Key × V)} {xs : List (List Key × Addr × Value)}, Paired (fun (p : List Key × V) (q : List Key × Addr × Value) => p.1 = q.1 ∧ H q.2.1 = some (.tup (p.1.map kV)) ∧ RelV p.2 q.2.2) ws xs →
    ∃ qs : List Addr, qs = xs.map (·.2.1) ∧ Vals (qs.map V.ref) ((xs.map (entryOfKey (tupleKind (mixKind P w)))).map (·.key)) ∧ ∀ {K : PySem.W.Frag} {μ : List Addr} {kvs : List (List Key × D)}, KDen K μ H kvs ws → Dens K μ H (kvs.map fun p => .tup (p.1.map kD)) (qs.map V.ref)
  | _, _, .nil => ⟨[], rfl, .nil, fun {K μ kvs} kd => by
    cases kvs with
    | nil => rfl
    | cons p r => obtain ⟨_, _, z, _⟩ := kd; cases z⟩
  | _, _, .cons (b := q) r t => by
    obtain ⟨qs, e, v, f⟩ := pairedT (P := P) (w := w) t
    refine ⟨q.2.1 :: qs, by rw [e]; rfl, .cons rfl v, fun {K μ kvs} kd => ?_⟩
    cases kvs with
    | nil => exact absurd (show _ = [] from kd) (by simp)
    | cons p r' =>
      obtain ⟨v', s', z, _, kd'⟩ := kd
      cases z
      exact ⟨_, _, rfl, ⟨q.2.1, _, rfl, r.2.1, dens_kD _⟩, f kd'⟩
theorem cr_sortedM {k : Nat} (hc : X.calm = true) (hr : Room k X.A) : CallR X (.builtin "sorted") (rN X.K bSorted) := by
  intro pins s σ H xs us Q I r ⟨μ, h, as, da, rh, p⟩
  unfold bSorted at p
  split at p
  · rename_i d
    obtain ⟨v, rfl, dv⟩ := dens1 da
    split at p
    · rename_i ks ek
      cases e : toPys h 60 ks with
      | none => rw [e] at p; exact p.elim
      | some ds =>
        rw [e] at p
        simp only [Option.bind_some] at p
        split at p
        · rename_i c
          cases d with
          | ref i =>
            cases hi : h[i]? with
            | none => simp only [keysOf, hi] at ek; cases ek
            | some ob =>
              cases ob with
              | dctT kvs =>
                simp only [keysOf, hi] at ek
                cases ek
                obtain ⟨a, ws, rfl, _, ha, kd⟩ := den_dctT rh dv hi
                rw [Vals.ref1 r]
                obtain ⟨hz, nosys, rows, pr, o, es, ep, ho, exact, hdata, hes, _⟩ := I.hok a _ ha
                obtain ⟨qs, eq, vv, dd⟩ := pairedT (P := X.prog) (w := X.w) pr
                refine sort_raw hc hr I ⟨o, ho, exact, hdata⟩ nosys ?_ (by rw [hes]; exact vv) rh (dd kd) e c fun ws dw p' hp' => p.finL rh dw p' hp'
                rw [size_of_entries hes, ← Paired.length pr]
                exact hz
              | _ => simp only [keysOf, hi] at ek; cases ek
          | _ => cases ek
        · exact p.elim
    · split at p
      · rename_i hl
        cases e1 : seqD h d with
        | none => rw [e1] at p; exact p.elim
        | some ks =>
          rw [e1] at p
          simp only [Option.bind_some] at p
          cases e : toPys h 60 ks with
          | none => rw [e] at p; exact p.elim
          | some ds =>
            rw [e] at p
            simp only [Option.bind_some] at p
            split at p
            · rename_i c
              obtain ⟨a, vs, rfl, q, dd⟩ := seqL_ok rh dv hl e1
              rw [Vals.ref1 r]
              exact sort_list hr I rh q dd e c fun ws dw p' hp' => p.finL rh dw p' hp'
            · exact p.elim
      · exact p.elim
  · exact p.elim
end
end PI
/-! is True; list.index; written dicts; a tuple many times. -/
namespace PI
open PySem PySem.Spec L2
open PyProof.Rows hiding St
section
variable {X : Cx} {ct : Ctb} {W : WX}
def oIsB : G2
  | .bl a, .bl b, h => some (.bl (a == b), h)
  | _, _, _ => none
def oNotB : G2
  | .bl a, .bl b, h => some (.bl (!(a == b)), h)
  | _, _, _ => none
theorem op_isB : OpR X (compareOp .Is) (r2 X.K oIsB) := by
  intro pins s σ H x y v u Q I rx ry ⟨μ, h, a, b, da, db, rh, p⟩
  unfold oIsB at p
  split at p
  · rename_i a b
    cases da.to_bl
    cases db.to_bl
    obtain rfl : v = .bool a := rx
    obtain rfl : u = .bool b := ry
    show wpAny _ _ ((isSame (.bool a) (.bool b)) >>= fun z => pure (Value.bool z)) _ _ s
    refine wpAny_bind (wpAny_isSame_plain (by rfl) (wpAny_pure ⟨.bl _, H, I, rfl, ?_⟩))
    have e : (Value.bool a == Value.bool b) = (a == b) := by cases a <;> cases b <;> rfl
    rw [e]
    exact p.fin rh rfl
  · exact p.elim
theorem op_notB : OpR X (compareOp .IsNot) (r2 X.K oNotB) := by
  intro pins s σ H x y v u Q I rx ry ⟨μ, h, a, b, da, db, rh, p⟩
  unfold oNotB at p
  split at p
  · rename_i a b
    cases da.to_bl
    cases db.to_bl
    obtain rfl : v = .bool a := rx
    obtain rfl : u = .bool b := ry
    show wpAny _ _ ((isSame (.bool a) (.bool b)) >>= fun z => pure (Value.bool (!z))) _ _ s
    refine wpAny_bind (wpAny_isSame_plain (by rfl) (wpAny_pure ⟨.bl _, H, I, rfl, ?_⟩))
    have e : (Value.bool a == Value.bool b) = (a == b) := by cases a <;> cases b <;> rfl
    rw [e]
    exact p.fin rh rfl
  · exact p.elim
/-- the first place of an equal item -/
def lIndex : D → List D → Hh → Option (D × Hh)
  | .ref i, [d], h => match h[i]? with
    | some (.lst xs) => match toPy h 60 d, toPys h 60 xs with
      | some e, some es => if SeqAt.shaped e = true ∧ SeqAt.shaped (.list es) = true then (es.findIdx? fun z => PyData.eqv z e).map fun j => (.int (j : Nat), h) else none
      | _, _ => none
    | _ => none
  | _, _, _ => none
theorem mt_indexM {k : Nat} (hr : Room k X.A) : MtR X "list.index" (rM X.K lIndex) := by
  intro pins s σ H x xs v us Q I rx rv ⟨μ, h, a, as, da, das, rh, p⟩
  unfold lIndex at p
  split at p
  · split at p
    · rename_i ys hi
      split at p
      · rename_i e es ed eds
        split at p
        · rename_i c
          cases ej : es.findIdx? (fun z => PyData.eqv z e) with
          | none => rw [ej] at p; exact p.elim
          | some j =>
            rw [ej] at p
            obtain ⟨b, vs, rfl, ha, hv, dd⟩ := den_lst rh da hi
            obtain ⟨w, rfl, dw⟩ := dens1 das
            obtain ⟨hj, hz, hno⟩ := List.findIdx?_eq_some_iff_getElem.mp ej
            refine mt_indexD (by have := hr.un; omega) pins s σ H _ _ v us Q I rx rv ⟨b, w, e, es, j, es[j], rfl, rfl, .lst (SqL.of hv) (toPys_dp rh _ _ _ _ eds dd), toPy_dp rh _ _ _ _ ed dw, c.2, c.1, List.getElem?_eq_getElem hj, hz, fun m z' hm ez => ?_, p.fin rh rfl⟩
            obtain ⟨hm', rfl⟩ := List.getElem?_eq_some_iff.mp ez
            simpa using hno m hm
        · exact p.elim
      · exact p.elim
    · exact p.elim
  · exact p.elim
/-! ### a written dict -/
def mergeD (kvs : List (Key × D)) (more : List (Key × D)) : List (Key × D) := more.foldl (fun acc kv => putD acc kv.1 kv.2) kvs
theorem merge_ok {K : PySem.W.Frag} {μ : List Addr} {H : Hp} : ∀ {more : List (Key × D)} {mw : List (Key × V)} {kvs : List (Key × D)} {ws : List (Key × V)}, KDen K μ H more mw → KDen K μ H kvs ws → KDen K μ H (mergeD kvs more) (mergeK ws mw)
  | [], mw, kvs, ws, h, g => by
    have h : mw = [] := h
    rw [h]; exact g
  | p :: r, mw, kvs, ws, h, g => by
    obtain ⟨v, s, rfl, d, h⟩ := h
    exact merge_ok (more := r) (mw := s) (kvs := putD kvs p.1 p.2) (ws := putK ws p.1 v) h (g.put d)
/-- keys that are written, values in their turn -/
def PrM (K : PySem.W.Frag) (ct : Ctb) (W : WX) (trs : List (TE × TE)) (keys : List Key) (m : MA) : Prop := ∀ σ H (Q : List (V × V) → Hp → Prop),
  (∃ μ ρ h, RelS K μ H ρ σ ∧ RelH K μ H h ∧ PO K ct W σ μ H (fun ds _ μ' H' => ds.length = keys.length ∧ ∀ vs, Dens K μ' H' ds vs → Q ((keys.map kV).zip vs) H') (m ρ h)) → tPairs trs σ H Q
structure SPr (X : Cx) (ct : Ctb) (W : WX) (pos : Pos) (ks : List (Option Expr)) (vs : List Expr) (keys : List Key) (m : MA) : Prop where
  ex : ∃ trs, PPs X pos ks vs trs ∧ PrM X.K ct W trs keys m
theorem spr_nil {pos : Pos} : SPr X ct W pos [] [] [] mNil := ⟨[], pps_nil, fun σ H Q ⟨μ, ρ, h, rs, rh, p⟩ => (p.at rh).2 [] rfl⟩
theorem spr_cons {pos : Pos} {k v : Expr} {ks : List (Option Expr)} {vs : List Expr} {key : Key} {keys : List Key} {m : ME} {r : MA} (hk : PE X k (tC (kV key))) (hv : SE X ct W v m) (hr : SPr X ct W pos ks vs keys r) : SPr X ct W pos (some k :: ks) (v :: vs) (key :: keys) (mCons m r) := by
  obtain ⟨trs, h1, h2⟩ := hr.ex
  refine ⟨_, pps_cons hk hv h1, fun σ H Q ⟨μ, ρ, h, rs, rh, p⟩ => ?_⟩
  refine rdE.go rs rh p fun d h1 μ1 H1 v s1 rs1 rh1 dv p1 => h2 σ H1 _ ⟨μ1, ρ, h1, rs1, rh1, (PO.bind p1).mono fun ds h2 μ2 H2 s2 rh2 p2 => ?_⟩
  obtain ⟨hl, hq⟩ := p2.at rh2
  refine ⟨by simpa using hl, fun ws dws => hq (v :: ws) ⟨v, ws, rfl, dv.mono s2, dws⟩⟩
def mDisp (keys : List Key) (m : MA) : ME := fun ρ h => (m ρ (h ++ [.dct []])).bind fun ds h1 => match h1[h.length]? with
  | some (.dct []) => if ds.length = keys.length ∧ keys.length ≤ 15 then .ok (.ref h.length) (h1.set h.length (.dct (mergeD [] (keys.zip ds)))) else .bad
  | _ => .bad
theorem kden_zip {K : PySem.W.Frag} {μ : List Addr} {H : Hp} : ∀ {keys : List Key} {ds : List D} {vs : List V}, ds.length = keys.length → Dens K μ H ds vs → KDen K μ H (keys.zip ds) (keys.zip vs)
  | [], ds, vs, _, _ => by simp [KDen]
  | k :: ks, [], vs, e, _ => by simp at e
  | k :: ks, d :: ds, vs, e, dd => by
    obtain ⟨v, r, rfl, dv, dr⟩ := dd
    exact ⟨v, _, rfl, dv, kden_zip (by simpa using e) dr⟩
theorem zip_kV : ∀ (keys : List Key) (vs : List V), (keys.map kV).zip vs = (keys.zip vs).map fun kv => (kV kv.1, kv.2)
  | [], _ => rfl
  | k :: ks, [] => rfl
  | k :: ks, v :: vs => by simp [zip_kV ks vs]
theorem se_disp {ks : List (Option Expr)} {vs : List Expr} {pos : Pos} {keys : List Key} {m : MA} (hp : SPr X ct W pos ks vs keys m) (hall : ks.all (·.isSome) = true) (hl : ks.length = vs.length) (h0 : ks ≠ []) (h15 : ks.length ≤ 15) : SE X ct W (.Dict ks vs pos) (mDisp keys m) := by
  obtain ⟨trs, h1, h2⟩ := hp.ex
  refine L2.PE.imp (pe_disp h1 hall hl h0 h15) fun σ H Q ⟨μ, ρ, h, rs, rh, p⟩ q hq => ?_
  have st : Step μ H (μ ++ [q]) (upd H q (.dK [])) := Step.newT hq
  have hk : (μ ++ [q])[h.length]? = some q := by rw [← rh.len]; simp
  have p0 := PO.step st (PO.bind p)
  refine h2 σ _ _ ⟨μ ++ [q], ρ, h ++ [.dct []], rs.mono st, rh.push (ob := .dct []) hq ⟨[], upd_same, rfl, rfl⟩, p0.mono fun ds h3 μ3 H3 s3 rh3 p3 => ?_⟩
  split at p3
  · rename_i e3
    split at p3
    · rename_i c
      obtain ⟨c1, c2⟩ := c
      refine ⟨c1, fun ws dw => ?_⟩
      obtain ⟨b, hb, z, hz, ez, _⟩ := rh3.obj _ _ e3
      rw [s3.get hk] at hb
      cases hb
      have z0 : z = [] := by simpa using ez
      subst z0
      refine ⟨hz, keys.zip ws, zip_kV keys ws, by rw [List.length_zip]; omega, ?_⟩
      have sp : Step μ3 H3 μ3 (upd H3 q (.dK (mergeK [] (keys.zip ws)))) := Step.set hz (fun _ z => by cases z) (fun _ _ z => by cases z) (fun _ z => by cases z)
      have kd := (merge_ok (kvs := []) (ws := []) (kden_zip c1 dw) rfl).mono sp
      exact p3 μ3 _ sp (rh3.put e3 (s3.get hk) ⟨_, upd_same, kd.keys, kd.vals⟩) _ ⟨q, rfl, s3.get hk⟩
    · exact p3.elim
  · exact p3.elim
/-! ### a tuple many times -/
def rRepW (K : PySem.W.Frag) : R2 := fun x y H Q => ∃ l k xs, x = .ref l ∧ y = .int k ∧ SqT K H l xs ∧ xs ≠ [] ∧ 2 ≤ k ∧ ((xs.length : Nat) : Int) * k ≤ 1000000 ∧ ∀ p, H p = none → Q (.ref p) (upd H p (.tup (List.replicate k.toNat xs).flatten))
theorem op_repW : OpR X (binaryOp .Mult) (rRepW X.K) := by
  rintro pins s σ H x y v u Q I rx ry ⟨l, k, xs, rfl, rfl, seq, some_, two, size_, q⟩
  cases rx
  obtain ⟨t, rfl⟩ := ry
  obtain ⟨its, r, ⟨⟨cls, dd, data, sl⟩, at_l, hc, n, hd⟩, _⟩ := I.tuple seq
  simp only at hc hd
  subst hc hd
  have same : its.length = xs.length := r.length.symm
  have pos : 0 < xs.length := List.length_pos_iff.mpr some_
  have full : its.toArray.isEmpty = false := by
    cases its with
    | nil => rw [← same] at pos; exact absurd pos (by decide)
    | cons => rfl
  have count : its.toArray.size = xs.length := by rw [List.size_toArray, same]
  have klt : k ≤ 1000000 := by
    have : 1 * k ≤ ((xs.length : Nat) : Int) * k := Int.mul_le_mul_of_nonneg_right (by omega) (by omega)
    omega
  have nat_ : k.toNat * xs.length ≤ 1000000 := by
    have : ((k.toNat * xs.length : Nat) : Int) ≤ 1000000 := by
      rw [Int.natCast_mul, Int.toNat_of_nonneg (by omega), Int.mul_comm]
      exact size_
    omega
  have fits : (List.replicate k.toNat its).flatten.length ≤ sizeLine := by
    rw [PyProof.Rows.lm_len_rep_flat, same, sizeLine_eq]
    omega
  have a0 : (decide (k < -(2 ^ 63)) || decide (k ≥ 2 ^ 63)) = false := by rw [Bool.or_eq_false_iff]; exact ⟨decide_eq_false (by omega), decide_eq_false (by omega)⟩
  have a1 : (its.toArray.isEmpty || k == 1) = false := by rw [full, Bool.false_or]; exact beq_eq_false_iff_ne.mpr (by omega)
  have a2 : (decide (k ≤ 0) || its.toArray.isEmpty) = false := by rw [full, Bool.or_false]; exact decide_eq_false (by omega)
  have a3 : Builtin.Tuple.tupleTooMany (((its.toArray.size : Nat) : Int) * k) = false := by
    unfold Builtin.Tuple.tupleTooMany
    rw [count, sizeLine_eq]
    exact decide_eq_false (by omega)
  have a4 : ¬ ((its.toArray.size : Nat) : Int) * k > (2 ^ 63 - 1) / 8 := by rw [count]; omega
  have mul := tuple_mulW l its.toArray n dd sl k t a0 a1 a2 a4 a3 (by rw [size_rep, List.size_toArray]; exact fits)
  refine wpAny_binaryOp_repeat_ref (T := "tuple") (U := "int") (by decide) ⟨_, at_l, rfl⟩ (fun s' => typeIs_int s' k t) noFill_tuple_mul PySem.F.fills_int_mul PySem.F.slot_int_rmul repeat_tuple PySem.F.slot_int_index.lookup ?_
  refine call_meets PySem.F.slot_int_rmul (typeIs_int s k t) PySem.F.entry_int_rmul (PySem.F.args_int_rmul_2 _ _) (int_rmul_tuple k t l its.toArray n dd sl) ⟨at_l, rfl, ⟨_, at_l, rfl⟩, ?_⟩
  refine call_meets PySem.F.slot_tuple_mul ⟨_, at_l, rfl⟩ PySem.F.entry_tuple_mul (PySem.F.args_tuple_mul_2 _ _) mul ⟨at_l, ?_⟩
  rw [size_rep]
  refine ⟨.ref s.heap.objs.size, _, I.laid (t' := s.toks) (o := .tup (List.replicate k.toNat xs).flatten) (fun b ob z => Heap.get?_push_of_some _ z) (Nat.le_refl _) ⟨?_, _, r.rep k.toNat, IsTup.new _ _⟩, rfl, q _ (I.hok.fresh (Nat.le_refl _))⟩
  rw [PyProof.Rows.lm_len_rep_flat, sizeLine_eq]
  omega
/-- any product -/
def oMulA : G2 := fun a b h => match a, b with
  | .tup xs, .int k => if xs ≠ [] ∧ 2 ≤ k ∧ ((xs.length : Nat) : Int) * k ≤ 1000000 then some (.tup (List.replicate k.toNat xs).flatten, h) else none
  | a, b => oMul a b h
theorem op_mulA : OpR X (binaryOp .Mult) (r2 X.K oMulA) := by
  intro pins s σ H x y v u Q I rx ry ⟨μ, h, a, b, da, db, rh, p⟩
  unfold oMulA at p
  split at p
  · split at p
    · rename_i xs k c
      obtain ⟨l, vs, rfl, q, dd⟩ := da
      cases db.to_int
      exact op_repW pins s σ H _ _ v u Q I rx ry ⟨l, k, vs, rfl, rfl, SqT.of q, fun z => c.1 (dd.nil_iff.mp z), c.2.1, by rw [dd.length]; exact c.2.2, fun p' hp' => p.finT rh (dd.rep k.toNat) p' hp'⟩
    · exact p.elim
  · exact op_mulM pins s σ H x y v u Q I rx ry ⟨μ, h, _, _, da, db, rh, p⟩
end
end PI
/-! Order of tuples of numbers; how the newer mirrors are reckoned. -/
namespace PI
open PySem PySem.Spec L2
open PyProof.Rows hiding St
def geL (ns ms : List Int) : Bool := Ob.lexAt (fun j => decide (ns.getD j 0 = ms.getD j 0)) (fun j => decide (ms.getD j 0 ≤ ns.getD j 0)) (decide (ms.length ≤ ns.length)) 0 (min ns.length ms.length)
theorem geL3 (a b c x y z : Int) : geL [a, b, c] [x, y, z] = if a = x then if b = y then decide (z ≤ c) else decide (y ≤ b) else decide (x ≤ a) := by
  simp only [geL, Ob.lexAt, List.length_cons, List.length_nil, List.getD_cons_zero, List.getD_cons_succ, decide_eq_true_eq, Nat.min_self, Nat.zero_add]
  by_cases h1 : a = x <;> by_cases h2 : b = y <;> by_cases h3 : c = z <;> simp [h1, h2, h3]
section
variable {X : Cx} {ct : Ctb} {W : WX}
theorem ge_tup {k : Nat} (hr : Room k X.A) {pins : List (Addr × Obj)} {s : Shared} {σ : L2.St} {H : Hp} {a b : Addr} {ns ms : List Int} {Q : VK} (I : L2.Inv X pins σ H s) (ha : SqT X.K H a (ns.map V.int)) (hb : SqT X.K H b (ms.map V.int)) (q : Q (.bl (geL ns ms)) H) :
    wpAny (model X.prog X.w) X.A (compareOp .GtE (.ref a) (.ref b)) (EP X pins σ Q) X.xe s := by
  obtain ⟨xs, rx, px, _⟩ := I.tuple ha
  obtain ⟨ys, ry, py, _⟩ := I.tuple hb
  have ix : IntsAre xs ns := rx.ints
  have iy : IntsAre ys ms := ry.ints
  have sx : xs.toArray.size = ns.length := by rw [List.size_toArray]; exact ix.length
  have sy : ys.toArray.size = ms.length := by rw [List.size_toArray]; exact iy.length
  have gx : ∀ j (hj : j < xs.toArray.size), ∃ t, xs.toArray[j] = .int (ns.getD j 0) t := fun j hj => PyProof.Rows.IntsAre.int_at ix _ _ (by simp at hj; simp [hj])
  have gy : ∀ j (hj : j < ys.toArray.size), ∃ t, ys.toArray[j] = .int (ms.getD j 0) t := fun j hj => PyProof.Rows.IntsAre.int_at iy _ _ (by simp at hj; simp [hj])
  have beq_ : ∀ m n : Int, (m == n) = decide (m = n) := fun m n => by
    by_cases e : m = n
    · rw [decide_eq_true e]; exact beq_iff_eq.mpr e
    · rw [decide_eq_false e]; exact beq_eq_false_iff_ne.mpr e
  have rule := Ob.RcOp.tuples_ge (A := X.A) (s := s) (e := fun j => decide (ns.getD j 0 = ms.getD j 0)) (r := fun j => decide (ms.getD j 0 ≤ ns.getD j 0)) px py hr.units0
    (fun j h1 h2 => by
      obtain ⟨t, et⟩ := gx j h1
      obtain ⟨u, eu⟩ := gy j h2
      rw [et, eu, ← beq_]
      exact SeqAt.EqAt.int_int _ _ _ _)
    (fun j h1 h2 _ => by
      obtain ⟨t, et⟩ := gx j h1
      obtain ⟨u, eu⟩ := gy j h2
      rw [et, eu]
      exact Ob.RcOp.ge_int _ _ _ _)
  rw [sx, sy] at rule
  exact rule X.prog X.w X.xe (EP X pins σ Q) ⟨.bl _, H, I, rfl, q⟩
/-- a >= b: numbers, or tuples of numbers -/
def oGeA : G2 := fun a b h => match a, b with
  | .tup xs, .tup ys => match intsD xs, intsD ys with
    | some ns, some ms => some (.bl (geL ns ms), h)
    | _, _ => none
  | a, b => oGe a b h
theorem op_geA {k : Nat} (hr : Room k X.A) : OpR X (compareOp .GtE) (r2 X.K oGeA) := by
  intro pins s σ H x y v u Q I rx ry ⟨μ, h, a, b, da, db, rh, p⟩
  unfold oGeA at p
  split at p
  · split at p
    · rename_i ns ms e1 e2
      obtain ⟨a1, vs, rfl, q1, d1⟩ := da
      obtain ⟨a2, ws, rfl, q2, d2⟩ := db
      rw [intsD_eq e1] at d1
      rw [intsD_eq e2] at d2
      cases d1.ints'
      cases d2.ints'
      obtain rfl : v = .ref a1 := rx
      obtain rfl : u = .ref a2 := ry
      exact ge_tup hr I (SqT.of q1) (SqT.of q2) (p.fin rh rfl)
    · exact p.elim
  · exact op_geM pins s σ H x y v u Q I rx ry ⟨μ, h, _, _, da, db, rh, p⟩
end
/-! ### equations -/
section
variable {ρ : Rho} {h : Hh} {d e : D} {a b c : ME} {m : MA} {i j : Int} {n : Nat} {w w' : Str} {xs ys : List D}
@[simp] theorem oGet_tup : oGet (.tup xs) (.int i) h = (atI xs i).map fun d => (d, h) := rfl
@[simp] theorem oGet_rot : oGet (.rot xs) (.int i) h = (atI xs i).map fun d => (d, h) := rfl
@[simp] theorem oGet_rol : oGet (.rol xs) (.int i) h = (atI xs i).map fun d => (d, h) := rfl
theorem oGet_lst (e : h[n]? = some (.lst xs)) : oGet (.ref n) (.int i) h = (atI xs i).map fun d => (d, h) := by simp [oGet, getD?, oIx, e]
theorem oGet_dct {kvs : List (Key × D)} (e : h[n]? = some (.dct kvs)) : oGet (.ref n) (.str w) h = (valD kvs (.inr w)).map fun d => (d, h) := by simp [oGet, getD?, keyD, e]
theorem oGet_dctT {kvs : List (List Key × D)} {ks : List Key} (e : h[n]? = some (.dctT kvs)) (ek : keysD xs = some ks) : oGet (.ref n) (.tup xs) h = (valD kvs ks).map fun d => (d, h) := by simp [oGet, getD?, ek, e]
theorem oPut_lst (e : h[n]? = some (.lst xs)) : oPut (.ref n) (.int i) d h = (ixN xs.length i).map fun j => h.set n (.lst (xs.set j d)) := by
  cases q : ixN xs.length i with
  | none => simp [oPut, oSet, setD?, e, q]
  | some j => simp [oPut, oSet, e, q]
theorem oPut_dct {kvs : List (Key × D)} (e : h[n]? = some (.dct kvs)) (hl : kvs.length < sizeLine) : oPut (.ref n) (.str w) d h = some (h.set n (.dct (putD kvs (.inr w) d))) := by
  simp [oPut, oSet, setD?, keyD, e, hl]
theorem oPut_dctT {kvs : List (List Key × D)} {ks : List Key} (e : h[n]? = some (.dctT kvs)) (ek : keysD xs = some ks) (hl : kvs.length < sizeLine) : oPut (.ref n) (.tup xs) d h = some (h.set n (.dctT (putD kvs ks d))) := by
  simp [oPut, oSet, setD?, ek, e, hl]
@[simp] theorem oMulA_int : oMulA (.int i) (.int j) h = if mulOk i j = true then some (.int (i * j), h) else none := rfl
@[simp] theorem mSl_ap {lo hi : MO} : mSl a lo hi ρ h = (a ρ h).bind fun d h1 => (lo ρ h1).bind fun l h2 => (hi ρ h2).bind fun u h3 => Out.ofO (oSl d l u h3) := rfl
@[simp] theorem moN_ap : moN ρ h = .ok none h := rfl
@[simp] theorem moS_ap : moS a ρ h = (a ρ h).bind fun d h1 => match d with
  | .int i => .ok (some i) h1
  | _ => .bad := rfl
@[simp] theorem mYes_ap : mYes ρ h = .ok true h := rfl
@[simp] theorem mLc_ap {mi : MI} {g : MG} {t : MT} {vs : List Nat} : mLc mi g t a vs ρ h = (mi ρ h).bind fun j h1 => match lcL j g t a h1.length (wipeR ρ vs) j.most 0 (h1 ++ [.lst []]) with
  | some h2 => .ok (.ref h1.length) h2
  | none => .bad := rfl
@[simp] theorem miOf_ap {f : D → Hh → Option MIt} : miOf f a ρ h = (a ρ h).bind fun d h1 => match f d h1 with
  | some j => .ok j h1
  | none => .bad := rfl
@[simp] theorem iterA_tup : iterA (.tup xs) h = some (jSrc (.tup xs) xs.length) := rfl
@[simp] theorem iterA_rot : iterA (.rot xs) h = some (jSrc (.rot xs) xs.length) := rfl
@[simp] theorem iterA_rol : iterA (.rol xs) h = some (jSrc (.rol xs) xs.length) := rfl
@[simp] theorem iterA_str : iterA (.str w) h = some (jStr w) := rfl
theorem iterA_lst (e : h[n]? = some (.lst xs)) : iterA (.ref n) h = some (jSrc (.ref n) xs.length) := by simp [iterA, isTs, isLs, srcLen, e]
@[simp] theorem jSrc_most {d : D} : (jSrc d n).most = n := rfl
@[simp] theorem jSrc_tup {i : Nat} : (jSrc (.tup xs) n).at_ i h = some xs[i]? := rfl
@[simp] theorem jSrc_rot {i : Nat} : (jSrc (.rot xs) n).at_ i h = some xs[i]? := rfl
@[simp] theorem jSrc_rol {i : Nat} : (jSrc (.rol xs) n).at_ i h = some xs[i]? := rfl
theorem jSrc_lst {i k : Nat} (e : h[k]? = some (.lst xs)) : (jSrc (.ref k) n).at_ i h = some xs[i]? := by simp [jSrc, srcAt, e]
theorem miRng1_ap : miRng1 a ρ h = (a ρ h).bind fun d h1 => match d with
  | .int n => if -(2 ^ 62) ≤ n ∧ n < 2 ^ 62 then .ok (jRng 0 n.toNat) h1 else .bad
  | _ => .bad := rfl
theorem rng_c {x : Int} (a : 0 ≤ x) (b : x < 1000000000) : -(2 ^ 62) ≤ x ∧ x < 2 ^ 62 := by omega
theorem rng_i {x : Int} {h1 : Hh} (e : a ρ h = .ok (.int x) h1) (c : -(2 ^ 62) ≤ x ∧ x < 2 ^ 62) : miRng1 a ρ h = .ok (jRng 0 x.toNat) h1 := by
  unfold miRng1
  rw [e]
  show (if -(2 ^ 62) ≤ x ∧ x < 2 ^ 62 then Out.ok (jRng 0 x.toNat) h1 else .bad) = _
  rw [if_pos c]
theorem rng_ok {n : Nat} {h1 : Hh} (e : a ρ h = .ok (.int (n : Int)) h1) (b : n < 1000000000) : miRng1 a ρ h = .ok (jRng 0 n) h1 := by
  have t := rng_i e (rng_c (by omega) (by omega))
  rw [Int.toNat_natCast] at t
  exact t
theorem miZip_ap : miZip a b ρ h = (a ρ h).bind fun d h1 => (b ρ h1).bind fun e h2 => if (isTs d && isTs e) || (isLs d h2 && isLs e h2) then .ok (jZip d e (min (srcLen d h2) (srcLen e h2))) h2 else .bad := rfl
@[simp] theorem jZip_most {d e : D} : (jZip d e n).most = n := rfl
/-- a comprehension whose body leaves the heap alone -/
theorem lcL_pure {j : MIt} {g : MG} {t : MT} {e : ME} {ρ : Rho} {h1 : Hh} {items : List D} (f : D → Option D) (hl : items.length < sizeLine)
    (hat : ∀ acc i, j.at_ i (h1 ++ [.lst acc]) = some items[i]?)
    (hb : ∀ d ∈ items, ∀ acc, ∃ ρ1, g d ρ (h1 ++ [.lst acc]) = some (ρ1, h1 ++ [.lst acc]) ∧ match f d with
      | none => t ρ1 (h1 ++ [.lst acc]) = .ok false (h1 ++ [.lst acc])
      | some y => t ρ1 (h1 ++ [.lst acc]) = .ok true (h1 ++ [.lst acc]) ∧ e ρ1 (h1 ++ [.lst acc]) = .ok y (h1 ++ [.lst acc])) :
    lcL j g t e h1.length ρ items.length 0 (h1 ++ [.lst []]) = some (h1 ++ [.lst (items.filterMap f)]) := by
  have key : ∀ m i acc, i + m = items.length → acc = (items.take i).filterMap f → lcL j g t e h1.length ρ m i (h1 ++ [.lst acc]) = some (h1 ++ [.lst (items.filterMap f)]) := by
    intro m
    induction m with
    | zero =>
      intro i acc him hacc
      have hi : i = items.length := by omega
      unfold lcL
      rw [hat, hi, List.getElem?_eq_none (Nat.le_refl _), hacc, hi, List.take_length]
    | succ m ih =>
      intro i acc him hacc
      have hi : i < items.length := by omega
      have ei : items[i]? = some items[i] := List.getElem?_eq_getElem hi
      obtain ⟨ρ1, e1, e2⟩ := hb items[i] (List.getElem_mem hi) acc
      have et : items.take (i + 1) = items.take i ++ [items[i]] := by rw [List.take_add_one, ei]; rfl
      unfold lcL
      rw [hat, ei]
      simp only [e1]
      cases ef : f items[i] with
      | none =>
        rw [ef] at e2
        simp only at e2
        simp only [e2]
        exact ih (i + 1) acc (by omega) (by rw [et, List.filterMap_append, hacc]; simp [ef])
      | some y =>
        rw [ef] at e2
        simp only at e2
        have hk : (h1 ++ [Ob.lst acc])[h1.length]? = some (.lst acc) := by simp
        have hlen : acc.length < sizeLine := by
          rw [hacc]
          exact Nat.lt_of_le_of_lt (List.length_filterMap_le _ _) (Nat.lt_of_le_of_lt (by rw [List.length_take]; exact Nat.min_le_right _ _) hl)
        simp only [e2.1, e2.2, hk, if_pos hlen]
        have hset : (h1 ++ [Ob.lst acc]).set h1.length (.lst (acc ++ [y])) = h1 ++ [.lst (acc ++ [y])] := by
          rw [List.set_append_right _ _ (Nat.le_refl _)]
          simp
        rw [hset]
        exact ih (i + 1) (acc ++ [y]) (by omega) (by rw [et, List.filterMap_append, hacc]; simp [ef])
  exact key items.length 0 [] (by omega) (by simp)
/-- a comprehension, by what holds turn by turn -/
theorem lcL_inv {j : MIt} {g : MG} {t : MT} {e : ME} {k : Nat} {ρ : Rho} {h : Hh} (n : Nat) (P : Nat → Hh → Prop) (init : P 0 h) (hend : ∀ h, P n h → j.at_ n h = some none)
    (hit : ∀ i h, i < n → P i h → ∃ d ρ1 h1 b h2, j.at_ i h = some (some d) ∧ g d ρ h = some (ρ1, h1) ∧ t ρ1 h1 = .ok b h2 ∧ ((b = false ∧ P (i + 1) h2) ∨
      (b = true ∧ ∃ y h3 acc, e ρ1 h2 = .ok y h3 ∧ h3[k]? = some (.lst acc) ∧ acc.length < sizeLine ∧ P (i + 1) (h3.set k (.lst (acc ++ [y])))))) : ∃ h', lcL j g t e k ρ n 0 h = some h' ∧ P n h' := by
  have key : ∀ m i h, i + m = n → P i h → ∃ h', lcL j g t e k ρ m i h = some h' ∧ P n h' := by
    intro m
    induction m with
    | zero =>
      intro i h him p
      have hi : i = n := by omega
      subst hi
      refine ⟨h, ?_, p⟩
      unfold lcL
      rw [hend h p]
    | succ m ih =>
      intro i h him p
      obtain ⟨d, ρ1, h1, b, h2, e1, e2, e3, q⟩ := hit i h (by omega) p
      rcases q with ⟨rfl, q⟩ | ⟨rfl, y, h3, acc, e4, e5, e6, q⟩
      · obtain ⟨h', e7, p'⟩ := ih (i + 1) h2 (by omega) q
        refine ⟨h', ?_, p'⟩
        unfold lcL
        rw [e1]
        simp only [e2, e3]
        exact e7
      · obtain ⟨h', e7, p'⟩ := ih (i + 1) _ (by omega) q
        refine ⟨h', ?_, p'⟩
        unfold lcL
        rw [e1]
        simp only [e2, e3, e4, e5, if_pos e6]
        exact e7
  exact key n 0 h (by omega) init
end
end PI
/-! a, b = any sequence. -/
namespace PI
open PySem PySem.Spec L2
open PyProof.Rows hiding St
def gmSeq (n : Nat) (m : MGs) : MG := fun d ρ h => match seqD h d with
  | some ds => if ds.length = n then m ds ρ h else none
  | none => none
section
variable {X : Cx} {ct : Ctb} {W : WX}
theorem sg_seq {es : List Expr} {k : Nat} {m : MGs} {n : Nat} {pos : Pos} (hc : X.calm = true) (h : SGs X es m)
    (hn : (assignEach es X.env).length = n := by rfl) (hst : (assignEach es X.env).findIdx? (·.1) = none := by rfl) : SG X (.Tuple es k pos) (gmSeq n m) := by
  constructor
  intro pins s σ H v u Q I r ⟨μ, ρ, h', d, rs, rh, dv, p⟩
  unfold gmSeq at p
  cases e : seqD h' d with
  | none => rw [e] at p; exact p.elim
  | some ds =>
    rw [e] at p
    dsimp only at p
    by_cases hl : ds.length = n
    · rw [if_pos hl] at p
      obtain ⟨a, vs, rfl, sq, dd⟩ := seqD_ok rh dv e
      rcases sq with sq | sq
      · exact (pg_lst hc h hn hst).run pins s σ H _ u Q I r ⟨a, vs, rfl, sq, by rw [dd.length]; exact hl, μ, ρ, h', ds, rs, rh, dd, p⟩
      · exact (pg_tup hc h hn hst).run pins s σ H _ u Q I r ⟨a, vs, rfl, sq, by rw [dd.length]; exact hl, μ, ρ, h', ds, rs, rh, dd, p⟩
    · rw [if_neg hl] at p
      exact p.elim
end
@[simp] theorem gmSeq_tup {n : Nat} {m : MGs} {ds : List D} {ρ : Rho} {h : Hh} : gmSeq n m (.tup ds) ρ h = if ds.length = n then m ds ρ h else none := rfl
theorem gmSeq_lst {n k : Nat} {m : MGs} {ds : List D} {ρ : Rho} {h : Hh} (e : h[k]? = some (.lst ds)) : gmSeq n m (.ref k) ρ h = if ds.length = n then m ds ρ h else none := by
  simp [gmSeq, seqD, e]
end PI
/-! What a mirror does, by what holds behind it. -/
namespace PI
open PySem PySem.Spec L2
open PyProof.Rows hiding St
/-- a wish, kept from simp as an instance -/
class Pst (α : Type) where
  p : α → Hh → Prop
class Po where
  nx : Rho → Hh → Prop
  rt : D → Hh → Prop
  bk : Rho → Hh → Prop
  ct : Rho → Hh → Prop
  er : Exn → Rho → Hh → Prop
abbrev noX : Exn → Hh → Prop := fun _ _ => False
/-- (never unfolded by itself: it would run the program) -/
@[irreducible] def wS (o : OutS) [Q : Po] : Prop := match o with
  | .nx ρ h => Q.nx ρ h
  | .rt d h => Q.rt d h
  | .bk ρ h => Q.bk ρ h
  | .ct ρ h => Q.ct ρ h
  | .er x ρ h => Q.er x ρ h
  | .bad => False
@[irreducible] def wO {α : Type} (o : Out α) [Q : Pst α] [E : Pst Exn] : Prop := match o with
  | .ok a h => Q.p a h
  | .err x h => E.p x h
  | .bad => False
/-- what a computation does: it ends, without an exception, so -/
@[reducible] def spec {α : Type} (o : Out α) (P : α → Hh → Prop) : Prop := @wO α o ⟨P⟩ ⟨noX⟩
/-- .. or with this exception -/
@[reducible] def specE {α : Type} (o : Out α) (P : α → Hh → Prop) (E : Exn → Hh → Prop) : Prop := @wO α o ⟨P⟩ ⟨E⟩
@[reducible] def Hold {α : Type} [Q : Pst α] (a : α) (h : Hh) : Prop := Q.p a h
/-- then y -/
@[reducible] def Po.then (Q : Po) (y : MS) : Po := ⟨fun ρ h => @wS (y ρ h) Q, Q.rt, Q.bk, Q.ct, Q.er⟩
/-- a def's end -/
@[reducible] def Po.fin (Q : Pst D) (E : Pst Exn) : Po := ⟨fun _ h => Q.p .non h, Q.p, fun _ _ => False, fun _ _ => False, fun x _ h => E.p x h⟩
section
variable {α β : Type} {o o' : Out α} {s s' : OutS} {Q Q' : Po} {ρ : Rho} {h h' : Hh} {d : D} {x : Exn} {a : α} {E E' : Pst Exn} {P P' : Pst α} {R : Pst D} {y z : MS} {f : α → Hh → Out β} {k : α → Hh → OutS}
@[simp] theorem wS_nx : @wS (.nx ρ h) Q = Q.nx ρ h := by unfold wS; rfl
@[simp] theorem wS_rt : @wS (.rt d h) Q = Q.rt d h := by unfold wS; rfl
@[simp] theorem wS_bk : @wS (.bk ρ h) Q = Q.bk ρ h := by unfold wS; rfl
@[simp] theorem wS_ct : @wS (.ct ρ h) Q = Q.ct ρ h := by unfold wS; rfl
@[simp] theorem wS_er : @wS (.er x ρ h) Q = Q.er x ρ h := by unfold wS; rfl
@[simp] theorem wS_bad : @wS .bad Q = False := by unfold wS; rfl
@[simp] theorem wO_ok : @wO α (.ok a h) P E = @Hold α P a h := by unfold wO; rfl
@[simp] theorem wO_err : @wO α (.err x h) P E = @Hold Exn E x h := by unfold wO; rfl
@[simp] theorem wO_bad : @wO α .bad P E = False := by unfold wO; rfl
@[simp] theorem then_nx : (Q.then y).nx ρ h = @wS (y ρ h) Q := rfl
@[simp] theorem then_rt : (Q.then y).rt d h = Q.rt d h := rfl
@[simp] theorem then_bk : (Q.then y).bk ρ h = Q.bk ρ h := rfl
@[simp] theorem then_ct : (Q.then y).ct ρ h = Q.ct ρ h := rfl
@[simp] theorem then_er : (Q.then y).er x ρ h = Q.er x ρ h := rfl
@[simp] theorem fin_nx : (Po.fin R E).nx ρ h = @Hold D R .non h := rfl
@[simp] theorem fin_rt : (Po.fin R E).rt d h = @Hold D R d h := rfl
@[simp] theorem fin_bk : (Po.fin R E).bk ρ h = False := rfl
@[simp] theorem fin_ct : (Po.fin R E).ct ρ h = False := rfl
@[simp] theorem fin_er : (Po.fin R E).er x ρ h = @Hold Exn E x h := rfl
theorem bind_congr (e : o = o') : Out.bind o f = Out.bind o' f := by rw [e]
theorem bindS_congr (e : o = o') : Out.bindS o ρ k = Out.bindS o' ρ k := by rw [e]
theorem seq_congr (e : s = s') : OutS.seq s y = OutS.seq s' y := by rw [e]
@[simp] theorem wS_seq : @wS (s.seq y) Q = @wS s (Q.then y) := by cases s <;> simp [OutS.seq]
@[simp] theorem wO_out : @wO D s.out R E = @wS s (Po.fin R E) := by cases s <;> simp [OutS.out]
@[simp] theorem bind_bind {γ : Type} {g : β → Hh → Out γ} : (o.bind f).bind g = o.bind fun a h => (f a h).bind g := by cases o <;> rfl
@[simp] theorem bindS_bind {k : β → Hh → OutS} : (o.bind f).bindS ρ k = o.bindS ρ fun a h => (f a h).bindS ρ k := by cases o <;> rfl
@[simp] theorem bindS_ok : (Out.ok a h).bindS ρ k = k a h := rfl
@[simp] theorem bindS_err : (Out.err x h : Out α).bindS ρ k = .er x ρ h := rfl
@[simp] theorem bindS_bad : (Out.bad : Out α).bindS ρ k = .bad := rfl
@[simp] theorem seq_nx' : (OutS.nx ρ h).seq y = y ρ h := rfl
@[simp] theorem seq_rt' : (OutS.rt d h).seq y = .rt d h := rfl
@[simp] theorem seq_bk' : (OutS.bk ρ h).seq y = .bk ρ h := rfl
@[simp] theorem seq_ct' : (OutS.ct ρ h).seq y = .ct ρ h := rfl
@[simp] theorem seq_er' : (OutS.er x ρ h).seq y = .er x ρ h := rfl
@[simp] theorem seq_bad' : (OutS.bad).seq y = .bad := rfl
theorem spec.mono {P P' : α → Hh → Prop} (w : spec o P) (i : ∀ a h, P a h → P' a h) : spec o P' := by
  cases o with
  | ok a h => rw [spec, wO_ok] at w ⊢; exact i _ _ w
  | err x h => rw [spec, wO_err] at w ⊢; exact w
  | bad => rw [spec, wO_bad] at w; exact w.elim
/-- what a computation gives, then the rest -/
theorem wO.bind {P : α → Hh → Prop} {R : Pst β} (w : spec o P) (i : ∀ a h, P a h → @wO β (f a h) R E) : @wO β (o.bind f) R E := by
  cases o with
  | ok a h => rw [spec, wO_ok] at w; exact i _ _ w
  | err x h => rw [spec, wO_err] at w; exact w.elim
  | bad => rw [spec, wO_bad] at w; exact w.elim
theorem wO.bindE {P : α → Hh → Prop} {E1 : Exn → Hh → Prop} {R : Pst β} (w : specE o P E1) (i : ∀ a h, P a h → @wO β (f a h) R E) (j : ∀ x h, E1 x h → E.p x h) : @wO β (o.bind f) R E := by
  cases o with
  | ok a h => rw [specE, wO_ok] at w; exact i _ _ w
  | err x h => rw [specE, wO_err] at w; rw [Out.bind_err, wO_err]; exact j _ _ w
  | bad => rw [specE, wO_bad] at w; exact w.elim
theorem wS.bind {P : α → Hh → Prop} (w : spec o P) (i : ∀ a h, P a h → @wS (k a h) Q) : @wS (o.bindS ρ k) Q := by
  cases o with
  | ok a h => rw [spec, wO_ok] at w; exact i _ _ w
  | err x h => rw [spec, wO_err] at w; exact w.elim
  | bad => rw [spec, wO_bad] at w; exact w.elim
theorem wS.bindE {P : α → Hh → Prop} {E1 : Exn → Hh → Prop} (w : specE o P E1) (i : ∀ a h, P a h → @wS (k a h) Q) (j : ∀ x h, E1 x h → Q.er x ρ h) : @wS (o.bindS ρ k) Q := by
  cases o with
  | ok a h => rw [specE, wO_ok] at w; exact i _ _ w
  | err x h => rw [specE, wO_err] at w; rw [bindS_err, wS_er]; exact j _ _ w
  | bad => rw [specE, wO_bad] at w; exact w.elim
theorem spec.ex {P : α → Hh → Prop} (w : spec o P) : ∃ a h, o = .ok a h ∧ P a h := by
  cases o with
  | ok a h => rw [spec, wO_ok] at w; exact ⟨a, h, rfl, w⟩
  | err x h => rw [spec, wO_err] at w; exact w.elim
  | bad => rw [spec, wO_bad] at w; exact w.elim
theorem spec.of {P : α → Hh → Prop} (e : o = .ok a h) (p : P a h) : spec o P := by rw [e, spec, wO_ok]; exact p
theorem spec.ok {P : α → Hh → Prop} (w : spec (.ok a h) P) : P a h := by rw [spec, wO_ok] at w; exact w
theorem spec.err {P : α → Hh → Prop} (w : spec (.err x h : Out α) P) : False := by rw [spec, wO_err] at w; exact w
theorem specE.ok {P : α → Hh → Prop} {E : Exn → Hh → Prop} (w : specE (.ok a h) P E) : P a h := by rw [specE, wO_ok] at w; exact w
theorem specE.err {P : α → Hh → Prop} {E : Exn → Hh → Prop} (w : specE (.err x h : Out α) P E) : E x h := by rw [specE, wO_err] at w; exact w
theorem specE.bad {P : α → Hh → Prop} {E : Exn → Hh → Prop} (w : specE (.bad : Out α) P E) : False := by rw [specE, wO_bad] at w; exact w
theorem spec.bad {P : α → Hh → Prop} (w : spec (.bad : Out α) P) : False := by rw [spec, wO_bad] at w; exact w
/-- the mirror of a def -/
theorem wO_fn {N : Nat} {b : MS} {ds : List D} (w : @wS (b (ds.map some ++ List.replicate (N - ds.length) none) h) (Po.fin R E)) : @wO D (mFn N b ds h) R E := by
  unfold mFn
  rw [wO_out]
  exact w
/-- a loop by what holds between its turns -/
@[reducible] def Po.turn (Q : Po) (P : Rho → Hh → Prop) : Po := ⟨P, Q.rt, Q.nx, P, Q.er⟩
@[simp] theorem turn_nx {P : Rho → Hh → Prop} : (Q.turn P).nx ρ h = @Hold Rho ⟨P⟩ ρ h := rfl
@[simp] theorem turn_rt {P : Rho → Hh → Prop} : (Q.turn P).rt d h = Q.rt d h := rfl
@[simp] theorem turn_bk {P : Rho → Hh → Prop} : (Q.turn P).bk ρ h = Q.nx ρ h := rfl
@[simp] theorem turn_ct {P : Rho → Hh → Prop} : (Q.turn P).ct ρ h = @Hold Rho ⟨P⟩ ρ h := rfl
@[simp] theorem turn_er {P : Rho → Hh → Prop} : (Q.turn P).er x ρ h = Q.er x ρ h := rfl
/-- an assertion in the midst -/
@[reducible] def Po.to (Q : Po) (P : Rho → Hh → Prop) : Po := ⟨P, Q.rt, Q.bk, Q.ct, Q.er⟩
@[simp] theorem to_nx {P : Rho → Hh → Prop} : (Q.to P).nx ρ h = @Hold Rho ⟨P⟩ ρ h := rfl
@[simp] theorem to_rt {P : Rho → Hh → Prop} : (Q.to P).rt d h = Q.rt d h := rfl
@[simp] theorem to_bk {P : Rho → Hh → Prop} : (Q.to P).bk ρ h = Q.bk ρ h := rfl
@[simp] theorem to_ct {P : Rho → Hh → Prop} : (Q.to P).ct ρ h = Q.ct ρ h := rfl
@[simp] theorem to_er {P : Rho → Hh → Prop} : (Q.to P).er x ρ h = Q.er x ρ h := rfl
theorem wS.cut (P : Rho → Hh → Prop) (w : @wS s (Q.to P)) (k : ∀ ρ h, P ρ h → Q.nx ρ h) : @wS s Q := by
  unfold wS at *
  cases s with
  | nx ρ h => exact k _ _ w
  | rt d h => exact w
  | bk ρ h => exact w
  | ct ρ h => exact w
  | er x ρ h => exact w
  | bad => exact w
theorem wS.loop {j : MIt} {g : MG} {b : MS} {n : Nat} (P : Nat → Rho → Hh → Prop) (init : P 0 ρ h) (hend : ∀ ρ h, P n ρ h → j.at_ n h = some none ∧ Q.nx ρ h)
    (hit : ∀ i ρ h, i < n → P i ρ h → ∃ d ρ1 h1, j.at_ i h = some (some d) ∧ g d ρ h = some (ρ1, h1) ∧ @wS (b ρ1 h1) (Q.turn (P (i + 1)))) : @wS (forL j g b n 0 ρ h) Q := by
  have key : ∀ m i ρ h, i + m = n → P i ρ h → @wS (forL j g b m i ρ h) Q := by
    intro m
    induction m with
    | zero =>
      intro i ρ h e p
      have e : i = n := by omega
      subst e
      obtain ⟨e1, q⟩ := hend _ _ p
      unfold forL
      rw [e1]
      dsimp only
      rw [wS_nx]
      exact q
    | succ m ih =>
      intro i ρ h e p
      obtain ⟨d, ρ1, h1, e1, e2, w⟩ := hit i ρ h (by omega) p
      unfold forL
      rw [e1]
      simp only [e2]
      have w0 := w
      unfold wS at w
      cases eb : b ρ1 h1 with
      | nx ρ' h' => rw [eb] at w; exact ih (i + 1) _ _ (by omega) w
      | ct ρ' h' => rw [eb] at w; exact ih (i + 1) _ _ (by omega) w
      | bk ρ' h' => rw [eb] at w; dsimp only; rw [wS_nx]; exact w
      | rt d h' => rw [eb] at w; dsimp only; rw [wS_rt]; exact w
      | er x ρ' h' => rw [eb] at w; dsimp only; rw [wS_er]; exact w
      | bad => rw [eb] at w; exact w.elim
  exact key n 0 ρ h (by omega) init
/-- a while by what holds between its turns -/
theorem wS.while {c : MT} {b : MS} {n : Nat} (P : Nat → Rho → Hh → Prop) (init : ∃ m, m < n ∧ P m ρ h)
    (hit : ∀ m ρ h, P m ρ h → @wO Bool (c ρ h) ⟨fun t h1 => (t = true → @wS (b ρ h1) (Q.turn fun ρ' h' => ∃ m', m' < m ∧ P m' ρ' h')) ∧ (t = false → Q.nx ρ h1)⟩ ⟨noX⟩) : @wS (whileL c b n ρ h) Q := by
  have key : ∀ n m ρ h, m < n → P m ρ h → @wS (whileL c b n ρ h) Q := by
    intro n
    induction n with
    | zero => intro m ρ h e p; omega
    | succ n ih =>
      intro m ρ h e p
      unfold whileL
      refine wS.bind (hit m ρ h p) fun t h1 w => ?_
      by_cases ht : t = true
      · have w := w.1 ht
        rw [if_pos ht]
        unfold wS at w
        cases eb : b ρ h1 with
        | nx ρ' h' => rw [eb] at w; obtain ⟨m', lt, p'⟩ := w; exact ih m' _ _ (by omega) p'
        | ct ρ' h' => rw [eb] at w; obtain ⟨m', lt, p'⟩ := w; exact ih m' _ _ (by omega) p'
        | bk ρ' h' => rw [eb] at w; dsimp only; rw [wS_nx]; exact w
        | rt d h' => rw [eb] at w; dsimp only; rw [wS_rt]; exact w
        | er x ρ' h' => rw [eb] at w; dsimp only; rw [wS_er]; exact w
        | bad => rw [eb] at w; exact w.elim
      · rw [if_neg ht, wS_nx]
        exact w.2 (by simpa using ht)
  obtain ⟨m, lt, p⟩ := init
  exact key n m ρ h lt p
end
/-! ### heaps that grow -/
structure Ext (S : Nat → Prop) (h h' : Hh) : Prop where
  len : h.length ≤ h'.length
  keep : ∀ i o, h[i]? = some o → ¬ S i → h'[i]? = some o
abbrev noS : Nat → Prop := fun _ => False
section
variable {S S' : Nat → Prop} {h h1 h2 : Hh} {i : Nat} {o o' : Ob}
theorem Ext.refl : Ext S h h := ⟨Nat.le_refl _, fun _ _ e _ => e⟩
theorem Ext.trans (a : Ext S h h1) (b : Ext S h1 h2) : Ext S h h2 := ⟨Nat.le_trans a.len b.len, fun i o e n => b.keep i o (a.keep i o e n) n⟩
theorem Ext.push {l : Hh} : Ext S h (h ++ l) := ⟨by simp, fun i o e _ => by rw [List.getElem?_append_left (List.getElem?_eq_some_iff.mp e).1]; exact e⟩
theorem Ext.pushR {l : Hh} (a : Ext S h h1) : Ext S h (h1 ++ l) := a.trans .push
theorem Ext.set (s : S i) : Ext S h (h.set i o) := ⟨by simp, fun j p e n => by
  rw [List.getElem?_set_ne (fun z => n (by rw [← z]; exact s))]; exact e⟩
theorem Ext.setR (a : Ext S h h1) (s : S i) : Ext S h (h1.set i o) := a.trans (.set s)
theorem Ext.new (a : Ext S h h1) (s : h.length ≤ i) : Ext S h (h1.set i o) := ⟨by simp [a.len], fun j p e n => by
  have : j < h.length := (List.getElem?_eq_some_iff.mp e).1
  rw [List.getElem?_set_ne (by omega)]; exact a.keep j p e n⟩
theorem Ext.weak (a : Ext S h h1) (w : ∀ i, i < h.length → S i → S' i) : Ext S' h h1 := ⟨a.len, fun i o e n => a.keep i o e fun z => n (w i (List.getElem?_eq_some_iff.mp e).1 z)⟩
theorem Ext.go (a : Ext S h h1) (b : Ext S' h1 h2) (w : ∀ i, i < h.length → S' i → S i) : Ext S h h2 := ⟨Nat.le_trans a.len b.len, fun i o e n => b.keep i o (a.keep i o e n) fun z => n (w i (List.getElem?_eq_some_iff.mp e).1 z)⟩
theorem Ext.of (a : Ext noS h h1) : Ext S h h1 := a.weak fun _ _ z => z.elim
theorem Ext.get (a : Ext noS h h1) (e : h[i]? = some o) : h1[i]? = some o := a.keep i o e fun z => z
theorem lt_of (e : h[i]? = some o) : i < h.length := (List.getElem?_eq_some_iff.mp e).1
theorem set_get (e : h[i]? = some o) : (h.set i o')[i]? = some o' := by rw [List.getElem?_set_self (lt_of e)]
theorem set_ne {j : Nat} (e : h[i]? = some o) (n : i ≠ j) : (h.set j o')[i]? = some o := by rw [List.getElem?_set_ne (Ne.symm n)]; exact e
theorem push_get {l : Hh} (e : h[i]? = some o) : (h ++ l)[i]? = some o := by rw [List.getElem?_append_left (lt_of e)]; exact e
theorem push_new : (h ++ [o])[h.length]? = some o := by simp
theorem lst_ne {xs : List D} {j : Nat} (e : h[i]? = some (.lst xs)) (f : h[j]? = some o) (n : ∀ xs, o ≠ .lst xs) : i ≠ j := fun z => by
  subst z; rw [e] at f; cases f; exact n _ rfl
end
end PI
set_option autoImplicit false
/-! Helps: tables, sorting, equality of plain data. -/
namespace PI
open PySem PySem.Spec L2
open PyProof.Rows hiding St
open PySem.W (dataLe alike)
/-! ### tables -/
section
variable {α : Type} [DecidableEq α]
def tabD (enc : α → List Key) (t : List (α × Int)) : List (List Key × D) := t.map fun p => (enc p.1, .int p.2)
def look (t : List (α × Int)) (a : α) : Int := ((t.find? fun p => decide (p.1 = a)).map (·.2)).getD 0
def putT (t : List (α × Int)) (a : α) (v : Int) : List (α × Int) := if (t.any fun p => decide (p.1 = a)) = true then t.map (fun p => if p.1 = a then (p.1, v) else p) else t ++ [(a, v)]
theorem valD_tab {enc : α → List Key} (inj : ∀ a b, enc a = enc b → a = b) (t : List (α × Int)) (a : α) : valD (tabD enc t) (enc a) = (t.find? fun p => decide (p.1 = a)).map fun p => D.int p.2 := by
  unfold valD tabD
  induction t with
  | nil => rfl
  | cons p t ih =>
    by_cases e : p.1 = a
    · subst e; simp
    · have : enc p.1 ≠ enc a := fun z => e (inj _ _ z)
      simp [e, this]
      simpa using ih
theorem getD_tab {enc : α → List Key} (inj : ∀ a b, enc a = enc b → a = b) (t : List (α × Int)) (a : α) : (valD (tabD enc t) (enc a)).getD (.int 0) = .int (look t a) := by
  rw [valD_tab inj]
  unfold look
  cases t.find? fun p => decide (p.1 = a) <;> rfl
theorem putD_tab {enc : α → List Key} (inj : ∀ a b, enc a = enc b → a = b) (t : List (α × Int)) (a : α) (v : Int) : putD (tabD enc t) (enc a) (.int v) = tabD enc (putT t a v) := by
  have e : ∀ b, (decide (enc b = enc a)) = decide (b = a) := fun b => by
    by_cases z : b = a
    · simp [z]
    · have : enc b ≠ enc a := fun y => z (inj _ _ y)
      simp [z, this]
  have e1 : ((tabD enc t).any fun kv => decide (kv.1 = enc a)) = t.any fun p => decide (p.1 = a) := by
    unfold tabD
    rw [List.any_map]
    congr 1
    funext p
    exact e p.1
  unfold putD putT
  rw [e1]
  split
  · unfold tabD
    rw [List.map_map, List.map_map]
    congr 1
    funext p
    by_cases z : p.1 = a
    · simp [z]
    · have : enc p.1 ≠ enc a := fun y => z (inj _ _ y)
      simp [z, this]
  · unfold tabD
    simp
theorem keys_put (t : List (α × Int)) (a : α) (v : Int) : (putT t a v).map (·.1) = if a ∈ t.map (·.1) then t.map (·.1) else t.map (·.1) ++ [a] := by
  have e : (t.any fun p => decide (p.1 = a)) = true ↔ a ∈ t.map (·.1) := by
    simp
  unfold putT
  by_cases z : a ∈ t.map (·.1)
  · rw [if_pos z, if_pos (e.mpr z), List.map_map]
    congr 1
    funext p
    by_cases y : p.1 = a <;> simp [y]
  · rw [if_neg z, if_neg (fun y => z (e.mp y))]
    simp
theorem len_put (t : List (α × Int)) (a : α) (v : Int) : (putT t a v).length ≤ t.length + 1 := by
  unfold putT
  split <;> simp
theorem nodup_put {t : List (α × Int)} {a : α} {v : Int} (h : (t.map (·.1)).Nodup) : ((putT t a v).map (·.1)).Nodup := by
  rw [keys_put]
  split
  · exact h
  · rename_i n
    exact List.nodup_append.mpr ⟨h, by simp, by
      intro x hx y hy
      simp at hy
      subst hy
      intro e
      subst e
      exact n hx⟩
theorem mem_put {t : List (α × Int)} {a b : α} {v : Int} (h : b ∈ (putT t a v).map (·.1)) : b = a ∨ b ∈ t.map (·.1) := by
  rw [keys_put] at h
  split at h
  · exact .inr h
  · rcases List.mem_append.mp h with h | h
    · exact .inr h
    · exact .inl (by simpa using h)
theorem look_put (t : List (α × Int)) (a b : α) (v : Int) : look (putT t a v) b = if b = a then v else look t b := by
  have key : ∀ t : List (α × Int), (t.any fun p => decide (p.1 = a)) = true → look (t.map fun p => if p.1 = a then (p.1, v) else p) b = if b = a then v else look t b := by
    intro t
    induction t with
    | nil => intro z; cases z
    | cons p t ih =>
      intro z
      unfold look at ih ⊢
      by_cases e1 : p.1 = a
      · by_cases e2 : b = a
        · subst e2; simp [e1]
        · have n1 : ¬ p.1 = b := fun y => e2 (y ▸ e1)
          by_cases z2 : (t.any fun p => decide (p.1 = a)) = true
          · have t1 := ih z2
            have n2 : ¬ a = b := fun y => e2 y.symm
            rw [if_neg e2] at t1 ⊢
            rw [List.map_cons, if_pos e1, List.find?_cons_of_neg (by simpa [e1] using n2), List.find?_cons_of_neg (by simpa [e1] using n2)]
            exact t1
          · have n2 : ¬ a = b := fun y => e2 y.symm
            have : (t.map fun p => if p.1 = a then (p.1, v) else p) = t := by
              conv => rhs; rw [← List.map_id t]
              refine List.map_congr_left fun p hp => ?_
              have : p.1 ≠ a := fun y => z2 (List.any_eq_true.mpr ⟨p, hp, decide_eq_true y⟩)
              simp [this]
            rw [List.map_cons, this]
            simp [e1, n2, e2]
      · have z2 : (t.any fun p => decide (p.1 = a)) = true := by simpa [e1] using z
        have t1 := ih z2
        by_cases e2 : p.1 = b
        · have n3 : ¬ b = a := fun y => e1 (e2.trans y)
          simp [e1, e2, n3]
        · simp [e1, e2]
          simpa using t1
  unfold putT
  split
  · rename_i z
    exact key t z
  · rename_i z
    by_cases e : b = a
    · subst e
      have : t.find? (fun p => decide (p.1 = b)) = none := by
        rw [List.find?_eq_none]
        intro x hx
        have := fun y => z (List.any_eq_true.mpr ⟨x, hx, y⟩)
        simpa using this
      unfold look
      rw [List.find?_append, this]
      simp
    · unfold look
      rw [List.find?_append, if_neg e]
      have : ¬ a = b := fun y => e y.symm
      cases q : t.find? (fun p => decide (p.1 = b)) with
      | none => simp [this]
      | some p => rfl
theorem look_mem {t : List (α × Int)} (h : (t.map (·.1)).Nodup) {p : α × Int} (m : p ∈ t) : look t p.1 = p.2 := by
  induction t with
  | nil => cases m
  | cons q t ih =>
    rw [List.map_cons, List.nodup_cons] at h
    unfold look at ih ⊢
    rcases List.mem_cons.mp m with m | m
    · subst m; simp
    · have : ¬ q.1 = p.1 := fun z => h.1 (z ▸ List.mem_map.mpr ⟨p, m, rfl⟩)
      simp [this]
      simpa using ih h.2 m
theorem look_not {t : List (α × Int)} {a : α} (h : a ∉ t.map (·.1)) : look t a = 0 := by
  unfold look
  have : t.find? (fun p => decide (p.1 = a)) = none := by
    rw [List.find?_eq_none]
    intro x hx
    have : x.1 ≠ a := fun z => h (z ▸ List.mem_map.mpr ⟨x, hx, rfl⟩)
    simpa using this
  rw [this]; rfl
end
/-! ### data -/
theorem toPys_map {α : Type} {h : Hh} {n : Nat} {enc : α → D} {py : α → PyData} {xs : List α} (e : ∀ x ∈ xs, toPy h n (enc x) = some (py x)) : toPys h n (xs.map enc) = some (xs.map py) := by
  induction xs with
  | nil => simp [toPys]
  | cons x xs ih =>
    rw [List.map_cons, List.map_cons]
    unfold toPys
    rw [e x List.mem_cons_self, ih fun y hy => e y (List.mem_cons_of_mem _ hy)]
theorem sortD_map {α : Type} {enc : α → D} {py : α → PyData} {le : α → α → Bool} {xs : List α} (hle : ∀ a ∈ xs, ∀ b ∈ xs, dataLe false (fun p => p) (py a) (py b) = le a b) : sortD (xs.map enc) (xs.map py) = (xs.mergeSort le).map enc := by
  unfold sortD
  have e : (xs.map enc).zip (xs.map py) = xs.map fun x => (enc x, py x) := by
    induction xs with
    | nil => rfl
    | cons x xs ih =>
      have := ih fun a ha b hb => hle a (List.mem_cons_of_mem _ ha) b (List.mem_cons_of_mem _ hb)
      simp [this]
  rw [e, ← PySem.W.sort_maps (fun x => (enc x, py x)) (r := le) (s := dataLe false (fun p : D × PyData => p.2)) (fun a ha b hb => (hle a ha b hb).symm), List.map_map]
  rfl
structure SortsBy {α : Type} (enc : α → D) (py : α → PyData) (le : α → α → Bool) : Prop where
  to : ∀ (h : Hh) (x : α), toPy h 60 (enc x) = some (py x)
  al : ∀ a b, alike (py a) (py b) = true
  t1 : ∀ a, isT1 (py a) = true
  dp : ∀ a, (py a).depth ≤ 60
  le_ : ∀ a b, dataLe false (fun p => p) (py a) (py b) = le a b
theorem SortsBy.can {α : Type} {enc : α → D} {py : α → PyData} {le : α → α → Bool} (s : SortsBy enc py le) (xs : List α) : canSort (xs.map py) = true := by
  unfold canSort
  simp only [Bool.and_eq_true, Bool.or_eq_true, List.all_eq_true, decide_eq_true_eq, List.mem_map]
  refine ⟨⟨?_, .inl ?_⟩, ?_⟩
  · rintro _ ⟨a, _, rfl⟩ _ ⟨b, _, rfl⟩
    exact s.al a b
  · rintro _ ⟨a, _, rfl⟩
    exact s.t1 a
  · rintro _ ⟨a, _, rfl⟩
    exact s.dp a
theorem SortsBy.lst {α : Type} {enc : α → D} {py : α → PyData} {le : α → α → Bool} (s : SortsBy enc py le) {h : Hh} {r : Nat} {xs : List α} (e : h[r]? = some (.lst (xs.map enc))) : bSorted [.ref r] h = some (.ref h.length, h ++ [.lst ((xs.mergeSort le).map enc)]) := by
  have e0 : keysOf (.ref r) h = none := by simp [keysOf, e]
  have e1 : isLs (.ref r) h = true := by simp [isLs, e]
  have e2 : seqD h (.ref r) = some (xs.map enc) := by simp [seqD, e]
  have e3 : toPys h 60 (xs.map enc) = some (xs.map py) := toPys_map fun x _ => s.to h x
  have e4 : sortD (xs.map enc) (xs.map py) = (xs.mergeSort le).map enc := sortD_map fun a _ b _ => s.le_ a b
  simp -implicitDefEqProofs [bSorted, e0, e1, e2, e3, e4, s.can xs]
theorem SortsBy.keys {α : Type} {enc : α → D} {py : α → PyData} {le : α → α → Bool} {ke : α → List Key} (s : SortsBy enc py le) (hk : ∀ a, D.tup ((ke a).map kD) = enc a) {h : Hh} {r : Nat} {t : List (α × Int)} (e : h[r]? = some (.dctT (tabD ke t))) : bSorted [.ref r] h = some (.ref h.length, h ++ [.lst (((t.map (·.1)).mergeSort le).map enc)]) := by
  have e0 : keysOf (.ref r) h = some ((t.map (·.1)).map enc) := by
    simp only [keysOf, e, tabD, List.map_map]
    congr 1
    refine List.map_congr_left fun p _ => ?_
    exact hk p.1
  generalize t.map (fun p => p.1) = ks at e0 ⊢
  have e3 : toPys h 60 (ks.map enc) = some (ks.map py) := toPys_map fun x _ => s.to h x
  have e4 : sortD (ks.map enc) (ks.map py) = (ks.mergeSort le).map enc := sortD_map fun a _ b _ => s.le_ a b
  simp -implicitDefEqProofs [bSorted, e0, e3, e4, s.can ks]
/-- x in xs -/
structure EqBy {α : Type} (enc : α → D) (py : α → PyData) : Prop where
  to : ∀ (h : Hh) (n : Nat) (x : α), 8 ≤ n → toPy h n (enc x) = some (py x)
  eq : ∀ a b, PyData.eqv (py a) (py b) = true ↔ a = b
  ly : ∀ a, (py a).canLay0 = true
  dp : ∀ a, (py a).depth ≤ 8
theorem canAll_map {α : Type} {py : α → PyData} (xs : List α) (e : ∀ x, (py x).canLay0 = true) : PyData.canLayAll0 (xs.map py) = true := by
  induction xs with
  | nil => rfl
  | cons x xs ih => simp [PyData.canLayAll0, e x, ih]
theorem EqBy.inSeq {α : Type} {enc : α → D} {py : α → PyData} (s : EqBy enc py) {h : Hh} {b : D} {x : α} {xs : List α} (e : seqD h b = some (xs.map enc)) : ∃ r, inSeq (enc x) b h = some r ∧ (r = true ↔ x ∈ xs) := by
  unfold PI.inSeq
  rw [e]
  dsimp only
  rw [s.to h 62 x (by omega), toPys_map fun y _ => s.to h 62 y (by omega)]
  dsimp only
  rw [if_pos ⟨s.ly x, Nat.le_trans (s.dp x) (by omega), canAll_map xs s.ly⟩]
  refine ⟨_, rfl, ?_⟩
  rw [List.any_map, List.any_eq_true]
  constructor
  · rintro ⟨y, hy, e⟩
    have := (s.eq y x).mp e
    exact this ▸ hy
  · intro hx
    exact ⟨x, hx, (s.eq x x).mpr rfl⟩
theorem inStr_ref (d : D) (r : Nat) : inStr d (.ref r) = none := by cases d <;> rfl
theorem inStr_tup (d : D) (xs : List D) : inStr d (.tup xs) = none := by cases d <;> rfl
theorem EqBy.inL {α : Type} {enc : α → D} {py : α → PyData} (s : EqBy enc py) {h : Hh} {r : Nat} {xs : List α} (x : α) (e : h[r]? = some (.lst (xs.map enc))) : ∃ c, oIn (enc x) (.ref r) h = some (.bl c, h) ∧ oNotIn (enc x) (.ref r) h = some (.bl (!c), h) ∧ (c = true ↔ x ∈ xs) := by
  obtain ⟨c, ec, hc⟩ := s.inSeq (h := h) (b := .ref r) (x := x) (xs := xs) (by simp [seqD, e])
  have e2 : getD? (.ref r) (enc x) h = none := by simp [getD?, e]
  refine ⟨c, ?_, ?_, hc⟩
  · simp [oIn, oInB, inStr_ref, e2, ec]
  · simp [oNotIn, oInB, inStr_ref, e2, ec]
theorem EqBy.inT {α : Type} {enc : α → D} {py : α → PyData} (s : EqBy enc py) {h : Hh} {xs : List α} (x : α) : ∃ c, oIn (enc x) (.tup (xs.map enc)) h = some (.bl c, h) ∧ oNotIn (enc x) (.tup (xs.map enc)) h = some (.bl (!c), h) ∧ (c = true ↔ x ∈ xs) := by
  obtain ⟨c, ec, hc⟩ := s.inSeq (h := h) (b := .tup (xs.map enc)) (x := x) (xs := xs) rfl
  have e2 : getD? (.tup (xs.map enc)) (enc x) h = none := rfl
  refine ⟨c, ?_, ?_, hc⟩
  · simp [oIn, oInB, inStr_tup, e2, ec]
  · simp [oNotIn, oInB, inStr_tup, e2, ec]
theorem EqBy.eqB {α : Type} {enc : α → D} {py : α → PyData} (s : EqBy enc py) {h : Hh} {x y : α} (e : scalD (enc x) (enc y) = none) : ∃ r, oEqB (enc x) (enc y) h = some r ∧ (r = true ↔ x = y) := by
  unfold oEqB
  rw [e]
  dsimp only
  rw [s.to h 64 x (by omega), s.to h 64 y (by omega)]
  dsimp only
  have sh : ∀ x, SeqAt.shaped (py x) = true := fun x => by
    unfold SeqAt.shaped
    rw [s.ly x, decide_eq_true (Nat.le_trans (s.dp x) (by omega))]; rfl
  rw [if_pos (by rw [sh, sh]; rfl)]
  exact ⟨_, rfl, s.eq x y⟩
theorem lApp {h : Hh} {r : Nat} {d : D} {xs : List D} (e : h[r]? = some (.lst xs)) (l : xs.length < sizeLine) : lAppend (.ref r) [d] h = some (.non, h.set r (.lst (xs ++ [d]))) := by
  simp [lAppend, e, l]
theorem ints_inj {xs ys : List Int} (e : xs.map D.int = ys.map D.int) : xs = ys := (List.map_inj_right fun a b e => by cases e; rfl).mp e
theorem boolsD_map (xs : List Bool) : boolsD (xs.map D.bl) = some xs := by
  induction xs with
  | nil => rfl
  | cons x xs ih => simp [boolsD, ih]
theorem intsD_map (xs : List Int) : intsD (xs.map D.int) = some xs := by
  induction xs with
  | nil => rfl
  | cons x xs ih => simp [intsD, ih]
theorem bAll_ok {h : Hh} {r : Nat} {xs : List Bool} (e : h[r]? = some (.lst (xs.map D.bl))) : bAll [.ref r] h = some (.bl (xs.all id), h) := by
  simp [bAll, isLs, seqD, e, boolsD_map]
theorem bAny_ok {h : Hh} {r : Nat} {xs : List Bool} (e : h[r]? = some (.lst (xs.map D.bl))) : bAny [.ref r] h = some (.bl (xs.any id), h) := by
  simp [bAny, isLs, seqD, e, boolsD_map]
theorem bSum_ok {h : Hh} {r : Nat} {xs : List Int} (e : h[r]? = some (.lst (xs.map D.int))) : bSum [.ref r] h = some (.int xs.sum, h) := by
  simp [bSum, isLs, seqD, e, intsD_map]
theorem depthAll_le {ps : List PyData} {k : Nat} (e : ∀ p ∈ ps, p.depth ≤ k) : PyData.depthAll ps ≤ k := by
  induction ps with
  | nil => simp [PyData.depthAll]
  | cons p ps ih =>
    have h1 := e p List.mem_cons_self
    have h2 := ih fun q hq => e q (List.mem_cons_of_mem _ hq)
    simp [PyData.depthAll]
    omega
theorem canAll_of {ps : List PyData} (e : ∀ p ∈ ps, p.canLay0 = true) : PyData.canLayAll0 ps = true := by
  induction ps with
  | nil => rfl
  | cons p ps ih =>
    simp [PyData.canLayAll0, e p List.mem_cons_self, ih fun q hq => e q (List.mem_cons_of_mem _ hq)]
theorem oNe_nil {h : Hh} {r e : Nat} {xs : List D} {ps : List PyData} (hx : h[r]? = some (.lst xs)) (he : h[e]? = some (.lst [])) (hp : toPys h 63 xs = some ps) (hc : PyData.canLayAll0 ps = true) (hd : ∀ p ∈ ps, p.depth ≤ 60) : oNe (.ref r) (.ref e) h = some (.bl (!xs.isEmpty), h) := by
  have t1 : toPy h 64 (.ref r) = some (.list ps) := by simp -implicitDefEqProofs [toPy, hx, hp]
  have t2 : toPy h 64 (.ref e) = some (.list []) := by simp -implicitDefEqProofs [toPy, he, toPys]
  have d1 : PyData.depth (.list ps) ≤ 64 := by
    have := depthAll_le hd
    simp [PyData.depth]
    omega
  have s1 : SeqAt.shaped (.list ps) = true := by
    unfold SeqAt.shaped
    rw [decide_eq_true d1]
    simp [PyData.canLay0, hc]
  have s2 : SeqAt.shaped (.list []) = true := by decide +kernel
  have e1 : PyData.eqv (.list ps) (.list []) = xs.isEmpty := by
    cases xs with
    | nil => simp [toPys] at hp; subst hp; rfl
    | cons x xs =>
      unfold toPys at hp
      split at hp
      · cases hp; rfl
      · cases hp
  simp -implicitDefEqProofs [oNe, oEqB, scalD, t1, t2, s1, s2, e1]
/-- data that may be compared: py of it, shallow -/
structure DataOf {α : Type} (enc : α → D) (py : α → PyData) : Prop where
  to : ∀ (h : Hh) (n : Nat) (x : α), 10 ≤ n → toPy h n (enc x) = some (py x)
  ly : ∀ a, (py a).canLay0 = true
  dp : ∀ a, (py a).depth ≤ 10
theorem DataOf.ne_nil {α : Type} {enc : α → D} {py : α → PyData} (s : DataOf enc py) {h : Hh} {r e : Nat} {xs : List α} (hx : h[r]? = some (.lst (xs.map enc))) (he : h[e]? = some (.lst [])) : oNe (.ref r) (.ref e) h = some (.bl (!xs.isEmpty), h) := by
  have := oNe_nil (xs := xs.map enc) hx he (toPys_map (py := py) fun x _ => s.to h 63 x (by omega)) (canAll_map xs s.ly) (fun p hp => by
    obtain ⟨x, _, rfl⟩ := List.mem_map.mp hp
    exact Nat.le_trans (s.dp x) (by omega))
  simpa using this
/-- it reads as data, n deep at most -/
def PyOk (h : Hh) (n : Nat) (d : D) : Prop := ∃ p, toPy h n d = some p ∧ p.canLay0 = true ∧ p.depth ≤ n
section
variable {h : Hh} {n r : Nat} {ds : List D} {a b : D}
theorem PyOk.int {i : Int} : PyOk h n (.int i) := ⟨.int i, by simp [toPy], rfl, by simp [PyData.depth]⟩
theorem PyOk.bl {i : Bool} : PyOk h n (.bl i) := ⟨.bool i, by simp [toPy], rfl, by simp [PyData.depth]⟩
theorem PyOk.non : PyOk h n .non := ⟨.none, by simp [toPy], rfl, by simp [PyData.depth]⟩
theorem PyOk.str {x : Str} (c : PyData.strOk x = true) : PyOk h n (.str x) := ⟨.str x, by simp [toPy], by simpa [PyData.canLay0] using c, by simp [PyData.depth]⟩
theorem PyOk.all (k : ∀ d ∈ ds, PyOk h n d) : ∃ ps, toPys h n ds = some ps ∧ PyData.canLayAll0 ps = true ∧ PyData.depthAll ps ≤ n := by
  induction ds with
  | nil => exact ⟨[], by simp [toPys], rfl, by simp [PyData.depthAll]⟩
  | cons d ds ih =>
    obtain ⟨p, e1, c1, l1⟩ := k d List.mem_cons_self
    obtain ⟨ps, e2, c2, l2⟩ := ih fun x hx => k x (List.mem_cons_of_mem _ hx)
    exact ⟨p :: ps, by simp [toPys, e1, e2], by simp [PyData.canLayAll0, c1, c2], by simp [PyData.depthAll]; omega⟩
theorem PyOk.tup (k : ∀ d ∈ ds, PyOk h n d) : PyOk h (n + 1) (.tup ds) := by
  obtain ⟨ps, e, c, l⟩ := PyOk.all k
  exact ⟨.tuple ps, by simp [toPy, e], by simpa [PyData.canLay0] using c, by simp [PyData.depth]; omega⟩
theorem PyOk.ref (e : h[r]? = some (.lst ds)) (k : ∀ d ∈ ds, PyOk h n d) : PyOk h (n + 1) (.ref r) := by
  obtain ⟨ps, e2, c, l⟩ := PyOk.all k
  exact ⟨.list ps, by simp [toPy, e, e2], by simpa [PyData.canLay0] using c, by simp [PyData.depth]; omega⟩
theorem PyOk.eq (ka : PyOk h 64 a) (kb : PyOk h 64 b) (s : scalD a b = none) : ∃ c, oEq a b h = some (.bl c, h) ∧ oNe a b h = some (.bl (!c), h) := by
  obtain ⟨p, e1, c1, l1⟩ := ka
  obtain ⟨q, e2, c2, l2⟩ := kb
  have s1 : SeqAt.shaped p = true := by unfold SeqAt.shaped; rw [c1, decide_eq_true l1]; rfl
  have s2 : SeqAt.shaped q = true := by unfold SeqAt.shaped; rw [c2, decide_eq_true l2]; rfl
  exact ⟨PyData.eqv p q, by simp [oEq, oEqB, s, e1, e2, s1, s2], by simp [oNe, oEqB, s, e1, e2, s1, s2]⟩
theorem scal_tup (a : D) (xs : List D) : scalD a (.tup xs) = none := by cases a <;> rfl
end
theorem cutD_take {xs : List D} {k : Nat} (l : k ≤ xs.length) : PI.cutD xs none (some (k : Int)) = xs.take k := by
  unfold PI.cutD HT.sIx
  have : ¬ (k : Int) < 0 := by omega
  simp [this]
  try omega
theorem cutD_drop {xs : List D} {k : Nat} (l : k ≤ xs.length) : PI.cutD xs (some (k : Int)) none = xs.drop k := by
  unfold PI.cutD HT.sIx
  have h1 : ¬ (k : Int) < 0 := by omega
  have h2 : min k xs.length = k := by omega
  simp [h1, h2]
  exact List.take_of_length_le (by simp)
theorem cutD_last {xs : List D} : PI.cutD xs none (some (-1)) = xs.take (xs.length - 1) := by
  unfold PI.cutD HT.sIx
  simp
  congr 1
  omega
@[simp] theorem oSl_tup {xs : List D} {lo hi : Option Int} {h : Hh} : oSl (.tup xs) lo hi h = some (.tup (PI.cutD xs lo hi), h) := rfl
theorem oAdd_t {xs ys : List D} {h : Hh} (l : xs.length + ys.length ≤ 1000000) : oAdd (.tup xs) (.tup ys) h = some (.tup (xs ++ ys), h) := by
  have : xs.length + ys.length ≤ sizeLine := Nat.le_trans l (by decide)
  simp [oAdd, this]
theorem mulL {h : Hh} {r k : Nat} {xs : List D} (e : h[r]? = some (.lst xs)) (l : xs.length * k ≤ 1000000) (l2 : k ≤ 1000000) : oMulA (.ref r) (.int (k : Int)) h = some (.ref h.length, h ++ [.lst (List.replicate k xs).flatten]) := by
  have c : xs.length * k ≤ sizeLine := Nat.le_trans l (by decide)
  have a : -(2 ^ 63) ≤ (k : Int) ∧ (k : Int) < 2 ^ 63 := by omega
  have e1 : oMul (.ref r) (.int (k : Int)) h = if -(2 ^ 63) ≤ (k : Int) ∧ (k : Int) < 2 ^ 63 ∧ xs.length * (k : Int).toNat ≤ sizeLine then some (D.ref h.length, h ++ [Ob.lst (List.replicate (k : Int).toNat xs).flatten]) else none := by
    simp only [oMul, e]
  have e2 : oMulA (.ref r) (.int (k : Int)) h = oMul (.ref r) (.int (k : Int)) h := rfl
  rw [e2, e1, if_pos ⟨a.1, a.2, by rw [Int.toNat_natCast]; exact c⟩, Int.toNat_natCast]
theorem putL {h : Hh} {r k : Nat} {d : D} {xs : List D} (e : h[r]? = some (.lst xs)) (l : k < xs.length) : oPut (.ref r) (.int (k : Int)) d h = some (h.set r (.lst (xs.set k d))) := by
  have : ixN xs.length (k : Int) = some k := by
    unfold ixN
    rw [if_pos (by omega), if_pos (by omega), Int.toNat_natCast]
  rw [oPut_lst e, this]
  rfl
/-! ### ranges -/
def rngO : D → Hh → Out MIt
  | .int n, h => if -(2 ^ 62) ≤ n ∧ n < 2 ^ 62 then .ok (jRng 0 n.toNat) h else .bad
  | _, _ => .bad
def rngO2 : D → D → Hh → Out MIt
  | .int i, .int j, h => if -(2 ^ 62) ≤ i ∧ i < 2 ^ 62 ∧ -(2 ^ 62) ≤ j ∧ j < 2 ^ 62 then .ok (jRng i (j - i).toNat) h else .bad
  | _, _, _ => .bad
@[simp] theorem miRng1_app {a : ME} {ρ : Rho} {h : Hh} : miRng1 a ρ h = (a ρ h).bind fun d h1 => rngO d h1 := by
  unfold miRng1
  cases a ρ h with
  | ok d h1 => cases d <;> rfl
  | err x h1 => rfl
  | bad => rfl
@[simp] theorem miRng2_app {a b : ME} {ρ : Rho} {h : Hh} : miRng2 a b ρ h = (a ρ h).bind fun d h1 => (b ρ h1).bind fun e h2 => rngO2 d e h2 := by
  unfold miRng2
  cases a ρ h with
  | ok d h1 =>
    show (b ρ h1).bind _ = (b ρ h1).bind _
    cases b ρ h1 with
    | ok e h2 => cases d <;> cases e <;> rfl
    | err x h1 => rfl
    | bad => rfl
  | err x h1 => rfl
  | bad => rfl
@[simp] theorem rngO_int {n : Int} {h : Hh} (b : 0 ≤ n ∧ n < 1000000000) : rngO (.int n) h = .ok (jRng 0 n.toNat) h := by
  show (if -(2 ^ 62) ≤ n ∧ n < 2 ^ 62 then Out.ok (jRng 0 n.toNat) h else .bad) = _
  rw [if_pos (rng_c b.1 b.2)]
@[simp] theorem rngO_nat {n : Nat} {h : Hh} (b : n < 1000000000) : rngO (.int (n : Int)) h = .ok (jRng 0 n) h := by
  rw [rngO_int (by omega), Int.toNat_natCast]
@[simp] theorem rngO2_int {i j : Int} {h : Hh} (a : 0 ≤ i ∧ i < 1000000000) (b : 0 ≤ j ∧ j < 1000000000) : rngO2 (.int i) (.int j) h = .ok (jRng i (j - i).toNat) h := by
  show (if -(2 ^ 62) ≤ i ∧ i < 2 ^ 62 ∧ -(2 ^ 62) ≤ j ∧ j < 2 ^ 62 then Out.ok (jRng i (j - i).toNat) h else .bad) = _
  have h1 := rng_c a.1 a.2
  have h2 := rng_c b.1 b.2
  rw [if_pos ⟨h1.1, h1.2, h2.1, h2.2⟩]
/-! ### comprehensions -/
theorem lt_sl {n : Nat} (h : n < 1000000) : n < sizeLine := Nat.lt_of_lt_of_le h (by decide)
theorem le_sl {n : Nat} (h : n ≤ 1000000) : n ≤ sizeLine := Nat.le_trans h (by decide)
theorem spec.lc {j : MIt} {g : MG} {t : MT} {e : ME} {ρ : Rho} {h1 : Hh} {n : Nat} {R : D → Hh → Prop} (P : Nat → List D → Hh → Prop) (hn : n < sizeLine) (init : P 0 [] (h1 ++ [.lst []]))
    (hend : ∀ acc h, P n acc h → h[h1.length]? = some (.lst acc) → j.at_ n h = some none ∧ R (.ref h1.length) h)
    (hit : ∀ i acc h, i < n → P i acc h → h[h1.length]? = some (.lst acc) → ∃ d ρ1 h', j.at_ i h = some (some d) ∧ g d ρ h = some (ρ1, h') ∧ @wO Bool (t ρ1 h') ⟨fun b h2 =>
      (b = true → @wO D (e ρ1 h2) ⟨fun y h3 => h3[h1.length]? = some (.lst acc) ∧ P (i + 1) (acc ++ [y]) (h3.set h1.length (.lst (acc ++ [y])))⟩ ⟨noX⟩) ∧ (b = false → h2[h1.length]? = some (.lst acc) ∧ P (i + 1) acc h2)⟩ ⟨noX⟩) :
    spec (match lcL j g t e h1.length ρ n 0 (h1 ++ [.lst []]) with | some h2 => .ok (.ref h1.length) h2 | none => .bad) R := by
  obtain ⟨h', e1, acc, _, e2, p⟩ := lcL_inv (j := j) (g := g) (t := t) (e := e) (k := h1.length) (ρ := ρ) (h := h1 ++ [.lst []]) n (fun i h => ∃ acc, acc.length ≤ i ∧ h[h1.length]? = some (.lst acc) ∧ P i acc h)
    ⟨[], by simp, push_new, init⟩ (fun h ⟨acc, _, e, p⟩ => (hend acc h p e).1) (fun i h hi ⟨acc, l, e0, p⟩ => by
      obtain ⟨d, ρ1, h', a1, a2, a3⟩ := hit i acc h hi p e0
      obtain ⟨b, h2, b1, b2⟩ := spec.ex a3
      refine ⟨d, ρ1, h', b, h2, a1, a2, b1, ?_⟩
      cases b with
      | false => exact .inl ⟨rfl, acc, by omega, b2.2 rfl⟩
      | true =>
        obtain ⟨y, h3, c1, c2, c3⟩ := spec.ex (b2.1 rfl)
        exact .inr ⟨rfl, y, h3, acc, c1, c2, by omega, acc ++ [y], by simp; omega, set_get c2, c3⟩)
  rw [e1]
  exact spec.of rfl (hend acc h' p e2).2
/-- whose body leaves the heap alone -/
theorem spec.lcp {j : MIt} {g : MG} {t : MT} {e : ME} {ρ : Rho} {h1 : Hh} {n : Nat} {items : List D} {R : D → Hh → Prop} (f : D → Option D) (en : n = items.length) (hn : n < sizeLine)
    (hat : ∀ acc i, j.at_ i (h1 ++ [.lst acc]) = some items[i]?)
    (hb : ∀ d ∈ items, ∀ acc, ∃ ρ1, g d ρ (h1 ++ [.lst acc]) = some (ρ1, h1 ++ [.lst acc]) ∧ match f d with
      | none => t ρ1 (h1 ++ [.lst acc]) = .ok false (h1 ++ [.lst acc])
      | some y => t ρ1 (h1 ++ [.lst acc]) = .ok true (h1 ++ [.lst acc]) ∧ e ρ1 (h1 ++ [.lst acc]) = .ok y (h1 ++ [.lst acc])) (q : R (.ref h1.length) (h1 ++ [.lst (items.filterMap f)])) :
    spec (match lcL j g t e h1.length ρ n 0 (h1 ++ [.lst []]) with | some h2 => .ok (.ref h1.length) h2 | none => .bad) R := by
  subst en
  rw [lcL_pure f hn hat hb]
  exact spec.of rfl q
/-- the same over data -/
theorem spec.lct {α : Type} {j : MIt} {g : MG} {t : MT} {e : ME} {ρ : Rho} {h1 : Hh} {n : Nat} {xs : List α} {enc : α → D} {R : D → Hh → Prop} (f : α → Option D) (en : n = xs.length) (hn : n < sizeLine)
    (hat : ∀ acc i, j.at_ i (h1 ++ [.lst acc]) = some (xs.map enc)[i]?)
    (hb : ∀ x ∈ xs, ∀ acc, ∃ ρ1, g (enc x) ρ (h1 ++ [.lst acc]) = some (ρ1, h1 ++ [.lst acc]) ∧ match f x with
      | none => t ρ1 (h1 ++ [.lst acc]) = .ok false (h1 ++ [.lst acc])
      | some y => t ρ1 (h1 ++ [.lst acc]) = .ok true (h1 ++ [.lst acc]) ∧ e ρ1 (h1 ++ [.lst acc]) = .ok y (h1 ++ [.lst acc])) (q : R (.ref h1.length) (h1 ++ [.lst (xs.filterMap f)])) :
    spec (match lcL j g t e h1.length ρ n 0 (h1 ++ [.lst []]) with | some h2 => .ok (.ref h1.length) h2 | none => .bad) R := by
  subst en
  refine spec.lc (fun i acc h => h = h1 ++ [.lst acc] ∧ acc = (xs.take i).filterMap f) hn ⟨rfl, by simp⟩ ?_ ?_
  · rintro acc _ ⟨rfl, rfl⟩ _
    refine ⟨by rw [hat]; simp, ?_⟩
    rw [List.take_length]
    exact q
  · rintro i acc _ hi ⟨rfl, e1⟩ _
    have ei : xs[i]? = some xs[i] := List.getElem?_eq_getElem hi
    obtain ⟨ρ1, e2, e3⟩ := hb xs[i] (List.getElem_mem hi) acc
    refine ⟨enc xs[i], ρ1, _, by rw [hat, List.getElem?_map, ei]; rfl, e2, ?_⟩
    have et : xs.take (i + 1) = xs.take i ++ [xs[i]] := by rw [List.take_add_one, ei]; rfl
    cases ef : f xs[i] with
    | none =>
      rw [ef] at e3
      simp only at e3
      rw [e3, wO_ok]
      exact ⟨fun z => (by cases z), fun _ => ⟨push_new, rfl, by rw [et, List.filterMap_append, e1]; simp [ef]⟩⟩
    | some y =>
      rw [ef] at e3
      simp only at e3
      rw [e3.1, wO_ok]
      refine ⟨fun _ => ?_, fun z => by cases z⟩
      rw [e3.2, wO_ok]
      refine ⟨push_new, ?_, by rw [et, List.filterMap_append, e1]; simp [ef]⟩
      rw [List.set_append_right _ _ (Nat.le_refl _)]
      simp
theorem filterMap_if {α β : Type} {p : α → Prop} [DecidablePred p] {enc : α → β} (xs : List α) : xs.filterMap (fun x => if p x then some (enc x) else none) = (xs.filter fun x => decide (p x)).map enc := by
  induction xs with
  | nil => rfl
  | cons x xs ih => by_cases h : p x <;> simp [h, ih]
@[simp] theorem mDisp_ap {keys : List Key} {m : MA} {ρ : Rho} {h : Hh} : mDisp keys m ρ h = (m ρ (h ++ [.dct []])).bind fun ds h1 => match h1[h.length]? with
  | some (.dct []) => if ds.length = keys.length ∧ keys.length ≤ 15 then .ok (.ref h.length) (h1.set h.length (.dct (mergeD [] (keys.zip ds)))) else .bad
  | _ => .bad := rfl
/-! ### zip, locked dicts -/
def ZipOk (h : Hh) (d e : D) (xs ys : List D) : Prop := (d = .tup xs ∧ e = .tup ys) ∨ ∃ r q, d = .ref r ∧ e = .ref q ∧ h[r]? = some (.lst xs) ∧ h[q]? = some (.lst ys)
section
variable {h h' : Hh} {d e : D} {xs ys : List D} {i n : Nat}
theorem ZipOk.cond (z : ZipOk h d e xs ys) : ((isTs d && isTs e) || (isLs d h && isLs e h)) = true := by
  rcases z with ⟨rfl, rfl⟩ | ⟨r, q, rfl, rfl, e1, e2⟩
  · rfl
  · simp [isLs, e1, e2]
theorem ZipOk.len (z : ZipOk h d e xs ys) : min (srcLen d h) (srcLen e h) = min xs.length ys.length := by
  rcases z with ⟨rfl, rfl⟩ | ⟨r, q, rfl, rfl, e1, e2⟩
  · rfl
  · simp [srcLen, e1, e2]
theorem ZipOk.at_ {x y : D} (z : ZipOk h d e xs ys) (hx : xs[i]? = some x) (hy : ys[i]? = some y) : (jZip d e n).at_ i h = some (some (.tup [x, y])) := by
  rcases z with ⟨rfl, rfl⟩ | ⟨r, q, rfl, rfl, e1, e2⟩
  · simp [jZip, srcAt, hx, hy]
  · simp [jZip, srcAt, e1, e2, hx, hy]
theorem ZipOk.end (z : ZipOk h d e xs ys) : (jZip d e n).at_ (min xs.length ys.length) h = some none := by
  have key : ∀ o p : Option D, (o = none ∨ p = none) → (match some o, some p with
    | some (some x), some (some y) => some (some (D.tup [x, y]))
    | some none, some _ => some none
    | some _, some none => some none
    | _, _ => none) = some none := by
    intro o p h
    cases o with
    | none => cases p <;> rfl
    | some o => cases p with
      | none => rfl
      | some p => simp at h
  have c : xs[min xs.length ys.length]? = none ∨ ys[min xs.length ys.length]? = none := by
    by_cases l : xs.length ≤ ys.length
    · exact .inl (List.getElem?_eq_none (by omega))
    · exact .inr (List.getElem?_eq_none (by omega))
  rcases z with ⟨rfl, rfl⟩ | ⟨r, q, rfl, rfl, e1, e2⟩
  · exact key _ _ c
  · unfold jZip srcAt
    simp only [e1, e2]
    exact key _ _ c
theorem ZipOk.all (z : ZipOk h d e xs ys) : (jZip d e n).at_ i h = some (((xs.zip ys)[i]?).map fun p => .tup [p.1, p.2]) := by
  have key : ∀ o p : Option D, (match some o, some p with
    | some (some x), some (some y) => some (some (D.tup [x, y]))
    | some none, some _ => some none
    | some _, some none => some none
    | _, _ => none) = some ((match o, p with | some a, some b => some (a, b) | _, _ => none : Option (D × D)).map fun p => .tup [p.1, p.2]) := by
    intro o p
    cases o <;> cases p <;> rfl
  have zz : (xs.zip ys)[i]? = match xs[i]?, ys[i]? with | some a, some b => some (a, b) | _, _ => none := by
    rw [List.zip, List.getElem?_zipWith]
    cases xs[i]? <;> cases ys[i]? <;> rfl
  rcases z with ⟨rfl, rfl⟩ | ⟨r, q, rfl, rfl, e1, e2⟩
  · rw [zz]; exact key _ _
  · rw [zz]
    unfold jZip srcAt
    simp only [e1, e2]
    exact key _ _
def zipO (d e : D) (h : Hh) : Out MIt := if ((isTs d && isTs e) || (isLs d h && isLs e h)) = true then .ok (jZip d e (min (srcLen d h) (srcLen e h))) h else .bad
@[simp] theorem miZip_app {a b : ME} {ρ : Rho} : miZip a b ρ h = (a ρ h).bind fun d h1 => (b ρ h1).bind fun e h2 => zipO d e h2 := rfl
theorem ZipOk.out (z : ZipOk h d e xs ys) : zipO d e h = .ok (jZip d e (min xs.length ys.length)) h := by
  unfold zipO
  rw [if_pos z.cond, z.len]
theorem ZipOk.ext (z : ZipOk h d e xs ys) (E : Ext noS h h') : ZipOk h' d e xs ys := by
  rcases z with z | ⟨r, q, e0, e1, e2, e3⟩
  · exact .inl z
  · exact .inr ⟨r, q, e0, e1, E.get e2, E.get e3⟩
end
/-- a walk over a dict -/
theorem wS.lockT {Q : Po} {i k : Nat} {b : MS} {ρ : Rho} {h : Hh} {kvs : List (List Key × D)} (hk : lkIx i ρ = some k) (e : h[k]? = some (.dctT kvs))
    (w : @wS (b ρ (h.set k (.dlkT kvs))) ⟨fun ρ' h' => ∃ kvs', h'[k]? = some (.dlkT kvs') ∧ Q.nx ρ' (h'.set k (.dctT kvs')), fun d h' => ∃ kvs', h'[k]? = some (.dlkT kvs') ∧ Q.rt d (h'.set k (.dctT kvs')), fun _ _ => False, fun _ _ => False, fun _ _ _ => False⟩) : @wS (mLock i b ρ h) Q := by
  unfold mLock
  rw [hk]
  dsimp only
  have e1 : lockH k h = some (h.set k (.dlkT kvs)) := by simp [lockH, e]
  rw [e1]
  dsimp only
  cases eb : b ρ (h.set k (.dlkT kvs)) with
  | nx ρ' h' =>
    rw [eb, wS_nx] at w
    obtain ⟨kvs', e2, q⟩ := w
    have : unlockH k h' = some (h'.set k (.dctT kvs')) := by simp [unlockH, e2]
    simp only [this, wS_nx]
    exact q
  | rt d h' =>
    rw [eb, wS_rt] at w
    obtain ⟨kvs', e2, q⟩ := w
    have : unlockH k h' = some (h'.set k (.dctT kvs')) := by simp [unlockH, e2]
    simp only [this, wS_rt]
    exact q
  | bk ρ' h' => rw [eb, wS_bk] at w; exact w.elim
  | ct ρ' h' => rw [eb, wS_ct] at w; exact w.elim
  | er x ρ' h' => rw [eb, wS_er] at w; exact w.elim
  | bad => rw [eb, wS_bad] at w; exact w.elim
theorem set_back {h : Hh} {k : Nat} {o o' : Ob} (e : h[k]? = some o) : (h.set k o').set k o = h := by
  rw [List.set_set]
  obtain ⟨hl, e⟩ := List.getElem?_eq_some_iff.mp e
  rw [← e, List.set_getElem_self]
@[simp] theorem miItems_ap {a : ME} {ρ : Rho} {h : Hh} : miItems a ρ h = (a ρ h).bind fun d h1 => match lkLen d h1 with
  | some (k, n) => .ok (jItems k n) h1
  | none => .bad := rfl
@[simp] theorem miKeys_ap {a : ME} {ρ : Rho} {h : Hh} : miKeys a ρ h = (a ρ h).bind fun d h1 => match lkLen d h1 with
  | some (k, n) => .ok (jKeys k n) h1
  | none => .bad := rfl
theorem lkLen_T {h : Hh} {k : Nat} {kvs : List (List Key × D)} (e : h[k]? = some (.dlkT kvs)) : lkLen (.ref k) h = some (k, kvs.length) := by simp [lkLen, e]
@[simp] theorem jItems_most {k n : Nat} : (jItems k n).most = n := rfl
@[simp] theorem jKeys_most {k n : Nat} : (jKeys k n).most = n := rfl
theorem jItems_T {h : Hh} {k n i : Nat} {kvs : List (List Key × D)} (e : h[k]? = some (.dlkT kvs)) : (jItems k n).at_ i h = some ((kvs[i]?).map fun p => .tup [.tup (p.1.map kD), p.2]) := by simp [jItems, e]
theorem jKeys_T {h : Hh} {k n i : Nat} {kvs : List (List Key × D)} (e : h[k]? = some (.dlkT kvs)) : (jKeys k n).at_ i h = some ((kvs[i]?).map fun p => .tup (p.1.map kD)) := by simp [jKeys, e]
@[simp] theorem mGet2_ap {o k x : ME} {ρ : Rho} {h : Hh} : mGet2 o k x ρ h = (o ρ h).bind fun d h1 => if isDc d h1 = true then (k ρ h1).bind fun e h2 => (x ρ h2).bind fun z h3 => match getD? d e h3 with
  | some r => .ok (r.getD z) h3
  | none => .bad else .bad := rfl
@[simp] theorem mGet1_ap {o k : ME} {ρ : Rho} {h : Hh} : mGet1 o k ρ h = (o ρ h).bind fun d h1 => if isDc d h1 = true then (k ρ h1).bind fun e h2 => match getD? d e h2 with
  | some r => .ok (r.getD .non) h2
  | none => .bad else .bad := rfl
theorem isDc_T {h : Hh} {k : Nat} {kvs : List (List Key × D)} (e : h[k]? = some (.dctT kvs)) : isDc (.ref k) h = true := by simp [isDc, e]
@[simp] theorem mDnewT_ap {ρ : Rho} {h : Hh} : mDnewT ρ h = .ok (.ref h.length) (h ++ [.dctT []]) := rfl
/-! ### numbers -/
theorem lex_int (a b : Int) (r t : List (Int ⊕ List Nat)) : PyProof.Rows.lexLt itemOrd (.inl a :: r) (.inl b :: t) = (decide (a < b) || (decide (a = b) && PyProof.Rows.lexLt itemOrd r t)) := by
  have e : PyProof.Rows.lexLt itemOrd (.inl a :: r) (.inl b :: t) = (decide (a < b) || (!decide (b < a) && PyProof.Rows.lexLt itemOrd r t)) := rfl
  rw [e]
  by_cases h1 : a < b
  · simp [h1]
  · by_cases h2 : a = b
    · subst h2; simp
    · have : b < a := by omega
      simp [h1, h2, this]
theorem lex_nil : PyProof.Rows.lexLt itemOrd [] [] = false := rfl
theorem mulOk_b {i j : Int} (hi : -(10 ^ 300) < i ∧ i < 10 ^ 300) (hj : -(10 ^ 300) < j ∧ j < 10 ^ 300) : mulOk i j = true := by
  have key : ∀ i : Int, -(10 ^ 300) < i ∧ i < 10 ^ 300 → i.natAbs.log2 < 1000 := by
    intro i hi
    by_cases z : i.natAbs = 0
    · rw [z]; decide
    · rw [Nat.log2_lt z]
      have : i.natAbs < 10 ^ 300 := by omega
      exact Nat.lt_of_lt_of_le this (by decide +kernel)
  exact mulOk_w (by have := key i hi; have := key j hj; omega)
theorem pow_ok {n : Nat} (h : n ≤ 1000) : powOk 10 (n : Int) = true := by
  unfold powOk
  simp only [decide_eq_true_eq]
  omega
end PI
set_option maxHeartbeats 4000000
namespace K60
open PySem PySem.Spec L2 PI
open PyProof.Rows hiding St
def topS (i : Nat) : Stmt := PySem.Challenge.pw_cellcode_k60_showings_judged.main.body.getD i (.Pass ⟨0, 0, 0, 0⟩)
/-- the classes that are raised -/
def ctb (aPaidError aBadNever aBadGoal aBadHints : Addr) : Ctb := fun z => if z = "BadNever" then some (.ref aBadNever) else if z = "BadGoal" then some (.ref aBadGoal) else if z = "BadHints" then some (.ref aBadHints) else none
theorem ctb_BadNever {aPaidError aBadNever aBadGoal aBadHints : Addr} : ctb aPaidError aBadNever aBadGoal aBadHints "BadNever" = some (.ref aBadNever) := by unfold ctb; rw [if_pos rfl]
theorem ctb_BadGoal {aPaidError aBadNever aBadGoal aBadHints : Addr} : ctb aPaidError aBadNever aBadGoal aBadHints "BadGoal" = some (.ref aBadGoal) := by unfold ctb; rw [if_neg (by decide), if_pos rfl]
theorem ctb_BadHints {aPaidError aBadNever aBadGoal aBadHints : Addr} : ctb aPaidError aBadNever aBadGoal aBadHints "BadHints" = some (.ref aBadHints) := by unfold ctb; rw [if_neg (by decide), if_neg (by decide), if_pos rfl]
def sbT : List (String × String) := [("BadNever", "BadNever"), ("BadNever", "PaidError"), ("BadGoal", "BadGoal"), ("BadGoal", "PaidError"), ("BadHints", "BadHints"), ("BadHints", "PaidError")]
def sb : Str → Str → Bool := fun z y => if z = "BadNever" then decide (y ∈ (["BadNever", "PaidError"] : List Str)) else if z = "BadGoal" then decide (y ∈ (["BadGoal", "PaidError"] : List Str)) else if z = "BadHints" then decide (y ∈ (["BadHints", "PaidError"] : List Str)) else false
def isb (y z : Str) : Bool := sb z y
/-- what the module has written -/
structure Md (K : PySem.W.Frag) (mg : Str → Option Value) (aPaidError aBadNever aBadGoal aBadHints : Addr) : Prop where
  z_abs : mg "abs" = none
  z_all : mg "all" = none
  z_bool : mg "bool" = none
  z_int : mg "int" = none
  z_isinstance : mg "isinstance" = none
  z_len : mg "len" = none
  z_list : mg "list" = none
  z_min : mg "min" = none
  z_range : mg "range" = none
  z_sorted : mg "sorted" = none
  z_tuple : mg "tuple" = none
  z_zip : mg "zip" = none
  c_LAST_VARIABLE : CoI K mg "LAST_VARIABLE" (.int 399)
  c_LAST_NUMBER : CoI K mg "LAST_NUMBER" (.int 12)
  c_LAST_ROW : CoI K mg "LAST_ROW" (.int 239)
  c_SUMS : CoI K mg "SUMS" (.int 6)
  c_LAST_CLAIM : CoI K mg "LAST_CLAIM" (.int 29)
  c_MOST_HINTS : CoI K mg "MOST_HINTS" (.int 8000)
  e_PaidError : ExcI K mg "PaidError" aPaidError
  e_BadNever : ExcI K mg "BadNever" aBadNever
  e_BadGoal : ExcI K mg "BadGoal" aBadGoal
  e_BadHints : ExcI K mg "BadHints" aBadHints
  sb_BadNever : ∀ z cz, ctb aPaidError aBadNever aBadGoal aBadHints z = some cz → PySem.W.exmOne K cz (.ref aBadNever) = some (sb z "BadNever")
  sb_BadGoal : ∀ z cz, ctb aPaidError aBadNever aBadGoal aBadHints z = some cz → PySem.W.exmOne K cz (.ref aBadGoal) = some (sb z "BadGoal")
  sb_BadHints : ∀ z cz, ctb aPaidError aBadNever aBadGoal aBadHints z = some cz → PySem.W.exmOne K cz (.ref aBadHints) = some (sb z "BadHints")
  sb_PaidError : ∀ z cz, ctb aPaidError aBadNever aBadGoal aBadHints z = some cz → PySem.W.exmOne K cz (.ref aPaidError) = some (sb z "PaidError")
abbrev s_is_int : Stmt := topS 6
theorem sc_is_int : FnScope ["x"] ["x"] (defScope s_is_int) := ⟨rfl, rfl, rfl, by decide +kernel, rfl, by decide +kernel, by decide +kernel⟩
noncomputable def m_is_int : MS :=
    mRet (mAndV (mIsi "int" (mVar 0)) (mNotV (mIsi "bool" (mVar 0))))
theorem ok_is_int {P : Program} {w : World} {K : PySem.W.Frag} {mg : Str → Option Value} {base : Heap} {aPaidError aBadNever aBadGoal aBadHints : Addr} {fa : Addr} {fd : FuncData} {k : Nat} (F : Fun K "is_int" "is_int" s_is_int fa fd) (T : Md K mg aPaidError aBadNever aBadGoal aBadHints) :
    FnOk P w K mg base (L2.CX P w) (k + 1) fa fd ["x"] (spM K (ctb aPaidError aBadNever aBadGoal aBadHints) 1 (mFn 1 (m_is_int))) :=
  fn_ok F sc_is_int fun cdv A outer s H E hr tk pas => by
    let ct : Ctb := ctb aPaidError aBadNever aBadGoal aBadHints
    exact ((sss_one (ss_ret (se_and (se_isi (by decide) rfl T.z_isinstance rfl T.z_int PyProof.Rows.boot_int (se_var 0)) (se_and1 (se_not (se_isi (by decide) rfl T.z_isinstance rfl T.z_bool PyProof.Rows.boot_bool (se_var 0))))))))
abbrev s_within : Stmt := topS 7
theorem sc_within : FnScope ["x", "low", "high"] ["x", "low", "high"] (defScope s_within) := ⟨rfl, rfl, rfl, by decide +kernel, rfl, by decide +kernel, by decide +kernel⟩
noncomputable def m_within (f_is_int : FnM) : MS :=
    mRet (mAndV (mCall 1 f_is_int (mCons (mVar 0) (mNil))) (mChain oLe oLe (mVar 1) (mVar 0) (mVar 2)))
theorem ok_within {P : Program} {w : World} {K : PySem.W.Frag} {mg : Str → Option Value} {base : Heap} {aPaidError aBadNever aBadGoal aBadHints : Addr} {fa : Addr} {fd : FuncData} {k : Nat} (F : Fun K "within" "within" s_within fa fd) (T : Md K mg aPaidError aBadNever aBadGoal aBadHints) {f_is_int : FnM} (F_is_int : FnI P w K mg base (ctb aPaidError aBadNever aBadGoal aBadHints) k "is_int" ["x"] f_is_int) :
    FnOk P w K mg base (L2.CX P w) (k + 1) fa fd ["x", "low", "high"] (spM K (ctb aPaidError aBadNever aBadGoal aBadHints) 3 (mFn 3 (m_within f_is_int))) :=
  fn_ok F sc_within fun cdv A outer s H E hr tk pas => by
    let ct : Ctb := ctb aPaidError aBadNever aBadGoal aBadHints
    exact ((sss_one (ss_ret (se_and (se_callI F_is_int rfl hr rfl tk (sa_cons (se_var 0) sa_nil)) (se_and1 (se_chain op_leM op_leM (se_var 1) (se_var 0) (se_var 2)))))))
abbrev s_summed : Stmt := topS 15
theorem sc_summed : FnScope ["const", "parts", "table", "form", "times", "atom", "coefficient"] ["const", "parts"] (defScope s_summed) := ⟨rfl, rfl, rfl, by decide +kernel, rfl, by decide +kernel, by decide +kernel⟩
noncomputable def m_summed : MS :=
    mSeq (mSet 2 (mDnewT))
    (mSeq (mFor (miOf iterA (mVar 1)) (gmSeq 2 (gmCons (gmName 3) (gmCons (gmName 4) (gmNil)))) (mIfS (mTest (mOp oNe (mVar 4) (mC (.int 0)))) (mSeq (mAug 0 oIAdd (mOp oMulA (mVar 4) (mOp oGet (mVar 3) (mC (.int 0)))))
    (mFor (miOf iterA (mOp oGet (mVar 3) (mC (.int 1)))) (gmSeq 2 (gmCons (gmName 5) (gmCons (gmName 6) (gmNil)))) (mAsg (mOp oAdd (mGet2 (mVar 2) (mVar 5) (mC (.int 0))) (mOp oMulA (mVar 4) (mVar 6))) (gmSub oPut (mVar 2) (mVar 5))))) (mNx)))
    (mRet (mTup (mCons (mVar 0) (mCons (mB bTuple (mCons (mLc (miOf iterA (mB bSorted (mCons (mVar 2) (mNil)))) (gmName 5) (mTest (mOp oNe (mOp oGet (mVar 2) (mVar 5)) (mC (.int 0)))) (mTup (mCons (mVar 5) (mCons (mOp oGet (mVar 2) (mVar 5)) (mNil)))) [5]) (mNil))) (mNil))))))
theorem ok_summed {P : Program} {w : World} {K : PySem.W.Frag} {mg : Str → Option Value} {base : Heap} {aPaidError aBadNever aBadGoal aBadHints : Addr} {fa : Addr} {fd : FuncData} {k : Nat} (F : Fun K "summed" "summed" s_summed fa fd) (T : Md K mg aPaidError aBadNever aBadGoal aBadHints) :
    FnOk P w K mg base (L2.CX P w) (k + 1) fa fd ["const", "parts"] (spM K (ctb aPaidError aBadNever aBadGoal aBadHints) 2 (mFn 7 (m_summed))) :=
  fn_ok F sc_summed fun cdv A outer s H E hr tk pas => by
    let ct : Ctb := ctb aPaidError aBadNever aBadGoal aBadHints
    exact ((sss_cons (ss_set (i := 2) sc_summed.nd rfl (Or.inr rfl) se_dnewT)
    (sss_cons (ss_for pas rfl (si_any (se_var 1)) (sg_seq rfl (sgs_cons (sg_name (i := 3) sc_summed.nd rfl (Or.inl rfl)) (sgs_cons (sg_name (i := 4) sc_summed.nd rfl (Or.inl rfl)) sgs_nil))) (sss_one (ss_if (st_cmp (op_neM hr.units) (se_var 4) se_int (nomark _)) (sss_cons (ss_aug (i := 0) sc_summed.nd rfl (Or.inl rfl) (se_op op_mulA (se_var 4) (se_ix (ix_A hr) (se_var 3) se_int (fun _ _ => rfl))) ip_addM)
    (sss_one (ss_for pas rfl (si_any (se_ix (ix_A hr) (se_var 3) se_int (fun _ _ => rfl))) (sg_seq rfl (sgs_cons (sg_name (i := 5) sc_summed.nd rfl (Or.inl rfl)) (sgs_cons (sg_name (i := 6) sc_summed.nd rfl (Or.inl rfl)) sgs_nil))) (sss_one (ss_asg (se_op op_addM (se_get2 hr (se_var 2) (se_var 5) se_int ⟨rfl, rfl, rfl, rfl⟩) (se_op op_mulA (se_var 4) (se_var 6))) (sg_sub (ct := ct) (W := (fun c d _ H' => E c d H')) (se_var 2) (se_var 5) (set_A hr))))))) sss_nil)))
    (sss_one (ss_ret (se_tup (sa_cons (se_var 0) (sa_cons (se_callTy cr_tuple rfl T.z_tuple PyProof.Rows.boot_tuple (sa_cons (se_lc [("atom", 5)] rfl sc_summed.nd (si_any (se_callB (cr_sortedM rfl hr) rfl T.z_sorted (by decide +kernel) (sa_cons (se_var 2) sa_nil))) (blkOk_by (own := [("atom", 5)]) (N := ["const", "parts", "table", "form", "times", "atom", "coefficient"]) (sc := defScope s_summed) (by decide +kernel)) (fun _ _ _ _ _ => (sgv_name (vs := [5]) (i := 5) sc_summed.nd rfl (Or.inl rfl) (by decide))) (fun _ _ _ _ _ => (sts_one (st_cmp (op_neM hr.units) (se_ix (ix_A hr) (se_var 2) (se_var 5) (fun _ _ => rfl)) se_int (nomark _)))) (fun _ _ _ _ _ => (se_tup (sa_cons (se_var 5) (sa_cons (se_ix (ix_A hr) (se_var 2) (se_var 5) (fun _ _ => rfl)) sa_nil))))) sa_nil)) sa_nil))))))))
abbrev s_is_atom : Stmt := topS 16
theorem sc_is_atom : FnScope ["thing"] ["thing"] (defScope s_is_atom) := ⟨rfl, rfl, rfl, by decide +kernel, rfl, by decide +kernel, by decide +kernel⟩
noncomputable def m_is_atom (f_within : FnM) : MS :=
    mSeq (mIfS (mOr (mNot (mTest (mIsi "tuple" (mVar 0)))) (mOr (mTest (mOp oNe (mB bLen (mCons (mVar 0) (mNil))) (mC (.int 3)))) (mNot (mTest (mCall 3 f_within (mCons (mOp oGet (mVar 0) (mC (.int 0))) (mCons (mC (.int 0)) (mCons (mC (.int 1)) (mNil))))))))) (mRet (mC (.bl false))) (mNx))
    (mSeq (mIfS (mTest (mOp oEq (mOp oGet (mVar 0) (mC (.int 0))) (mC (.int 0)))) (mRet (mAndV (mCall 3 f_within (mCons (mOp oGet (mVar 0) (mC (.int 1))) (mCons (mUn oNeg (mC (.int 1))) (mCons (mC (.int 399)) (mNil))))) (mCall 3 f_within (mCons (mOp oGet (mVar 0) (mC (.int 2))) (mCons (mC (.int 0)) (mCons (mC (.int 12)) (mNil))))))) (mNx))
    (mRet (mAndV (mCall 3 f_within (mCons (mOp oGet (mVar 0) (mC (.int 1))) (mCons (mC (.int 0)) (mCons (mC (.int 239)) (mNil))))) (mCall 3 f_within (mCons (mOp oGet (mVar 0) (mC (.int 2))) (mCons (mC (.int 0)) (mCons (mOp oSub (mC (.int 6)) (mC (.int 1))) (mNil))))))))
theorem ok_is_atom {P : Program} {w : World} {K : PySem.W.Frag} {mg : Str → Option Value} {base : Heap} {aPaidError aBadNever aBadGoal aBadHints : Addr} {fa : Addr} {fd : FuncData} {k : Nat} (F : Fun K "is_atom" "is_atom" s_is_atom fa fd) (T : Md K mg aPaidError aBadNever aBadGoal aBadHints) {f_within : FnM} (F_within : FnI P w K mg base (ctb aPaidError aBadNever aBadGoal aBadHints) k "within" ["x", "low", "high"] f_within) :
    FnOk P w K mg base (L2.CX P w) (k + 1) fa fd ["thing"] (spM K (ctb aPaidError aBadNever aBadGoal aBadHints) 1 (mFn 1 (m_is_atom f_within))) :=
  fn_ok F sc_is_atom fun cdv A outer s H E hr tk pas => by
    let ct : Ctb := ctb aPaidError aBadNever aBadGoal aBadHints
    exact ((sss_cons (ss_if (st_w (sw_or (st_not (st_val (se_isi (by decide) rfl T.z_isinstance rfl T.z_tuple PyProof.Rows.boot_tuple (se_var 0)))) (sw_or (st_cmp (op_neM hr.units) (se_callB cr_len rfl T.z_len PySem.boot_len (sa_cons (se_var 0) sa_nil)) se_int (nomark _)) (sw_or1 (st_not (st_val (se_callI F_within rfl hr rfl tk (sa_cons (se_ix (ix_A hr) (se_var 0) se_int (fun _ _ => rfl)) (sa_cons se_int (sa_cons se_int sa_nil)))))))))) (sss_one (ss_ret se_bl)) sss_nil)
    (sss_cons (ss_if (st_cmp (op_eqM hr.units) (se_ix (ix_A hr) (se_var 0) se_int (fun _ _ => rfl)) se_int (nomark _)) (sss_one (ss_ret (se_and (se_callI F_within rfl hr rfl tk (sa_cons (se_ix (ix_A hr) (se_var 0) se_int (fun _ _ => rfl)) (sa_cons (se_un un_negM se_int) (sa_cons (se_co T.c_LAST_VARIABLE rfl) sa_nil)))) (se_and1 (se_callI F_within rfl hr rfl tk (sa_cons (se_ix (ix_A hr) (se_var 0) se_int (fun _ _ => rfl)) (sa_cons se_int (sa_cons (se_co T.c_LAST_NUMBER rfl) sa_nil)))))))) sss_nil)
    (sss_one (ss_ret (se_and (se_callI F_within rfl hr rfl tk (sa_cons (se_ix (ix_A hr) (se_var 0) se_int (fun _ _ => rfl)) (sa_cons se_int (sa_cons (se_co T.c_LAST_ROW rfl) sa_nil)))) (se_and1 (se_callI F_within rfl hr rfl tk (sa_cons (se_ix (ix_A hr) (se_var 0) se_int (fun _ _ => rfl)) (sa_cons se_int (sa_cons (se_op op_subM (se_co T.c_SUMS rfl) se_int) sa_nil)))))))))))
abbrev s_is_form : Stmt := topS 17
theorem sc_is_form : FnScope ["thing", "terms", "at", "term"] ["thing"] (defScope s_is_form) := ⟨rfl, rfl, rfl, by decide +kernel, rfl, by decide +kernel, by decide +kernel⟩
noncomputable def m_is_form (f_is_int : FnM) (f_is_atom : FnM) : MS :=
    mSeq (mIfS (mOr (mNot (mTest (mIsi "tuple" (mVar 0)))) (mOr (mTest (mOp oNe (mB bLen (mCons (mVar 0) (mNil))) (mC (.int 2)))) (mOr (mNot (mTest (mCall 1 f_is_int (mCons (mOp oGet (mVar 0) (mC (.int 0))) (mNil))))) (mNot (mTest (mIsi "tuple" (mOp oGet (mVar 0) (mC (.int 1))))))))) (mRet (mC (.bl false))) (mNx))
    (mSeq (mSet 1 (mOp oGet (mVar 0) (mC (.int 1))))
    (mSeq (mFor (miRng1 (mB bLen (mCons (mVar 1) (mNil)))) (gmName 2) (mSeq (mSet 3 (mOp oGet (mVar 1) (mVar 2)))
    (mSeq (mIfS (mOr (mNot (mTest (mIsi "tuple" (mVar 3)))) (mOr (mTest (mOp oNe (mB bLen (mCons (mVar 3) (mNil))) (mC (.int 2)))) (mNot (mTest (mCall 1 f_is_atom (mCons (mOp oGet (mVar 3) (mC (.int 0))) (mNil))))))) (mRet (mC (.bl false))) (mNx))
    (mSeq (mIfS (mOr (mNot (mTest (mCall 1 f_is_int (mCons (mOp oGet (mVar 3) (mC (.int 1))) (mNil))))) (mTest (mOp oEq (mOp oGet (mVar 3) (mC (.int 1))) (mC (.int 0))))) (mRet (mC (.bl false))) (mNx))
    (mIfS (mAnd (mTest (mOp oGt (mVar 2) (mC (.int 0)))) (mTest (mOp oGeA (mOp oGet (mOp oGet (mVar 1) (mOp oSub (mVar 2) (mC (.int 1)))) (mC (.int 0))) (mOp oGet (mVar 3) (mC (.int 0)))))) (mRet (mC (.bl false))) (mNx))))))
    (mRet (mC (.bl true)))))
theorem ok_is_form {P : Program} {w : World} {K : PySem.W.Frag} {mg : Str → Option Value} {base : Heap} {aPaidError aBadNever aBadGoal aBadHints : Addr} {fa : Addr} {fd : FuncData} {k : Nat} (F : Fun K "is_form" "is_form" s_is_form fa fd) (T : Md K mg aPaidError aBadNever aBadGoal aBadHints) {f_is_int : FnM} {f_is_atom : FnM} (F_is_int : FnI P w K mg base (ctb aPaidError aBadNever aBadGoal aBadHints) k "is_int" ["x"] f_is_int) (F_is_atom : FnI P w K mg base (ctb aPaidError aBadNever aBadGoal aBadHints) k "is_atom" ["thing"] f_is_atom) :
    FnOk P w K mg base (L2.CX P w) (k + 1) fa fd ["thing"] (spM K (ctb aPaidError aBadNever aBadGoal aBadHints) 1 (mFn 4 (m_is_form f_is_int f_is_atom))) :=
  fn_ok F sc_is_form fun cdv A outer s H E hr tk pas => by
    let ct : Ctb := ctb aPaidError aBadNever aBadGoal aBadHints
    exact ((sss_cons (ss_if (st_w (sw_or (st_not (st_val (se_isi (by decide) rfl T.z_isinstance rfl T.z_tuple PyProof.Rows.boot_tuple (se_var 0)))) (sw_or (st_cmp (op_neM hr.units) (se_callB cr_len rfl T.z_len PySem.boot_len (sa_cons (se_var 0) sa_nil)) se_int (nomark _)) (sw_or (st_not (st_val (se_callI F_is_int rfl hr rfl tk (sa_cons (se_ix (ix_A hr) (se_var 0) se_int (fun _ _ => rfl)) sa_nil)))) (sw_or1 (st_not (st_val (se_isi (by decide) rfl T.z_isinstance rfl T.z_tuple PyProof.Rows.boot_tuple (se_ix (ix_A hr) (se_var 0) se_int (fun _ _ => rfl)))))))))) (sss_one (ss_ret se_bl)) sss_nil)
    (sss_cons (ss_set (i := 1) sc_is_form.nd rfl (Or.inl rfl) (se_ix (ix_A hr) (se_var 0) se_int (fun _ _ => rfl)))
    (sss_cons (ss_for pas rfl (si_rng1 rfl T.z_range (se_callB cr_len rfl T.z_len PySem.boot_len (sa_cons (se_var 1) sa_nil))) (sg_name (i := 2) sc_is_form.nd rfl (Or.inl rfl)) (sss_cons (ss_set (i := 3) sc_is_form.nd rfl (Or.inl rfl) (se_ix (ix_A hr) (se_var 1) (se_var 2) (fun _ _ => rfl)))
    (sss_cons (ss_if (st_w (sw_or (st_not (st_val (se_isi (by decide) rfl T.z_isinstance rfl T.z_tuple PyProof.Rows.boot_tuple (se_var 3)))) (sw_or (st_cmp (op_neM hr.units) (se_callB cr_len rfl T.z_len PySem.boot_len (sa_cons (se_var 3) sa_nil)) se_int (nomark _)) (sw_or1 (st_not (st_val (se_callI F_is_atom rfl hr rfl tk (sa_cons (se_ix (ix_A hr) (se_var 3) se_int (fun _ _ => rfl)) sa_nil)))))))) (sss_one (ss_ret se_bl)) sss_nil)
    (sss_cons (ss_if (st_w (sw_or (st_not (st_val (se_callI F_is_int rfl hr rfl tk (sa_cons (se_ix (ix_A hr) (se_var 3) se_int (fun _ _ => rfl)) sa_nil)))) (sw_or1 (st_cmp (op_eqM hr.units) (se_ix (ix_A hr) (se_var 3) se_int (fun _ _ => rfl)) se_int (nomark _))))) (sss_one (ss_ret se_bl)) sss_nil)
    (sss_one (ss_if (st_w (sw_and (st_cmp op_gtM (se_var 2) se_int (nomark _)) (sw_and1 (st_cmp (op_geA hr) (se_ix (ix_A hr) (se_ix (ix_A hr) (se_var 1) (se_op op_subM (se_var 2) se_int) (fun _ _ => rfl)) se_int (fun _ _ => rfl)) (se_ix (ix_A hr) (se_var 3) se_int (fun _ _ => rfl)) (nomark _))))) (sss_one (ss_ret se_bl)) sss_nil))))))
    (sss_one (ss_ret se_bl))))))
abbrev s_is_floor : Stmt := topS 18
theorem sc_is_floor : FnScope ["never", "atom"] ["never", "atom"] (defScope s_is_floor) := ⟨rfl, rfl, rfl, by decide +kernel, rfl, by decide +kernel, by decide +kernel⟩
noncomputable def m_is_floor : MS :=
    mRet (mOrV (mOp oEq (mOp oGet (mVar 1) (mC (.int 0))) (mC (.int 1))) (mOp oIn (mOp oGet (mVar 1) (mC (.int 2))) (mVar 0)))
theorem ok_is_floor {P : Program} {w : World} {K : PySem.W.Frag} {mg : Str → Option Value} {base : Heap} {aPaidError aBadNever aBadGoal aBadHints : Addr} {fa : Addr} {fd : FuncData} {k : Nat} (F : Fun K "is_floor" "is_floor" s_is_floor fa fd) (T : Md K mg aPaidError aBadNever aBadGoal aBadHints) :
    FnOk P w K mg base (L2.CX P w) (k + 1) fa fd ["never", "atom"] (spM K (ctb aPaidError aBadNever aBadGoal aBadHints) 2 (mFn 2 (m_is_floor))) :=
  fn_ok F sc_is_floor fun cdv A outer s H E hr tk pas => by
    let ct : Ctb := ctb aPaidError aBadNever aBadGoal aBadHints
    exact ((sss_one (ss_ret (se_or (se_cmp (op_eqM hr.units) (se_ix (ix_A hr) (se_var 1) se_int (fun _ _ => rfl)) se_int (nomark _)) (se_and1 (se_cmp (op_inA hr) (se_ix (ix_A hr) (se_var 1) se_int (fun _ _ => rfl)) (se_var 0) rfl))))))
abbrev s_is_origin : Stmt := topS 19
theorem sc_is_origin : FnScope ["thing"] ["thing"] (defScope s_is_origin) := ⟨rfl, rfl, rfl, by decide +kernel, rfl, by decide +kernel, by decide +kernel⟩
noncomputable def m_is_origin (f_within : FnM) : MS :=
    mSeq (mIfS (mTest (mOp oIsN (mVar 0) (mC .non))) (mRet (mC (.bl true))) (mNx))
    (mSeq (mIfS (mOr (mNot (mTest (mIsi "tuple" (mVar 0)))) (mTest (mOp oNe (mB bLen (mCons (mVar 0) (mNil))) (mC (.int 2))))) (mRet (mC (.bl false))) (mNx))
    (mRet (mAndV (mCall 3 f_within (mCons (mOp oGet (mVar 0) (mC (.int 0))) (mCons (mC (.int 0)) (mCons (mC (.int 239)) (mNil))))) (mCall 3 f_within (mCons (mOp oGet (mVar 0) (mC (.int 1))) (mCons (mC (.int 0)) (mCons (mC (.int 29)) (mNil))))))))
theorem ok_is_origin {P : Program} {w : World} {K : PySem.W.Frag} {mg : Str → Option Value} {base : Heap} {aPaidError aBadNever aBadGoal aBadHints : Addr} {fa : Addr} {fd : FuncData} {k : Nat} (F : Fun K "is_origin" "is_origin" s_is_origin fa fd) (T : Md K mg aPaidError aBadNever aBadGoal aBadHints) {f_within : FnM} (F_within : FnI P w K mg base (ctb aPaidError aBadNever aBadGoal aBadHints) k "within" ["x", "low", "high"] f_within) :
    FnOk P w K mg base (L2.CX P w) (k + 1) fa fd ["thing"] (spM K (ctb aPaidError aBadNever aBadGoal aBadHints) 1 (mFn 1 (m_is_origin f_within))) :=
  fn_ok F sc_is_origin fun cdv A outer s H E hr tk pas => by
    let ct : Ctb := ctb aPaidError aBadNever aBadGoal aBadHints
    exact ((sss_cons (ss_if (st_cmp op_isM (se_var 0) se_non (nomark _)) (sss_one (ss_ret se_bl)) sss_nil)
    (sss_cons (ss_if (st_w (sw_or (st_not (st_val (se_isi (by decide) rfl T.z_isinstance rfl T.z_tuple PyProof.Rows.boot_tuple (se_var 0)))) (sw_or1 (st_cmp (op_neM hr.units) (se_callB cr_len rfl T.z_len PySem.boot_len (sa_cons (se_var 0) sa_nil)) se_int (nomark _))))) (sss_one (ss_ret se_bl)) sss_nil)
    (sss_one (ss_ret (se_and (se_callI F_within rfl hr rfl tk (sa_cons (se_ix (ix_A hr) (se_var 0) se_int (fun _ _ => rfl)) (sa_cons se_int (sa_cons (se_co T.c_LAST_ROW rfl) sa_nil)))) (se_and1 (se_callI F_within rfl hr rfl tk (sa_cons (se_ix (ix_A hr) (se_var 0) se_int (fun _ _ => rfl)) (sa_cons se_int (sa_cons (se_co T.c_LAST_CLAIM rfl) sa_nil)))))))))))
abbrev s_is_hint : Stmt := topS 20
theorem sc_is_hint : FnScope ["thing"] ["thing"] (defScope s_is_hint) := ⟨rfl, rfl, rfl, by decide +kernel, rfl, by decide +kernel, by decide +kernel⟩
noncomputable def m_is_hint (f_is_form : FnM) (f_is_origin : FnM) : MS :=
    mSeq (mIfS (mOr (mNot (mTest (mIsi "tuple" (mVar 0)))) (mTest (mOp oNe (mB bLen (mCons (mVar 0) (mNil))) (mC (.int 3))))) (mRet (mC (.bl false))) (mNx))
    (mRet (mAndV (mCall 1 f_is_form (mCons (mOp oGet (mVar 0) (mC (.int 0))) (mNil))) (mAndV (mIsi "bool" (mOp oGet (mVar 0) (mC (.int 1)))) (mCall 1 f_is_origin (mCons (mOp oGet (mVar 0) (mC (.int 2))) (mNil))))))
theorem ok_is_hint {P : Program} {w : World} {K : PySem.W.Frag} {mg : Str → Option Value} {base : Heap} {aPaidError aBadNever aBadGoal aBadHints : Addr} {fa : Addr} {fd : FuncData} {k : Nat} (F : Fun K "is_hint" "is_hint" s_is_hint fa fd) (T : Md K mg aPaidError aBadNever aBadGoal aBadHints) {f_is_form : FnM} {f_is_origin : FnM} (F_is_form : FnI P w K mg base (ctb aPaidError aBadNever aBadGoal aBadHints) k "is_form" ["thing"] f_is_form) (F_is_origin : FnI P w K mg base (ctb aPaidError aBadNever aBadGoal aBadHints) k "is_origin" ["thing"] f_is_origin) :
    FnOk P w K mg base (L2.CX P w) (k + 1) fa fd ["thing"] (spM K (ctb aPaidError aBadNever aBadGoal aBadHints) 1 (mFn 1 (m_is_hint f_is_form f_is_origin))) :=
  fn_ok F sc_is_hint fun cdv A outer s H E hr tk pas => by
    let ct : Ctb := ctb aPaidError aBadNever aBadGoal aBadHints
    exact ((sss_cons (ss_if (st_w (sw_or (st_not (st_val (se_isi (by decide) rfl T.z_isinstance rfl T.z_tuple PyProof.Rows.boot_tuple (se_var 0)))) (sw_or1 (st_cmp (op_neM hr.units) (se_callB cr_len rfl T.z_len PySem.boot_len (sa_cons (se_var 0) sa_nil)) se_int (nomark _))))) (sss_one (ss_ret se_bl)) sss_nil)
    (sss_one (ss_ret (se_and (se_callI F_is_form rfl hr rfl tk (sa_cons (se_ix (ix_A hr) (se_var 0) se_int (fun _ _ => rfl)) sa_nil)) (se_and (se_isi (by decide) rfl T.z_isinstance rfl T.z_bool PyProof.Rows.boot_bool (se_ix (ix_A hr) (se_var 0) se_int (fun _ _ => rfl))) (se_and1 (se_callI F_is_origin rfl hr rfl tk (sa_cons (se_ix (ix_A hr) (se_var 0) se_int (fun _ _ => rfl)) sa_nil)))))))))
abbrev s_need_never : Stmt := topS 21
theorem sc_need_never : FnScope ["never", "at"] ["never"] (defScope s_need_never) := ⟨rfl, rfl, rfl, by decide +kernel, rfl, by decide +kernel, by decide +kernel⟩
noncomputable def m_need_never (f_within : FnM) : MS :=
    mSeq (mIfS (mOr (mNot (mTest (mIsi "tuple" (mVar 0)))) (mTest (mOp oGt (mB bLen (mCons (mVar 0) (mNil))) (mC (.int 12))))) (mRaise "BadNever") (mNx))
    (mFor (miRng1 (mB bLen (mCons (mVar 0) (mNil)))) (gmName 1) (mIfS (mOr (mNot (mTest (mCall 3 f_within (mCons (mOp oGet (mVar 0) (mVar 1)) (mCons (mC (.int 1)) (mCons (mC (.int 12)) (mNil))))))) (mAnd (mTest (mOp oGt (mVar 1) (mC (.int 0)))) (mTest (mOp oGeA (mOp oGet (mVar 0) (mOp oSub (mVar 1) (mC (.int 1)))) (mOp oGet (mVar 0) (mVar 1)))))) (mRaise "BadNever") (mNx)))
theorem ok_need_never {P : Program} {w : World} {K : PySem.W.Frag} {mg : Str → Option Value} {base : Heap} {aPaidError aBadNever aBadGoal aBadHints : Addr} {fa : Addr} {fd : FuncData} {k : Nat} (F : Fun K "need_never" "need_never" s_need_never fa fd) (T : Md K mg aPaidError aBadNever aBadGoal aBadHints) {f_within : FnM} (F_within : FnI P w K mg base (ctb aPaidError aBadNever aBadGoal aBadHints) k "within" ["x", "low", "high"] f_within) :
    FnOk P w K mg base (L2.CX P w) (k + 1) fa fd ["never"] (spM K (ctb aPaidError aBadNever aBadGoal aBadHints) 1 (mFn 2 (m_need_never f_within))) :=
  fn_ok F sc_need_never fun cdv A outer s H E hr tk pas => by
    let ct : Ctb := ctb aPaidError aBadNever aBadGoal aBadHints
    exact ((sss_cons (ss_if (st_w (sw_or (st_not (st_val (se_isi (by decide) rfl T.z_isinstance rfl T.z_tuple PyProof.Rows.boot_tuple (se_var 0)))) (sw_or1 (st_cmp op_gtM (se_callB cr_len rfl T.z_len PySem.boot_len (sa_cons (se_var 0) sa_nil)) (se_co T.c_LAST_NUMBER rfl) (nomark _))))) (sss_one (ss_raiseI rfl tk T.e_BadNever ctb_BadNever rfl)) sss_nil)
    (sss_one (ss_for pas rfl (si_rng1 rfl T.z_range (se_callB cr_len rfl T.z_len PySem.boot_len (sa_cons (se_var 0) sa_nil))) (sg_name (i := 1) sc_need_never.nd rfl (Or.inl rfl)) (sss_one (ss_if (st_w (sw_or (st_not (st_val (se_callI F_within rfl hr rfl tk (sa_cons (se_ix (ix_A hr) (se_var 0) (se_var 1) (fun _ _ => rfl)) (sa_cons se_int (sa_cons (se_co T.c_LAST_NUMBER rfl) sa_nil)))))) (sw_or1 (st_w (sw_and (st_cmp op_gtM (se_var 1) se_int (nomark _)) (sw_and1 (st_cmp (op_geA hr) (se_ix (ix_A hr) (se_var 0) (se_op op_subM (se_var 1) se_int) (fun _ _ => rfl)) (se_ix (ix_A hr) (se_var 0) (se_var 1) (fun _ _ => rfl)) (nomark _)))))))) (sss_one (ss_raiseI rfl tk T.e_BadNever ctb_BadNever rfl)) sss_nil))))))
abbrev s_need_goal : Stmt := topS 22
theorem sc_need_goal : FnScope ["goal"] ["goal"] (defScope s_need_goal) := ⟨rfl, rfl, rfl, by decide +kernel, rfl, by decide +kernel, by decide +kernel⟩
noncomputable def m_need_goal (f_is_form : FnM) : MS :=
    mIfS (mNot (mTest (mCall 1 f_is_form (mCons (mVar 0) (mNil))))) (mRaise "BadGoal") (mNx)
theorem ok_need_goal {P : Program} {w : World} {K : PySem.W.Frag} {mg : Str → Option Value} {base : Heap} {aPaidError aBadNever aBadGoal aBadHints : Addr} {fa : Addr} {fd : FuncData} {k : Nat} (F : Fun K "need_goal" "need_goal" s_need_goal fa fd) (T : Md K mg aPaidError aBadNever aBadGoal aBadHints) {f_is_form : FnM} (F_is_form : FnI P w K mg base (ctb aPaidError aBadNever aBadGoal aBadHints) k "is_form" ["thing"] f_is_form) :
    FnOk P w K mg base (L2.CX P w) (k + 1) fa fd ["goal"] (spM K (ctb aPaidError aBadNever aBadGoal aBadHints) 1 (mFn 1 (m_need_goal f_is_form))) :=
  fn_ok F sc_need_goal fun cdv A outer s H E hr tk pas => by
    let ct : Ctb := ctb aPaidError aBadNever aBadGoal aBadHints
    exact ((sss_one (ss_if (st_not (st_val (se_callI F_is_form rfl hr rfl tk (sa_cons (se_var 0) sa_nil)))) (sss_one (ss_raiseI rfl tk T.e_BadGoal ctb_BadGoal rfl)) sss_nil)))
abbrev s_need_hints : Stmt := topS 23
theorem sc_need_hints : FnScope ["hints", "hint"] ["hints"] (defScope s_need_hints) := ⟨rfl, rfl, rfl, by decide +kernel, rfl, by decide +kernel, by decide +kernel⟩
noncomputable def m_need_hints (f_is_hint : FnM) : MS :=
    mSeq (mIfS (mOr (mNot (mTest (mIsi "tuple" (mVar 0)))) (mTest (mOp oGt (mB bLen (mCons (mVar 0) (mNil))) (mC (.int 8000))))) (mRaise "BadHints") (mNx))
    (mFor (miOf iterA (mVar 0)) (gmName 1) (mIfS (mNot (mTest (mCall 1 f_is_hint (mCons (mVar 1) (mNil))))) (mRaise "BadHints") (mNx)))
theorem ok_need_hints {P : Program} {w : World} {K : PySem.W.Frag} {mg : Str → Option Value} {base : Heap} {aPaidError aBadNever aBadGoal aBadHints : Addr} {fa : Addr} {fd : FuncData} {k : Nat} (F : Fun K "need_hints" "need_hints" s_need_hints fa fd) (T : Md K mg aPaidError aBadNever aBadGoal aBadHints) {f_is_hint : FnM} (F_is_hint : FnI P w K mg base (ctb aPaidError aBadNever aBadGoal aBadHints) k "is_hint" ["thing"] f_is_hint) :
    FnOk P w K mg base (L2.CX P w) (k + 1) fa fd ["hints"] (spM K (ctb aPaidError aBadNever aBadGoal aBadHints) 1 (mFn 2 (m_need_hints f_is_hint))) :=
  fn_ok F sc_need_hints fun cdv A outer s H E hr tk pas => by
    let ct : Ctb := ctb aPaidError aBadNever aBadGoal aBadHints
    exact ((sss_cons (ss_if (st_w (sw_or (st_not (st_val (se_isi (by decide) rfl T.z_isinstance rfl T.z_tuple PyProof.Rows.boot_tuple (se_var 0)))) (sw_or1 (st_cmp op_gtM (se_callB cr_len rfl T.z_len PySem.boot_len (sa_cons (se_var 0) sa_nil)) (se_co T.c_MOST_HINTS rfl) (nomark _))))) (sss_one (ss_raiseI rfl tk T.e_BadHints ctb_BadHints rfl)) sss_nil)
    (sss_one (ss_for pas rfl (si_any (se_var 0)) (sg_name (i := 1) sc_need_hints.nd rfl (Or.inl rfl)) (sss_one (ss_if (st_not (st_val (se_callI F_is_hint rfl hr rfl tk (sa_cons (se_var 1) sa_nil)))) (sss_one (ss_raiseI rfl tk T.e_BadHints ctb_BadHints rfl)) sss_nil))))))
abbrev s_showing_fits : Stmt := topS 25
theorem sc_showing_fits : FnScope ["hints", "thing", "scale", "multipliers", "hint", "times"] ["hints", "thing"] (defScope s_showing_fits) := ⟨rfl, rfl, rfl, by decide +kernel, rfl, by decide +kernel, by decide +kernel⟩
noncomputable def m_showing_fits (f_is_int : FnM) : MS :=
    mSeq (mIfS (mOr (mNot (mTest (mIsi "tuple" (mVar 1)))) (mTest (mOp oNe (mB bLen (mCons (mVar 1) (mNil))) (mC (.int 2))))) (mRet (mC (.bl false))) (mNx))
    (mSeq (mAsg (mVar 1) (gmSeq 2 (gmCons (gmName 2) (gmCons (gmName 3) (gmNil)))))
    (mSeq (mIfS (mOr (mNot (mTest (mCall 1 f_is_int (mCons (mVar 2) (mNil))))) (mTest (mOp oLt (mVar 2) (mC (.int 0))))) (mRet (mC (.bl false))) (mNx))
    (mSeq (mIfS (mOr (mNot (mTest (mIsi "tuple" (mVar 3)))) (mTest (mOp oNe (mB bLen (mCons (mVar 3) (mNil))) (mB bLen (mCons (mVar 0) (mNil)))))) (mRet (mC (.bl false))) (mNx))
    (mSeq (mFor (miZip (mVar 0) (mVar 3)) (gmSeq 2 (gmCons (gmName 4) (gmCons (gmName 5) (gmNil)))) (mIfS (mOr (mNot (mTest (mCall 1 f_is_int (mCons (mVar 5) (mNil))))) (mAnd (mTest (mOp oLt (mVar 5) (mC (.int 0)))) (mNot (mTest (mOp oGet (mVar 4) (mC (.int 1))))))) (mRet (mC (.bl false))) (mNx)))
    (mRet (mC (.bl true)))))))
theorem ok_showing_fits {P : Program} {w : World} {K : PySem.W.Frag} {mg : Str → Option Value} {base : Heap} {aPaidError aBadNever aBadGoal aBadHints : Addr} {fa : Addr} {fd : FuncData} {k : Nat} (F : Fun K "showing_fits" "showing_fits" s_showing_fits fa fd) (T : Md K mg aPaidError aBadNever aBadGoal aBadHints) {f_is_int : FnM} (F_is_int : FnI P w K mg base (ctb aPaidError aBadNever aBadGoal aBadHints) k "is_int" ["x"] f_is_int) :
    FnOk P w K mg base (L2.CX P w) (k + 1) fa fd ["hints", "thing"] (spM K (ctb aPaidError aBadNever aBadGoal aBadHints) 2 (mFn 6 (m_showing_fits f_is_int))) :=
  fn_ok F sc_showing_fits fun cdv A outer s H E hr tk pas => by
    let ct : Ctb := ctb aPaidError aBadNever aBadGoal aBadHints
    exact ((sss_cons (ss_if (st_w (sw_or (st_not (st_val (se_isi (by decide) rfl T.z_isinstance rfl T.z_tuple PyProof.Rows.boot_tuple (se_var 1)))) (sw_or1 (st_cmp (op_neM hr.units) (se_callB cr_len rfl T.z_len PySem.boot_len (sa_cons (se_var 1) sa_nil)) se_int (nomark _))))) (sss_one (ss_ret se_bl)) sss_nil)
    (sss_cons (ss_asg (se_var 1) (sg_seq rfl (sgs_cons (sg_name (i := 2) sc_showing_fits.nd rfl (Or.inl rfl)) (sgs_cons (sg_name (i := 3) sc_showing_fits.nd rfl (Or.inl rfl)) sgs_nil))))
    (sss_cons (ss_if (st_w (sw_or (st_not (st_val (se_callI F_is_int rfl hr rfl tk (sa_cons (se_var 2) sa_nil)))) (sw_or1 (st_cmp op_ltM (se_var 2) se_int (nomark _))))) (sss_one (ss_ret se_bl)) sss_nil)
    (sss_cons (ss_if (st_w (sw_or (st_not (st_val (se_isi (by decide) rfl T.z_isinstance rfl T.z_tuple PyProof.Rows.boot_tuple (se_var 3)))) (sw_or1 (st_cmp (op_neM hr.units) (se_callB cr_len rfl T.z_len PySem.boot_len (sa_cons (se_var 3) sa_nil)) (se_callB cr_len rfl T.z_len PySem.boot_len (sa_cons (se_var 0) sa_nil)) (nomark _))))) (sss_one (ss_ret se_bl)) sss_nil)
    (sss_cons (ss_for pas rfl (si_zip rfl T.z_zip (se_var 0) (se_var 3)) (sg_seq rfl (sgs_cons (sg_name (i := 4) sc_showing_fits.nd rfl (Or.inl rfl)) (sgs_cons (sg_name (i := 5) sc_showing_fits.nd rfl (Or.inl rfl)) sgs_nil))) (sss_one (ss_if (st_w (sw_or (st_not (st_val (se_callI F_is_int rfl hr rfl tk (sa_cons (se_var 5) sa_nil)))) (sw_or1 (st_w (sw_and (st_cmp op_ltM (se_var 5) se_int (nomark _)) (sw_and1 (st_not (st_val (se_ix (ix_A hr) (se_var 4) se_int (fun _ _ => rfl)))))))))) (sss_one (ss_ret se_bl)) sss_nil)))
    (sss_one (ss_ret se_bl))))))))
abbrev s_shows : Stmt := topS 26
theorem sc_shows : FnScope ["never", "goal", "hints", "thing", "scale", "multipliers", "parts", "hint", "times", "const", "terms", "atom", "coefficient"] ["never", "goal", "hints", "thing"] (defScope s_shows) := ⟨rfl, rfl, rfl, by decide +kernel, rfl, by decide +kernel, by decide +kernel⟩
noncomputable def m_shows (f_showing_fits : FnM) (f_summed : FnM) (f_is_floor : FnM) : MS :=
    mSeq (mIfS (mNot (mTest (mCall 2 f_showing_fits (mCons (mVar 2) (mCons (mVar 3) (mNil)))))) (mRet (mC (.bl false))) (mNx))
    (mSeq (mAsg (mVar 3) (gmSeq 2 (gmCons (gmName 4) (gmCons (gmName 5) (gmNil)))))
    (mSeq (mSet 6 (mLst (mCons (mTup (mCons (mVar 1) (mCons (mVar 4) (mNil)))) (mNil))))
    (mSeq (mFor (miZip (mVar 2) (mVar 5)) (gmSeq 2 (gmCons (gmName 7) (gmCons (gmName 8) (gmNil)))) (mDrop (mMset lAppend (mVar 6) (mCons (mTup (mCons (mOp oGet (mVar 7) (mC (.int 0))) (mCons (mUn oNeg (mVar 8)) (mNil)))) (mNil)))))
    (mSeq (mAsg (mCall 2 f_summed (mCons (mC (.int 0)) (mCons (mVar 6) (mNil)))) (gmSeq 2 (gmCons (gmName 9) (gmCons (gmName 10) (gmNil)))))
    (mSeq (mIfS (mOr (mTest (mOp oLt (mVar 9) (mC (.int 0)))) (mAnd (mTest (mOp oEq (mVar 4) (mC (.int 0)))) (mTest (mOp oLt (mVar 9) (mC (.int 1)))))) (mRet (mC (.bl false))) (mNx))
    (mSeq (mFor (miOf iterA (mVar 10)) (gmSeq 2 (gmCons (gmName 11) (gmCons (gmName 12) (gmNil)))) (mIfS (mOr (mTest (mOp oLt (mVar 12) (mC (.int 0)))) (mNot (mTest (mCall 2 f_is_floor (mCons (mVar 0) (mCons (mVar 11) (mNil))))))) (mRet (mC (.bl false))) (mNx)))
    (mRet (mC (.bl true)))))))))
theorem ok_shows {P : Program} {w : World} {K : PySem.W.Frag} {mg : Str → Option Value} {base : Heap} {aPaidError aBadNever aBadGoal aBadHints : Addr} {fa : Addr} {fd : FuncData} {k : Nat} (F : Fun K "shows" "shows" s_shows fa fd) (T : Md K mg aPaidError aBadNever aBadGoal aBadHints) {f_showing_fits : FnM} {f_summed : FnM} {f_is_floor : FnM} (F_showing_fits : FnI P w K mg base (ctb aPaidError aBadNever aBadGoal aBadHints) k "showing_fits" ["hints", "thing"] f_showing_fits) (F_summed : FnI P w K mg base (ctb aPaidError aBadNever aBadGoal aBadHints) k "summed" ["const", "parts"] f_summed) (F_is_floor : FnI P w K mg base (ctb aPaidError aBadNever aBadGoal aBadHints) k "is_floor" ["never", "atom"] f_is_floor) :
    FnOk P w K mg base (L2.CX P w) (k + 1) fa fd ["never", "goal", "hints", "thing"] (spM K (ctb aPaidError aBadNever aBadGoal aBadHints) 4 (mFn 13 (m_shows f_showing_fits f_summed f_is_floor))) :=
  fn_ok F sc_shows fun cdv A outer s H E hr tk pas => by
    let ct : Ctb := ctb aPaidError aBadNever aBadGoal aBadHints
    exact ((sss_cons (ss_if (st_not (st_val (se_callI F_showing_fits rfl hr rfl tk (sa_cons (se_var 2) (sa_cons (se_var 3) sa_nil))))) (sss_one (ss_ret se_bl)) sss_nil)
    (sss_cons (ss_asg (se_var 3) (sg_seq rfl (sgs_cons (sg_name (i := 4) sc_shows.nd rfl (Or.inl rfl)) (sgs_cons (sg_name (i := 5) sc_shows.nd rfl (Or.inl rfl)) sgs_nil))))
    (sss_cons (ss_set (i := 6) sc_shows.nd rfl (Or.inl rfl) (se_lst (sa_cons (se_tup (sa_cons (se_var 1) (sa_cons (se_var 4) sa_nil))) sa_nil)))
    (sss_cons (ss_for pas rfl (si_zip rfl T.z_zip (se_var 2) (se_var 5)) (sg_seq rfl (sgs_cons (sg_name (i := 7) sc_shows.nd rfl (Or.inl rfl)) (sgs_cons (sg_name (i := 8) sc_shows.nd rfl (Or.inl rfl)) sgs_nil))) (sss_one (ss_expr (se_lm PySem.F.slot_list_append PySem.F.type_list_append mt_appendM (se_var 6) (sa_cons (se_tup (sa_cons (se_ix (ix_A hr) (se_var 7) se_int (fun _ _ => rfl)) (sa_cons (se_un un_negM (se_var 8)) sa_nil))) sa_nil)))))
    (sss_cons (ss_asg (se_callI F_summed rfl hr rfl tk (sa_cons se_int (sa_cons (se_var 6) sa_nil))) (sg_seq rfl (sgs_cons (sg_name (i := 9) sc_shows.nd rfl (Or.inl rfl)) (sgs_cons (sg_name (i := 10) sc_shows.nd rfl (Or.inl rfl)) sgs_nil))))
    (sss_cons (ss_if (st_w (sw_or (st_cmp op_ltM (se_var 9) se_int (nomark _)) (sw_or1 (st_w (sw_and (st_cmp (op_eqM hr.units) (se_var 4) se_int (nomark _)) (sw_and1 (st_cmp op_ltM (se_var 9) se_int (nomark _)))))))) (sss_one (ss_ret se_bl)) sss_nil)
    (sss_cons (ss_for pas rfl (si_any (se_var 10)) (sg_seq rfl (sgs_cons (sg_name (i := 11) sc_shows.nd rfl (Or.inl rfl)) (sgs_cons (sg_name (i := 12) sc_shows.nd rfl (Or.inl rfl)) sgs_nil))) (sss_one (ss_if (st_w (sw_or (st_cmp op_ltM (se_var 12) se_int (nomark _)) (sw_or1 (st_not (st_val (se_callI F_is_floor rfl hr rfl tk (sa_cons (se_var 0) (sa_cons (se_var 11) sa_nil)))))))) (sss_one (ss_ret se_bl)) sss_nil)))
    (sss_one (ss_ret se_bl))))))))))
abbrev s_is_shown : Stmt := topS 27
theorem sc_is_shown : FnScope ["never", "goal", "hints", "thing"] ["never", "goal", "hints", "thing"] (defScope s_is_shown) := ⟨rfl, rfl, rfl, by decide +kernel, rfl, by decide +kernel, by decide +kernel⟩
noncomputable def m_is_shown (f_need_never : FnM) (f_need_goal : FnM) (f_need_hints : FnM) (f_shows : FnM) : MS :=
    mSeq (mDrop (mCall 1 f_need_never (mCons (mVar 0) (mNil))))
    (mSeq (mDrop (mCall 1 f_need_goal (mCons (mVar 1) (mNil))))
    (mSeq (mDrop (mCall 1 f_need_hints (mCons (mVar 2) (mNil))))
    (mRet (mCall 4 f_shows (mCons (mVar 0) (mCons (mVar 1) (mCons (mVar 2) (mCons (mVar 3) (mNil)))))))))
theorem ok_is_shown {P : Program} {w : World} {K : PySem.W.Frag} {mg : Str → Option Value} {base : Heap} {aPaidError aBadNever aBadGoal aBadHints : Addr} {fa : Addr} {fd : FuncData} {k : Nat} (F : Fun K "is_shown" "is_shown" s_is_shown fa fd) (T : Md K mg aPaidError aBadNever aBadGoal aBadHints) {f_need_never : FnM} {f_need_goal : FnM} {f_need_hints : FnM} {f_shows : FnM} (F_need_never : FnI P w K mg base (ctb aPaidError aBadNever aBadGoal aBadHints) k "need_never" ["never"] f_need_never) (F_need_goal : FnI P w K mg base (ctb aPaidError aBadNever aBadGoal aBadHints) k "need_goal" ["goal"] f_need_goal) (F_need_hints : FnI P w K mg base (ctb aPaidError aBadNever aBadGoal aBadHints) k "need_hints" ["hints"] f_need_hints) (F_shows : FnI P w K mg base (ctb aPaidError aBadNever aBadGoal aBadHints) k "shows" ["never", "goal", "hints", "thing"] f_shows) :
    FnOk P w K mg base (L2.CX P w) (k + 1) fa fd ["never", "goal", "hints", "thing"] (spM K (ctb aPaidError aBadNever aBadGoal aBadHints) 4 (mFn 4 (m_is_shown f_need_never f_need_goal f_need_hints f_shows))) :=
  fn_ok F sc_is_shown fun cdv A outer s H E hr tk pas => by
    let ct : Ctb := ctb aPaidError aBadNever aBadGoal aBadHints
    exact ((sss_cons (ss_expr (se_callI F_need_never rfl hr rfl tk (sa_cons (se_var 0) sa_nil)))
    (sss_cons (ss_expr (se_callI F_need_goal rfl hr rfl tk (sa_cons (se_var 1) sa_nil)))
    (sss_cons (ss_expr (se_callI F_need_hints rfl hr rfl tk (sa_cons (se_var 2) sa_nil)))
    (sss_one (ss_ret (se_callI F_shows rfl hr rfl tk (sa_cons (se_var 0) (sa_cons (se_var 1) (sa_cons (se_var 2) (sa_cons (se_var 3) sa_nil)))))))))))
abbrev s__law_well : Stmt := topS 29
theorem sc__law_well : FnScope ["script", "mix", "cell"] ["script"] (defScope s__law_well) := ⟨rfl, rfl, rfl, by decide +kernel, rfl, by decide +kernel, by decide +kernel⟩
noncomputable def m__law_well : MS :=
    mSeq (mSet 1 (mC (.int 5)))
    (mSeq (mFor (miOf iterA (mSl (mVar 0) (moN) (moS (mC (.int 63))))) (gmName 2) (mSet 1 (mOp oMod (mB bInt (mCons (mOp oAdd (mOp oAdd (mOp oMulA (mVar 1) (mC (.int 16807))) (mOp oMod (mB bInt (mCons (mVar 2) (mNil))) (mC (.int 2147483587)))) (mC (.int 29))) (mNil))) (mC (.int 2147483647)))))
    (mRet (mDisp [.inr "great", .inr "mix", .inr "turn"] (mCons (mLc (miOf iterA (mSl (mVar 0) (moN) (moS (mC (.int 63))))) (gmName 2) (mTest (mOp oGeA (mVar 2) (mOp oPow (mC (.int 10)) (mC (.int 18))))) (mB bInt (mCons (mVar 2) (mNil))) [2]) (mCons (mVar 1) (mCons (mC (.int 0)) (mNil)))))))
theorem ok__law_well {P : Program} {w : World} {K : PySem.W.Frag} {mg : Str → Option Value} {base : Heap} {aPaidError aBadNever aBadGoal aBadHints : Addr} {fa : Addr} {fd : FuncData} {k : Nat} (F : Fun K "_law_well" "_law_well" s__law_well fa fd) (T : Md K mg aPaidError aBadNever aBadGoal aBadHints) :
    FnOk P w K mg base (L2.CX P w) (k + 1) fa fd ["script"] (spM K (ctb aPaidError aBadNever aBadGoal aBadHints) 1 (mFn 3 (m__law_well))) :=
  fn_ok F sc__law_well fun cdv A outer s H E hr tk pas => by
    let ct : Ctb := ctb aPaidError aBadNever aBadGoal aBadHints
    exact ((sss_cons (ss_set (i := 1) sc__law_well.nd rfl (Or.inl rfl) se_int)
    (sss_cons (ss_for pas rfl (si_any (se_sl (se_var 0) so_none (so_some se_int))) (sg_name (i := 2) sc__law_well.nd rfl (Or.inl rfl)) (sss_one (ss_set (i := 1) sc__law_well.nd rfl (Or.inl rfl) (se_op op_modM (se_callTy cr_int rfl T.z_int PyProof.Rows.boot_int (sa_cons (se_op op_addM (se_op op_addM (se_op op_mulA (se_var 1) se_int) (se_op op_modM (se_callTy cr_int rfl T.z_int PyProof.Rows.boot_int (sa_cons (se_var 2) sa_nil)) se_int)) se_int) sa_nil)) se_int))))
    (sss_one (ss_ret (se_disp (spr_cons (key := .inr "great") pe_str (se_lc [("cell", 2)] rfl sc__law_well.nd (si_any (se_sl (se_var 0) so_none (so_some se_int))) (blkOk_by (own := [("cell", 2)]) (N := ["script", "mix", "cell"]) (sc := defScope s__law_well) (by decide +kernel)) (fun _ _ _ _ _ => (sgv_name (vs := [2]) (i := 2) sc__law_well.nd rfl (Or.inl rfl) (by decide))) (fun _ _ _ _ _ => (sts_one (st_cmp (op_geA hr) (se_var 2) (se_op op_powM se_int se_int) (nomark _)))) (fun _ _ _ _ _ => (se_callTy cr_int rfl T.z_int PyProof.Rows.boot_int (sa_cons (se_var 2) sa_nil)))) (spr_cons (key := .inr "mix") pe_str (se_var 1) (spr_cons (key := .inr "turn") pe_str se_int spr_nil))) rfl rfl (by simp) (by decide)))))))
abbrev s__law_draw : Stmt := topS 30
theorem sc__law_draw : FnScope ["well", "many", "great", "top"] ["well", "many"] (defScope s__law_draw) := ⟨rfl, rfl, rfl, by decide +kernel, rfl, by decide +kernel, by decide +kernel⟩
noncomputable def m__law_draw : MS :=
    mSeq (mSet 2 (mOp oGet (mVar 0) (mC (.str "great"))))
    (mSeq (mIfS (mTest (mOp oNe (mVar 2) (mLst (mNil)))) (mSeq (mSet 3 (mMset lPopAt (mVar 2) (mCons (mC (.int 0)) (mNil))))
    (mSeq (mIfS (mTest (mOp oGeA (mVar 3) (mVar 1))) (mDrop (mMset lInsert (mVar 2) (mCons (mC (.int 0)) (mCons (mOp oFdiv (mVar 3) (mVar 1)) (mNil))))) (mNx))
    (mRet (mOp oMod (mB bInt (mCons (mVar 3) (mNil))) (mVar 1))))) (mNx))
    (mSeq (mAsg (mOp oAdd (mOp oGet (mVar 0) (mC (.str "turn"))) (mC (.int 1))) (gmSub oPut (mVar 0) (mC (.str "turn"))))
    (mSeq (mAsg (mOp oMod (mB bInt (mCons (mOp oAdd (mOp oAdd (mOp oMulA (mOp oGet (mVar 0) (mC (.str "mix"))) (mC (.int 48271))) (mOp oMulA (mOp oMulA (mOp oGet (mVar 0) (mC (.str "turn"))) (mOp oGet (mVar 0) (mC (.str "turn")))) (mC (.int 69621)))) (mC (.int 11))) (mNil))) (mC (.int 2147483647))) (gmSub oPut (mVar 0) (mC (.str "mix"))))
    (mRet (mOp oMod (mOp oFdiv (mOp oMod (mB bInt (mCons (mOp oMulA (mOp oGet (mVar 0) (mC (.str "mix"))) (mOp oGet (mVar 0) (mC (.str "mix")))) (mNil))) (mC (.int 2147483629))) (mC (.int 16))) (mVar 1))))))
theorem ok__law_draw {P : Program} {w : World} {K : PySem.W.Frag} {mg : Str → Option Value} {base : Heap} {aPaidError aBadNever aBadGoal aBadHints : Addr} {fa : Addr} {fd : FuncData} {k : Nat} (F : Fun K "_law_draw" "_law_draw" s__law_draw fa fd) (T : Md K mg aPaidError aBadNever aBadGoal aBadHints) :
    FnOk P w K mg base (L2.CX P w) (k + 1) fa fd ["well", "many"] (spM K (ctb aPaidError aBadNever aBadGoal aBadHints) 2 (mFn 4 (m__law_draw))) :=
  fn_ok F sc__law_draw fun cdv A outer s H E hr tk pas => by
    let ct : Ctb := ctb aPaidError aBadNever aBadGoal aBadHints
    exact ((sss_cons (ss_set (i := 2) sc__law_draw.nd rfl (Or.inl rfl) (se_ix (ix_A hr) (se_var 0) se_str (fun _ _ => rfl)))
    (sss_cons (ss_if (st_cmp (op_neM hr.units) (se_var 2) (se_lst sa_nil) (nomark _)) (sss_cons (ss_set (i := 3) sc__law_draw.nd rfl (Or.inl rfl) (se_lm PySem.F.slot_list_pop PySem.F.type_list_pop mt_popAtM (se_var 2) (sa_cons se_int sa_nil)))
    (sss_cons (ss_if (st_cmp (op_geA hr) (se_var 3) (se_var 1) (nomark _)) (sss_one (ss_expr (se_lm PySem.F.slot_list_insert PySem.F.type_list_insert mt_insertM (se_var 2) (sa_cons se_int (sa_cons (se_op op_fdivM (se_var 3) (se_var 1)) sa_nil))))) sss_nil)
    (sss_one (ss_ret (se_op op_modM (se_callTy cr_int rfl T.z_int PyProof.Rows.boot_int (sa_cons (se_var 3) sa_nil)) (se_var 1)))))) sss_nil)
    (sss_cons (ss_asg (se_op op_addM (se_ix (ix_A hr) (se_var 0) se_str (fun _ _ => rfl)) se_int) (sg_sub (ct := ct) (W := (fun c d _ H' => E c d H')) (se_var 0) se_str (set_A hr)))
    (sss_cons (ss_asg (se_op op_modM (se_callTy cr_int rfl T.z_int PyProof.Rows.boot_int (sa_cons (se_op op_addM (se_op op_addM (se_op op_mulA (se_ix (ix_A hr) (se_var 0) se_str (fun _ _ => rfl)) se_int) (se_op op_mulA (se_op op_mulA (se_ix (ix_A hr) (se_var 0) se_str (fun _ _ => rfl)) (se_ix (ix_A hr) (se_var 0) se_str (fun _ _ => rfl))) se_int)) se_int) sa_nil)) se_int) (sg_sub (ct := ct) (W := (fun c d _ H' => E c d H')) (se_var 0) se_str (set_A hr)))
    (sss_one (ss_ret (se_op op_modM (se_op op_fdivM (se_op op_modM (se_callTy cr_int rfl T.z_int PyProof.Rows.boot_int (sa_cons (se_op op_mulA (se_ix (ix_A hr) (se_var 0) se_str (fun _ _ => rfl)) (se_ix (ix_A hr) (se_var 0) se_str (fun _ _ => rfl))) sa_nil)) se_int) se_int) (se_var 1)))))))))
abbrev s__law_one : Stmt := topS 31
theorem sc__law_one : FnScope ["well", "some"] ["well", "some"] (defScope s__law_one) := ⟨rfl, rfl, rfl, by decide +kernel, rfl, by decide +kernel, by decide +kernel⟩
noncomputable def m__law_one (f__law_draw : FnM) : MS :=
    mRet (mOp oGet (mVar 1) (mCall 2 f__law_draw (mCons (mVar 0) (mCons (mB bLen (mCons (mVar 1) (mNil))) (mNil)))))
theorem ok__law_one {P : Program} {w : World} {K : PySem.W.Frag} {mg : Str → Option Value} {base : Heap} {aPaidError aBadNever aBadGoal aBadHints : Addr} {fa : Addr} {fd : FuncData} {k : Nat} (F : Fun K "_law_one" "_law_one" s__law_one fa fd) (T : Md K mg aPaidError aBadNever aBadGoal aBadHints) {f__law_draw : FnM} (F__law_draw : FnI P w K mg base (ctb aPaidError aBadNever aBadGoal aBadHints) k "_law_draw" ["well", "many"] f__law_draw) :
    FnOk P w K mg base (L2.CX P w) (k + 1) fa fd ["well", "some"] (spM K (ctb aPaidError aBadNever aBadGoal aBadHints) 2 (mFn 2 (m__law_one f__law_draw))) :=
  fn_ok F sc__law_one fun cdv A outer s H E hr tk pas => by
    let ct : Ctb := ctb aPaidError aBadNever aBadGoal aBadHints
    exact ((sss_one (ss_ret (se_ix (ix_A hr) (se_var 1) (se_callI F__law_draw rfl hr rfl tk (sa_cons (se_var 0) (sa_cons (se_callB cr_len rfl T.z_len PySem.boot_len (sa_cons (se_var 1) sa_nil)) sa_nil))) (fun _ _ => rfl)))))
abbrev s__law_is_int : Stmt := topS 32
theorem sc__law_is_int : FnScope ["x"] ["x"] (defScope s__law_is_int) := ⟨rfl, rfl, rfl, by decide +kernel, rfl, by decide +kernel, by decide +kernel⟩
noncomputable def m__law_is_int : MS :=
    mRet (mAndV (mIsi "int" (mVar 0)) (mNotV (mIsi "bool" (mVar 0))))
theorem ok__law_is_int {P : Program} {w : World} {K : PySem.W.Frag} {mg : Str → Option Value} {base : Heap} {aPaidError aBadNever aBadGoal aBadHints : Addr} {fa : Addr} {fd : FuncData} {k : Nat} (F : Fun K "_law_is_int" "_law_is_int" s__law_is_int fa fd) (T : Md K mg aPaidError aBadNever aBadGoal aBadHints) :
    FnOk P w K mg base (L2.CX P w) (k + 1) fa fd ["x"] (spM K (ctb aPaidError aBadNever aBadGoal aBadHints) 1 (mFn 1 (m__law_is_int))) :=
  fn_ok F sc__law_is_int fun cdv A outer s H E hr tk pas => by
    let ct : Ctb := ctb aPaidError aBadNever aBadGoal aBadHints
    exact ((sss_one (ss_ret (se_and (se_isi (by decide) rfl T.z_isinstance rfl T.z_int PyProof.Rows.boot_int (se_var 0)) (se_and1 (se_not (se_isi (by decide) rfl T.z_isinstance rfl T.z_bool PyProof.Rows.boot_bool (se_var 0))))))))
abbrev s__law_rest : Stmt := topS 33
theorem sc__law_rest : FnScope ["goal", "hints", "scale", "multipliers", "const", "sums", "atom", "times", "hint", "by"] ["goal", "hints", "scale", "multipliers"] (defScope s__law_rest) := ⟨rfl, rfl, rfl, by decide +kernel, rfl, by decide +kernel, by decide +kernel⟩
noncomputable def m__law_rest : MS :=
    mSeq (mSet 4 (mOp oMulA (mVar 2) (mOp oGet (mVar 0) (mC (.int 0)))))
    (mSeq (mSet 5 (mDnewT))
    (mSeq (mFor (miOf iterA (mOp oGet (mVar 0) (mC (.int 1)))) (gmSeq 2 (gmCons (gmName 6) (gmCons (gmName 7) (gmNil)))) (mAsg (mOp oMulA (mVar 2) (mVar 7)) (gmSub oPut (mVar 5) (mVar 6))))
    (mSeq (mFor (miZip (mVar 1) (mVar 3)) (gmSeq 2 (gmCons (gmName 8) (gmCons (gmName 9) (gmNil)))) (mSeq (mSet 4 (mOp oSub (mVar 4) (mOp oMulA (mVar 9) (mOp oGet (mOp oGet (mVar 8) (mC (.int 0))) (mC (.int 0))))))
    (mFor (miOf iterA (mOp oGet (mOp oGet (mVar 8) (mC (.int 0))) (mC (.int 1)))) (gmSeq 2 (gmCons (gmName 6) (gmCons (gmName 7) (gmNil)))) (mAsg (mOp oSub (mGet2 (mVar 5) (mVar 6) (mC (.int 0))) (mOp oMulA (mVar 9) (mVar 7))) (gmSub oPut (mVar 5) (mVar 6))))))
    (mRet (mLst (mCons (mVar 4) (mCons (mVar 5) (mNil))))))))
theorem ok__law_rest {P : Program} {w : World} {K : PySem.W.Frag} {mg : Str → Option Value} {base : Heap} {aPaidError aBadNever aBadGoal aBadHints : Addr} {fa : Addr} {fd : FuncData} {k : Nat} (F : Fun K "_law_rest" "_law_rest" s__law_rest fa fd) (T : Md K mg aPaidError aBadNever aBadGoal aBadHints) :
    FnOk P w K mg base (L2.CX P w) (k + 1) fa fd ["goal", "hints", "scale", "multipliers"] (spM K (ctb aPaidError aBadNever aBadGoal aBadHints) 4 (mFn 10 (m__law_rest))) :=
  fn_ok F sc__law_rest fun cdv A outer s H E hr tk pas => by
    let ct : Ctb := ctb aPaidError aBadNever aBadGoal aBadHints
    exact ((sss_cons (ss_set (i := 4) sc__law_rest.nd rfl (Or.inl rfl) (se_op op_mulA (se_var 2) (se_ix (ix_A hr) (se_var 0) se_int (fun _ _ => rfl))))
    (sss_cons (ss_set (i := 5) sc__law_rest.nd rfl (Or.inl rfl) se_dnewT)
    (sss_cons (ss_for pas rfl (si_any (se_ix (ix_A hr) (se_var 0) se_int (fun _ _ => rfl))) (sg_seq rfl (sgs_cons (sg_name (i := 6) sc__law_rest.nd rfl (Or.inl rfl)) (sgs_cons (sg_name (i := 7) sc__law_rest.nd rfl (Or.inl rfl)) sgs_nil))) (sss_one (ss_asg (se_op op_mulA (se_var 2) (se_var 7)) (sg_sub (ct := ct) (W := (fun c d _ H' => E c d H')) (se_var 5) (se_var 6) (set_A hr)))))
    (sss_cons (ss_for pas rfl (si_zip rfl T.z_zip (se_var 1) (se_var 3)) (sg_seq rfl (sgs_cons (sg_name (i := 8) sc__law_rest.nd rfl (Or.inl rfl)) (sgs_cons (sg_name (i := 9) sc__law_rest.nd rfl (Or.inl rfl)) sgs_nil))) (sss_cons (ss_set (i := 4) sc__law_rest.nd rfl (Or.inl rfl) (se_op op_subM (se_var 4) (se_op op_mulA (se_var 9) (se_ix (ix_A hr) (se_ix (ix_A hr) (se_var 8) se_int (fun _ _ => rfl)) se_int (fun _ _ => rfl)))))
    (sss_one (ss_for pas rfl (si_any (se_ix (ix_A hr) (se_ix (ix_A hr) (se_var 8) se_int (fun _ _ => rfl)) se_int (fun _ _ => rfl))) (sg_seq rfl (sgs_cons (sg_name (i := 6) sc__law_rest.nd rfl (Or.inl rfl)) (sgs_cons (sg_name (i := 7) sc__law_rest.nd rfl (Or.inl rfl)) sgs_nil))) (sss_one (ss_asg (se_op op_subM (se_get2 hr (se_var 5) (se_var 6) se_int ⟨rfl, rfl, rfl, rfl⟩) (se_op op_mulA (se_var 9) (se_var 7))) (sg_sub (ct := ct) (W := (fun c d _ H' => E c d H')) (se_var 5) (se_var 6) (set_A hr))))))))
    (sss_one (ss_ret (se_lst (sa_cons (se_var 4) (sa_cons (se_var 5) sa_nil))))))))))
abbrev s__law_shows : Stmt := topS 34
theorem sc__law_shows : FnScope ["never", "goal", "hints", "thing", "const", "sums", "atom", "times", "hint", "by"] ["never", "goal", "hints", "thing"] (defScope s__law_shows) := ⟨rfl, rfl, rfl, by decide +kernel, rfl, by decide +kernel, by decide +kernel⟩
noncomputable def m__law_shows (f__law_is_int : FnM) (f__law_rest : FnM) : MS :=
    mSeq (mIfS (mOr (mNot (mTest (mIsi "tuple" (mVar 3)))) (mOr (mTest (mOp oNe (mB bLen (mCons (mVar 3) (mNil))) (mC (.int 2)))) (mOr (mNot (mTest (mCall 1 f__law_is_int (mCons (mOp oGet (mVar 3) (mC (.int 0))) (mNil))))) (mTest (mOp oLt (mOp oGet (mVar 3) (mC (.int 0))) (mC (.int 0))))))) (mRet (mC (.bl false))) (mNx))
    (mSeq (mIfS (mOr (mNot (mTest (mIsi "tuple" (mOp oGet (mVar 3) (mC (.int 1)))))) (mOr (mTest (mOp oNe (mB bLen (mCons (mOp oGet (mVar 3) (mC (.int 1))) (mNil))) (mB bLen (mCons (mVar 2) (mNil))))) (mNot (mTest (mB bAll (mCons (mLc (miOf iterA (mOp oGet (mVar 3) (mC (.int 1)))) (gmName 9) (mYes) (mCall 1 f__law_is_int (mCons (mVar 9) (mNil))) [9]) (mNil))))))) (mRet (mC (.bl false))) (mNx))
    (mSeq (mIfS (mTest (mOp oNe (mLc (miZip (mVar 2) (mOp oGet (mVar 3) (mC (.int 1)))) (gmTup 2 (gmCons (gmName 8) (gmCons (gmName 9) (gmNil)))) (mAnd (mTest (mOp oLt (mVar 9) (mC (.int 0)))) (mNot (mTest (mOp oGet (mVar 8) (mC (.int 1)))))) (mVar 8) [8, 9]) (mLst (mNil)))) (mRet (mC (.bl false))) (mNx))
    (mSeq (mAsg (mCall 4 f__law_rest (mCons (mVar 1) (mCons (mVar 2) (mCons (mOp oGet (mVar 3) (mC (.int 0))) (mCons (mOp oGet (mVar 3) (mC (.int 1))) (mNil)))))) (gmSeq 2 (gmCons (gmName 4) (gmCons (gmName 5) (gmNil)))))
    (mSeq (mIfS (mTest (mOp oLt (mVar 4) (mB bInt (mCons (mOp oEq (mOp oGet (mVar 3) (mC (.int 0))) (mC (.int 0))) (mNil))))) (mRet (mC (.bl false))) (mNx))
    (mSeq (mLock 5 (mFor (miItems (mVar 5)) (gmSeq 2 (gmCons (gmName 6) (gmCons (gmName 7) (gmNil)))) (mIfS (mOr (mTest (mOp oLt (mVar 7) (mC (.int 0)))) (mAnd (mTest (mOp oGt (mVar 7) (mC (.int 0)))) (mAnd (mTest (mOp oEq (mOp oGet (mVar 6) (mC (.int 0))) (mC (.int 0)))) (mTest (mOp oNotIn (mOp oGet (mVar 6) (mC (.int 2))) (mVar 0)))))) (mRet (mC (.bl false))) (mNx))))
    (mRet (mC (.bl true))))))))
theorem ok__law_shows {P : Program} {w : World} {K : PySem.W.Frag} {mg : Str → Option Value} {base : Heap} {aPaidError aBadNever aBadGoal aBadHints : Addr} {fa : Addr} {fd : FuncData} {k : Nat} (F : Fun K "_law_shows" "_law_shows" s__law_shows fa fd) (T : Md K mg aPaidError aBadNever aBadGoal aBadHints) {f__law_is_int : FnM} {f__law_rest : FnM} (F__law_is_int : FnI P w K mg base (ctb aPaidError aBadNever aBadGoal aBadHints) k "_law_is_int" ["x"] f__law_is_int) (F__law_rest : FnI P w K mg base (ctb aPaidError aBadNever aBadGoal aBadHints) k "_law_rest" ["goal", "hints", "scale", "multipliers"] f__law_rest) :
    FnOk P w K mg base (L2.CX P w) (k + 1) fa fd ["never", "goal", "hints", "thing"] (spM K (ctb aPaidError aBadNever aBadGoal aBadHints) 4 (mFn 10 (m__law_shows f__law_is_int f__law_rest))) :=
  fn_ok F sc__law_shows fun cdv A outer s H E hr tk pas => by
    let ct : Ctb := ctb aPaidError aBadNever aBadGoal aBadHints
    exact ((sss_cons (ss_if (st_w (sw_or (st_not (st_val (se_isi (by decide) rfl T.z_isinstance rfl T.z_tuple PyProof.Rows.boot_tuple (se_var 3)))) (sw_or (st_cmp (op_neM hr.units) (se_callB cr_len rfl T.z_len PySem.boot_len (sa_cons (se_var 3) sa_nil)) se_int (nomark _)) (sw_or (st_not (st_val (se_callI F__law_is_int rfl hr rfl tk (sa_cons (se_ix (ix_A hr) (se_var 3) se_int (fun _ _ => rfl)) sa_nil)))) (sw_or1 (st_cmp op_ltM (se_ix (ix_A hr) (se_var 3) se_int (fun _ _ => rfl)) se_int (nomark _))))))) (sss_one (ss_ret se_bl)) sss_nil)
    (sss_cons (ss_if (st_w (sw_or (st_not (st_val (se_isi (by decide) rfl T.z_isinstance rfl T.z_tuple PyProof.Rows.boot_tuple (se_ix (ix_A hr) (se_var 3) se_int (fun _ _ => rfl))))) (sw_or (st_cmp (op_neM hr.units) (se_callB cr_len rfl T.z_len PySem.boot_len (sa_cons (se_ix (ix_A hr) (se_var 3) se_int (fun _ _ => rfl)) sa_nil)) (se_callB cr_len rfl T.z_len PySem.boot_len (sa_cons (se_var 2) sa_nil)) (nomark _)) (sw_or1 (st_not (st_val (se_callB (cr_allM rfl) rfl T.z_all (by decide +kernel) (sa_cons (se_lc [("by", 9)] rfl sc__law_shows.nd (si_any (se_ix (ix_A hr) (se_var 3) se_int (fun _ _ => rfl))) (blkOk_by (own := [("by", 9)]) (N := ["never", "goal", "hints", "thing", "const", "sums", "atom", "times", "hint", "by"]) (sc := defScope s__law_shows) (by decide +kernel)) (fun _ _ _ _ _ => (sgv_name (vs := [9]) (i := 9) sc__law_shows.nd rfl (Or.inl rfl) (by decide))) (fun _ _ _ _ _ => sts_nil) (fun _ _ _ _ _ => (se_callI F__law_is_int rfl hr rfl takes0 (sa_cons (se_var 9) sa_nil)))) sa_nil)))))))) (sss_one (ss_ret se_bl)) sss_nil)
    (sss_cons (ss_if (st_cmp (op_neM hr.units) (se_lc [("hint", 8), ("by", 9)] rfl sc__law_shows.nd (si_zip rfl T.z_zip (se_var 2) (se_ix (ix_A hr) (se_var 3) se_int (fun _ _ => rfl))) (blkOk_by (own := [("hint", 8), ("by", 9)]) (N := ["never", "goal", "hints", "thing", "const", "sums", "atom", "times", "hint", "by"]) (sc := defScope s__law_shows) (by decide +kernel)) (fun _ _ _ _ _ => (sgv_tup rfl (sgvs_cons (sgv_name (vs := [8, 9]) (i := 8) sc__law_shows.nd rfl (Or.inl rfl) (by decide)) (sgvs_cons (sgv_name (vs := [8, 9]) (i := 9) sc__law_shows.nd rfl (Or.inl rfl) (by decide)) sgvs_nil)))) (fun _ _ _ _ _ => (sts_one (st_w (sw_and (st_cmp op_ltM (se_var 9) se_int (nomark _)) (sw_and1 (st_not (st_val (se_ix (ix_A hr) (se_var 8) se_int (fun _ _ => rfl))))))))) (fun _ _ _ _ _ => (se_var 8))) (se_lst sa_nil) (nomark _)) (sss_one (ss_ret se_bl)) sss_nil)
    (sss_cons (ss_asg (se_callI F__law_rest rfl hr rfl tk (sa_cons (se_var 1) (sa_cons (se_var 2) (sa_cons (se_ix (ix_A hr) (se_var 3) se_int (fun _ _ => rfl)) (sa_cons (se_ix (ix_A hr) (se_var 3) se_int (fun _ _ => rfl)) sa_nil))))) (sg_seq rfl (sgs_cons (sg_name (i := 4) sc__law_shows.nd rfl (Or.inl rfl)) (sgs_cons (sg_name (i := 5) sc__law_shows.nd rfl (Or.inl rfl)) sgs_nil))))
    (sss_cons (ss_if (st_cmp op_ltM (se_var 4) (se_callTy cr_int rfl T.z_int PyProof.Rows.boot_int (sa_cons (se_cmp (op_eqM hr.units) (se_ix (ix_A hr) (se_var 3) se_int (fun _ _ => rfl)) se_int (nomark _)) sa_nil)) (nomark _)) (sss_one (ss_ret se_bl)) sss_nil)
    (sss_cons (ss_lock 5 (ss_for pas rfl (si_items (se_var 5)) (sg_seq rfl (sgs_cons (sg_name (i := 6) sc__law_shows.nd rfl (Or.inl rfl)) (sgs_cons (sg_name (i := 7) sc__law_shows.nd rfl (Or.inl rfl)) sgs_nil))) (sss_one (ss_if (st_w (sw_or (st_cmp op_ltM (se_var 7) se_int (nomark _)) (sw_or1 (st_w (sw_and (st_cmp op_gtM (se_var 7) se_int (nomark _)) (sw_and (st_cmp (op_eqM hr.units) (se_ix (ix_A hr) (se_var 6) se_int (fun _ _ => rfl)) se_int (nomark _)) (sw_and1 (st_cmp (op_notInA hr) (se_ix (ix_A hr) (se_var 6) se_int (fun _ _ => rfl)) (se_var 0) rfl)))))))) (sss_one (ss_ret se_bl)) sss_nil))))
    (sss_one (ss_ret se_bl)))))))))
abbrev s__law_by : Stmt := topS 35
theorem sc__law_by : FnScope ["well", "by"] ["well"] (defScope s__law_by) := ⟨rfl, rfl, rfl, by decide +kernel, rfl, by decide +kernel, by decide +kernel⟩
noncomputable def m__law_by (f__law_draw : FnM) : MS :=
    mSeq (mSet 1 (mOp oSub (mCall 2 f__law_draw (mCons (mVar 0) (mCons (mC (.int 11)) (mNil)))) (mC (.int 5))))
    (mSeq (mIfS (mTest (mOp oEq (mCall 2 f__law_draw (mCons (mVar 0) (mCons (mC (.int 6)) (mNil)))) (mC (.int 0)))) (mSet 1 (mOp oAdd (mOp oMulA (mVar 1) (mOp oPow (mC (.int 10)) (mC (.int 30)))) (mCall 2 f__law_draw (mCons (mVar 0) (mCons (mOp oPow (mC (.int 10)) (mC (.int 9))) (mNil)))))) (mNx))
    (mRet (mVar 1)))
theorem ok__law_by {P : Program} {w : World} {K : PySem.W.Frag} {mg : Str → Option Value} {base : Heap} {aPaidError aBadNever aBadGoal aBadHints : Addr} {fa : Addr} {fd : FuncData} {k : Nat} (F : Fun K "_law_by" "_law_by" s__law_by fa fd) (T : Md K mg aPaidError aBadNever aBadGoal aBadHints) {f__law_draw : FnM} (F__law_draw : FnI P w K mg base (ctb aPaidError aBadNever aBadGoal aBadHints) k "_law_draw" ["well", "many"] f__law_draw) :
    FnOk P w K mg base (L2.CX P w) (k + 1) fa fd ["well"] (spM K (ctb aPaidError aBadNever aBadGoal aBadHints) 1 (mFn 2 (m__law_by f__law_draw))) :=
  fn_ok F sc__law_by fun cdv A outer s H E hr tk pas => by
    let ct : Ctb := ctb aPaidError aBadNever aBadGoal aBadHints
    exact ((sss_cons (ss_set (i := 1) sc__law_by.nd rfl (Or.inl rfl) (se_op op_subM (se_callI F__law_draw rfl hr rfl tk (sa_cons (se_var 0) (sa_cons se_int sa_nil))) se_int))
    (sss_cons (ss_if (st_cmp (op_eqM hr.units) (se_callI F__law_draw rfl hr rfl tk (sa_cons (se_var 0) (sa_cons se_int sa_nil))) se_int (nomark _)) (sss_one (ss_set (i := 1) sc__law_by.nd rfl (Or.inl rfl) (se_op op_addM (se_op op_mulA (se_var 1) (se_op op_powM se_int se_int)) (se_callI F__law_draw rfl hr rfl tk (sa_cons (se_var 0) (sa_cons (se_op op_powM se_int se_int) sa_nil)))))) sss_nil)
    (sss_one (ss_ret (se_var 1))))))
abbrev s__law_atoms : Stmt := topS 36
theorem sc__law_atoms : FnScope ["well", "found", "k", "pick", "atom"] ["well"] (defScope s__law_atoms) := ⟨rfl, rfl, rfl, by decide +kernel, rfl, by decide +kernel, by decide +kernel⟩
noncomputable def m__law_atoms (f__law_draw : FnM) (f__law_one : FnM) : MS :=
    mSeq (mSet 1 (mLst (mNil)))
    (mSeq (mFor (miRng1 (mOp oAdd (mC (.int 2)) (mCall 2 f__law_draw (mCons (mVar 0) (mCons (mC (.int 8)) (mNil)))))) (gmName 2) (mSeq (mSet 3 (mCall 2 f__law_draw (mCons (mVar 0) (mCons (mC (.int 5)) (mNil)))))
    (mSeq (mSet 4 (mTup (mCons (mC (.int 0)) (mCons (mOp oSub (mCall 2 f__law_draw (mCons (mVar 0) (mCons (mC (.int 401)) (mNil)))) (mC (.int 1))) (mCons (mCall 2 f__law_draw (mCons (mVar 0) (mCons (mC (.int 13)) (mNil)))) (mNil))))))
    (mSeq (mIfS (mTest (mOp oEq (mVar 3) (mC (.int 0)))) (mSet 4 (mTup (mCons (mC (.int 1)) (mCons (mCall 2 f__law_draw (mCons (mVar 0) (mCons (mC (.int 240)) (mNil)))) (mCons (mCall 2 f__law_draw (mCons (mVar 0) (mCons (mC (.int 6)) (mNil)))) (mNil)))))) (mIfS (mTest (mOp oEq (mVar 3) (mC (.int 1)))) (mSet 4 (mCall 2 f__law_one (mCons (mVar 0) (mCons (mLst (mCons (mTup (mCons (mC (.int 0)) (mCons (mUn oNeg (mC (.int 1))) (mCons (mC (.int 12)) (mNil))))) (mCons (mTup (mCons (mC (.int 0)) (mCons (mC (.int 399)) (mCons (mC (.int 1)) (mNil))))) (mCons (mTup (mCons (mC (.int 0)) (mCons (mC (.int 0)) (mCons (mC (.int 0)) (mNil))))) (mCons (mTup (mCons (mC (.int 1)) (mCons (mC (.int 0)) (mCons (mC (.int 5)) (mNil))))) (mCons (mTup (mCons (mC (.int 1)) (mCons (mC (.int 239)) (mCons (mC (.int 0)) (mNil))))) (mCons (mTup (mCons (mC (.int 0)) (mCons (mC (.int 399)) (mCons (mC (.int 12)) (mNil))))) (mNil)))))))) (mNil))))) (mNx)))
    (mIfS (mTest (mOp oNotIn (mVar 4) (mVar 1))) (mDrop (mMset lAppend (mVar 1) (mCons (mVar 4) (mNil)))) (mNx))))))
    (mRet (mB bSorted (mCons (mVar 1) (mNil)))))
theorem ok__law_atoms {P : Program} {w : World} {K : PySem.W.Frag} {mg : Str → Option Value} {base : Heap} {aPaidError aBadNever aBadGoal aBadHints : Addr} {fa : Addr} {fd : FuncData} {k : Nat} (F : Fun K "_law_atoms" "_law_atoms" s__law_atoms fa fd) (T : Md K mg aPaidError aBadNever aBadGoal aBadHints) {f__law_draw : FnM} {f__law_one : FnM} (F__law_draw : FnI P w K mg base (ctb aPaidError aBadNever aBadGoal aBadHints) k "_law_draw" ["well", "many"] f__law_draw) (F__law_one : FnI P w K mg base (ctb aPaidError aBadNever aBadGoal aBadHints) k "_law_one" ["well", "some"] f__law_one) :
    FnOk P w K mg base (L2.CX P w) (k + 1) fa fd ["well"] (spM K (ctb aPaidError aBadNever aBadGoal aBadHints) 1 (mFn 5 (m__law_atoms f__law_draw f__law_one))) :=
  fn_ok F sc__law_atoms fun cdv A outer s H E hr tk pas => by
    let ct : Ctb := ctb aPaidError aBadNever aBadGoal aBadHints
    exact ((sss_cons (ss_set (i := 1) sc__law_atoms.nd rfl (Or.inl rfl) (se_lst sa_nil))
    (sss_cons (ss_for pas rfl (si_rng1 rfl T.z_range (se_op op_addM se_int (se_callI F__law_draw rfl hr rfl tk (sa_cons (se_var 0) (sa_cons se_int sa_nil))))) (sg_name (i := 2) sc__law_atoms.nd rfl (Or.inl rfl)) (sss_cons (ss_set (i := 3) sc__law_atoms.nd rfl (Or.inl rfl) (se_callI F__law_draw rfl hr rfl tk (sa_cons (se_var 0) (sa_cons se_int sa_nil))))
    (sss_cons (ss_set (i := 4) sc__law_atoms.nd rfl (Or.inl rfl) (se_tup (sa_cons se_int (sa_cons (se_op op_subM (se_callI F__law_draw rfl hr rfl tk (sa_cons (se_var 0) (sa_cons se_int sa_nil))) se_int) (sa_cons (se_callI F__law_draw rfl hr rfl tk (sa_cons (se_var 0) (sa_cons se_int sa_nil))) sa_nil)))))
    (sss_cons (ss_if (st_cmp (op_eqM hr.units) (se_var 3) se_int (nomark _)) (sss_one (ss_set (i := 4) sc__law_atoms.nd rfl (Or.inl rfl) (se_tup (sa_cons se_int (sa_cons (se_callI F__law_draw rfl hr rfl tk (sa_cons (se_var 0) (sa_cons se_int sa_nil))) (sa_cons (se_callI F__law_draw rfl hr rfl tk (sa_cons (se_var 0) (sa_cons se_int sa_nil))) sa_nil)))))) (sss_one (ss_if (st_cmp (op_eqM hr.units) (se_var 3) se_int (nomark _)) (sss_one (ss_set (i := 4) sc__law_atoms.nd rfl (Or.inl rfl) (se_callI F__law_one rfl hr rfl tk (sa_cons (se_var 0) (sa_cons (se_lst (sa_cons (se_tup (sa_cons se_int (sa_cons (se_un un_negM se_int) (sa_cons se_int sa_nil)))) (sa_cons (se_tup (sa_cons se_int (sa_cons se_int (sa_cons se_int sa_nil)))) (sa_cons (se_tup (sa_cons se_int (sa_cons se_int (sa_cons se_int sa_nil)))) (sa_cons (se_tup (sa_cons se_int (sa_cons se_int (sa_cons se_int sa_nil)))) (sa_cons (se_tup (sa_cons se_int (sa_cons se_int (sa_cons se_int sa_nil)))) (sa_cons (se_tup (sa_cons se_int (sa_cons se_int (sa_cons se_int sa_nil)))) sa_nil))))))) sa_nil))))) sss_nil)))
    (sss_one (ss_if (st_cmp (op_notInA hr) (se_var 4) (se_var 1) rfl) (sss_one (ss_expr (se_lm PySem.F.slot_list_append PySem.F.type_list_append mt_appendM (se_var 1) (sa_cons (se_var 4) sa_nil)))) sss_nil))))))
    (sss_one (ss_ret (se_callB (cr_sortedM rfl hr) rfl T.z_sorted (by decide +kernel) (sa_cons (se_var 1) sa_nil)))))))
abbrev s__law_drawn_form : Stmt := topS 37
theorem sc__law_drawn_form : FnScope ["well", "atoms", "terms", "atom", "term"] ["well", "atoms"] (defScope s__law_drawn_form) := ⟨rfl, rfl, rfl, by decide +kernel, rfl, by decide +kernel, by decide +kernel⟩
noncomputable def m__law_drawn_form (f__law_draw : FnM) (f__law_by : FnM) : MS :=
    mSeq (mSet 2 (mLc (miOf iterA (mVar 1)) (gmName 3) (mTest (mOp oEq (mCall 2 f__law_draw (mCons (mVar 0) (mCons (mC (.int 2)) (mNil)))) (mC (.int 0)))) (mTup (mCons (mVar 3) (mCons (mCall 1 f__law_by (mCons (mVar 0) (mNil))) (mNil)))) [3]))
    (mRet (mTup (mCons (mCall 1 f__law_by (mCons (mVar 0) (mNil))) (mCons (mB bTuple (mCons (mLc (miOf iterA (mVar 2)) (gmName 4) (mTest (mOp oNe (mOp oGet (mVar 4) (mC (.int 1))) (mC (.int 0)))) (mVar 4) [4]) (mNil))) (mNil)))))
theorem ok__law_drawn_form {P : Program} {w : World} {K : PySem.W.Frag} {mg : Str → Option Value} {base : Heap} {aPaidError aBadNever aBadGoal aBadHints : Addr} {fa : Addr} {fd : FuncData} {k : Nat} (F : Fun K "_law_drawn_form" "_law_drawn_form" s__law_drawn_form fa fd) (T : Md K mg aPaidError aBadNever aBadGoal aBadHints) {f__law_draw : FnM} {f__law_by : FnM} (F__law_draw : FnI P w K mg base (ctb aPaidError aBadNever aBadGoal aBadHints) k "_law_draw" ["well", "many"] f__law_draw) (F__law_by : FnI P w K mg base (ctb aPaidError aBadNever aBadGoal aBadHints) k "_law_by" ["well"] f__law_by) :
    FnOk P w K mg base (L2.CX P w) (k + 1) fa fd ["well", "atoms"] (spM K (ctb aPaidError aBadNever aBadGoal aBadHints) 2 (mFn 5 (m__law_drawn_form f__law_draw f__law_by))) :=
  fn_ok F sc__law_drawn_form fun cdv A outer s H E hr tk pas => by
    let ct : Ctb := ctb aPaidError aBadNever aBadGoal aBadHints
    exact ((sss_cons (ss_setLc (i := 2) [("atom", 3)] rfl sc__law_drawn_form.nd rfl rfl (sw_true rfl rfl rfl (by decide +kernel)) (si_any (se_var 1)) (blkOk_by (own := [("atom", 3)]) (N := ["well", "atoms", "terms", "atom", "term"]) (sc := defScope s__law_drawn_form) (by decide +kernel)) (fun _ _ _ _ _ => (sgv_name (vs := [3]) (i := 3) sc__law_drawn_form.nd rfl (Or.inl rfl) (by decide))) (fun _ _ _ _ _ => (sts_one (st_cmp (op_eqM hr.units) (se_callI F__law_draw rfl hr rfl takes0 (sa_cons (se_var 0) (sa_cons se_int sa_nil))) se_int (nomark _)))) (fun _ _ _ _ _ => (se_tup (sa_cons (se_var 3) (sa_cons (se_callI F__law_by rfl hr rfl takes0 (sa_cons (se_var 0) sa_nil)) sa_nil)))))
    (sss_one (ss_ret (se_tup (sa_cons (se_callI F__law_by rfl hr rfl tk (sa_cons (se_var 0) sa_nil)) (sa_cons (se_callTy cr_tuple rfl T.z_tuple PyProof.Rows.boot_tuple (sa_cons (se_lc [("term", 4)] rfl sc__law_drawn_form.nd (si_any (se_var 2)) (blkOk_by (own := [("term", 4)]) (N := ["well", "atoms", "terms", "atom", "term"]) (sc := defScope s__law_drawn_form) (by decide +kernel)) (fun _ _ _ _ _ => (sgv_name (vs := [4]) (i := 4) sc__law_drawn_form.nd rfl (Or.inl rfl) (by decide))) (fun _ _ _ _ _ => (sts_one (st_cmp (op_neM hr.units) (se_ix (ix_A hr) (se_var 4) se_int (fun _ _ => rfl)) se_int (nomark _)))) (fun _ _ _ _ _ => (se_var 4))) sa_nil)) sa_nil)))))))
abbrev s__law_origin : Stmt := topS 38
theorem sc__law_origin : FnScope ["well"] ["well"] (defScope s__law_origin) := ⟨rfl, rfl, rfl, by decide +kernel, rfl, by decide +kernel, by decide +kernel⟩
noncomputable def m__law_origin (f__law_draw : FnM) : MS :=
    mSeq (mIfS (mTest (mOp oEq (mCall 2 f__law_draw (mCons (mVar 0) (mCons (mC (.int 2)) (mNil)))) (mC (.int 0)))) (mRet (mC .non)) (mNx))
    (mRet (mTup (mCons (mCall 2 f__law_draw (mCons (mVar 0) (mCons (mC (.int 240)) (mNil)))) (mCons (mCall 2 f__law_draw (mCons (mVar 0) (mCons (mC (.int 30)) (mNil)))) (mNil)))))
theorem ok__law_origin {P : Program} {w : World} {K : PySem.W.Frag} {mg : Str → Option Value} {base : Heap} {aPaidError aBadNever aBadGoal aBadHints : Addr} {fa : Addr} {fd : FuncData} {k : Nat} (F : Fun K "_law_origin" "_law_origin" s__law_origin fa fd) (T : Md K mg aPaidError aBadNever aBadGoal aBadHints) {f__law_draw : FnM} (F__law_draw : FnI P w K mg base (ctb aPaidError aBadNever aBadGoal aBadHints) k "_law_draw" ["well", "many"] f__law_draw) :
    FnOk P w K mg base (L2.CX P w) (k + 1) fa fd ["well"] (spM K (ctb aPaidError aBadNever aBadGoal aBadHints) 1 (mFn 1 (m__law_origin f__law_draw))) :=
  fn_ok F sc__law_origin fun cdv A outer s H E hr tk pas => by
    let ct : Ctb := ctb aPaidError aBadNever aBadGoal aBadHints
    exact ((sss_cons (ss_if (st_cmp (op_eqM hr.units) (se_callI F__law_draw rfl hr rfl tk (sa_cons (se_var 0) (sa_cons se_int sa_nil))) se_int (nomark _)) (sss_one (ss_ret se_non)) sss_nil)
    (sss_one (ss_ret (se_tup (sa_cons (se_callI F__law_draw rfl hr rfl tk (sa_cons (se_var 0) (sa_cons se_int sa_nil))) (sa_cons (se_callI F__law_draw rfl hr rfl tk (sa_cons (se_var 0) (sa_cons se_int sa_nil))) sa_nil)))))))
abbrev s__law_sum_of : Stmt := topS 39
theorem sc__law_sum_of : FnScope ["const", "sums", "atom"] ["const", "sums"] (defScope s__law_sum_of) := ⟨rfl, rfl, rfl, by decide +kernel, rfl, by decide +kernel, by decide +kernel⟩
noncomputable def m__law_sum_of : MS :=
    mRet (mTup (mCons (mVar 0) (mCons (mB bTuple (mCons (mLc (miOf iterA (mB bSorted (mCons (mVar 1) (mNil)))) (gmName 2) (mTest (mOp oNe (mOp oGet (mVar 1) (mVar 2)) (mC (.int 0)))) (mTup (mCons (mVar 2) (mCons (mOp oGet (mVar 1) (mVar 2)) (mNil)))) [2]) (mNil))) (mNil))))
theorem ok__law_sum_of {P : Program} {w : World} {K : PySem.W.Frag} {mg : Str → Option Value} {base : Heap} {aPaidError aBadNever aBadGoal aBadHints : Addr} {fa : Addr} {fd : FuncData} {k : Nat} (F : Fun K "_law_sum_of" "_law_sum_of" s__law_sum_of fa fd) (T : Md K mg aPaidError aBadNever aBadGoal aBadHints) :
    FnOk P w K mg base (L2.CX P w) (k + 1) fa fd ["const", "sums"] (spM K (ctb aPaidError aBadNever aBadGoal aBadHints) 2 (mFn 3 (m__law_sum_of))) :=
  fn_ok F sc__law_sum_of fun cdv A outer s H E hr tk pas => by
    let ct : Ctb := ctb aPaidError aBadNever aBadGoal aBadHints
    exact ((sss_one (ss_ret (se_tup (sa_cons (se_var 0) (sa_cons (se_callTy cr_tuple rfl T.z_tuple PyProof.Rows.boot_tuple (sa_cons (se_lc [("atom", 2)] rfl sc__law_sum_of.nd (si_any (se_callB (cr_sortedM rfl hr) rfl T.z_sorted (by decide +kernel) (sa_cons (se_var 1) sa_nil))) (blkOk_by (own := [("atom", 2)]) (N := ["const", "sums", "atom"]) (sc := defScope s__law_sum_of) (by decide +kernel)) (fun _ _ _ _ _ => (sgv_name (vs := [2]) (i := 2) sc__law_sum_of.nd rfl (Or.inl rfl) (by decide))) (fun _ _ _ _ _ => (sts_one (st_cmp (op_neM hr.units) (se_ix (ix_A hr) (se_var 1) (se_var 2) (fun _ _ => rfl)) se_int (nomark _)))) (fun _ _ _ _ _ => (se_tup (sa_cons (se_var 2) (sa_cons (se_ix (ix_A hr) (se_var 1) (se_var 2) (fun _ _ => rfl)) sa_nil))))) sa_nil)) sa_nil))))))
abbrev s__law_made : Stmt := topS 40
theorem sc__law_made : FnScope ["well", "never", "atoms", "atom", "floors", "scale", "free", "some", "size", "many", "hints", "times", "form", "exact", "origin", "by", "const", "sums", "at", "inner", "k"] ["well", "never", "atoms"] (defScope s__law_made) := ⟨rfl, rfl, rfl, by decide +kernel, rfl, by decide +kernel, by decide +kernel⟩
noncomputable def m__law_made (f__law_draw : FnM) (f__law_drawn_form : FnM) (f__law_origin : FnM) (f__law_by : FnM) (f__law_rest : FnM) (f__law_sum_of : FnM) : MS :=
    mSeq (mSet 4 (mLc (miOf iterA (mVar 2)) (gmName 3) (mOr (mTest (mOp oEq (mOp oGet (mVar 3) (mC (.int 0))) (mC (.int 1)))) (mTest (mOp oIn (mOp oGet (mVar 3) (mC (.int 2))) (mVar 1)))) (mVar 3) [3]))
    (mSeq (mSet 5 (mCall 2 f__law_draw (mCons (mVar 0) (mCons (mC (.int 6)) (mNil)))))
    (mSeq (mSet 6 (mOrV (mOp oEq (mVar 5) (mC (.int 0))) (mOp oEq (mCall 2 f__law_draw (mCons (mVar 0) (mCons (mC (.int 2)) (mNil)))) (mC (.int 0)))))
    (mSeq (mSet 7 (mOp oGet (mLst (mCons (mVar 4) (mCons (mVar 2) (mNil)))) (mB bInt (mCons (mVar 6) (mNil)))))
    (mSeq (mSet 8 (mCall 2 f__law_draw (mCons (mVar 0) (mCons (mC (.int 8)) (mNil)))))
    (mSeq (mSet 9 (mOp oAdd (mCall 2 f__law_draw (mCons (mVar 0) (mCons (mC (.int 8)) (mNil)))) (mOp oGet (mLst (mCons (mC (.int 53)) (mCons (mC (.int 101)) (mCons (mC (.int 0)) (mNil))))) (mB bMin2 (mCons (mVar 8) (mCons (mC (.int 2)) (mNil)))))))
    (mSeq (mIfS (mTest (mOp oEq (mVar 8) (mC (.int 1)))) (mSet 9 (mOp oAdd (mVar 9) (mCall 2 f__law_draw (mCons (mVar 0) (mCons (mC (.int 193)) (mNil)))))) (mNx))
    (mSeq (mSet 10 (mLc (miRng1 (mVar 9)) (gmName 20) (mYes) (mTup (mCons (mCall 2 f__law_drawn_form (mCons (mVar 0) (mCons (mVar 7) (mNil)))) (mCons (mOp oEq (mCall 2 f__law_draw (mCons (mVar 0) (mCons (mC (.int 3)) (mNil)))) (mC (.int 0))) (mCons (mCall 1 f__law_origin (mCons (mVar 0) (mNil))) (mNil))))) [20]))
    (mSeq (mSet 11 (mLst (mNil)))
    (mSeq (mFor (miOf iterA (mVar 10)) (gmSeq 3 (gmCons (gmName 12) (gmCons (gmName 13) (gmCons (gmName 14) (gmNil))))) (mSeq (mSet 15 (mOp oMulA (mCall 1 f__law_by (mCons (mVar 0) (mNil))) (mB bInt (mCons (mOp oGt (mCall 2 f__law_draw (mCons (mVar 0) (mCons (mC (.int 3)) (mNil)))) (mC (.int 0))) (mNil)))))
    (mSeq (mIfS (mAnd (mTest (mVar 6)) (mTest (mOp oGt (mVar 5) (mC (.int 1))))) (mSet 15 (mOp oMulA (mVar 15) (mVar 5))) (mNx))
    (mSeq (mIfS (mNot (mTest (mVar 13))) (mSet 15 (mB bAbs (mCons (mVar 15) (mNil)))) (mNx))
    (mDrop (mMset lAppend (mVar 11) (mCons (mVar 15) (mNil))))))))
    (mSeq (mAsg (mCall 4 f__law_rest (mCons (mTup (mCons (mC (.int 0)) (mCons (mTup (mNil)) (mNil)))) (mCons (mVar 10) (mCons (mC (.int 0)) (mCons (mVar 11) (mNil)))))) (gmSeq 2 (gmCons (gmName 16) (gmCons (gmName 17) (gmNil)))))
    (mSeq (mIfS (mTest (mOp oEq (mVar 5) (mC (.int 0)))) (mSeq (mFor (miOf iterA (mVar 4)) (gmName 3) (mAsg (mOp oSub (mGet2 (mVar 17) (mVar 3) (mC (.int 0))) (mB bAbs (mCons (mCall 1 f__law_by (mCons (mVar 0) (mNil))) (mNil)))) (gmSub oPut (mVar 17) (mVar 3))))
    (mSeq (mDrop (mMset lAppend (mVar 10) (mCons (mTup (mCons (mCall 2 f__law_sum_of (mCons (mOp oSub (mOp oSub (mVar 16) (mC (.int 1))) (mB bAbs (mCons (mCall 1 f__law_by (mCons (mVar 0) (mNil))) (mNil)))) (mCons (mVar 17) (mNil)))) (mCons (mOp oEq (mCall 2 f__law_draw (mCons (mVar 0) (mCons (mC (.int 2)) (mNil)))) (mC (.int 0))) (mCons (mCall 1 f__law_origin (mCons (mVar 0) (mNil))) (mNil))))) (mNil))))
    (mRet (mLst (mCons (mCall 2 f__law_drawn_form (mCons (mVar 0) (mCons (mVar 2) (mNil)))) (mCons (mB bTuple (mCons (mVar 10) (mNil))) (mCons (mTup (mCons (mC (.int 0)) (mCons (mB bTuple (mCons (mOp oAdd (mVar 11) (mLst (mCons (mC (.int 1)) (mNil)))) (mNil))) (mNil)))) (mNil)))))))) (mNx))
    (mSeq (mFor (miOf iterA (mVar 4)) (gmName 3) (mSeq (mSet 18 (mGet2 (mVar 17) (mVar 3) (mC (.int 0))))
    (mAsg (mOp oSub (mOp oSub (mVar 18) (mOp oMod (mB bInt (mCons (mVar 18) (mNil))) (mVar 5))) (mOp oMulA (mVar 5) (mB bAbs (mCons (mCall 1 f__law_by (mCons (mVar 0) (mNil))) (mNil))))) (gmSub oPut (mVar 17) (mVar 3)))))
    (mSeq (mSet 16 (mOp oSub (mOp oSub (mVar 16) (mOp oMod (mB bInt (mCons (mVar 16) (mNil))) (mVar 5))) (mOp oMulA (mOp oMulA (mVar 5) (mB bAbs (mCons (mCall 1 f__law_by (mCons (mVar 0) (mNil))) (mNil)))) (mCall 2 f__law_draw (mCons (mVar 0) (mCons (mC (.int 2)) (mNil)))))))
    (mSeq (mSet 19 (mDnewT))
    (mSeq (mLock 17 (mFor (miKeys (mVar 17)) (gmName 3) (mAsg (mOp oFdiv (mUn oNeg (mOp oGet (mVar 17) (mVar 3))) (mVar 5)) (gmSub oPut (mVar 19) (mVar 3)))))
    (mRet (mLst (mCons (mCall 2 f__law_sum_of (mCons (mOp oFdiv (mUn oNeg (mVar 16)) (mVar 5)) (mCons (mVar 19) (mNil)))) (mCons (mB bTuple (mCons (mVar 10) (mNil))) (mCons (mTup (mCons (mVar 5) (mCons (mB bTuple (mCons (mVar 11) (mNil))) (mNil)))) (mNil)))))))))))))))))))))
theorem ok__law_made {P : Program} {w : World} {K : PySem.W.Frag} {mg : Str → Option Value} {base : Heap} {aPaidError aBadNever aBadGoal aBadHints : Addr} {fa : Addr} {fd : FuncData} {k : Nat} (F : Fun K "_law_made" "_law_made" s__law_made fa fd) (T : Md K mg aPaidError aBadNever aBadGoal aBadHints) {f__law_draw : FnM} {f__law_drawn_form : FnM} {f__law_origin : FnM} {f__law_by : FnM} {f__law_rest : FnM} {f__law_sum_of : FnM} (F__law_draw : FnI P w K mg base (ctb aPaidError aBadNever aBadGoal aBadHints) k "_law_draw" ["well", "many"] f__law_draw) (F__law_drawn_form : FnI P w K mg base (ctb aPaidError aBadNever aBadGoal aBadHints) k "_law_drawn_form" ["well", "atoms"] f__law_drawn_form) (F__law_origin : FnI P w K mg base (ctb aPaidError aBadNever aBadGoal aBadHints) k "_law_origin" ["well"] f__law_origin) (F__law_by : FnI P w K mg base (ctb aPaidError aBadNever aBadGoal aBadHints) k "_law_by" ["well"] f__law_by) (F__law_rest : FnI P w K mg base (ctb aPaidError aBadNever aBadGoal aBadHints) k "_law_rest" ["goal", "hints", "scale", "multipliers"] f__law_rest) (F__law_sum_of : FnI P w K mg base (ctb aPaidError aBadNever aBadGoal aBadHints) k "_law_sum_of" ["const", "sums"] f__law_sum_of) :
    FnOk P w K mg base (L2.CX P w) (k + 1) fa fd ["well", "never", "atoms"] (spM K (ctb aPaidError aBadNever aBadGoal aBadHints) 3 (mFn 21 (m__law_made f__law_draw f__law_drawn_form f__law_origin f__law_by f__law_rest f__law_sum_of))) :=
  fn_ok F sc__law_made fun cdv A outer s H E hr tk pas => by
    let ct : Ctb := ctb aPaidError aBadNever aBadGoal aBadHints
    exact ((sss_cons (ss_setLc (i := 4) [("atom", 3)] rfl sc__law_made.nd rfl rfl (sw_true rfl rfl rfl (by decide +kernel)) (si_any (se_var 2)) (blkOk_by (own := [("atom", 3)]) (N := ["well", "never", "atoms", "atom", "floors", "scale", "free", "some", "size", "many", "hints", "times", "form", "exact", "origin", "by", "const", "sums", "at", "inner", "k"]) (sc := defScope s__law_made) (by decide +kernel)) (fun _ _ _ _ _ => (sgv_name (vs := [3]) (i := 3) sc__law_made.nd rfl (Or.inl rfl) (by decide))) (fun _ _ _ _ _ => (sts_one (st_w (sw_or (st_cmp (op_eqM hr.units) (se_ix (ix_A hr) (se_var 3) se_int (fun _ _ => rfl)) se_int (nomark _)) (sw_or1 (st_cmp (op_inA hr) (se_ix (ix_A hr) (se_var 3) se_int (fun _ _ => rfl)) (se_var 1) rfl)))))) (fun _ _ _ _ _ => (se_var 3)))
    (sss_cons (ss_set (i := 5) sc__law_made.nd rfl (Or.inl rfl) (se_callI F__law_draw rfl hr rfl tk (sa_cons (se_var 0) (sa_cons se_int sa_nil))))
    (sss_cons (ss_set (i := 6) sc__law_made.nd rfl (Or.inl rfl) (se_or (se_cmp (op_eqM hr.units) (se_var 5) se_int (nomark _)) (se_and1 (se_cmp (op_eqM hr.units) (se_callI F__law_draw rfl hr rfl tk (sa_cons (se_var 0) (sa_cons se_int sa_nil))) se_int (nomark _)))))
    (sss_cons (ss_set (i := 7) sc__law_made.nd rfl (Or.inr rfl) (se_ix (ix_A hr) (se_lst (sa_cons (se_var 4) (sa_cons (se_var 2) sa_nil))) (se_callTy cr_int rfl T.z_int PyProof.Rows.boot_int (sa_cons (se_var 6) sa_nil)) (fun _ _ => rfl)))
    (sss_cons (ss_set (i := 8) sc__law_made.nd rfl (Or.inl rfl) (se_callI F__law_draw rfl hr rfl tk (sa_cons (se_var 0) (sa_cons se_int sa_nil))))
    (sss_cons (ss_set (i := 9) sc__law_made.nd rfl (Or.inl rfl) (se_op op_addM (se_callI F__law_draw rfl hr rfl tk (sa_cons (se_var 0) (sa_cons se_int sa_nil))) (se_ix (ix_A hr) (se_lst (sa_cons se_int (sa_cons se_int (sa_cons se_int sa_nil)))) (se_callB (cr_min2 rfl) rfl T.z_min PyProof.Rows.boot_min (sa_cons (se_var 8) (sa_cons se_int sa_nil))) (fun _ _ => rfl))))
    (sss_cons (ss_if (st_cmp (op_eqM hr.units) (se_var 8) se_int (nomark _)) (sss_one (ss_set (i := 9) sc__law_made.nd rfl (Or.inl rfl) (se_op op_addM (se_var 9) (se_callI F__law_draw rfl hr rfl tk (sa_cons (se_var 0) (sa_cons se_int sa_nil)))))) sss_nil)
    (sss_cons (ss_setLc (i := 10) [("k", 20)] rfl sc__law_made.nd rfl rfl (sw_true rfl rfl rfl (by decide +kernel)) (si_rng1 rfl T.z_range (se_var 9)) (blkOk_by (own := [("k", 20)]) (N := ["well", "never", "atoms", "atom", "floors", "scale", "free", "some", "size", "many", "hints", "times", "form", "exact", "origin", "by", "const", "sums", "at", "inner", "k"]) (sc := defScope s__law_made) (by decide +kernel)) (fun _ _ _ _ _ => (sgv_name (vs := [20]) (i := 20) sc__law_made.nd rfl (Or.inl rfl) (by decide))) (fun _ _ _ _ _ => sts_nil) (fun _ _ _ _ _ => (se_tup (sa_cons (se_callI F__law_drawn_form rfl hr rfl takes0 (sa_cons (se_var 0) (sa_cons (se_var 7) sa_nil))) (sa_cons (se_cmp (op_eqM hr.units) (se_callI F__law_draw rfl hr rfl takes0 (sa_cons (se_var 0) (sa_cons se_int sa_nil))) se_int (nomark _)) (sa_cons (se_callI F__law_origin rfl hr rfl takes0 (sa_cons (se_var 0) sa_nil)) sa_nil))))))
    (sss_cons (ss_set (i := 11) sc__law_made.nd rfl (Or.inl rfl) (se_lst sa_nil))
    (sss_cons (ss_for pas rfl (si_any (se_var 10)) (sg_seq rfl (sgs_cons (sg_name (i := 12) sc__law_made.nd rfl (Or.inl rfl)) (sgs_cons (sg_name (i := 13) sc__law_made.nd rfl (Or.inl rfl)) (sgs_cons (sg_name (i := 14) sc__law_made.nd rfl (Or.inl rfl)) sgs_nil)))) (sss_cons (ss_set (i := 15) sc__law_made.nd rfl (Or.inl rfl) (se_op op_mulA (se_callI F__law_by rfl hr rfl tk (sa_cons (se_var 0) sa_nil)) (se_callTy cr_int rfl T.z_int PyProof.Rows.boot_int (sa_cons (se_cmp op_gtM (se_callI F__law_draw rfl hr rfl tk (sa_cons (se_var 0) (sa_cons se_int sa_nil))) se_int (nomark _)) sa_nil))))
    (sss_cons (ss_if (st_w (sw_and (st_val (se_var 6)) (sw_and1 (st_cmp op_gtM (se_var 5) se_int (nomark _))))) (sss_one (ss_set (i := 15) sc__law_made.nd rfl (Or.inl rfl) (se_op op_mulA (se_var 15) (se_var 5)))) sss_nil)
    (sss_cons (ss_if (st_not (st_val (se_var 13))) (sss_one (ss_set (i := 15) sc__law_made.nd rfl (Or.inl rfl) (se_callB cr_abs rfl T.z_abs (by decide +kernel) (sa_cons (se_var 15) sa_nil)))) sss_nil)
    (sss_one (ss_expr (se_lm PySem.F.slot_list_append PySem.F.type_list_append mt_appendM (se_var 11) (sa_cons (se_var 15) sa_nil))))))))
    (sss_cons (ss_asg (se_callI F__law_rest rfl hr rfl tk (sa_cons (se_tup (sa_cons se_int (sa_cons (se_tup sa_nil) sa_nil))) (sa_cons (se_var 10) (sa_cons se_int (sa_cons (se_var 11) sa_nil))))) (sg_seq rfl (sgs_cons (sg_name (i := 16) sc__law_made.nd rfl (Or.inl rfl)) (sgs_cons (sg_name (i := 17) sc__law_made.nd rfl (Or.inl rfl)) sgs_nil))))
    (sss_cons (ss_if (st_cmp (op_eqM hr.units) (se_var 5) se_int (nomark _)) (sss_cons (ss_for pas rfl (si_any (se_var 4)) (sg_name (i := 3) sc__law_made.nd rfl (Or.inl rfl)) (sss_one (ss_asg (se_op op_subM (se_get2 hr (se_var 17) (se_var 3) se_int ⟨rfl, rfl, rfl, rfl⟩) (se_callB cr_abs rfl T.z_abs (by decide +kernel) (sa_cons (se_callI F__law_by rfl hr rfl tk (sa_cons (se_var 0) sa_nil)) sa_nil))) (sg_sub (ct := ct) (W := (fun c d _ H' => E c d H')) (se_var 17) (se_var 3) (set_A hr)))))
    (sss_cons (ss_expr (se_lm PySem.F.slot_list_append PySem.F.type_list_append mt_appendM (se_var 10) (sa_cons (se_tup (sa_cons (se_callI F__law_sum_of rfl hr rfl tk (sa_cons (se_op op_subM (se_op op_subM (se_var 16) se_int) (se_callB cr_abs rfl T.z_abs (by decide +kernel) (sa_cons (se_callI F__law_by rfl hr rfl tk (sa_cons (se_var 0) sa_nil)) sa_nil))) (sa_cons (se_var 17) sa_nil))) (sa_cons (se_cmp (op_eqM hr.units) (se_callI F__law_draw rfl hr rfl tk (sa_cons (se_var 0) (sa_cons se_int sa_nil))) se_int (nomark _)) (sa_cons (se_callI F__law_origin rfl hr rfl tk (sa_cons (se_var 0) sa_nil)) sa_nil)))) sa_nil)))
    (sss_one (ss_ret (se_lst (sa_cons (se_callI F__law_drawn_form rfl hr rfl tk (sa_cons (se_var 0) (sa_cons (se_var 2) sa_nil))) (sa_cons (se_callTy cr_tuple rfl T.z_tuple PyProof.Rows.boot_tuple (sa_cons (se_var 10) sa_nil)) (sa_cons (se_tup (sa_cons se_int (sa_cons (se_callTy cr_tuple rfl T.z_tuple PyProof.Rows.boot_tuple (sa_cons (se_op op_addM (se_var 11) (se_lst (sa_cons se_int sa_nil))) sa_nil)) sa_nil))) sa_nil)))))))) sss_nil)
    (sss_cons (ss_for pas rfl (si_any (se_var 4)) (sg_name (i := 3) sc__law_made.nd rfl (Or.inl rfl)) (sss_cons (ss_set (i := 18) sc__law_made.nd rfl (Or.inl rfl) (se_get2 hr (se_var 17) (se_var 3) se_int ⟨rfl, rfl, rfl, rfl⟩))
    (sss_one (ss_asg (se_op op_subM (se_op op_subM (se_var 18) (se_op op_modM (se_callTy cr_int rfl T.z_int PyProof.Rows.boot_int (sa_cons (se_var 18) sa_nil)) (se_var 5))) (se_op op_mulA (se_var 5) (se_callB cr_abs rfl T.z_abs (by decide +kernel) (sa_cons (se_callI F__law_by rfl hr rfl tk (sa_cons (se_var 0) sa_nil)) sa_nil)))) (sg_sub (ct := ct) (W := (fun c d _ H' => E c d H')) (se_var 17) (se_var 3) (set_A hr))))))
    (sss_cons (ss_set (i := 16) sc__law_made.nd rfl (Or.inl rfl) (se_op op_subM (se_op op_subM (se_var 16) (se_op op_modM (se_callTy cr_int rfl T.z_int PyProof.Rows.boot_int (sa_cons (se_var 16) sa_nil)) (se_var 5))) (se_op op_mulA (se_op op_mulA (se_var 5) (se_callB cr_abs rfl T.z_abs (by decide +kernel) (sa_cons (se_callI F__law_by rfl hr rfl tk (sa_cons (se_var 0) sa_nil)) sa_nil))) (se_callI F__law_draw rfl hr rfl tk (sa_cons (se_var 0) (sa_cons se_int sa_nil))))))
    (sss_cons (ss_set (i := 19) sc__law_made.nd rfl (Or.inl rfl) se_dnewT)
    (sss_cons (ss_lock 17 (ss_for pas rfl (si_keys (se_var 17)) (sg_name (i := 3) sc__law_made.nd rfl (Or.inl rfl)) (sss_one (ss_asg (se_op op_fdivM (se_un un_negM (se_ix (ix_A hr) (se_var 17) (se_var 3) (fun _ _ => rfl))) (se_var 5)) (sg_sub (ct := ct) (W := (fun c d _ H' => E c d H')) (se_var 19) (se_var 3) (set_A hr))))))
    (sss_one (ss_ret (se_lst (sa_cons (se_callI F__law_sum_of rfl hr rfl tk (sa_cons (se_op op_fdivM (se_un un_negM (se_var 16)) (se_var 5)) (sa_cons (se_var 19) sa_nil))) (sa_cons (se_callTy cr_tuple rfl T.z_tuple PyProof.Rows.boot_tuple (sa_cons (se_var 10) sa_nil)) (sa_cons (se_tup (sa_cons (se_var 5) (sa_cons (se_callTy cr_tuple rfl T.z_tuple PyProof.Rows.boot_tuple (sa_cons (se_var 11) sa_nil)) sa_nil))) sa_nil)))))))))))))))))))))))
abbrev s__law_spoilt : Stmt := topS 41
theorem sc__law_spoilt : FnScope ["well", "never", "goal", "hints", "showing", "atoms", "scale", "times", "pick", "k", "by", "form", "exact", "origin", "some", "atom", "terms", "term", "n"] ["well", "never", "goal", "hints", "showing", "atoms"] (defScope s__law_spoilt) := ⟨rfl, rfl, rfl, by decide +kernel, rfl, by decide +kernel, by decide +kernel⟩
noncomputable def m__law_spoilt (f__law_draw : FnM) (f__law_by : FnM) : MS :=
    mSeq (mAsg (mVar 4) (gmSeq 2 (gmCons (gmName 6) (gmCons (gmName 7) (gmNil)))))
    (mSeq (mSet 8 (mCall 2 f__law_draw (mCons (mVar 0) (mCons (mC (.int 12)) (mNil)))))
    (mSeq (mSet 9 (mCall 2 f__law_draw (mCons (mVar 0) (mCons (mOp oAdd (mB bLen (mCons (mVar 7) (mNil))) (mC (.int 1))) (mNil)))))
    (mSeq (mIfS (mAnd (mTest (mOp oLt (mVar 8) (mC (.int 3)))) (mTest (mOp oLt (mVar 9) (mB bLen (mCons (mVar 7) (mNil)))))) (mSeq (mSet 10 (mOp oAdd (mOp oGet (mVar 7) (mVar 9)) (mOp oGet (mLst (mCons (mC (.int 1)) (mCons (mUn oNeg (mC (.int 1))) (mCons (mOp oMulA (mUn oNeg (mC (.int 2))) (mOp oGet (mVar 7) (mVar 9))) (mNil))))) (mVar 8))))
    (mRet (mLst (mCons (mVar 1) (mCons (mVar 2) (mCons (mVar 3) (mCons (mTup (mCons (mVar 6) (mCons (mOp oAdd (mOp oAdd (mSl (mVar 7) (moN) (moS (mVar 9))) (mTup (mCons (mVar 10) (mNil)))) (mSl (mVar 7) (moS (mOp oAdd (mVar 9) (mC (.int 1)))) (moN))) (mNil)))) (mNil)))))))) (mNx))
    (mSeq (mIfS (mTest (mOp oEq (mVar 8) (mC (.int 3)))) (mRet (mLst (mCons (mVar 1) (mCons (mTup (mCons (mOp oSub (mOp oSub (mOp oGet (mVar 2) (mC (.int 0))) (mC (.int 1))) (mOp oMulA (mCall 2 f__law_draw (mCons (mVar 0) (mCons (mC (.int 2)) (mNil)))) (mB bAbs (mCons (mCall 1 f__law_by (mCons (mVar 0) (mNil))) (mNil))))) (mCons (mOp oGet (mVar 2) (mC (.int 1))) (mNil)))) (mCons (mVar 3) (mCons (mVar 4) (mNil))))))) (mNx))
    (mSeq (mIfS (mTest (mOp oEq (mVar 8) (mC (.int 4)))) (mRet (mLst (mCons (mB bTuple (mCons (mLc (miOf iterA (mVar 1)) (gmName 18) (mTest (mOp oGt (mCall 2 f__law_draw (mCons (mVar 0) (mCons (mC (.int 4)) (mNil)))) (mC (.int 0)))) (mVar 18) [18]) (mNil))) (mCons (mVar 2) (mCons (mVar 3) (mCons (mVar 4) (mNil))))))) (mNx))
    (mSeq (mIfS (mAnd (mTest (mOp oEq (mVar 8) (mC (.int 5)))) (mTest (mOp oLt (mVar 9) (mB bLen (mCons (mVar 7) (mNil)))))) (mSeq (mAsg (mOp oGet (mVar 3) (mVar 9)) (gmSeq 3 (gmCons (gmName 11) (gmCons (gmName 12) (gmCons (gmName 13) (gmNil))))))
    (mRet (mLst (mCons (mVar 1) (mCons (mVar 2) (mCons (mOp oAdd (mOp oAdd (mSl (mVar 3) (moN) (moS (mVar 9))) (mTup (mCons (mTup (mCons (mVar 11) (mCons (mNotV (mVar 12)) (mCons (mVar 13) (mNil))))) (mNil)))) (mSl (mVar 3) (moS (mOp oAdd (mVar 9) (mC (.int 1)))) (moN))) (mCons (mVar 4) (mNil)))))))) (mNx))
    (mSeq (mIfS (mTest (mOp oEq (mVar 8) (mC (.int 6)))) (mSeq (mSet 14 (mLst (mCons (mTup (mCons (mOp oAdd (mVar 6) (mC (.int 1))) (mCons (mVar 7) (mNil)))) (mCons (mTup (mCons (mOp oSub (mVar 6) (mC (.int 1))) (mCons (mVar 7) (mNil)))) (mCons (mTup (mCons (mOp oMulA (mVar 6) (mC (.int 2))) (mCons (mB bTuple (mCons (mLc (miOf iterA (mVar 7)) (gmName 10) (mYes) (mOp oMulA (mC (.int 2)) (mVar 10)) [10]) (mNil))) (mNil)))) (mCons (mTup (mCons (mC (.int 0)) (mCons (mVar 7) (mNil)))) (mNil)))))))
    (mRet (mLst (mCons (mVar 1) (mCons (mVar 2) (mCons (mVar 3) (mCons (mOp oGet (mVar 14) (mCall 2 f__law_draw (mCons (mVar 0) (mCons (mC (.int 4)) (mNil))))) (mNil)))))))) (mNx))
    (mSeq (mIfS (mTest (mOp oEq (mVar 8) (mC (.int 7)))) (mSeq (mSet 14 (mLst (mCons (mB bList (mCons (mVar 4) (mNil))) (mCons (mTup (mCons (mVar 6) (mCons (mB bList (mCons (mVar 7) (mNil))) (mNil)))) (mCons (mTup (mCons (mVar 6) (mCons (mOp oAdd (mVar 7) (mTup (mCons (mC (.int 0)) (mNil)))) (mNil)))) (mCons (mTup (mCons (mVar 6) (mCons (mSl (mVar 7) (moN) (moS (mUn oNeg (mC (.int 1))))) (mNil)))) (mCons (mTup (mCons (mVar 7) (mCons (mVar 6) (mNil)))) (mCons (mC .non) (mNil)))))))))
    (mRet (mLst (mCons (mVar 1) (mCons (mVar 2) (mCons (mVar 3) (mCons (mOp oGet (mOp oAdd (mVar 14) (mLst (mCons (mTup (mCons (mVar 6) (mNil))) (mCons (mTup (mCons (mVar 6) (mCons (mVar 7) (mCons (mC (.int 0)) (mNil))))) (mCons (mTup (mCons (mC (.bl true)) (mCons (mVar 7) (mNil)))) (mCons (mC (.int 7)) (mCons (mTup (mNil)) (mNil)))))))) (mCall 2 f__law_draw (mCons (mVar 0) (mCons (mC (.int 11)) (mNil))))) (mNil)))))))) (mNx))
    (mSeq (mIfS (mTest (mOp oEq (mVar 8) (mC (.int 8)))) (mSeq (mSet 15 (mOp oGet (mVar 5) (mCall 2 f__law_draw (mCons (mVar 0) (mCons (mB bLen (mCons (mVar 5) (mNil))) (mNil))))))
    (mSeq (mSet 16 (mLc (miOf iterA (mOp oGet (mVar 2) (mC (.int 1)))) (gmName 17) (mTest (mOp oNe (mOp oGet (mVar 17) (mC (.int 0))) (mVar 15))) (mVar 17) [17]))
    (mSeq (mSet 10 (mCall 1 f__law_by (mCons (mVar 0) (mNil))))
    (mSeq (mIfS (mTest (mOp oNe (mVar 10) (mC (.int 0)))) (mDrop (mMset lAppend (mVar 16) (mCons (mTup (mCons (mVar 15) (mCons (mVar 10) (mNil)))) (mNil)))) (mNx))
    (mRet (mLst (mCons (mVar 1) (mCons (mTup (mCons (mOp oGet (mVar 2) (mC (.int 0))) (mCons (mB bTuple (mCons (mB bSorted (mCons (mVar 16) (mNil))) (mNil))) (mNil)))) (mCons (mVar 3) (mCons (mVar 4) (mNil))))))))))) (mNx))
    (mSeq (mIfS (mAnd (mTest (mOp oEq (mVar 8) (mC (.int 9)))) (mTest (mOp oLt (mVar 9) (mB bLen (mCons (mVar 7) (mNil)))))) (mRet (mLst (mCons (mVar 1) (mCons (mVar 2) (mCons (mVar 3) (mCons (mTup (mCons (mVar 6) (mCons (mOp oAdd (mOp oAdd (mSl (mVar 7) (moN) (moS (mVar 9))) (mTup (mCons (mOp oGet (mLst (mCons (mC (.bl true)) (mCons (mC .non) (mCons (mC (.str "1")) (mCons (mTup (mCons (mC (.int 1)) (mNil))) (mNil)))))) (mCall 2 f__law_draw (mCons (mVar 0) (mCons (mC (.int 4)) (mNil))))) (mNil)))) (mSl (mVar 7) (moS (mOp oAdd (mVar 9) (mC (.int 1)))) (moN))) (mNil)))) (mNil))))))) (mNx))
    (mSeq (mIfS (mAnd (mTest (mOp oEq (mVar 8) (mC (.int 10)))) (mTest (mOp oLt (mVar 9) (mB bLen (mCons (mVar 7) (mNil)))))) (mSeq (mAsg (mOp oGet (mVar 3) (mVar 9)) (gmSeq 3 (gmCons (gmName 11) (gmCons (gmName 12) (gmCons (gmName 13) (gmNil))))))
    (mRet (mLst (mCons (mVar 1) (mCons (mVar 2) (mCons (mOp oAdd (mOp oAdd (mSl (mVar 3) (moN) (moS (mVar 9))) (mTup (mCons (mTup (mCons (mTup (mCons (mOp oAdd (mOp oGet (mVar 11) (mC (.int 0))) (mC (.int 1))) (mCons (mOp oGet (mVar 11) (mC (.int 1))) (mNil)))) (mCons (mVar 12) (mCons (mVar 13) (mNil))))) (mNil)))) (mSl (mVar 3) (moS (mOp oAdd (mVar 9) (mC (.int 1)))) (moN))) (mCons (mVar 4) (mNil)))))))) (mNx))
    (mRet (mLst (mCons (mVar 1) (mCons (mVar 2) (mCons (mVar 3) (mCons (mTup (mCons (mVar 6) (mCons (mB bTuple (mCons (mLc (miOf iterA (mVar 7)) (gmName 10) (mYes) (mC (.int 0)) [10]) (mNil))) (mNil)))) (mNil))))))))))))))))))
theorem ok__law_spoilt {P : Program} {w : World} {K : PySem.W.Frag} {mg : Str → Option Value} {base : Heap} {aPaidError aBadNever aBadGoal aBadHints : Addr} {fa : Addr} {fd : FuncData} {k : Nat} (F : Fun K "_law_spoilt" "_law_spoilt" s__law_spoilt fa fd) (T : Md K mg aPaidError aBadNever aBadGoal aBadHints) {f__law_draw : FnM} {f__law_by : FnM} (F__law_draw : FnI P w K mg base (ctb aPaidError aBadNever aBadGoal aBadHints) k "_law_draw" ["well", "many"] f__law_draw) (F__law_by : FnI P w K mg base (ctb aPaidError aBadNever aBadGoal aBadHints) k "_law_by" ["well"] f__law_by) :
    FnOk P w K mg base (L2.CX P w) (k + 1) fa fd ["well", "never", "goal", "hints", "showing", "atoms"] (spM K (ctb aPaidError aBadNever aBadGoal aBadHints) 6 (mFn 19 (m__law_spoilt f__law_draw f__law_by))) :=
  fn_ok F sc__law_spoilt fun cdv A outer s H E hr tk pas => by
    let ct : Ctb := ctb aPaidError aBadNever aBadGoal aBadHints
    exact ((sss_cons (ss_asg (se_var 4) (sg_seq rfl (sgs_cons (sg_name (i := 6) sc__law_spoilt.nd rfl (Or.inl rfl)) (sgs_cons (sg_name (i := 7) sc__law_spoilt.nd rfl (Or.inl rfl)) sgs_nil))))
    (sss_cons (ss_set (i := 8) sc__law_spoilt.nd rfl (Or.inl rfl) (se_callI F__law_draw rfl hr rfl tk (sa_cons (se_var 0) (sa_cons se_int sa_nil))))
    (sss_cons (ss_set (i := 9) sc__law_spoilt.nd rfl (Or.inl rfl) (se_callI F__law_draw rfl hr rfl tk (sa_cons (se_var 0) (sa_cons (se_op op_addM (se_callB cr_len rfl T.z_len PySem.boot_len (sa_cons (se_var 7) sa_nil)) se_int) sa_nil))))
    (sss_cons (ss_if (st_w (sw_and (st_cmp op_ltM (se_var 8) se_int (nomark _)) (sw_and1 (st_cmp op_ltM (se_var 9) (se_callB cr_len rfl T.z_len PySem.boot_len (sa_cons (se_var 7) sa_nil)) (nomark _))))) (sss_cons (ss_set (i := 10) sc__law_spoilt.nd rfl (Or.inl rfl) (se_op op_addM (se_ix (ix_A hr) (se_var 7) (se_var 9) (fun _ _ => rfl)) (se_ix (ix_A hr) (se_lst (sa_cons se_int (sa_cons (se_un un_negM se_int) (sa_cons (se_op op_mulA (se_un un_negM se_int) (se_ix (ix_A hr) (se_var 7) (se_var 9) (fun _ _ => rfl))) sa_nil)))) (se_var 8) (fun _ _ => rfl))))
    (sss_one (ss_ret (se_lst (sa_cons (se_var 1) (sa_cons (se_var 2) (sa_cons (se_var 3) (sa_cons (se_tup (sa_cons (se_var 6) (sa_cons (se_op op_addM (se_op op_addM (se_sl (se_var 7) so_none (so_some (se_var 9))) (se_tup (sa_cons (se_var 10) sa_nil))) (se_sl (se_var 7) (so_some (se_op op_addM (se_var 9) se_int)) so_none)) sa_nil))) sa_nil)))))))) sss_nil)
    (sss_cons (ss_if (st_cmp (op_eqM hr.units) (se_var 8) se_int (nomark _)) (sss_one (ss_ret (se_lst (sa_cons (se_var 1) (sa_cons (se_tup (sa_cons (se_op op_subM (se_op op_subM (se_ix (ix_A hr) (se_var 2) se_int (fun _ _ => rfl)) se_int) (se_op op_mulA (se_callI F__law_draw rfl hr rfl tk (sa_cons (se_var 0) (sa_cons se_int sa_nil))) (se_callB cr_abs rfl T.z_abs (by decide +kernel) (sa_cons (se_callI F__law_by rfl hr rfl tk (sa_cons (se_var 0) sa_nil)) sa_nil)))) (sa_cons (se_ix (ix_A hr) (se_var 2) se_int (fun _ _ => rfl)) sa_nil))) (sa_cons (se_var 3) (sa_cons (se_var 4) sa_nil))))))) sss_nil)
    (sss_cons (ss_if (st_cmp (op_eqM hr.units) (se_var 8) se_int (nomark _)) (sss_one (ss_ret (se_lst (sa_cons (se_callTy cr_tuple rfl T.z_tuple PyProof.Rows.boot_tuple (sa_cons (se_lc [("n", 18)] rfl sc__law_spoilt.nd (si_any (se_var 1)) (blkOk_by (own := [("n", 18)]) (N := ["well", "never", "goal", "hints", "showing", "atoms", "scale", "times", "pick", "k", "by", "form", "exact", "origin", "some", "atom", "terms", "term", "n"]) (sc := defScope s__law_spoilt) (by decide +kernel)) (fun _ _ _ _ _ => (sgv_name (vs := [18]) (i := 18) sc__law_spoilt.nd rfl (Or.inl rfl) (by decide))) (fun _ _ _ _ _ => (sts_one (st_cmp op_gtM (se_callI F__law_draw rfl hr rfl takes0 (sa_cons (se_var 0) (sa_cons se_int sa_nil))) se_int (nomark _)))) (fun _ _ _ _ _ => (se_var 18))) sa_nil)) (sa_cons (se_var 2) (sa_cons (se_var 3) (sa_cons (se_var 4) sa_nil))))))) sss_nil)
    (sss_cons (ss_if (st_w (sw_and (st_cmp (op_eqM hr.units) (se_var 8) se_int (nomark _)) (sw_and1 (st_cmp op_ltM (se_var 9) (se_callB cr_len rfl T.z_len PySem.boot_len (sa_cons (se_var 7) sa_nil)) (nomark _))))) (sss_cons (ss_asg (se_ix (ix_A hr) (se_var 3) (se_var 9) (fun _ _ => rfl)) (sg_seq rfl (sgs_cons (sg_name (i := 11) sc__law_spoilt.nd rfl (Or.inl rfl)) (sgs_cons (sg_name (i := 12) sc__law_spoilt.nd rfl (Or.inl rfl)) (sgs_cons (sg_name (i := 13) sc__law_spoilt.nd rfl (Or.inl rfl)) sgs_nil)))))
    (sss_one (ss_ret (se_lst (sa_cons (se_var 1) (sa_cons (se_var 2) (sa_cons (se_op op_addM (se_op op_addM (se_sl (se_var 3) so_none (so_some (se_var 9))) (se_tup (sa_cons (se_tup (sa_cons (se_var 11) (sa_cons (se_not (se_var 12)) (sa_cons (se_var 13) sa_nil)))) sa_nil))) (se_sl (se_var 3) (so_some (se_op op_addM (se_var 9) se_int)) so_none)) (sa_cons (se_var 4) sa_nil)))))))) sss_nil)
    (sss_cons (ss_if (st_cmp (op_eqM hr.units) (se_var 8) se_int (nomark _)) (sss_cons (ss_set (i := 14) sc__law_spoilt.nd rfl (Or.inl rfl) (se_lst (sa_cons (se_tup (sa_cons (se_op op_addM (se_var 6) se_int) (sa_cons (se_var 7) sa_nil))) (sa_cons (se_tup (sa_cons (se_op op_subM (se_var 6) se_int) (sa_cons (se_var 7) sa_nil))) (sa_cons (se_tup (sa_cons (se_op op_mulA (se_var 6) se_int) (sa_cons (se_callTy cr_tuple rfl T.z_tuple PyProof.Rows.boot_tuple (sa_cons (se_lc [("by", 10)] rfl sc__law_spoilt.nd (si_any (se_var 7)) (blkOk_by (own := [("by", 10)]) (N := ["well", "never", "goal", "hints", "showing", "atoms", "scale", "times", "pick", "k", "by", "form", "exact", "origin", "some", "atom", "terms", "term", "n"]) (sc := defScope s__law_spoilt) (by decide +kernel)) (fun _ _ _ _ _ => (sgv_name (vs := [10]) (i := 10) sc__law_spoilt.nd rfl (Or.inl rfl) (by decide))) (fun _ _ _ _ _ => sts_nil) (fun _ _ _ _ _ => (se_op op_mulA se_int (se_var 10)))) sa_nil)) sa_nil))) (sa_cons (se_tup (sa_cons se_int (sa_cons (se_var 7) sa_nil))) sa_nil))))))
    (sss_one (ss_ret (se_lst (sa_cons (se_var 1) (sa_cons (se_var 2) (sa_cons (se_var 3) (sa_cons (se_ix (ix_A hr) (se_var 14) (se_callI F__law_draw rfl hr rfl tk (sa_cons (se_var 0) (sa_cons se_int sa_nil))) (fun _ _ => rfl)) sa_nil)))))))) sss_nil)
    (sss_cons (ss_if (st_cmp (op_eqM hr.units) (se_var 8) se_int (nomark _)) (sss_cons (ss_set (i := 14) sc__law_spoilt.nd rfl (Or.inl rfl) (se_lst (sa_cons (se_callTy cr_list rfl T.z_list PyProof.Rows.boot_list (sa_cons (se_var 4) sa_nil)) (sa_cons (se_tup (sa_cons (se_var 6) (sa_cons (se_callTy cr_list rfl T.z_list PyProof.Rows.boot_list (sa_cons (se_var 7) sa_nil)) sa_nil))) (sa_cons (se_tup (sa_cons (se_var 6) (sa_cons (se_op op_addM (se_var 7) (se_tup (sa_cons se_int sa_nil))) sa_nil))) (sa_cons (se_tup (sa_cons (se_var 6) (sa_cons (se_sl (se_var 7) so_none (so_some (se_un un_negM se_int))) sa_nil))) (sa_cons (se_tup (sa_cons (se_var 7) (sa_cons (se_var 6) sa_nil))) (sa_cons se_non sa_nil))))))))
    (sss_one (ss_ret (se_lst (sa_cons (se_var 1) (sa_cons (se_var 2) (sa_cons (se_var 3) (sa_cons (se_ix (ix_A hr) (se_op op_addM (se_var 14) (se_lst (sa_cons (se_tup (sa_cons (se_var 6) sa_nil)) (sa_cons (se_tup (sa_cons (se_var 6) (sa_cons (se_var 7) (sa_cons se_int sa_nil)))) (sa_cons (se_tup (sa_cons se_bl (sa_cons (se_var 7) sa_nil))) (sa_cons se_int (sa_cons (se_tup sa_nil) sa_nil))))))) (se_callI F__law_draw rfl hr rfl tk (sa_cons (se_var 0) (sa_cons se_int sa_nil))) (fun _ _ => rfl)) sa_nil)))))))) sss_nil)
    (sss_cons (ss_if (st_cmp (op_eqM hr.units) (se_var 8) se_int (nomark _)) (sss_cons (ss_set (i := 15) sc__law_spoilt.nd rfl (Or.inr rfl) (se_ix (ix_A hr) (se_var 5) (se_callI F__law_draw rfl hr rfl tk (sa_cons (se_var 0) (sa_cons (se_callB cr_len rfl T.z_len PySem.boot_len (sa_cons (se_var 5) sa_nil)) sa_nil))) (fun _ _ => rfl)))
    (sss_cons (ss_setLc (i := 16) [("term", 17)] rfl sc__law_spoilt.nd rfl rfl (sw_true rfl rfl rfl (by decide +kernel)) (si_any (se_ix (ix_A hr) (se_var 2) se_int (fun _ _ => rfl))) (blkOk_by (own := [("term", 17)]) (N := ["well", "never", "goal", "hints", "showing", "atoms", "scale", "times", "pick", "k", "by", "form", "exact", "origin", "some", "atom", "terms", "term", "n"]) (sc := defScope s__law_spoilt) (by decide +kernel)) (fun _ _ _ _ _ => (sgv_name (vs := [17]) (i := 17) sc__law_spoilt.nd rfl (Or.inl rfl) (by decide))) (fun _ _ _ _ _ => (sts_one (st_cmp (op_neM hr.units) (se_ix (ix_A hr) (se_var 17) se_int (fun _ _ => rfl)) (se_var 15) (nomark _)))) (fun _ _ _ _ _ => (se_var 17)))
    (sss_cons (ss_set (i := 10) sc__law_spoilt.nd rfl (Or.inl rfl) (se_callI F__law_by rfl hr rfl tk (sa_cons (se_var 0) sa_nil)))
    (sss_cons (ss_if (st_cmp (op_neM hr.units) (se_var 10) se_int (nomark _)) (sss_one (ss_expr (se_lm PySem.F.slot_list_append PySem.F.type_list_append mt_appendM (se_var 16) (sa_cons (se_tup (sa_cons (se_var 15) (sa_cons (se_var 10) sa_nil))) sa_nil)))) sss_nil)
    (sss_one (ss_ret (se_lst (sa_cons (se_var 1) (sa_cons (se_tup (sa_cons (se_ix (ix_A hr) (se_var 2) se_int (fun _ _ => rfl)) (sa_cons (se_callTy cr_tuple rfl T.z_tuple PyProof.Rows.boot_tuple (sa_cons (se_callB (cr_sortedM rfl hr) rfl T.z_sorted (by decide +kernel) (sa_cons (se_var 16) sa_nil)) sa_nil)) sa_nil))) (sa_cons (se_var 3) (sa_cons (se_var 4) sa_nil))))))))))) sss_nil)
    (sss_cons (ss_if (st_w (sw_and (st_cmp (op_eqM hr.units) (se_var 8) se_int (nomark _)) (sw_and1 (st_cmp op_ltM (se_var 9) (se_callB cr_len rfl T.z_len PySem.boot_len (sa_cons (se_var 7) sa_nil)) (nomark _))))) (sss_one (ss_ret (se_lst (sa_cons (se_var 1) (sa_cons (se_var 2) (sa_cons (se_var 3) (sa_cons (se_tup (sa_cons (se_var 6) (sa_cons (se_op op_addM (se_op op_addM (se_sl (se_var 7) so_none (so_some (se_var 9))) (se_tup (sa_cons (se_ix (ix_A hr) (se_lst (sa_cons se_bl (sa_cons se_non (sa_cons se_str (sa_cons (se_tup (sa_cons se_int sa_nil)) sa_nil))))) (se_callI F__law_draw rfl hr rfl tk (sa_cons (se_var 0) (sa_cons se_int sa_nil))) (fun _ _ => rfl)) sa_nil))) (se_sl (se_var 7) (so_some (se_op op_addM (se_var 9) se_int)) so_none)) sa_nil))) sa_nil))))))) sss_nil)
    (sss_cons (ss_if (st_w (sw_and (st_cmp (op_eqM hr.units) (se_var 8) se_int (nomark _)) (sw_and1 (st_cmp op_ltM (se_var 9) (se_callB cr_len rfl T.z_len PySem.boot_len (sa_cons (se_var 7) sa_nil)) (nomark _))))) (sss_cons (ss_asg (se_ix (ix_A hr) (se_var 3) (se_var 9) (fun _ _ => rfl)) (sg_seq rfl (sgs_cons (sg_name (i := 11) sc__law_spoilt.nd rfl (Or.inl rfl)) (sgs_cons (sg_name (i := 12) sc__law_spoilt.nd rfl (Or.inl rfl)) (sgs_cons (sg_name (i := 13) sc__law_spoilt.nd rfl (Or.inl rfl)) sgs_nil)))))
    (sss_one (ss_ret (se_lst (sa_cons (se_var 1) (sa_cons (se_var 2) (sa_cons (se_op op_addM (se_op op_addM (se_sl (se_var 3) so_none (so_some (se_var 9))) (se_tup (sa_cons (se_tup (sa_cons (se_tup (sa_cons (se_op op_addM (se_ix (ix_A hr) (se_var 11) se_int (fun _ _ => rfl)) se_int) (sa_cons (se_ix (ix_A hr) (se_var 11) se_int (fun _ _ => rfl)) sa_nil))) (sa_cons (se_var 12) (sa_cons (se_var 13) sa_nil)))) sa_nil))) (se_sl (se_var 3) (so_some (se_op op_addM (se_var 9) se_int)) so_none)) (sa_cons (se_var 4) sa_nil)))))))) sss_nil)
    (sss_one (ss_ret (se_lst (sa_cons (se_var 1) (sa_cons (se_var 2) (sa_cons (se_var 3) (sa_cons (se_tup (sa_cons (se_var 6) (sa_cons (se_callTy cr_tuple rfl T.z_tuple PyProof.Rows.boot_tuple (sa_cons (se_lc [("by", 10)] rfl sc__law_spoilt.nd (si_any (se_var 7)) (blkOk_by (own := [("by", 10)]) (N := ["well", "never", "goal", "hints", "showing", "atoms", "scale", "times", "pick", "k", "by", "form", "exact", "origin", "some", "atom", "terms", "term", "n"]) (sc := defScope s__law_spoilt) (by decide +kernel)) (fun _ _ _ _ _ => (sgv_name (vs := [10]) (i := 10) sc__law_spoilt.nd rfl (Or.inl rfl) (by decide))) (fun _ _ _ _ _ => sts_nil) (fun _ _ _ _ _ => se_int)) sa_nil)) sa_nil))) sa_nil))))))))))))))))))))
abbrev s__law_long : Stmt := topS 42
theorem sc__law_long : FnScope ["well", "many", "atom", "some", "hints", "at", "by", "const", "terms", "goal", "times", "more", "k"] ["well"] (defScope s__law_long) := ⟨rfl, rfl, rfl, by decide +kernel, rfl, by decide +kernel, by decide +kernel⟩
noncomputable def m__law_long (f__law_draw : FnM) (f_is_shown : FnM) : MS :=
    mSeq (mSet 1 (mOp oGet (mLst (mCons (mC (.int 1001)) (mCons (mC (.int 2001)) (mCons (mC (.int 4097)) (mCons (mC (.int 5001)) (mCons (mC (.int 7999)) (mCons (mC (.int 8000)) (mNil)))))))) (mCall 2 f__law_draw (mCons (mVar 0) (mCons (mC (.int 6)) (mNil))))))
    (mSeq (mSet 2 (mTup (mCons (mC (.int 1)) (mCons (mCall 2 f__law_draw (mCons (mVar 0) (mCons (mC (.int 240)) (mNil)))) (mCons (mCall 2 f__law_draw (mCons (mVar 0) (mCons (mC (.int 6)) (mNil)))) (mNil))))))
    (mSeq (mSet 3 (mLc (miRng1 (mC (.int 7))) (gmName 12) (mYes) (mTup (mCons (mOp oSub (mCall 2 f__law_draw (mCons (mVar 0) (mCons (mC (.int 9)) (mNil)))) (mC (.int 4))) (mCons (mTup (mCons (mTup (mCons (mVar 2) (mCons (mOp oAdd (mC (.int 1)) (mCall 2 f__law_draw (mCons (mVar 0) (mCons (mC (.int 9)) (mNil))))) (mNil)))) (mNil))) (mNil)))) [12]))
    (mSeq (mSet 4 (mB bTuple (mCons (mLc (miRng1 (mVar 1)) (gmName 12) (mYes) (mTup (mCons (mOp oGet (mVar 3) (mOp oMod (mB bInt (mCons (mVar 12) (mNil))) (mC (.int 7)))) (mCons (mC (.bl false)) (mCons (mC .non) (mNil))))) [12]) (mNil))))
    (mSeq (mSet 5 (mOp oGet (mLst (mCons (mOp oSub (mVar 1) (mC (.int 1))) (mCons (mCall 2 f__law_draw (mCons (mVar 0) (mCons (mVar 1) (mNil)))) (mNil)))) (mCall 2 f__law_draw (mCons (mVar 0) (mCons (mC (.int 2)) (mNil))))))
    (mSeq (mSet 6 (mOp oAdd (mC (.int 1)) (mCall 2 f__law_draw (mCons (mVar 0) (mCons (mC (.int 5)) (mNil))))))
    (mSeq (mAsg (mOp oGet (mOp oGet (mVar 4) (mVar 5)) (mC (.int 0))) (gmSeq 2 (gmCons (gmName 7) (gmCons (gmName 8) (gmNil)))))
    (mSeq (mSet 9 (mTup (mCons (mOp oMulA (mVar 6) (mVar 7)) (mCons (mTup (mCons (mTup (mCons (mVar 2) (mCons (mOp oMulA (mVar 6) (mOp oGet (mOp oGet (mVar 8) (mC (.int 0))) (mC (.int 1)))) (mNil)))) (mNil))) (mNil)))))
    (mSeq (mSet 10 (mOp oMulA (mLst (mCons (mC (.int 0)) (mNil))) (mVar 1)))
    (mSeq (mAsg (mVar 6) (gmSub oPut (mVar 10) (mVar 5)))
    (mSeq (mIfS (mTest (mOp oNotB (mCall 4 f_is_shown (mCons (mTup (mNil)) (mCons (mVar 9) (mCons (mVar 4) (mCons (mTup (mCons (mC (.int 1)) (mCons (mB bTuple (mCons (mVar 10) (mNil))) (mNil)))) (mNil)))))) (mC (.bl true)))) (mRet (mC (.bl false))) (mNx))
    (mSeq (mSet 11 (mOp oGet (mLst (mCons (mOp oSub (mVar 1) (mC (.int 1))) (mCons (mVar 5) (mCons (mCall 2 f__law_draw (mCons (mVar 0) (mCons (mVar 1) (mNil)))) (mNil))))) (mCall 2 f__law_draw (mCons (mVar 0) (mCons (mC (.int 3)) (mNil))))))
    (mSeq (mAsg (mOp oAdd (mOp oGet (mVar 10) (mVar 11)) (mC (.int 1))) (gmSub oPut (mVar 10) (mVar 11)))
    (mRet (mOp oIsB (mCall 4 f_is_shown (mCons (mTup (mNil)) (mCons (mVar 9) (mCons (mVar 4) (mCons (mTup (mCons (mC (.int 1)) (mCons (mB bTuple (mCons (mVar 10) (mNil))) (mNil)))) (mNil)))))) (mC (.bl false))))))))))))))))
theorem ok__law_long {P : Program} {w : World} {K : PySem.W.Frag} {mg : Str → Option Value} {base : Heap} {aPaidError aBadNever aBadGoal aBadHints : Addr} {fa : Addr} {fd : FuncData} {k : Nat} (F : Fun K "_law_long" "_law_long" s__law_long fa fd) (T : Md K mg aPaidError aBadNever aBadGoal aBadHints) {f__law_draw : FnM} {f_is_shown : FnM} (F__law_draw : FnI P w K mg base (ctb aPaidError aBadNever aBadGoal aBadHints) k "_law_draw" ["well", "many"] f__law_draw) (F_is_shown : FnI P w K mg base (ctb aPaidError aBadNever aBadGoal aBadHints) k "is_shown" ["never", "goal", "hints", "thing"] f_is_shown) :
    FnOk P w K mg base (L2.CX P w) (k + 1) fa fd ["well"] (spM K (ctb aPaidError aBadNever aBadGoal aBadHints) 1 (mFn 13 (m__law_long f__law_draw f_is_shown))) :=
  fn_ok F sc__law_long fun cdv A outer s H E hr tk pas => by
    let ct : Ctb := ctb aPaidError aBadNever aBadGoal aBadHints
    exact ((sss_cons (ss_set (i := 1) sc__law_long.nd rfl (Or.inl rfl) (se_ix (ix_A hr) (se_lst (sa_cons se_int (sa_cons se_int (sa_cons se_int (sa_cons se_int (sa_cons se_int (sa_cons se_int sa_nil))))))) (se_callI F__law_draw rfl hr rfl tk (sa_cons (se_var 0) (sa_cons se_int sa_nil))) (fun _ _ => rfl)))
    (sss_cons (ss_set (i := 2) sc__law_long.nd rfl (Or.inr rfl) (se_tup (sa_cons se_int (sa_cons (se_callI F__law_draw rfl hr rfl tk (sa_cons (se_var 0) (sa_cons se_int sa_nil))) (sa_cons (se_callI F__law_draw rfl hr rfl tk (sa_cons (se_var 0) (sa_cons se_int sa_nil))) sa_nil)))))
    (sss_cons (ss_set (i := 3) sc__law_long.nd rfl (Or.inr rfl) (se_lc [("k", 12)] rfl sc__law_long.nd (si_rng1 rfl T.z_range se_int) (blkOk_by (own := [("k", 12)]) (N := ["well", "many", "atom", "some", "hints", "at", "by", "const", "terms", "goal", "times", "more", "k"]) (sc := defScope s__law_long) (by decide +kernel)) (fun _ _ _ _ _ => (sgv_name (vs := [12]) (i := 12) sc__law_long.nd rfl (Or.inl rfl) (by decide))) (fun _ _ _ _ _ => sts_nil) (fun _ _ _ _ _ => (se_tup (sa_cons (se_op op_subM (se_callI F__law_draw rfl hr rfl takes0 (sa_cons (se_var 0) (sa_cons se_int sa_nil))) se_int) (sa_cons (se_tup (sa_cons (se_tup (sa_cons (se_var 2) (sa_cons (se_op op_addM se_int (se_callI F__law_draw rfl hr rfl takes0 (sa_cons (se_var 0) (sa_cons se_int sa_nil)))) sa_nil))) sa_nil)) sa_nil))))))
    (sss_cons (ss_set (i := 4) sc__law_long.nd rfl (Or.inl rfl) (se_callTy cr_tuple rfl T.z_tuple PyProof.Rows.boot_tuple (sa_cons (se_lc [("k", 12)] rfl sc__law_long.nd (si_rng1 rfl T.z_range (se_var 1)) (blkOk_by (own := [("k", 12)]) (N := ["well", "many", "atom", "some", "hints", "at", "by", "const", "terms", "goal", "times", "more", "k"]) (sc := defScope s__law_long) (by decide +kernel)) (fun _ _ _ _ _ => (sgv_name (vs := [12]) (i := 12) sc__law_long.nd rfl (Or.inl rfl) (by decide))) (fun _ _ _ _ _ => sts_nil) (fun _ _ _ _ _ => (se_tup (sa_cons (se_ix (ix_A hr) (se_var 3) (se_op op_modM (se_callTy cr_int rfl T.z_int PyProof.Rows.boot_int (sa_cons (se_var 12) sa_nil)) se_int) (fun _ _ => rfl)) (sa_cons se_bl (sa_cons se_non sa_nil)))))) sa_nil)))
    (sss_cons (ss_set (i := 5) sc__law_long.nd rfl (Or.inl rfl) (se_ix (ix_A hr) (se_lst (sa_cons (se_op op_subM (se_var 1) se_int) (sa_cons (se_callI F__law_draw rfl hr rfl tk (sa_cons (se_var 0) (sa_cons (se_var 1) sa_nil))) sa_nil))) (se_callI F__law_draw rfl hr rfl tk (sa_cons (se_var 0) (sa_cons se_int sa_nil))) (fun _ _ => rfl)))
    (sss_cons (ss_set (i := 6) sc__law_long.nd rfl (Or.inl rfl) (se_op op_addM se_int (se_callI F__law_draw rfl hr rfl tk (sa_cons (se_var 0) (sa_cons se_int sa_nil)))))
    (sss_cons (ss_asg (se_ix (ix_A hr) (se_ix (ix_A hr) (se_var 4) (se_var 5) (fun _ _ => rfl)) se_int (fun _ _ => rfl)) (sg_seq rfl (sgs_cons (sg_name (i := 7) sc__law_long.nd rfl (Or.inl rfl)) (sgs_cons (sg_name (i := 8) sc__law_long.nd rfl (Or.inl rfl)) sgs_nil))))
    (sss_cons (ss_set (i := 9) sc__law_long.nd rfl (Or.inl rfl) (se_tup (sa_cons (se_op op_mulA (se_var 6) (se_var 7)) (sa_cons (se_tup (sa_cons (se_tup (sa_cons (se_var 2) (sa_cons (se_op op_mulA (se_var 6) (se_ix (ix_A hr) (se_ix (ix_A hr) (se_var 8) se_int (fun _ _ => rfl)) se_int (fun _ _ => rfl))) sa_nil))) sa_nil)) sa_nil))))
    (sss_cons (ss_set (i := 10) sc__law_long.nd rfl (Or.inl rfl) (se_op op_mulA (se_lst (sa_cons se_int sa_nil)) (se_var 1)))
    (sss_cons (ss_asg (se_var 6) (sg_sub (ct := ct) (W := (fun c d _ H' => E c d H')) (se_var 10) (se_var 5) (set_A hr)))
    (sss_cons (ss_if (st_cmp op_notB (se_callI F_is_shown rfl hr rfl tk (sa_cons (se_tup sa_nil) (sa_cons (se_var 9) (sa_cons (se_var 4) (sa_cons (se_tup (sa_cons se_int (sa_cons (se_callTy cr_tuple rfl T.z_tuple PyProof.Rows.boot_tuple (sa_cons (se_var 10) sa_nil)) sa_nil))) sa_nil))))) se_bl (nomark _)) (sss_one (ss_ret se_bl)) sss_nil)
    (sss_cons (ss_set (i := 11) sc__law_long.nd rfl (Or.inl rfl) (se_ix (ix_A hr) (se_lst (sa_cons (se_op op_subM (se_var 1) se_int) (sa_cons (se_var 5) (sa_cons (se_callI F__law_draw rfl hr rfl tk (sa_cons (se_var 0) (sa_cons (se_var 1) sa_nil))) sa_nil)))) (se_callI F__law_draw rfl hr rfl tk (sa_cons (se_var 0) (sa_cons se_int sa_nil))) (fun _ _ => rfl)))
    (sss_cons (ss_asg (se_op op_addM (se_ix (ix_A hr) (se_var 10) (se_var 11) (fun _ _ => rfl)) se_int) (sg_sub (ct := ct) (W := (fun c d _ H' => E c d H')) (se_var 10) (se_var 11) (set_A hr)))
    (sss_one (ss_ret (se_cmp op_isB (se_callI F_is_shown rfl hr rfl tk (sa_cons (se_tup sa_nil) (sa_cons (se_var 9) (sa_cons (se_var 4) (sa_cons (se_tup (sa_cons se_int (sa_cons (se_callTy cr_tuple rfl T.z_tuple PyProof.Rows.boot_tuple (sa_cons (se_var 10) sa_nil)) sa_nil))) sa_nil))))) se_bl (nomark _))))))))))))))))))
abbrev s__law_error : Stmt := topS 43
theorem sc__law_error : FnScope ["never", "goal", "hints", "found"] ["never", "goal", "hints"] (defScope s__law_error) := ⟨rfl, rfl, rfl, by decide +kernel, rfl, by decide +kernel, by decide +kernel⟩
noncomputable def m__law_error (f_is_shown : FnM) : MS :=
    mSeq (mSet 3 (mC (.str "none")))
    (mSeq (mTry sb (mDrop (mCallK 4 [3, 2, 1, 0] f_is_shown (mCons (mC .non) (mCons (mVar 2) (mCons (mVar 1) (mCons (mVar 0) (mNil))))))) (("BadNever", none, fun a e => mSet 3 (mC (.str "never"))) :: ("BadGoal", none, fun a e => mSet 3 (mC (.str "goal"))) :: ("BadHints", none, fun a e => mSet 3 (mC (.str "hints"))) :: ("PaidError", none, fun a e => mSet 3 (mC (.str "other"))) :: []))
    (mRet (mVar 3)))
theorem ok__law_error {P : Program} {w : World} {K : PySem.W.Frag} {mg : Str → Option Value} {base : Heap} {aPaidError aBadNever aBadGoal aBadHints : Addr} {fa : Addr} {fd : FuncData} {k : Nat} (F : Fun K "_law_error" "_law_error" s__law_error fa fd) (T : Md K mg aPaidError aBadNever aBadGoal aBadHints) {f_is_shown : FnM} (K_is_shown_thing_hints_goal_never : FnK P w K mg base (ctb aPaidError aBadNever aBadGoal aBadHints) k "is_shown" ["never", "goal", "hints", "thing"] ["thing", "hints", "goal", "never"] [3, 2, 1, 0] f_is_shown) :
    FnOk P w K mg base (L2.CX P w) (k + 1) fa fd ["never", "goal", "hints"] (spM K (ctb aPaidError aBadNever aBadGoal aBadHints) 3 (mFn 4 (m__law_error f_is_shown))) :=
  fn_ok F sc__law_error fun cdv A outer s H E hr tk pas => by
    let ct : Ctb := ctb aPaidError aBadNever aBadGoal aBadHints
    exact ((sss_cons (ss_set (i := 3) sc__law_error.nd rfl (Or.inl rfl) se_str)
    (sss_cons (ss_try (sb := sb) rfl rfl sc__law_error.nd tk (fun W2 pn2 xe2 tk2 pas2 => (sss_one (ss_expr (se_callKI K_is_shown_thing_hints_goal_never rfl hr rfl tk2 (sk_cons se_non (sk_cons (se_var 2) (sk_cons (se_var 1) (sk_cons (se_var 0) sk_nil)))))))) (.plain ⟨rfl, by decide, .inl T.e_BadNever.g⟩ T.sb_BadNever (fun a oe cls d pn e hz hf hcl hd => (sss_one (ss_set (i := 3) sc__law_error.nd rfl (Or.inl rfl) se_str))) (.plain ⟨rfl, by decide, .inl T.e_BadGoal.g⟩ T.sb_BadGoal (fun a oe cls d pn e hz hf hcl hd => (sss_one (ss_set (i := 3) sc__law_error.nd rfl (Or.inl rfl) se_str))) (.plain ⟨rfl, by decide, .inl T.e_BadHints.g⟩ T.sb_BadHints (fun a oe cls d pn e hz hf hcl hd => (sss_one (ss_set (i := 3) sc__law_error.nd rfl (Or.inl rfl) se_str))) (.plain ⟨rfl, by decide, .inl T.e_PaidError.g⟩ T.sb_PaidError (fun a oe cls d pn e hz hf hcl hd => (sss_one (ss_set (i := 3) sc__law_error.nd rfl (Or.inl rfl) se_str))) .nil)))))
    (sss_one (ss_ret (se_var 3))))))
abbrev s__law_errors_right : Stmt := topS 44
theorem sc__law_errors_right : FnScope ["well", "goal", "hints", "nevers", "atoms", "bad", "goals", "form", "origin", "wrong", "many", "at", "turn", "which", "asked", "due", "k"] ["well", "goal", "hints"] (defScope s__law_errors_right) := ⟨rfl, rfl, rfl, by decide +kernel, rfl, by decide +kernel, by decide +kernel⟩
noncomputable def m__law_errors_right (f__law_one : FnM) (f__law_draw : FnM) (f__law_error : FnM) : MS :=
    mSeq (mSet 3 (mLst (mCons (mC .non) (mCons (mLst (mCons (mC (.int 1)) (mNil))) (mCons (mTup (mCons (mC (.int 0)) (mNil))) (mCons (mTup (mCons (mC (.int 13)) (mNil))) (mCons (mTup (mCons (mC (.int 1)) (mCons (mC (.int 1)) (mNil)))) (mCons (mTup (mCons (mC (.int 2)) (mCons (mC (.int 1)) (mNil)))) (mCons (mTup (mCons (mC (.bl true)) (mNil))) (mCons (mTup (mCons (mC (.str "1")) (mNil))) (mCons (mC (.int 1)) (mCons (mTup (mCons (mC (.int 1)) (mCons (mC (.int 2)) (mCons (mC (.int 3)) (mCons (mC .non) (mNil)))))) (mNil)))))))))))))
    (mSeq (mSet 4 (mLst (mCons (mTup (mCons (mC (.int 0)) (mCons (mC (.int 400)) (mCons (mC (.int 1)) (mNil))))) (mCons (mTup (mCons (mC (.int 0)) (mCons (mUn oNeg (mC (.int 2))) (mCons (mC (.int 1)) (mNil))))) (mCons (mTup (mCons (mC (.int 0)) (mCons (mC (.int 1)) (mCons (mC (.int 13)) (mNil))))) (mCons (mTup (mCons (mC (.int 1)) (mCons (mC (.int 240)) (mCons (mC (.int 0)) (mNil))))) (mCons (mTup (mCons (mC (.int 1)) (mCons (mC (.int 1)) (mCons (mC (.int 6)) (mNil))))) (mCons (mTup (mCons (mC (.int 2)) (mCons (mC (.int 1)) (mCons (mC (.int 1)) (mNil))))) (mCons (mTup (mCons (mC (.int 1)) (mCons (mUn oNeg (mC (.int 1))) (mCons (mC (.int 0)) (mNil))))) (mCons (mTup (mCons (mC (.int 0)) (mCons (mC (.int 1)) (mNil)))) (mCons (mLst (mCons (mC (.int 0)) (mCons (mC (.int 1)) (mCons (mC (.int 1)) (mNil))))) (mCons (mTup (mCons (mC (.int 0)) (mCons (mC (.bl true)) (mCons (mC (.int 1)) (mNil))))) (mNil)))))))))))))
    (mSeq (mSet 5 (mCall 2 f__law_one (mCons (mVar 0) (mCons (mVar 4) (mNil)))))
    (mSeq (mSet 6 (mLst (mCons (mC .non) (mCons (mC (.int 5)) (mCons (mTup (mCons (mC (.int 0)) (mCons (mTup (mCons (mTup (mCons (mVar 5) (mCons (mC (.int 1)) (mNil)))) (mNil))) (mNil)))) (mCons (mTup (mCons (mC (.int 0)) (mCons (mTup (mCons (mTup (mCons (mTup (mCons (mC (.int 0)) (mCons (mC (.int 1)) (mCons (mC (.int 1)) (mNil))))) (mCons (mC (.int 0)) (mNil)))) (mNil))) (mNil)))) (mCons (mTup (mCons (mC (.int 0)) (mCons (mTup (mCons (mTup (mCons (mTup (mCons (mC (.int 0)) (mCons (mC (.int 2)) (mCons (mC (.int 1)) (mNil))))) (mCons (mC (.int 1)) (mNil)))) (mCons (mTup (mCons (mTup (mCons (mC (.int 0)) (mCons (mC (.int 1)) (mCons (mC (.int 1)) (mNil))))) (mCons (mC (.int 1)) (mNil)))) (mNil)))) (mNil)))) (mCons (mTup (mCons (mC (.bl true)) (mCons (mTup (mNil)) (mNil)))) (mCons (mLst (mCons (mC (.int 0)) (mCons (mTup (mNil)) (mNil)))) (mNil))))))))))
    (mSeq (mSet 6 (mOp oAdd (mVar 6) (mLst (mCons (mTup (mCons (mC (.int 0)) (mCons (mTup (mCons (mTup (mCons (mTup (mCons (mC (.int 0)) (mCons (mC (.int 1)) (mCons (mC (.int 1)) (mNil))))) (mCons (mC (.int 1)) (mNil)))) (mCons (mTup (mCons (mTup (mCons (mC (.int 0)) (mCons (mC (.int 1)) (mCons (mC (.int 1)) (mNil))))) (mCons (mC (.int 2)) (mNil)))) (mNil)))) (mNil)))) (mCons (mTup (mCons (mC (.int 0)) (mCons (mLst (mCons (mTup (mCons (mTup (mCons (mC (.int 0)) (mCons (mC (.int 1)) (mCons (mC (.int 1)) (mNil))))) (mCons (mC (.int 1)) (mNil)))) (mNil))) (mNil)))) (mCons (mTup (mCons (mC (.int 0)) (mNil))) (mCons (mTup (mCons (mC (.str "0")) (mCons (mTup (mNil)) (mNil)))) (mCons (mTup (mCons (mC (.int 0)) (mCons (mTup (mCons (mTup (mCons (mTup (mCons (mC (.int 0)) (mCons (mC (.int 1)) (mCons (mC (.int 1)) (mNil))))) (mCons (mC (.bl true)) (mNil)))) (mNil))) (mNil)))) (mNil)))))))))
    (mSeq (mPar 7 8 (mCons (mTup (mCons (mC (.int 0)) (mCons (mTup (mNil)) (mNil)))) (mCons (mCall 2 f__law_one (mCons (mVar 0) (mCons (mLst (mCons (mTup (mCons (mC (.int 240)) (mCons (mC (.int 0)) (mNil)))) (mCons (mTup (mCons (mC (.int 0)) (mCons (mC (.int 30)) (mNil)))) (mCons (mTup (mCons (mUn oNeg (mC (.int 1))) (mCons (mC (.int 0)) (mNil)))) (mCons (mTup (mCons (mC (.int 0)) (mNil))) (mCons (mTup (mCons (mC (.bl true)) (mCons (mC (.int 0)) (mNil)))) (mCons (mC (.str "x")) (mCons (mTup (mCons (mC (.int 0)) (mCons (mC (.int 0)) (mCons (mC (.int 0)) (mNil))))) (mCons (mLst (mCons (mC (.int 0)) (mCons (mC (.int 0)) (mNil)))) (mNil)))))))))) (mNil)))) (mNil))))
    (mSeq (mSet 9 (mLst (mCons (mTup (mCons (mVar 7) (mCons (mC (.int 0)) (mCons (mC .non) (mNil))))) (mCons (mTup (mCons (mVar 7) (mCons (mC .non) (mCons (mC .non) (mNil))))) (mCons (mTup (mCons (mVar 7) (mCons (mC (.bl true)) (mCons (mVar 8) (mNil))))) (mCons (mTup (mCons (mVar 7) (mCons (mC (.bl true)) (mNil)))) (mCons (mLst (mCons (mVar 7) (mCons (mC (.bl true)) (mCons (mC .non) (mNil))))) (mCons (mTup (mCons (mC .non) (mCons (mC (.bl true)) (mCons (mC .non) (mNil))))) (mNil)))))))))
    (mSeq (mSet 9 (mCall 2 f__law_one (mCons (mVar 0) (mCons (mOp oAdd (mVar 9) (mLst (mCons (mTup (mCons (mTup (mCons (mC (.int 0)) (mCons (mTup (mCons (mTup (mCons (mVar 5) (mCons (mC (.int 1)) (mNil)))) (mNil))) (mNil)))) (mCons (mC (.bl false)) (mCons (mC .non) (mNil))))) (mCons (mVar 7) (mCons (mC .non) (mNil)))))) (mNil)))))
    (mSeq (mSet 10 (mLst (mCons (mB bList (mCons (mVar 2) (mNil))) (mCons (mC .non) (mCons (mOp oMulA (mTup (mCons (mTup (mCons (mVar 7) (mCons (mC (.bl true)) (mCons (mC .non) (mNil))))) (mNil))) (mC (.int 8001))) (mCons (mC (.str "h")) (mNil)))))))
    (mSeq (mSet 11 (mCall 2 f__law_draw (mCons (mVar 0) (mCons (mOp oAdd (mB bLen (mCons (mVar 2) (mNil))) (mC (.int 1))) (mNil)))))
    (mSeq (mFor (miRng1 (mC (.int 3))) (gmName 12) (mSeq (mSet 13 (mLc (miRng1 (mC (.int 3))) (gmName 16) (mYes) (mOp oEq (mCall 2 f__law_draw (mCons (mVar 0) (mCons (mC (.int 2)) (mNil)))) (mC (.int 0))) [16]))
    (mSeq (mSet 14 (mLst (mCons (mTup (mCons (mC (.int 1)) (mCons (mC (.int 12)) (mNil)))) (mCons (mVar 1) (mCons (mVar 2) (mNil))))))
    (mSeq (mIfS (mTest (mOp oGet (mVar 13) (mC (.int 0)))) (mAsg (mCall 2 f__law_one (mCons (mVar 0) (mCons (mVar 3) (mNil)))) (gmSub oPut (mVar 14) (mC (.int 0)))) (mNx))
    (mSeq (mIfS (mTest (mOp oGet (mVar 13) (mC (.int 1)))) (mAsg (mCall 2 f__law_one (mCons (mVar 0) (mCons (mVar 6) (mNil)))) (gmSub oPut (mVar 14) (mC (.int 1)))) (mNx))
    (mSeq (mIfS (mTest (mOp oGet (mVar 13) (mC (.int 2)))) (mAsg (mCall 2 f__law_one (mCons (mVar 0) (mCons (mOp oAdd (mVar 10) (mOp oMulA (mLst (mCons (mOp oAdd (mOp oAdd (mSl (mVar 2) (moN) (moS (mVar 11))) (mTup (mCons (mVar 9) (mNil)))) (mSl (mVar 2) (moS (mVar 11)) (moN))) (mNil))) (mC (.int 4)))) (mNil)))) (gmSub oPut (mVar 14) (mC (.int 2)))) (mNx))
    (mSeq (mSet 15 (mOp oGet (mLst (mCons (mC (.str "never")) (mCons (mC (.str "goal")) (mCons (mC (.str "hints")) (mCons (mC (.str "none")) (mNil)))))) (mMset lIndex (mOp oAdd (mVar 13) (mLst (mCons (mC (.bl true)) (mNil)))) (mCons (mC (.bl true)) (mNil)))))
    (mIfS (mTest (mOp oNe (mCall 3 f__law_error (mCons (mOp oGet (mVar 14) (mC (.int 0))) (mCons (mOp oGet (mVar 14) (mC (.int 1))) (mCons (mOp oGet (mVar 14) (mC (.int 2))) (mNil))))) (mVar 15))) (mRet (mC (.bl false))) (mNx)))))))))
    (mRet (mOp oEq (mCall 3 f__law_error (mCons (mTup (mNil)) (mCons (mVar 1) (mCons (mOp oMulA (mTup (mCons (mTup (mCons (mVar 7) (mCons (mC (.bl true)) (mCons (mTup (mCons (mC (.int 239)) (mCons (mC (.int 29)) (mNil)))) (mNil))))) (mNil))) (mC (.int 8000))) (mNil))))) (mC (.str "none"))))))))))))))
theorem ok__law_errors_right {P : Program} {w : World} {K : PySem.W.Frag} {mg : Str → Option Value} {base : Heap} {aPaidError aBadNever aBadGoal aBadHints : Addr} {fa : Addr} {fd : FuncData} {k : Nat} (F : Fun K "_law_errors_right" "_law_errors_right" s__law_errors_right fa fd) (T : Md K mg aPaidError aBadNever aBadGoal aBadHints) {f__law_one : FnM} {f__law_draw : FnM} {f__law_error : FnM} (F__law_one : FnI P w K mg base (ctb aPaidError aBadNever aBadGoal aBadHints) k "_law_one" ["well", "some"] f__law_one) (F__law_draw : FnI P w K mg base (ctb aPaidError aBadNever aBadGoal aBadHints) k "_law_draw" ["well", "many"] f__law_draw) (F__law_error : FnI P w K mg base (ctb aPaidError aBadNever aBadGoal aBadHints) k "_law_error" ["never", "goal", "hints"] f__law_error) :
    FnOk P w K mg base (L2.CX P w) (k + 1) fa fd ["well", "goal", "hints"] (spM K (ctb aPaidError aBadNever aBadGoal aBadHints) 3 (mFn 17 (m__law_errors_right f__law_one f__law_draw f__law_error))) :=
  fn_ok F sc__law_errors_right fun cdv A outer s H E hr tk pas => by
    let ct : Ctb := ctb aPaidError aBadNever aBadGoal aBadHints
    exact ((sss_cons (ss_set (i := 3) sc__law_errors_right.nd rfl (Or.inl rfl) (se_lst (sa_cons se_non (sa_cons (se_lst (sa_cons se_int sa_nil)) (sa_cons (se_tup (sa_cons se_int sa_nil)) (sa_cons (se_tup (sa_cons se_int sa_nil)) (sa_cons (se_tup (sa_cons se_int (sa_cons se_int sa_nil))) (sa_cons (se_tup (sa_cons se_int (sa_cons se_int sa_nil))) (sa_cons (se_tup (sa_cons se_bl sa_nil)) (sa_cons (se_tup (sa_cons se_str sa_nil)) (sa_cons se_int (sa_cons (se_tup (sa_cons se_int (sa_cons se_int (sa_cons se_int (sa_cons se_non sa_nil))))) sa_nil))))))))))))
    (sss_cons (ss_set (i := 4) sc__law_errors_right.nd rfl (Or.inl rfl) (se_lst (sa_cons (se_tup (sa_cons se_int (sa_cons se_int (sa_cons se_int sa_nil)))) (sa_cons (se_tup (sa_cons se_int (sa_cons (se_un un_negM se_int) (sa_cons se_int sa_nil)))) (sa_cons (se_tup (sa_cons se_int (sa_cons se_int (sa_cons se_int sa_nil)))) (sa_cons (se_tup (sa_cons se_int (sa_cons se_int (sa_cons se_int sa_nil)))) (sa_cons (se_tup (sa_cons se_int (sa_cons se_int (sa_cons se_int sa_nil)))) (sa_cons (se_tup (sa_cons se_int (sa_cons se_int (sa_cons se_int sa_nil)))) (sa_cons (se_tup (sa_cons se_int (sa_cons (se_un un_negM se_int) (sa_cons se_int sa_nil)))) (sa_cons (se_tup (sa_cons se_int (sa_cons se_int sa_nil))) (sa_cons (se_lst (sa_cons se_int (sa_cons se_int (sa_cons se_int sa_nil)))) (sa_cons (se_tup (sa_cons se_int (sa_cons se_bl (sa_cons se_int sa_nil)))) sa_nil))))))))))))
    (sss_cons (ss_set (i := 5) sc__law_errors_right.nd rfl (Or.inl rfl) (se_callI F__law_one rfl hr rfl tk (sa_cons (se_var 0) (sa_cons (se_var 4) sa_nil))))
    (sss_cons (ss_set (i := 6) sc__law_errors_right.nd rfl (Or.inl rfl) (se_lst (sa_cons se_non (sa_cons se_int (sa_cons (se_tup (sa_cons se_int (sa_cons (se_tup (sa_cons (se_tup (sa_cons (se_var 5) (sa_cons se_int sa_nil))) sa_nil)) sa_nil))) (sa_cons (se_tup (sa_cons se_int (sa_cons (se_tup (sa_cons (se_tup (sa_cons (se_tup (sa_cons se_int (sa_cons se_int (sa_cons se_int sa_nil)))) (sa_cons se_int sa_nil))) sa_nil)) sa_nil))) (sa_cons (se_tup (sa_cons se_int (sa_cons (se_tup (sa_cons (se_tup (sa_cons (se_tup (sa_cons se_int (sa_cons se_int (sa_cons se_int sa_nil)))) (sa_cons se_int sa_nil))) (sa_cons (se_tup (sa_cons (se_tup (sa_cons se_int (sa_cons se_int (sa_cons se_int sa_nil)))) (sa_cons se_int sa_nil))) sa_nil))) sa_nil))) (sa_cons (se_tup (sa_cons se_bl (sa_cons (se_tup sa_nil) sa_nil))) (sa_cons (se_lst (sa_cons se_int (sa_cons (se_tup sa_nil) sa_nil))) sa_nil)))))))))
    (sss_cons (ss_set (i := 6) sc__law_errors_right.nd rfl (Or.inl rfl) (se_op op_addM (se_var 6) (se_lst (sa_cons (se_tup (sa_cons se_int (sa_cons (se_tup (sa_cons (se_tup (sa_cons (se_tup (sa_cons se_int (sa_cons se_int (sa_cons se_int sa_nil)))) (sa_cons se_int sa_nil))) (sa_cons (se_tup (sa_cons (se_tup (sa_cons se_int (sa_cons se_int (sa_cons se_int sa_nil)))) (sa_cons se_int sa_nil))) sa_nil))) sa_nil))) (sa_cons (se_tup (sa_cons se_int (sa_cons (se_lst (sa_cons (se_tup (sa_cons (se_tup (sa_cons se_int (sa_cons se_int (sa_cons se_int sa_nil)))) (sa_cons se_int sa_nil))) sa_nil)) sa_nil))) (sa_cons (se_tup (sa_cons se_int sa_nil)) (sa_cons (se_tup (sa_cons se_str (sa_cons (se_tup sa_nil) sa_nil))) (sa_cons (se_tup (sa_cons se_int (sa_cons (se_tup (sa_cons (se_tup (sa_cons (se_tup (sa_cons se_int (sa_cons se_int (sa_cons se_int sa_nil)))) (sa_cons se_bl sa_nil))) sa_nil)) sa_nil))) sa_nil))))))))
    (sss_cons (ss_par (i := 7) (j := 8) rfl sc__law_errors_right.nd rfl rfl (by decide) rfl rfl (sa_cons (se_tup (sa_cons se_int (sa_cons (se_tup sa_nil) sa_nil))) (sa_cons (se_callI F__law_one rfl hr rfl tk (sa_cons (se_var 0) (sa_cons (se_lst (sa_cons (se_tup (sa_cons se_int (sa_cons se_int sa_nil))) (sa_cons (se_tup (sa_cons se_int (sa_cons se_int sa_nil))) (sa_cons (se_tup (sa_cons (se_un un_negM se_int) (sa_cons se_int sa_nil))) (sa_cons (se_tup (sa_cons se_int sa_nil)) (sa_cons (se_tup (sa_cons se_bl (sa_cons se_int sa_nil))) (sa_cons se_str (sa_cons (se_tup (sa_cons se_int (sa_cons se_int (sa_cons se_int sa_nil)))) (sa_cons (se_lst (sa_cons se_int (sa_cons se_int sa_nil))) sa_nil))))))))) sa_nil))) sa_nil)) rfl)
    (sss_cons (ss_set (i := 9) sc__law_errors_right.nd rfl (Or.inl rfl) (se_lst (sa_cons (se_tup (sa_cons (se_var 7) (sa_cons se_int (sa_cons se_non sa_nil)))) (sa_cons (se_tup (sa_cons (se_var 7) (sa_cons se_non (sa_cons se_non sa_nil)))) (sa_cons (se_tup (sa_cons (se_var 7) (sa_cons se_bl (sa_cons (se_var 8) sa_nil)))) (sa_cons (se_tup (sa_cons (se_var 7) (sa_cons se_bl sa_nil))) (sa_cons (se_lst (sa_cons (se_var 7) (sa_cons se_bl (sa_cons se_non sa_nil)))) (sa_cons (se_tup (sa_cons se_non (sa_cons se_bl (sa_cons se_non sa_nil)))) sa_nil))))))))
    (sss_cons (ss_set (i := 9) sc__law_errors_right.nd rfl (Or.inl rfl) (se_callI F__law_one rfl hr rfl tk (sa_cons (se_var 0) (sa_cons (se_op op_addM (se_var 9) (se_lst (sa_cons (se_tup (sa_cons (se_tup (sa_cons se_int (sa_cons (se_tup (sa_cons (se_tup (sa_cons (se_var 5) (sa_cons se_int sa_nil))) sa_nil)) sa_nil))) (sa_cons se_bl (sa_cons se_non sa_nil)))) (sa_cons (se_var 7) (sa_cons se_non sa_nil))))) sa_nil))))
    (sss_cons (ss_set (i := 10) sc__law_errors_right.nd rfl (Or.inl rfl) (se_lst (sa_cons (se_callTy cr_list rfl T.z_list PyProof.Rows.boot_list (sa_cons (se_var 2) sa_nil)) (sa_cons se_non (sa_cons (se_op op_mulA (se_tup (sa_cons (se_tup (sa_cons (se_var 7) (sa_cons se_bl (sa_cons se_non sa_nil)))) sa_nil)) se_int) (sa_cons se_str sa_nil))))))
    (sss_cons (ss_set (i := 11) sc__law_errors_right.nd rfl (Or.inl rfl) (se_callI F__law_draw rfl hr rfl tk (sa_cons (se_var 0) (sa_cons (se_op op_addM (se_callB cr_len rfl T.z_len PySem.boot_len (sa_cons (se_var 2) sa_nil)) se_int) sa_nil))))
    (sss_cons (ss_for pas rfl (si_rng1 rfl T.z_range se_int) (sg_name (i := 12) sc__law_errors_right.nd rfl (Or.inl rfl)) (sss_cons (ss_setLc (i := 13) [("k", 16)] rfl sc__law_errors_right.nd rfl rfl (sw_true rfl rfl rfl (by decide +kernel)) (si_rng1 rfl T.z_range se_int) (blkOk_by (own := [("k", 16)]) (N := ["well", "goal", "hints", "nevers", "atoms", "bad", "goals", "form", "origin", "wrong", "many", "at", "turn", "which", "asked", "due", "k"]) (sc := defScope s__law_errors_right) (by decide +kernel)) (fun _ _ _ _ _ => (sgv_name (vs := [16]) (i := 16) sc__law_errors_right.nd rfl (Or.inl rfl) (by decide))) (fun _ _ _ _ _ => sts_nil) (fun _ _ _ _ _ => (se_cmp (op_eqM hr.units) (se_callI F__law_draw rfl hr rfl takes0 (sa_cons (se_var 0) (sa_cons se_int sa_nil))) se_int (nomark _))))
    (sss_cons (ss_set (i := 14) sc__law_errors_right.nd rfl (Or.inl rfl) (se_lst (sa_cons (se_tup (sa_cons se_int (sa_cons se_int sa_nil))) (sa_cons (se_var 1) (sa_cons (se_var 2) sa_nil)))))
    (sss_cons (ss_if (st_val (se_ix (ix_A hr) (se_var 13) se_int (fun _ _ => rfl))) (sss_one (ss_asg (se_callI F__law_one rfl hr rfl tk (sa_cons (se_var 0) (sa_cons (se_var 3) sa_nil))) (sg_sub (ct := ct) (W := (fun c d _ H' => E c d H')) (se_var 14) se_int (set_A hr)))) sss_nil)
    (sss_cons (ss_if (st_val (se_ix (ix_A hr) (se_var 13) se_int (fun _ _ => rfl))) (sss_one (ss_asg (se_callI F__law_one rfl hr rfl tk (sa_cons (se_var 0) (sa_cons (se_var 6) sa_nil))) (sg_sub (ct := ct) (W := (fun c d _ H' => E c d H')) (se_var 14) se_int (set_A hr)))) sss_nil)
    (sss_cons (ss_if (st_val (se_ix (ix_A hr) (se_var 13) se_int (fun _ _ => rfl))) (sss_one (ss_asg (se_callI F__law_one rfl hr rfl tk (sa_cons (se_var 0) (sa_cons (se_op op_addM (se_var 10) (se_op op_mulA (se_lst (sa_cons (se_op op_addM (se_op op_addM (se_sl (se_var 2) so_none (so_some (se_var 11))) (se_tup (sa_cons (se_var 9) sa_nil))) (se_sl (se_var 2) (so_some (se_var 11)) so_none)) sa_nil)) se_int)) sa_nil))) (sg_sub (ct := ct) (W := (fun c d _ H' => E c d H')) (se_var 14) se_int (set_A hr)))) sss_nil)
    (sss_cons (ss_set (i := 15) sc__law_errors_right.nd rfl (Or.inl rfl) (se_ix (ix_A hr) (se_lst (sa_cons se_str (sa_cons se_str (sa_cons se_str (sa_cons se_str sa_nil))))) (se_lm PySem.F.slot_list_index PySem.F.type_list_index (mt_indexM hr) (se_op op_addM (se_var 13) (se_lst (sa_cons se_bl sa_nil))) (sa_cons se_bl sa_nil)) (fun _ _ => rfl)))
    (sss_one (ss_if (st_cmp (op_neM hr.units) (se_callI F__law_error rfl hr rfl tk (sa_cons (se_ix (ix_A hr) (se_var 14) se_int (fun _ _ => rfl)) (sa_cons (se_ix (ix_A hr) (se_var 14) se_int (fun _ _ => rfl)) (sa_cons (se_ix (ix_A hr) (se_var 14) se_int (fun _ _ => rfl)) sa_nil)))) (se_var 15) (nomark _)) (sss_one (ss_ret se_bl)) sss_nil)))))))))
    (sss_one (ss_ret (se_cmp (op_eqM hr.units) (se_callI F__law_error rfl hr rfl tk (sa_cons (se_tup sa_nil) (sa_cons (se_var 1) (sa_cons (se_op op_mulA (se_tup (sa_cons (se_tup (sa_cons (se_var 7) (sa_cons se_bl (sa_cons (se_tup (sa_cons se_int (sa_cons se_int sa_nil))) sa_nil)))) sa_nil)) se_int) sa_nil)))) se_str (nomark _))))))))))))))))
abbrev s_law : Stmt := topS 45
theorem sc_law : FnScope ["script", "well", "never", "atoms", "goal", "hints", "showing", "k", "told", "two", "found", "spare", "n"] ["script"] (defScope s_law) := ⟨rfl, rfl, rfl, by decide +kernel, rfl, by decide +kernel, by decide +kernel⟩
noncomputable def m_law (f__law_well : FnM) (f__law_draw : FnM) (f__law_atoms : FnM) (f__law_made : FnM) (f_is_shown : FnM) (f__law_spoilt : FnM) (f__law_shows : FnM) (f__law_long : FnM) (f__law_errors_right : FnM) : MS :=
    mSeq (mSet 1 (mCall 1 f__law_well (mCons (mVar 0) (mNil))))
    (mSeq (mSet 2 (mB bTuple (mCons (mLc (miRng2 (mC (.int 1)) (mC (.int 13))) (gmName 12) (mTest (mOp oEq (mCall 2 f__law_draw (mCons (mVar 1) (mCons (mC (.int 3)) (mNil)))) (mC (.int 0)))) (mVar 12) [12]) (mNil))))
    (mSeq (mSet 3 (mCall 1 f__law_atoms (mCons (mVar 1) (mNil))))
    (mSeq (mAsg (mCall 3 f__law_made (mCons (mVar 1) (mCons (mVar 2) (mCons (mVar 3) (mNil))))) (gmSeq 3 (gmCons (gmName 4) (gmCons (gmName 5) (gmCons (gmName 6) (gmNil))))))
    (mSeq (mIfS (mTest (mOp oNotB (mCall 4 f_is_shown (mCons (mVar 2) (mCons (mVar 4) (mCons (mVar 5) (mCons (mVar 6) (mNil)))))) (mC (.bl true)))) (mRet (mC (.bl false))) (mNx))
    (mSeq (mFor (miRng1 (mC (.int 9))) (gmName 7) (mSeq (mSet 8 (mCall 6 f__law_spoilt (mCons (mVar 1) (mCons (mVar 2) (mCons (mVar 4) (mCons (mVar 5) (mCons (mVar 6) (mCons (mVar 3) (mNil)))))))))
    (mSeq (mIfS (mTest (mOp oGt (mVar 7) (mC (.int 6)))) (mSeq (mSet 9 (mCall 6 f__law_spoilt (mCons (mVar 1) (mCons (mOp oGet (mVar 8) (mC (.int 0))) (mCons (mOp oGet (mVar 8) (mC (.int 1))) (mCons (mOp oGet (mVar 8) (mC (.int 2))) (mCons (mVar 6) (mCons (mVar 3) (mNil)))))))))
    (mSet 8 (mIf (mTest (mOp oEq (mOp oGet (mVar 8) (mC (.int 3))) (mVar 6))) (mVar 9) (mVar 8)))) (mNx))
    (mSeq (mSet 10 (mCall 4 f_is_shown (mCons (mOp oGet (mVar 8) (mC (.int 0))) (mCons (mOp oGet (mVar 8) (mC (.int 1))) (mCons (mOp oGet (mVar 8) (mC (.int 2))) (mCons (mOp oGet (mVar 8) (mC (.int 3))) (mNil)))))))
    (mIfS (mOr (mNot (mTest (mIsi "bool" (mVar 10)))) (mTest (mOp oNe (mVar 10) (mCall 4 f__law_shows (mCons (mOp oGet (mVar 8) (mC (.int 0))) (mCons (mOp oGet (mVar 8) (mC (.int 1))) (mCons (mOp oGet (mVar 8) (mC (.int 2))) (mCons (mOp oGet (mVar 8) (mC (.int 3))) (mNil))))))))) (mRet (mC (.bl false))) (mNx))))))
    (mSeq (mSet 11 (mCall 2 f__law_draw (mCons (mVar 1) (mCons (mC (.int 12)) (mNil)))))
    (mSeq (mIfS (mAnd (mTest (mOp oEq (mVar 11) (mC (.int 5)))) (mNot (mTest (mCall 1 f__law_long (mCons (mVar 1) (mNil)))))) (mRet (mC (.bl false))) (mNx))
    (mRet (mOrV (mOp oGt (mVar 11) (mC (.int 3))) (mCall 3 f__law_errors_right (mCons (mVar 1) (mCons (mVar 4) (mCons (mVar 5) (mNil))))))))))))))
theorem ok_law {P : Program} {w : World} {K : PySem.W.Frag} {mg : Str → Option Value} {base : Heap} {aPaidError aBadNever aBadGoal aBadHints : Addr} {fa : Addr} {fd : FuncData} {k : Nat} (F : Fun K "law" "law" s_law fa fd) (T : Md K mg aPaidError aBadNever aBadGoal aBadHints) {f__law_well : FnM} {f__law_draw : FnM} {f__law_atoms : FnM} {f__law_made : FnM} {f_is_shown : FnM} {f__law_spoilt : FnM} {f__law_shows : FnM} {f__law_long : FnM} {f__law_errors_right : FnM} (F__law_well : FnI P w K mg base (ctb aPaidError aBadNever aBadGoal aBadHints) k "_law_well" ["script"] f__law_well) (F__law_draw : FnI P w K mg base (ctb aPaidError aBadNever aBadGoal aBadHints) k "_law_draw" ["well", "many"] f__law_draw) (F__law_atoms : FnI P w K mg base (ctb aPaidError aBadNever aBadGoal aBadHints) k "_law_atoms" ["well"] f__law_atoms) (F__law_made : FnI P w K mg base (ctb aPaidError aBadNever aBadGoal aBadHints) k "_law_made" ["well", "never", "atoms"] f__law_made) (F_is_shown : FnI P w K mg base (ctb aPaidError aBadNever aBadGoal aBadHints) k "is_shown" ["never", "goal", "hints", "thing"] f_is_shown) (F__law_spoilt : FnI P w K mg base (ctb aPaidError aBadNever aBadGoal aBadHints) k "_law_spoilt" ["well", "never", "goal", "hints", "showing", "atoms"] f__law_spoilt) (F__law_shows : FnI P w K mg base (ctb aPaidError aBadNever aBadGoal aBadHints) k "_law_shows" ["never", "goal", "hints", "thing"] f__law_shows) (F__law_long : FnI P w K mg base (ctb aPaidError aBadNever aBadGoal aBadHints) k "_law_long" ["well"] f__law_long) (F__law_errors_right : FnI P w K mg base (ctb aPaidError aBadNever aBadGoal aBadHints) k "_law_errors_right" ["well", "goal", "hints"] f__law_errors_right) :
    FnOk P w K mg base (L2.CX P w) (k + 1) fa fd ["script"] (spM K (ctb aPaidError aBadNever aBadGoal aBadHints) 1 (mFn 13 (m_law f__law_well f__law_draw f__law_atoms f__law_made f_is_shown f__law_spoilt f__law_shows f__law_long f__law_errors_right))) :=
  fn_ok F sc_law fun cdv A outer s H E hr tk pas => by
    let ct : Ctb := ctb aPaidError aBadNever aBadGoal aBadHints
    exact ((sss_cons (ss_set (i := 1) sc_law.nd rfl (Or.inr rfl) (se_callI F__law_well rfl hr rfl tk (sa_cons (se_var 0) sa_nil)))
    (sss_cons (ss_set (i := 2) sc_law.nd rfl (Or.inl rfl) (se_callTy cr_tuple rfl T.z_tuple PyProof.Rows.boot_tuple (sa_cons (se_lc [("n", 12)] rfl sc_law.nd (si_rng2 rfl T.z_range se_int se_int) (blkOk_by (own := [("n", 12)]) (N := ["script", "well", "never", "atoms", "goal", "hints", "showing", "k", "told", "two", "found", "spare", "n"]) (sc := defScope s_law) (by decide +kernel)) (fun _ _ _ _ _ => (sgv_name (vs := [12]) (i := 12) sc_law.nd rfl (Or.inl rfl) (by decide))) (fun _ _ _ _ _ => (sts_one (st_cmp (op_eqM hr.units) (se_callI F__law_draw rfl hr rfl takes0 (sa_cons (se_var 1) (sa_cons se_int sa_nil))) se_int (nomark _)))) (fun _ _ _ _ _ => (se_var 12))) sa_nil)))
    (sss_cons (ss_set (i := 3) sc_law.nd rfl (Or.inl rfl) (se_callI F__law_atoms rfl hr rfl tk (sa_cons (se_var 1) sa_nil)))
    (sss_cons (ss_asg (se_callI F__law_made rfl hr rfl tk (sa_cons (se_var 1) (sa_cons (se_var 2) (sa_cons (se_var 3) sa_nil)))) (sg_seq rfl (sgs_cons (sg_name (i := 4) sc_law.nd rfl (Or.inl rfl)) (sgs_cons (sg_name (i := 5) sc_law.nd rfl (Or.inl rfl)) (sgs_cons (sg_name (i := 6) sc_law.nd rfl (Or.inl rfl)) sgs_nil)))))
    (sss_cons (ss_if (st_cmp op_notB (se_callI F_is_shown rfl hr rfl tk (sa_cons (se_var 2) (sa_cons (se_var 4) (sa_cons (se_var 5) (sa_cons (se_var 6) sa_nil))))) se_bl (nomark _)) (sss_one (ss_ret se_bl)) sss_nil)
    (sss_cons (ss_for pas rfl (si_rng1 rfl T.z_range se_int) (sg_name (i := 7) sc_law.nd rfl (Or.inl rfl)) (sss_cons (ss_set (i := 8) sc_law.nd rfl (Or.inl rfl) (se_callI F__law_spoilt rfl hr rfl tk (sa_cons (se_var 1) (sa_cons (se_var 2) (sa_cons (se_var 4) (sa_cons (se_var 5) (sa_cons (se_var 6) (sa_cons (se_var 3) sa_nil))))))))
    (sss_cons (ss_if (st_cmp op_gtM (se_var 7) se_int (nomark _)) (sss_cons (ss_set (i := 9) sc_law.nd rfl (Or.inl rfl) (se_callI F__law_spoilt rfl hr rfl tk (sa_cons (se_var 1) (sa_cons (se_ix (ix_A hr) (se_var 8) se_int (fun _ _ => rfl)) (sa_cons (se_ix (ix_A hr) (se_var 8) se_int (fun _ _ => rfl)) (sa_cons (se_ix (ix_A hr) (se_var 8) se_int (fun _ _ => rfl)) (sa_cons (se_var 6) (sa_cons (se_var 3) sa_nil))))))))
    (sss_one (ss_set (i := 8) sc_law.nd rfl (Or.inl rfl) (se_if (st_cmp (op_eqM hr.units) (se_ix (ix_A hr) (se_var 8) se_int (fun _ _ => rfl)) (se_var 6) (nomark _)) (se_var 9) (se_var 8))))) sss_nil)
    (sss_cons (ss_set (i := 10) sc_law.nd rfl (Or.inl rfl) (se_callI F_is_shown rfl hr rfl tk (sa_cons (se_ix (ix_A hr) (se_var 8) se_int (fun _ _ => rfl)) (sa_cons (se_ix (ix_A hr) (se_var 8) se_int (fun _ _ => rfl)) (sa_cons (se_ix (ix_A hr) (se_var 8) se_int (fun _ _ => rfl)) (sa_cons (se_ix (ix_A hr) (se_var 8) se_int (fun _ _ => rfl)) sa_nil))))))
    (sss_one (ss_if (st_w (sw_or (st_not (st_val (se_isi (by decide) rfl T.z_isinstance rfl T.z_bool PyProof.Rows.boot_bool (se_var 10)))) (sw_or1 (st_cmp (op_neM hr.units) (se_var 10) (se_callI F__law_shows rfl hr rfl tk (sa_cons (se_ix (ix_A hr) (se_var 8) se_int (fun _ _ => rfl)) (sa_cons (se_ix (ix_A hr) (se_var 8) se_int (fun _ _ => rfl)) (sa_cons (se_ix (ix_A hr) (se_var 8) se_int (fun _ _ => rfl)) (sa_cons (se_ix (ix_A hr) (se_var 8) se_int (fun _ _ => rfl)) sa_nil))))) (nomark _))))) (sss_one (ss_ret se_bl)) sss_nil))))))
    (sss_cons (ss_set (i := 11) sc_law.nd rfl (Or.inl rfl) (se_callI F__law_draw rfl hr rfl tk (sa_cons (se_var 1) (sa_cons se_int sa_nil))))
    (sss_cons (ss_if (st_w (sw_and (st_cmp (op_eqM hr.units) (se_var 11) se_int (nomark _)) (sw_and1 (st_not (st_val (se_callI F__law_long rfl hr rfl tk (sa_cons (se_var 1) sa_nil))))))) (sss_one (ss_ret se_bl)) sss_nil)
    (sss_one (ss_ret (se_or (se_cmp op_gtM (se_var 11) se_int (nomark _)) (se_and1 (se_callI F__law_errors_right rfl hr rfl tk (sa_cons (se_var 1) (sa_cons (se_var 4) (sa_cons (se_var 5) sa_nil)))))))))))))))))
/-- all that the top has written -/
structure Tx (K : PySem.W.Frag) (mg : Str → Option Value) (aPaidError aBadNever aBadGoal aBadHints : Addr) : Prop where
  md : Md K mg aPaidError aBadNever aBadGoal aBadHints
  d_is_int : DefI K mg "is_int" s_is_int ["x"] []
  d_within : DefI K mg "within" s_within ["x", "low", "high"] []
  d_summed : DefI K mg "summed" s_summed ["const", "parts"] []
  d_is_atom : DefI K mg "is_atom" s_is_atom ["thing"] []
  d_is_form : DefI K mg "is_form" s_is_form ["thing"] []
  d_is_floor : DefI K mg "is_floor" s_is_floor ["never", "atom"] []
  d_is_origin : DefI K mg "is_origin" s_is_origin ["thing"] []
  d_is_hint : DefI K mg "is_hint" s_is_hint ["thing"] []
  d_need_never : DefI K mg "need_never" s_need_never ["never"] []
  d_need_goal : DefI K mg "need_goal" s_need_goal ["goal"] []
  d_need_hints : DefI K mg "need_hints" s_need_hints ["hints"] []
  d_showing_fits : DefI K mg "showing_fits" s_showing_fits ["hints", "thing"] []
  d_shows : DefI K mg "shows" s_shows ["never", "goal", "hints", "thing"] []
  d_is_shown : DefI K mg "is_shown" s_is_shown ["never", "goal", "hints", "thing"] [(["thing", "hints", "goal", "never"], [3, 2, 1, 0])]
  d__law_well : DefI K mg "_law_well" s__law_well ["script"] []
  d__law_draw : DefI K mg "_law_draw" s__law_draw ["well", "many"] []
  d__law_one : DefI K mg "_law_one" s__law_one ["well", "some"] []
  d__law_is_int : DefI K mg "_law_is_int" s__law_is_int ["x"] []
  d__law_rest : DefI K mg "_law_rest" s__law_rest ["goal", "hints", "scale", "multipliers"] []
  d__law_shows : DefI K mg "_law_shows" s__law_shows ["never", "goal", "hints", "thing"] []
  d__law_by : DefI K mg "_law_by" s__law_by ["well"] []
  d__law_atoms : DefI K mg "_law_atoms" s__law_atoms ["well"] []
  d__law_drawn_form : DefI K mg "_law_drawn_form" s__law_drawn_form ["well", "atoms"] []
  d__law_origin : DefI K mg "_law_origin" s__law_origin ["well"] []
  d__law_sum_of : DefI K mg "_law_sum_of" s__law_sum_of ["const", "sums"] []
  d__law_made : DefI K mg "_law_made" s__law_made ["well", "never", "atoms"] []
  d__law_spoilt : DefI K mg "_law_spoilt" s__law_spoilt ["well", "never", "goal", "hints", "showing", "atoms"] []
  d__law_long : DefI K mg "_law_long" s__law_long ["well"] []
  d__law_error : DefI K mg "_law_error" s__law_error ["never", "goal", "hints"] []
  d__law_errors_right : DefI K mg "_law_errors_right" s__law_errors_right ["well", "goal", "hints"] []
  d_law : DefI K mg "law" s_law ["script"] []
noncomputable def F_is_int : FnM := mFn 1 (m_is_int)
noncomputable def F_within : FnM := mFn 3 (m_within F_is_int)
noncomputable def F_summed : FnM := mFn 7 (m_summed)
noncomputable def F_is_atom : FnM := mFn 1 (m_is_atom F_within)
noncomputable def F_is_form : FnM := mFn 4 (m_is_form F_is_int F_is_atom)
noncomputable def F_is_floor : FnM := mFn 2 (m_is_floor)
noncomputable def F_is_origin : FnM := mFn 1 (m_is_origin F_within)
noncomputable def F_is_hint : FnM := mFn 1 (m_is_hint F_is_form F_is_origin)
noncomputable def F_need_never : FnM := mFn 2 (m_need_never F_within)
noncomputable def F_need_goal : FnM := mFn 1 (m_need_goal F_is_form)
noncomputable def F_need_hints : FnM := mFn 2 (m_need_hints F_is_hint)
noncomputable def F_showing_fits : FnM := mFn 6 (m_showing_fits F_is_int)
noncomputable def F_shows : FnM := mFn 13 (m_shows F_showing_fits F_summed F_is_floor)
noncomputable def F_is_shown : FnM := mFn 4 (m_is_shown F_need_never F_need_goal F_need_hints F_shows)
noncomputable def F__law_well : FnM := mFn 3 (m__law_well)
noncomputable def F__law_draw : FnM := mFn 4 (m__law_draw)
noncomputable def F__law_one : FnM := mFn 2 (m__law_one F__law_draw)
noncomputable def F__law_is_int : FnM := mFn 1 (m__law_is_int)
noncomputable def F__law_rest : FnM := mFn 10 (m__law_rest)
noncomputable def F__law_shows : FnM := mFn 10 (m__law_shows F__law_is_int F__law_rest)
noncomputable def F__law_by : FnM := mFn 2 (m__law_by F__law_draw)
noncomputable def F__law_atoms : FnM := mFn 5 (m__law_atoms F__law_draw F__law_one)
noncomputable def F__law_drawn_form : FnM := mFn 5 (m__law_drawn_form F__law_draw F__law_by)
noncomputable def F__law_origin : FnM := mFn 1 (m__law_origin F__law_draw)
noncomputable def F__law_sum_of : FnM := mFn 3 (m__law_sum_of)
noncomputable def F__law_made : FnM := mFn 21 (m__law_made F__law_draw F__law_drawn_form F__law_origin F__law_by F__law_rest F__law_sum_of)
noncomputable def F__law_spoilt : FnM := mFn 19 (m__law_spoilt F__law_draw F__law_by)
noncomputable def F__law_long : FnM := mFn 13 (m__law_long F__law_draw F_is_shown)
noncomputable def F__law_error : FnM := mFn 4 (m__law_error F_is_shown)
noncomputable def F__law_errors_right : FnM := mFn 17 (m__law_errors_right F__law_one F__law_draw F__law_error)
noncomputable def F_law : FnM := mFn 13 (m_law F__law_well F__law_draw F__law_atoms F__law_made F_is_shown F__law_spoilt F__law_shows F__law_long F__law_errors_right)
theorem o_is_int {P : Program} {w : World} {K : PySem.W.Frag} {mg : Str → Option Value} {base : Heap} {aPaidError aBadNever aBadGoal aBadHints : Addr} (T : Tx K mg aPaidError aBadNever aBadGoal aBadHints) {fa : Addr} {fd : FuncData} (F : Fun K "is_int" "is_int" s_is_int fa fd) : FnOk P w K mg base (L2.CX P w) 1 fa fd ["x"] (spM K (ctb aPaidError aBadNever aBadGoal aBadHints) 1 F_is_int) := ok_is_int (k := 0) F T.md
theorem w_is_int {P : Program} {w : World} {K : PySem.W.Frag} {mg : Str → Option Value} {base : Heap} {aPaidError aBadNever aBadGoal aBadHints : Addr} (T : Tx K mg aPaidError aBadNever aBadGoal aBadHints) : FnI P w K mg base (ctb aPaidError aBadNever aBadGoal aBadHints) 1 "is_int" ["x"] F_is_int := T.d_is_int.fn (fun F => o_is_int T F)
theorem o_within {P : Program} {w : World} {K : PySem.W.Frag} {mg : Str → Option Value} {base : Heap} {aPaidError aBadNever aBadGoal aBadHints : Addr} (T : Tx K mg aPaidError aBadNever aBadGoal aBadHints) {fa : Addr} {fd : FuncData} (F : Fun K "within" "within" s_within fa fd) : FnOk P w K mg base (L2.CX P w) 2 fa fd ["x", "low", "high"] (spM K (ctb aPaidError aBadNever aBadGoal aBadHints) 3 F_within) := ok_within (k := 1) F T.md ((w_is_int T).mono (by decide))
theorem w_within {P : Program} {w : World} {K : PySem.W.Frag} {mg : Str → Option Value} {base : Heap} {aPaidError aBadNever aBadGoal aBadHints : Addr} (T : Tx K mg aPaidError aBadNever aBadGoal aBadHints) : FnI P w K mg base (ctb aPaidError aBadNever aBadGoal aBadHints) 2 "within" ["x", "low", "high"] F_within := T.d_within.fn (fun F => o_within T F)
theorem o_summed {P : Program} {w : World} {K : PySem.W.Frag} {mg : Str → Option Value} {base : Heap} {aPaidError aBadNever aBadGoal aBadHints : Addr} (T : Tx K mg aPaidError aBadNever aBadGoal aBadHints) {fa : Addr} {fd : FuncData} (F : Fun K "summed" "summed" s_summed fa fd) : FnOk P w K mg base (L2.CX P w) 1 fa fd ["const", "parts"] (spM K (ctb aPaidError aBadNever aBadGoal aBadHints) 2 F_summed) := ok_summed (k := 0) F T.md
theorem w_summed {P : Program} {w : World} {K : PySem.W.Frag} {mg : Str → Option Value} {base : Heap} {aPaidError aBadNever aBadGoal aBadHints : Addr} (T : Tx K mg aPaidError aBadNever aBadGoal aBadHints) : FnI P w K mg base (ctb aPaidError aBadNever aBadGoal aBadHints) 1 "summed" ["const", "parts"] F_summed := T.d_summed.fn (fun F => o_summed T F)
theorem o_is_atom {P : Program} {w : World} {K : PySem.W.Frag} {mg : Str → Option Value} {base : Heap} {aPaidError aBadNever aBadGoal aBadHints : Addr} (T : Tx K mg aPaidError aBadNever aBadGoal aBadHints) {fa : Addr} {fd : FuncData} (F : Fun K "is_atom" "is_atom" s_is_atom fa fd) : FnOk P w K mg base (L2.CX P w) 3 fa fd ["thing"] (spM K (ctb aPaidError aBadNever aBadGoal aBadHints) 1 F_is_atom) := ok_is_atom (k := 2) F T.md ((w_within T).mono (by decide))
theorem w_is_atom {P : Program} {w : World} {K : PySem.W.Frag} {mg : Str → Option Value} {base : Heap} {aPaidError aBadNever aBadGoal aBadHints : Addr} (T : Tx K mg aPaidError aBadNever aBadGoal aBadHints) : FnI P w K mg base (ctb aPaidError aBadNever aBadGoal aBadHints) 3 "is_atom" ["thing"] F_is_atom := T.d_is_atom.fn (fun F => o_is_atom T F)
theorem o_is_form {P : Program} {w : World} {K : PySem.W.Frag} {mg : Str → Option Value} {base : Heap} {aPaidError aBadNever aBadGoal aBadHints : Addr} (T : Tx K mg aPaidError aBadNever aBadGoal aBadHints) {fa : Addr} {fd : FuncData} (F : Fun K "is_form" "is_form" s_is_form fa fd) : FnOk P w K mg base (L2.CX P w) 4 fa fd ["thing"] (spM K (ctb aPaidError aBadNever aBadGoal aBadHints) 1 F_is_form) := ok_is_form (k := 3) F T.md ((w_is_int T).mono (by decide)) ((w_is_atom T).mono (by decide))
theorem w_is_form {P : Program} {w : World} {K : PySem.W.Frag} {mg : Str → Option Value} {base : Heap} {aPaidError aBadNever aBadGoal aBadHints : Addr} (T : Tx K mg aPaidError aBadNever aBadGoal aBadHints) : FnI P w K mg base (ctb aPaidError aBadNever aBadGoal aBadHints) 4 "is_form" ["thing"] F_is_form := T.d_is_form.fn (fun F => o_is_form T F)
theorem o_is_floor {P : Program} {w : World} {K : PySem.W.Frag} {mg : Str → Option Value} {base : Heap} {aPaidError aBadNever aBadGoal aBadHints : Addr} (T : Tx K mg aPaidError aBadNever aBadGoal aBadHints) {fa : Addr} {fd : FuncData} (F : Fun K "is_floor" "is_floor" s_is_floor fa fd) : FnOk P w K mg base (L2.CX P w) 1 fa fd ["never", "atom"] (spM K (ctb aPaidError aBadNever aBadGoal aBadHints) 2 F_is_floor) := ok_is_floor (k := 0) F T.md
theorem w_is_floor {P : Program} {w : World} {K : PySem.W.Frag} {mg : Str → Option Value} {base : Heap} {aPaidError aBadNever aBadGoal aBadHints : Addr} (T : Tx K mg aPaidError aBadNever aBadGoal aBadHints) : FnI P w K mg base (ctb aPaidError aBadNever aBadGoal aBadHints) 1 "is_floor" ["never", "atom"] F_is_floor := T.d_is_floor.fn (fun F => o_is_floor T F)
theorem o_is_origin {P : Program} {w : World} {K : PySem.W.Frag} {mg : Str → Option Value} {base : Heap} {aPaidError aBadNever aBadGoal aBadHints : Addr} (T : Tx K mg aPaidError aBadNever aBadGoal aBadHints) {fa : Addr} {fd : FuncData} (F : Fun K "is_origin" "is_origin" s_is_origin fa fd) : FnOk P w K mg base (L2.CX P w) 3 fa fd ["thing"] (spM K (ctb aPaidError aBadNever aBadGoal aBadHints) 1 F_is_origin) := ok_is_origin (k := 2) F T.md ((w_within T).mono (by decide))
theorem w_is_origin {P : Program} {w : World} {K : PySem.W.Frag} {mg : Str → Option Value} {base : Heap} {aPaidError aBadNever aBadGoal aBadHints : Addr} (T : Tx K mg aPaidError aBadNever aBadGoal aBadHints) : FnI P w K mg base (ctb aPaidError aBadNever aBadGoal aBadHints) 3 "is_origin" ["thing"] F_is_origin := T.d_is_origin.fn (fun F => o_is_origin T F)
theorem o_is_hint {P : Program} {w : World} {K : PySem.W.Frag} {mg : Str → Option Value} {base : Heap} {aPaidError aBadNever aBadGoal aBadHints : Addr} (T : Tx K mg aPaidError aBadNever aBadGoal aBadHints) {fa : Addr} {fd : FuncData} (F : Fun K "is_hint" "is_hint" s_is_hint fa fd) : FnOk P w K mg base (L2.CX P w) 5 fa fd ["thing"] (spM K (ctb aPaidError aBadNever aBadGoal aBadHints) 1 F_is_hint) := ok_is_hint (k := 4) F T.md ((w_is_form T).mono (by decide)) ((w_is_origin T).mono (by decide))
theorem w_is_hint {P : Program} {w : World} {K : PySem.W.Frag} {mg : Str → Option Value} {base : Heap} {aPaidError aBadNever aBadGoal aBadHints : Addr} (T : Tx K mg aPaidError aBadNever aBadGoal aBadHints) : FnI P w K mg base (ctb aPaidError aBadNever aBadGoal aBadHints) 5 "is_hint" ["thing"] F_is_hint := T.d_is_hint.fn (fun F => o_is_hint T F)
theorem o_need_never {P : Program} {w : World} {K : PySem.W.Frag} {mg : Str → Option Value} {base : Heap} {aPaidError aBadNever aBadGoal aBadHints : Addr} (T : Tx K mg aPaidError aBadNever aBadGoal aBadHints) {fa : Addr} {fd : FuncData} (F : Fun K "need_never" "need_never" s_need_never fa fd) : FnOk P w K mg base (L2.CX P w) 3 fa fd ["never"] (spM K (ctb aPaidError aBadNever aBadGoal aBadHints) 1 F_need_never) := ok_need_never (k := 2) F T.md ((w_within T).mono (by decide))
theorem w_need_never {P : Program} {w : World} {K : PySem.W.Frag} {mg : Str → Option Value} {base : Heap} {aPaidError aBadNever aBadGoal aBadHints : Addr} (T : Tx K mg aPaidError aBadNever aBadGoal aBadHints) : FnI P w K mg base (ctb aPaidError aBadNever aBadGoal aBadHints) 3 "need_never" ["never"] F_need_never := T.d_need_never.fn (fun F => o_need_never T F)
theorem o_need_goal {P : Program} {w : World} {K : PySem.W.Frag} {mg : Str → Option Value} {base : Heap} {aPaidError aBadNever aBadGoal aBadHints : Addr} (T : Tx K mg aPaidError aBadNever aBadGoal aBadHints) {fa : Addr} {fd : FuncData} (F : Fun K "need_goal" "need_goal" s_need_goal fa fd) : FnOk P w K mg base (L2.CX P w) 5 fa fd ["goal"] (spM K (ctb aPaidError aBadNever aBadGoal aBadHints) 1 F_need_goal) := ok_need_goal (k := 4) F T.md ((w_is_form T).mono (by decide))
theorem w_need_goal {P : Program} {w : World} {K : PySem.W.Frag} {mg : Str → Option Value} {base : Heap} {aPaidError aBadNever aBadGoal aBadHints : Addr} (T : Tx K mg aPaidError aBadNever aBadGoal aBadHints) : FnI P w K mg base (ctb aPaidError aBadNever aBadGoal aBadHints) 5 "need_goal" ["goal"] F_need_goal := T.d_need_goal.fn (fun F => o_need_goal T F)
theorem o_need_hints {P : Program} {w : World} {K : PySem.W.Frag} {mg : Str → Option Value} {base : Heap} {aPaidError aBadNever aBadGoal aBadHints : Addr} (T : Tx K mg aPaidError aBadNever aBadGoal aBadHints) {fa : Addr} {fd : FuncData} (F : Fun K "need_hints" "need_hints" s_need_hints fa fd) : FnOk P w K mg base (L2.CX P w) 6 fa fd ["hints"] (spM K (ctb aPaidError aBadNever aBadGoal aBadHints) 1 F_need_hints) := ok_need_hints (k := 5) F T.md ((w_is_hint T).mono (by decide))
theorem w_need_hints {P : Program} {w : World} {K : PySem.W.Frag} {mg : Str → Option Value} {base : Heap} {aPaidError aBadNever aBadGoal aBadHints : Addr} (T : Tx K mg aPaidError aBadNever aBadGoal aBadHints) : FnI P w K mg base (ctb aPaidError aBadNever aBadGoal aBadHints) 6 "need_hints" ["hints"] F_need_hints := T.d_need_hints.fn (fun F => o_need_hints T F)
theorem o_showing_fits {P : Program} {w : World} {K : PySem.W.Frag} {mg : Str → Option Value} {base : Heap} {aPaidError aBadNever aBadGoal aBadHints : Addr} (T : Tx K mg aPaidError aBadNever aBadGoal aBadHints) {fa : Addr} {fd : FuncData} (F : Fun K "showing_fits" "showing_fits" s_showing_fits fa fd) : FnOk P w K mg base (L2.CX P w) 2 fa fd ["hints", "thing"] (spM K (ctb aPaidError aBadNever aBadGoal aBadHints) 2 F_showing_fits) := ok_showing_fits (k := 1) F T.md ((w_is_int T).mono (by decide))
theorem w_showing_fits {P : Program} {w : World} {K : PySem.W.Frag} {mg : Str → Option Value} {base : Heap} {aPaidError aBadNever aBadGoal aBadHints : Addr} (T : Tx K mg aPaidError aBadNever aBadGoal aBadHints) : FnI P w K mg base (ctb aPaidError aBadNever aBadGoal aBadHints) 2 "showing_fits" ["hints", "thing"] F_showing_fits := T.d_showing_fits.fn (fun F => o_showing_fits T F)
theorem o_shows {P : Program} {w : World} {K : PySem.W.Frag} {mg : Str → Option Value} {base : Heap} {aPaidError aBadNever aBadGoal aBadHints : Addr} (T : Tx K mg aPaidError aBadNever aBadGoal aBadHints) {fa : Addr} {fd : FuncData} (F : Fun K "shows" "shows" s_shows fa fd) : FnOk P w K mg base (L2.CX P w) 3 fa fd ["never", "goal", "hints", "thing"] (spM K (ctb aPaidError aBadNever aBadGoal aBadHints) 4 F_shows) := ok_shows (k := 2) F T.md ((w_showing_fits T).mono (by decide)) ((w_summed T).mono (by decide)) ((w_is_floor T).mono (by decide))
theorem w_shows {P : Program} {w : World} {K : PySem.W.Frag} {mg : Str → Option Value} {base : Heap} {aPaidError aBadNever aBadGoal aBadHints : Addr} (T : Tx K mg aPaidError aBadNever aBadGoal aBadHints) : FnI P w K mg base (ctb aPaidError aBadNever aBadGoal aBadHints) 3 "shows" ["never", "goal", "hints", "thing"] F_shows := T.d_shows.fn (fun F => o_shows T F)
theorem o_is_shown {P : Program} {w : World} {K : PySem.W.Frag} {mg : Str → Option Value} {base : Heap} {aPaidError aBadNever aBadGoal aBadHints : Addr} (T : Tx K mg aPaidError aBadNever aBadGoal aBadHints) {fa : Addr} {fd : FuncData} (F : Fun K "is_shown" "is_shown" s_is_shown fa fd) : FnOk P w K mg base (L2.CX P w) 7 fa fd ["never", "goal", "hints", "thing"] (spM K (ctb aPaidError aBadNever aBadGoal aBadHints) 4 F_is_shown) := ok_is_shown (k := 6) F T.md ((w_need_never T).mono (by decide)) ((w_need_goal T).mono (by decide)) ((w_need_hints T).mono (by decide)) ((w_shows T).mono (by decide))
theorem w_is_shown {P : Program} {w : World} {K : PySem.W.Frag} {mg : Str → Option Value} {base : Heap} {aPaidError aBadNever aBadGoal aBadHints : Addr} (T : Tx K mg aPaidError aBadNever aBadGoal aBadHints) : FnI P w K mg base (ctb aPaidError aBadNever aBadGoal aBadHints) 7 "is_shown" ["never", "goal", "hints", "thing"] F_is_shown := T.d_is_shown.fn (fun F => o_is_shown T F)
theorem wK_is_shown_thing_hints_goal_never {P : Program} {w : World} {K : PySem.W.Frag} {mg : Str → Option Value} {base : Heap} {aPaidError aBadNever aBadGoal aBadHints : Addr} (T : Tx K mg aPaidError aBadNever aBadGoal aBadHints) : FnK P w K mg base (ctb aPaidError aBadNever aBadGoal aBadHints) 7 "is_shown" ["never", "goal", "hints", "thing"] ["thing", "hints", "goal", "never"] [3, 2, 1, 0] F_is_shown := T.d_is_shown.kw (ks := ["thing", "hints", "goal", "never"]) (pl := [3, 2, 1, 0]) (by simp) (fun F => o_is_shown T F)
theorem o__law_well {P : Program} {w : World} {K : PySem.W.Frag} {mg : Str → Option Value} {base : Heap} {aPaidError aBadNever aBadGoal aBadHints : Addr} (T : Tx K mg aPaidError aBadNever aBadGoal aBadHints) {fa : Addr} {fd : FuncData} (F : Fun K "_law_well" "_law_well" s__law_well fa fd) : FnOk P w K mg base (L2.CX P w) 1 fa fd ["script"] (spM K (ctb aPaidError aBadNever aBadGoal aBadHints) 1 F__law_well) := ok__law_well (k := 0) F T.md
theorem w__law_well {P : Program} {w : World} {K : PySem.W.Frag} {mg : Str → Option Value} {base : Heap} {aPaidError aBadNever aBadGoal aBadHints : Addr} (T : Tx K mg aPaidError aBadNever aBadGoal aBadHints) : FnI P w K mg base (ctb aPaidError aBadNever aBadGoal aBadHints) 1 "_law_well" ["script"] F__law_well := T.d__law_well.fn (fun F => o__law_well T F)
theorem o__law_draw {P : Program} {w : World} {K : PySem.W.Frag} {mg : Str → Option Value} {base : Heap} {aPaidError aBadNever aBadGoal aBadHints : Addr} (T : Tx K mg aPaidError aBadNever aBadGoal aBadHints) {fa : Addr} {fd : FuncData} (F : Fun K "_law_draw" "_law_draw" s__law_draw fa fd) : FnOk P w K mg base (L2.CX P w) 1 fa fd ["well", "many"] (spM K (ctb aPaidError aBadNever aBadGoal aBadHints) 2 F__law_draw) := ok__law_draw (k := 0) F T.md
theorem w__law_draw {P : Program} {w : World} {K : PySem.W.Frag} {mg : Str → Option Value} {base : Heap} {aPaidError aBadNever aBadGoal aBadHints : Addr} (T : Tx K mg aPaidError aBadNever aBadGoal aBadHints) : FnI P w K mg base (ctb aPaidError aBadNever aBadGoal aBadHints) 1 "_law_draw" ["well", "many"] F__law_draw := T.d__law_draw.fn (fun F => o__law_draw T F)
theorem o__law_one {P : Program} {w : World} {K : PySem.W.Frag} {mg : Str → Option Value} {base : Heap} {aPaidError aBadNever aBadGoal aBadHints : Addr} (T : Tx K mg aPaidError aBadNever aBadGoal aBadHints) {fa : Addr} {fd : FuncData} (F : Fun K "_law_one" "_law_one" s__law_one fa fd) : FnOk P w K mg base (L2.CX P w) 2 fa fd ["well", "some"] (spM K (ctb aPaidError aBadNever aBadGoal aBadHints) 2 F__law_one) := ok__law_one (k := 1) F T.md ((w__law_draw T).mono (by decide))
theorem w__law_one {P : Program} {w : World} {K : PySem.W.Frag} {mg : Str → Option Value} {base : Heap} {aPaidError aBadNever aBadGoal aBadHints : Addr} (T : Tx K mg aPaidError aBadNever aBadGoal aBadHints) : FnI P w K mg base (ctb aPaidError aBadNever aBadGoal aBadHints) 2 "_law_one" ["well", "some"] F__law_one := T.d__law_one.fn (fun F => o__law_one T F)
theorem o__law_is_int {P : Program} {w : World} {K : PySem.W.Frag} {mg : Str → Option Value} {base : Heap} {aPaidError aBadNever aBadGoal aBadHints : Addr} (T : Tx K mg aPaidError aBadNever aBadGoal aBadHints) {fa : Addr} {fd : FuncData} (F : Fun K "_law_is_int" "_law_is_int" s__law_is_int fa fd) : FnOk P w K mg base (L2.CX P w) 1 fa fd ["x"] (spM K (ctb aPaidError aBadNever aBadGoal aBadHints) 1 F__law_is_int) := ok__law_is_int (k := 0) F T.md
theorem w__law_is_int {P : Program} {w : World} {K : PySem.W.Frag} {mg : Str → Option Value} {base : Heap} {aPaidError aBadNever aBadGoal aBadHints : Addr} (T : Tx K mg aPaidError aBadNever aBadGoal aBadHints) : FnI P w K mg base (ctb aPaidError aBadNever aBadGoal aBadHints) 1 "_law_is_int" ["x"] F__law_is_int := T.d__law_is_int.fn (fun F => o__law_is_int T F)
theorem o__law_rest {P : Program} {w : World} {K : PySem.W.Frag} {mg : Str → Option Value} {base : Heap} {aPaidError aBadNever aBadGoal aBadHints : Addr} (T : Tx K mg aPaidError aBadNever aBadGoal aBadHints) {fa : Addr} {fd : FuncData} (F : Fun K "_law_rest" "_law_rest" s__law_rest fa fd) : FnOk P w K mg base (L2.CX P w) 1 fa fd ["goal", "hints", "scale", "multipliers"] (spM K (ctb aPaidError aBadNever aBadGoal aBadHints) 4 F__law_rest) := ok__law_rest (k := 0) F T.md
theorem w__law_rest {P : Program} {w : World} {K : PySem.W.Frag} {mg : Str → Option Value} {base : Heap} {aPaidError aBadNever aBadGoal aBadHints : Addr} (T : Tx K mg aPaidError aBadNever aBadGoal aBadHints) : FnI P w K mg base (ctb aPaidError aBadNever aBadGoal aBadHints) 1 "_law_rest" ["goal", "hints", "scale", "multipliers"] F__law_rest := T.d__law_rest.fn (fun F => o__law_rest T F)
theorem o__law_shows {P : Program} {w : World} {K : PySem.W.Frag} {mg : Str → Option Value} {base : Heap} {aPaidError aBadNever aBadGoal aBadHints : Addr} (T : Tx K mg aPaidError aBadNever aBadGoal aBadHints) {fa : Addr} {fd : FuncData} (F : Fun K "_law_shows" "_law_shows" s__law_shows fa fd) : FnOk P w K mg base (L2.CX P w) 2 fa fd ["never", "goal", "hints", "thing"] (spM K (ctb aPaidError aBadNever aBadGoal aBadHints) 4 F__law_shows) := ok__law_shows (k := 1) F T.md ((w__law_is_int T).mono (by decide)) ((w__law_rest T).mono (by decide))
theorem w__law_shows {P : Program} {w : World} {K : PySem.W.Frag} {mg : Str → Option Value} {base : Heap} {aPaidError aBadNever aBadGoal aBadHints : Addr} (T : Tx K mg aPaidError aBadNever aBadGoal aBadHints) : FnI P w K mg base (ctb aPaidError aBadNever aBadGoal aBadHints) 2 "_law_shows" ["never", "goal", "hints", "thing"] F__law_shows := T.d__law_shows.fn (fun F => o__law_shows T F)
theorem o__law_by {P : Program} {w : World} {K : PySem.W.Frag} {mg : Str → Option Value} {base : Heap} {aPaidError aBadNever aBadGoal aBadHints : Addr} (T : Tx K mg aPaidError aBadNever aBadGoal aBadHints) {fa : Addr} {fd : FuncData} (F : Fun K "_law_by" "_law_by" s__law_by fa fd) : FnOk P w K mg base (L2.CX P w) 2 fa fd ["well"] (spM K (ctb aPaidError aBadNever aBadGoal aBadHints) 1 F__law_by) := ok__law_by (k := 1) F T.md ((w__law_draw T).mono (by decide))
theorem w__law_by {P : Program} {w : World} {K : PySem.W.Frag} {mg : Str → Option Value} {base : Heap} {aPaidError aBadNever aBadGoal aBadHints : Addr} (T : Tx K mg aPaidError aBadNever aBadGoal aBadHints) : FnI P w K mg base (ctb aPaidError aBadNever aBadGoal aBadHints) 2 "_law_by" ["well"] F__law_by := T.d__law_by.fn (fun F => o__law_by T F)
theorem o__law_atoms {P : Program} {w : World} {K : PySem.W.Frag} {mg : Str → Option Value} {base : Heap} {aPaidError aBadNever aBadGoal aBadHints : Addr} (T : Tx K mg aPaidError aBadNever aBadGoal aBadHints) {fa : Addr} {fd : FuncData} (F : Fun K "_law_atoms" "_law_atoms" s__law_atoms fa fd) : FnOk P w K mg base (L2.CX P w) 3 fa fd ["well"] (spM K (ctb aPaidError aBadNever aBadGoal aBadHints) 1 F__law_atoms) := ok__law_atoms (k := 2) F T.md ((w__law_draw T).mono (by decide)) ((w__law_one T).mono (by decide))
theorem w__law_atoms {P : Program} {w : World} {K : PySem.W.Frag} {mg : Str → Option Value} {base : Heap} {aPaidError aBadNever aBadGoal aBadHints : Addr} (T : Tx K mg aPaidError aBadNever aBadGoal aBadHints) : FnI P w K mg base (ctb aPaidError aBadNever aBadGoal aBadHints) 3 "_law_atoms" ["well"] F__law_atoms := T.d__law_atoms.fn (fun F => o__law_atoms T F)
theorem o__law_drawn_form {P : Program} {w : World} {K : PySem.W.Frag} {mg : Str → Option Value} {base : Heap} {aPaidError aBadNever aBadGoal aBadHints : Addr} (T : Tx K mg aPaidError aBadNever aBadGoal aBadHints) {fa : Addr} {fd : FuncData} (F : Fun K "_law_drawn_form" "_law_drawn_form" s__law_drawn_form fa fd) : FnOk P w K mg base (L2.CX P w) 3 fa fd ["well", "atoms"] (spM K (ctb aPaidError aBadNever aBadGoal aBadHints) 2 F__law_drawn_form) := ok__law_drawn_form (k := 2) F T.md ((w__law_draw T).mono (by decide)) ((w__law_by T).mono (by decide))
theorem w__law_drawn_form {P : Program} {w : World} {K : PySem.W.Frag} {mg : Str → Option Value} {base : Heap} {aPaidError aBadNever aBadGoal aBadHints : Addr} (T : Tx K mg aPaidError aBadNever aBadGoal aBadHints) : FnI P w K mg base (ctb aPaidError aBadNever aBadGoal aBadHints) 3 "_law_drawn_form" ["well", "atoms"] F__law_drawn_form := T.d__law_drawn_form.fn (fun F => o__law_drawn_form T F)
theorem o__law_origin {P : Program} {w : World} {K : PySem.W.Frag} {mg : Str → Option Value} {base : Heap} {aPaidError aBadNever aBadGoal aBadHints : Addr} (T : Tx K mg aPaidError aBadNever aBadGoal aBadHints) {fa : Addr} {fd : FuncData} (F : Fun K "_law_origin" "_law_origin" s__law_origin fa fd) : FnOk P w K mg base (L2.CX P w) 2 fa fd ["well"] (spM K (ctb aPaidError aBadNever aBadGoal aBadHints) 1 F__law_origin) := ok__law_origin (k := 1) F T.md ((w__law_draw T).mono (by decide))
theorem w__law_origin {P : Program} {w : World} {K : PySem.W.Frag} {mg : Str → Option Value} {base : Heap} {aPaidError aBadNever aBadGoal aBadHints : Addr} (T : Tx K mg aPaidError aBadNever aBadGoal aBadHints) : FnI P w K mg base (ctb aPaidError aBadNever aBadGoal aBadHints) 2 "_law_origin" ["well"] F__law_origin := T.d__law_origin.fn (fun F => o__law_origin T F)
theorem o__law_sum_of {P : Program} {w : World} {K : PySem.W.Frag} {mg : Str → Option Value} {base : Heap} {aPaidError aBadNever aBadGoal aBadHints : Addr} (T : Tx K mg aPaidError aBadNever aBadGoal aBadHints) {fa : Addr} {fd : FuncData} (F : Fun K "_law_sum_of" "_law_sum_of" s__law_sum_of fa fd) : FnOk P w K mg base (L2.CX P w) 1 fa fd ["const", "sums"] (spM K (ctb aPaidError aBadNever aBadGoal aBadHints) 2 F__law_sum_of) := ok__law_sum_of (k := 0) F T.md
theorem w__law_sum_of {P : Program} {w : World} {K : PySem.W.Frag} {mg : Str → Option Value} {base : Heap} {aPaidError aBadNever aBadGoal aBadHints : Addr} (T : Tx K mg aPaidError aBadNever aBadGoal aBadHints) : FnI P w K mg base (ctb aPaidError aBadNever aBadGoal aBadHints) 1 "_law_sum_of" ["const", "sums"] F__law_sum_of := T.d__law_sum_of.fn (fun F => o__law_sum_of T F)
theorem o__law_made {P : Program} {w : World} {K : PySem.W.Frag} {mg : Str → Option Value} {base : Heap} {aPaidError aBadNever aBadGoal aBadHints : Addr} (T : Tx K mg aPaidError aBadNever aBadGoal aBadHints) {fa : Addr} {fd : FuncData} (F : Fun K "_law_made" "_law_made" s__law_made fa fd) : FnOk P w K mg base (L2.CX P w) 4 fa fd ["well", "never", "atoms"] (spM K (ctb aPaidError aBadNever aBadGoal aBadHints) 3 F__law_made) := ok__law_made (k := 3) F T.md ((w__law_draw T).mono (by decide)) ((w__law_drawn_form T).mono (by decide)) ((w__law_origin T).mono (by decide)) ((w__law_by T).mono (by decide)) ((w__law_rest T).mono (by decide)) ((w__law_sum_of T).mono (by decide))
theorem w__law_made {P : Program} {w : World} {K : PySem.W.Frag} {mg : Str → Option Value} {base : Heap} {aPaidError aBadNever aBadGoal aBadHints : Addr} (T : Tx K mg aPaidError aBadNever aBadGoal aBadHints) : FnI P w K mg base (ctb aPaidError aBadNever aBadGoal aBadHints) 4 "_law_made" ["well", "never", "atoms"] F__law_made := T.d__law_made.fn (fun F => o__law_made T F)
theorem o__law_spoilt {P : Program} {w : World} {K : PySem.W.Frag} {mg : Str → Option Value} {base : Heap} {aPaidError aBadNever aBadGoal aBadHints : Addr} (T : Tx K mg aPaidError aBadNever aBadGoal aBadHints) {fa : Addr} {fd : FuncData} (F : Fun K "_law_spoilt" "_law_spoilt" s__law_spoilt fa fd) : FnOk P w K mg base (L2.CX P w) 3 fa fd ["well", "never", "goal", "hints", "showing", "atoms"] (spM K (ctb aPaidError aBadNever aBadGoal aBadHints) 6 F__law_spoilt) := ok__law_spoilt (k := 2) F T.md ((w__law_draw T).mono (by decide)) ((w__law_by T).mono (by decide))
theorem w__law_spoilt {P : Program} {w : World} {K : PySem.W.Frag} {mg : Str → Option Value} {base : Heap} {aPaidError aBadNever aBadGoal aBadHints : Addr} (T : Tx K mg aPaidError aBadNever aBadGoal aBadHints) : FnI P w K mg base (ctb aPaidError aBadNever aBadGoal aBadHints) 3 "_law_spoilt" ["well", "never", "goal", "hints", "showing", "atoms"] F__law_spoilt := T.d__law_spoilt.fn (fun F => o__law_spoilt T F)
theorem o__law_long {P : Program} {w : World} {K : PySem.W.Frag} {mg : Str → Option Value} {base : Heap} {aPaidError aBadNever aBadGoal aBadHints : Addr} (T : Tx K mg aPaidError aBadNever aBadGoal aBadHints) {fa : Addr} {fd : FuncData} (F : Fun K "_law_long" "_law_long" s__law_long fa fd) : FnOk P w K mg base (L2.CX P w) 8 fa fd ["well"] (spM K (ctb aPaidError aBadNever aBadGoal aBadHints) 1 F__law_long) := ok__law_long (k := 7) F T.md ((w__law_draw T).mono (by decide)) ((w_is_shown T).mono (by decide))
theorem w__law_long {P : Program} {w : World} {K : PySem.W.Frag} {mg : Str → Option Value} {base : Heap} {aPaidError aBadNever aBadGoal aBadHints : Addr} (T : Tx K mg aPaidError aBadNever aBadGoal aBadHints) : FnI P w K mg base (ctb aPaidError aBadNever aBadGoal aBadHints) 8 "_law_long" ["well"] F__law_long := T.d__law_long.fn (fun F => o__law_long T F)
theorem o__law_error {P : Program} {w : World} {K : PySem.W.Frag} {mg : Str → Option Value} {base : Heap} {aPaidError aBadNever aBadGoal aBadHints : Addr} (T : Tx K mg aPaidError aBadNever aBadGoal aBadHints) {fa : Addr} {fd : FuncData} (F : Fun K "_law_error" "_law_error" s__law_error fa fd) : FnOk P w K mg base (L2.CX P w) 8 fa fd ["never", "goal", "hints"] (spM K (ctb aPaidError aBadNever aBadGoal aBadHints) 3 F__law_error) := ok__law_error (k := 7) F T.md ((wK_is_shown_thing_hints_goal_never T).mono (by decide))
theorem w__law_error {P : Program} {w : World} {K : PySem.W.Frag} {mg : Str → Option Value} {base : Heap} {aPaidError aBadNever aBadGoal aBadHints : Addr} (T : Tx K mg aPaidError aBadNever aBadGoal aBadHints) : FnI P w K mg base (ctb aPaidError aBadNever aBadGoal aBadHints) 8 "_law_error" ["never", "goal", "hints"] F__law_error := T.d__law_error.fn (fun F => o__law_error T F)
theorem o__law_errors_right {P : Program} {w : World} {K : PySem.W.Frag} {mg : Str → Option Value} {base : Heap} {aPaidError aBadNever aBadGoal aBadHints : Addr} (T : Tx K mg aPaidError aBadNever aBadGoal aBadHints) {fa : Addr} {fd : FuncData} (F : Fun K "_law_errors_right" "_law_errors_right" s__law_errors_right fa fd) : FnOk P w K mg base (L2.CX P w) 9 fa fd ["well", "goal", "hints"] (spM K (ctb aPaidError aBadNever aBadGoal aBadHints) 3 F__law_errors_right) := ok__law_errors_right (k := 8) F T.md ((w__law_one T).mono (by decide)) ((w__law_draw T).mono (by decide)) ((w__law_error T).mono (by decide))
theorem w__law_errors_right {P : Program} {w : World} {K : PySem.W.Frag} {mg : Str → Option Value} {base : Heap} {aPaidError aBadNever aBadGoal aBadHints : Addr} (T : Tx K mg aPaidError aBadNever aBadGoal aBadHints) : FnI P w K mg base (ctb aPaidError aBadNever aBadGoal aBadHints) 9 "_law_errors_right" ["well", "goal", "hints"] F__law_errors_right := T.d__law_errors_right.fn (fun F => o__law_errors_right T F)
theorem o_law {P : Program} {w : World} {K : PySem.W.Frag} {mg : Str → Option Value} {base : Heap} {aPaidError aBadNever aBadGoal aBadHints : Addr} (T : Tx K mg aPaidError aBadNever aBadGoal aBadHints) {fa : Addr} {fd : FuncData} (F : Fun K "law" "law" s_law fa fd) : FnOk P w K mg base (L2.CX P w) 10 fa fd ["script"] (spM K (ctb aPaidError aBadNever aBadGoal aBadHints) 1 F_law) := ok_law (k := 9) F T.md ((w__law_well T).mono (by decide)) ((w__law_draw T).mono (by decide)) ((w__law_atoms T).mono (by decide)) ((w__law_made T).mono (by decide)) ((w_is_shown T).mono (by decide)) ((w__law_spoilt T).mono (by decide)) ((w__law_shows T).mono (by decide)) ((w__law_long T).mono (by decide)) ((w__law_errors_right T).mono (by decide))
theorem w_law {P : Program} {w : World} {K : PySem.W.Frag} {mg : Str → Option Value} {base : Heap} {aPaidError aBadNever aBadGoal aBadHints : Addr} (T : Tx K mg aPaidError aBadNever aBadGoal aBadHints) : FnI P w K mg base (ctb aPaidError aBadNever aBadGoal aBadHints) 10 "law" ["script"] F_law := T.d_law.fn (fun F => o_law T F)
theorem law_ok {P : Program} {w : World} {K : PySem.W.Frag} {mg : Str → Option Value} {base : Heap} {aPaidError aBadNever aBadGoal aBadHints : Addr} (T : Tx K mg aPaidError aBadNever aBadGoal aBadHints) {fa : Addr} {fd : FuncData} (F : Fun K "law" "law" s_law fa fd) : FnOk P w K mg base (L2.CX P w) 60 fa fd ["script"] (spM K (ctb aPaidError aBadNever aBadGoal aBadHints) 1 F_law) := (o_law T F).mono (by decide)
end K60
namespace K60
open PySem PySem.Spec L2 PI
open PyProof.Rows hiding St
/-! ### atoms, forms, hints -/
abbrev Atm := Int × Int × Int
def atomD (a : Atm) : D := .tup [.int a.1, .int a.2.1, .int a.2.2]
def okA (a : Atm) : Prop := (a.1 = 0 ∧ -1 ≤ a.2.1 ∧ a.2.1 ≤ 399 ∧ 0 ≤ a.2.2 ∧ a.2.2 ≤ 12) ∨ (a.1 = 1 ∧ 0 ≤ a.2.1 ∧ a.2.1 ≤ 239 ∧ 0 ≤ a.2.2 ∧ a.2.2 ≤ 5)
instance (a : Atm) : Decidable (okA a) := by unfold okA; infer_instance
abbrev Trm := Atm × Int
def termD (t : Trm) : D := .tup [atomD t.1, .int t.2]
abbrev Frm := Int × List Trm
def formD (f : Frm) : D := .tup [.int f.1, .tup (f.2.map termD)]
/-- strictly less, place by place -/
def ltA (a b : Atm) : Prop := a.1 < b.1 ∨ (a.1 = b.1 ∧ (a.2.1 < b.2.1 ∨ (a.2.1 = b.2.1 ∧ a.2.2 < b.2.2)))
instance (a b : Atm) : Decidable (ltA a b) := by unfold ltA; infer_instance
/-- below B -/
def bd (B x : Int) : Prop := -B < x ∧ x < B
structure okF (B : Int) (f : Frm) : Prop where
  c : bd B f.1
  t : ∀ t ∈ f.2, okA t.1 ∧ t.2 ≠ 0 ∧ bd B t.2
  o : f.2.Pairwise fun s t => ltA s.1 t.1
  n : f.2.length ≤ 40
def origD : Option (Int × Int) → D
  | none => .non
  | some p => .tup [.int p.1, .int p.2]
def okO : Option (Int × Int) → Prop
  | none => True
  | some p => (0 ≤ p.1 ∧ p.1 ≤ 239) ∧ 0 ≤ p.2 ∧ p.2 ≤ 29
structure Hnt where
  f : Frm
  ex : Bool
  o : Option (Int × Int)
def hintD (x : Hnt) : D := .tup [formD x.f, .bl x.ex, origD x.o]
def okH (B : Int) (x : Hnt) : Prop := okF B x.f ∧ okO x.o
def neverD (ns : List Int) : D := .tup (ns.map D.int)
def okN (ns : List Int) : Prop := (∀ n ∈ ns, 1 ≤ n ∧ n ≤ 12) ∧ ns.Pairwise (· < ·) ∧ ns.length ≤ 12
theorem atI_of {α : Type} {xs : List α} {i : Nat} {x : α} (e : xs[i]? = some x) : atI xs (i : Int) = some x := atI_nat e
theorem map_at {α β : Type} {f : α → β} {xs : List α} {i : Nat} {x : α} (e : xs[i]? = some x) : (xs.map f)[i]? = some (f x) := by rw [List.getElem?_map, e]; rfl
section
variable {h : Hh}
theorem is_int_int (i : Int) : F_is_int [.int i] h = .ok (.bl true) h := by
  simp -implicitDefEqProofs [F_is_int, mFn, m_is_int, tyD, subT]
theorem is_int_ty {d : D} {t : String} (e : tyD h d = some t) (n : t ≠ "int") : F_is_int [d] h = .ok (.bl false) h := by
  by_cases h2 : t = "bool"
  · subst h2; simp -implicitDefEqProofs [F_is_int, mFn, m_is_int, e, subT]
  · simp -implicitDefEqProofs [F_is_int, mFn, m_is_int, e, subT, n, h2]
theorem within_int (x lo hi : Int) : F_within [.int x, .int lo, .int hi] h = .ok (.bl (decide (lo ≤ x ∧ x ≤ hi))) h := by
  have e := is_int_int (h := h) x
  by_cases h1 : lo ≤ x <;> by_cases h2 : x ≤ hi <;> simp -implicitDefEqProofs [F_within, mFn, m_within, e, h1, h2]
theorem within_ty {d : D} {t : String} {lo hi : D} (e : tyD h d = some t) (n : t ≠ "int") : F_within [d, lo, hi] h = .ok (.bl false) h := by
  have e := is_int_ty (h := h) e n
  simp -implicitDefEqProofs [F_within, mFn, m_within, e]
theorem is_atom_eq {a : Atm} (ok : okA a) : F_is_atom [atomD a] h = .ok (.bl true) h := by
  unfold F_is_atom
  have w : ∀ x lo hi : Int, F_within [.int x, .int lo, .int hi] h = .ok (.bl (decide (lo ≤ x ∧ x ≤ hi))) h := within_int
  generalize F_within = gw at w
  rcases ok with ⟨h1, h2⟩ | ⟨h1, h2⟩
  · simp -implicitDefEqProofs [mFn, m_is_atom, atomD, tyD, subT, w, h1, h2]
  · simp -implicitDefEqProofs [mFn, m_is_atom, atomD, tyD, subT, w, h1, h2]
theorem geL_atom (a b : Atm) : geL [a.1, a.2.1, a.2.2] [b.1, b.2.1, b.2.2] = !decide (ltA a b) := by
  rw [geL3]
  by_cases h1 : a.1 = b.1
  · by_cases h2 : a.2.1 = b.2.1
    · have e : ltA a b ↔ a.2.2 < b.2.2 := by unfold ltA; omega
      by_cases h3 : a.2.2 < b.2.2
      · simp [h1, h2, e, h3]
      · simp [h1, h2, e, h3]; omega
    · have e : ltA a b ↔ a.2.1 < b.2.1 := by unfold ltA; omega
      by_cases h3 : a.2.1 < b.2.1
      · simp [h1, h2, e, h3]
      · simp [h1, h2, e, h3]; omega
  · have e : ltA a b ↔ a.1 < b.1 := by unfold ltA; omega
    by_cases h3 : a.1 < b.1
    · simp [h1, e, h3]
    · simp [h1, e, h3]; omega
theorem oGeA_atom (a b : Atm) : oGeA (atomD a) (atomD b) h = some (.bl (!decide (ltA a b)), h) := by
  show (match intsD [.int a.1, .int a.2.1, .int a.2.2], intsD [.int b.1, .int b.2.1, .int b.2.2] with
    | some ns, some ms => some (D.bl (geL ns ms), h)
    | _, _ => none) = _
  rw [← geL_atom]
  rfl
theorem ty_tup {xs : List D} : tyD h (.tup xs) = some "tuple" := rfl
theorem is_form_eq {B : Int} {f : Frm} (ok : okF B f) : F_is_form [formD f] h = .ok (.bl true) h := by
  have w : spec (F_is_form [formD f] h) (fun d h' => d = .bl true ∧ h' = h) := by
    unfold F_is_form
    have A : ∀ a, okA a → F_is_atom [atomD a] h = .ok (.bl true) h := fun a k => is_atom_eq k
    have I : ∀ i, F_is_int [.int i] h = .ok (.bl true) h := is_int_int
    generalize F_is_atom = ga at A
    generalize F_is_int = gi at I
    apply wO_fn
    have er : f.2.length < 1000000000 := by have := ok.n; omega
    simp -implicitDefEqProofs [m_is_form, formD, ty_tup, subT, I, er]
    refine wS.loop (fun i ρ h' => h' = h ∧ ∃ o2 o3, ρ = [some (.tup [.int f.1, .tup (f.2.map termD)]), some (.tup (f.2.map termD)), o2, o3]) ⟨rfl, none, none, rfl⟩ ?_ ?_
    · rintro _ h' ⟨rfl, o2, o3, rfl⟩
      exact ⟨jRng_end, by simp -implicitDefEqProofs; exact ⟨rfl, rfl⟩⟩
    · rintro i _ h' hi ⟨rfl, o2, o3, rfl⟩
      refine ⟨_, _, _, jRng_at hi, rfl, ?_⟩
      obtain ⟨t, et⟩ : ∃ t, f.2[i]? = some t := ⟨_, List.getElem?_eq_getElem hi⟩
      obtain ⟨okt, nz, _⟩ := ok.t t (List.mem_of_getElem? et)
      have a1 := A _ okt
      have i1 := I t.2
      have g1 : atI (f.2.map termD) (i : Int) = some (termD t) := atI_of (map_at et)
      have t0 : oGet (termD t) (.int 0) h' = some (atomD t.1, h') := by simp [termD]
      have t1 : oGet (termD t) (.int 1) h' = some (.int t.2, h') := by simp [termD]
      have tt : tyD h' (termD t) = some "tuple" := rfl
      have tl : bLen [termD t] h' = some (.int 2, h') := rfl
      by_cases hz : i = 0
      · subst hz
        have g1' : atI (f.2.map termD) 0 = some (termD t) := g1
        simp -implicitDefEqProofs [g1', a1, i1, t0, t1, tt, tl, subT, nz, oGt]
        exact ⟨rfl, _, _, rfl⟩
      · obtain ⟨s, es⟩ : ∃ s, f.2[i - 1]? = some s := ⟨_, List.getElem?_eq_getElem (by omega)⟩
        have g2 : atI (f.2.map termD) ((i : Int) - 1) = some (termD s) := by
          have e : (i : Int) - 1 = ((i - 1 : Nat) : Int) := by omega
          rw [e]
          exact atI_of (map_at es)
        have s0 : oGet (termD s) (.int 0) h' = some (atomD s.1, h') := by simp [termD]
        have lt : ltA s.1 t.1 := by
          have := List.pairwise_iff_getElem.mp ok.o (i - 1) i (by omega) hi (by omega)
          rw [List.getElem?_eq_getElem (by omega)] at es et
          cases es
          cases et
          exact this
        have ge := oGeA_atom (h := h') s.1 t.1
        simp only [lt, decide_true, Bool.not_true] at ge
        have pos : 0 < (i : Int) := by omega
        simp -implicitDefEqProofs [g1, g2, a1, i1, t0, t1, s0, tt, tl, subT, nz, oGt, ge, pos]
        exact ⟨rfl, _, _, rfl⟩
  obtain ⟨_, _, e, rfl, rfl⟩ := w.ex
  exact e
theorem is_origin_eq {o : Option (Int × Int)} (ok : okO o) : F_is_origin [origD o] h = .ok (.bl true) h := by
  unfold F_is_origin
  have w : ∀ x lo hi : Int, F_within [.int x, .int lo, .int hi] h = .ok (.bl (decide (lo ≤ x ∧ x ≤ hi))) h := within_int
  generalize F_within = gw at w
  cases o with
  | none => simp -implicitDefEqProofs [mFn, m_is_origin, origD, PI.isNon]
  | some p =>
    obtain ⟨⟨a1, a2⟩, a3, a4⟩ := ok
    simp -implicitDefEqProofs [mFn, m_is_origin, origD, PI.isNon, tyD, subT, w, a1, a2, a3, a4]
theorem is_hint_eq {B : Int} {x : Hnt} (ok : okH B x) : F_is_hint [hintD x] h = .ok (.bl true) h := by
  unfold F_is_hint
  have e1 := is_form_eq (h := h) ok.1
  have e2 := is_origin_eq (h := h) ok.2
  generalize F_is_form = gf at e1
  generalize F_is_origin = go at e2
  simp -implicitDefEqProofs [mFn, m_is_hint, hintD, tyD, subT, e1, e2]
theorem need_goal_eq {B : Int} {f : Frm} (ok : okF B f) : F_need_goal [formD f] h = .ok .non h := by
  unfold F_need_goal
  have e1 := is_form_eq (h := h) ok
  generalize F_is_form = gf at e1
  simp -implicitDefEqProofs [mFn, m_need_goal, e1]
theorem need_hints_eq {B : Int} {xs : List Hnt} (ok : ∀ x ∈ xs, okH B x) (hl : xs.length ≤ 8000) : F_need_hints [.tup (xs.map hintD)] h = .ok .non h := by
  have w : spec (F_need_hints [.tup (xs.map hintD)] h) (fun d h' => d = .non ∧ h' = h) := by
    unfold F_need_hints
    have A : ∀ x ∈ xs, F_is_hint [hintD x] h = .ok (.bl true) h := fun x m => is_hint_eq (ok x m)
    generalize F_is_hint = gh at A
    apply wO_fn
    have e8 : ¬ 8000 < (xs.length : Int) := by omega
    simp -implicitDefEqProofs [m_need_hints, ty_tup, subT, oGt, e8]
    refine wS.loop (fun i ρ h' => h' = h ∧ ∃ o1, ρ = [some (.tup (xs.map hintD)), o1]) ⟨rfl, none, rfl⟩ ?_ ?_
    · rintro _ h' ⟨rfl, o1, rfl⟩
      exact ⟨by simp, by simp -implicitDefEqProofs; exact ⟨rfl, rfl⟩⟩
    · rintro i _ h' hi ⟨rfl, o1, rfl⟩
      obtain ⟨x, ex⟩ : ∃ x, xs[i]? = some x := ⟨_, List.getElem?_eq_getElem hi⟩
      refine ⟨hintD x, _, _, by simp [ex], rfl, ?_⟩
      simp -implicitDefEqProofs [A x (List.mem_of_getElem? ex)]
      exact ⟨rfl, _, rfl⟩
  obtain ⟨_, _, e, rfl, rfl⟩ := w.ex
  exact e
theorem need_never_eq {ns : List Int} (ok : okN ns) : F_need_never [neverD ns] h = .ok .non h := by
  have w : spec (F_need_never [neverD ns] h) (fun d h' => d = .non ∧ h' = h) := by
    unfold F_need_never neverD
    have W : ∀ x lo hi : Int, F_within [.int x, .int lo, .int hi] h = .ok (.bl (decide (lo ≤ x ∧ x ≤ hi))) h := within_int
    generalize F_within = gw at W
    apply wO_fn
    have := ok.2.2
    have e8 : ¬ 12 < (ns.length : Int) := by omega
    have er : ns.length < 1000000000 := by omega
    simp -implicitDefEqProofs [m_need_never, ty_tup, subT, oGt, e8, er]
    refine wS.loop (fun i ρ h' => h' = h ∧ ∃ o1, ρ = [some (.tup (ns.map D.int)), o1]) ⟨rfl, none, rfl⟩ ?_ ?_
    · rintro _ h' ⟨rfl, o1, rfl⟩
      exact ⟨jRng_end, by simp -implicitDefEqProofs; exact ⟨rfl, rfl⟩⟩
    · rintro i _ h' hi ⟨rfl, o1, rfl⟩
      refine ⟨_, _, _, jRng_at hi, rfl, ?_⟩
      obtain ⟨n, en⟩ : ∃ n, ns[i]? = some n := ⟨_, List.getElem?_eq_getElem hi⟩
      obtain ⟨b1, b2⟩ := ok.1 n (List.mem_of_getElem? en)
      have g1 : atI (ns.map D.int) (i : Int) = some (.int n) := atI_of (map_at en)
      by_cases hz : i = 0
      · subst hz
        have g1' : atI (ns.map D.int) 0 = some (.int n) := g1
        simp -implicitDefEqProofs [g1', W, b1, b2, oGt]
        exact ⟨rfl, _, rfl⟩
      · obtain ⟨m, em⟩ : ∃ m, ns[i - 1]? = some m := ⟨_, List.getElem?_eq_getElem (by omega)⟩
        have g2 : atI (ns.map D.int) ((i : Int) - 1) = some (.int m) := by
          have e : (i : Int) - 1 = ((i - 1 : Nat) : Int) := by omega
          rw [e]
          exact atI_of (map_at em)
        have lt : m < n := by
          have := List.pairwise_iff_getElem.mp ok.2.1 (i - 1) i (by omega) hi (by omega)
          rw [List.getElem?_eq_getElem (by omega)] at en em
          cases en
          cases em
          exact this
        have ge : oGeA (.int m) (.int n) h' = some (.bl false, h') := by
          have : ¬ n ≤ m := by omega
          show some (D.bl (decide (n ≤ m)), h') = _
          simp [this]
        have pos : 0 < (i : Int) := by omega
        simp -implicitDefEqProofs [g1, g2, W, b1, b2, oGt, ge, pos]
        exact ⟨rfl, _, rfl⟩
  obtain ⟨_, _, e, rfl, rfl⟩ := w.ex
  exact e
end
end K60
namespace K60
open PySem PySem.Spec L2 PI
open PyProof.Rows hiding St
/-! ### drawing -/
def welD (g : Nat) (m t : Int) : Ob := .dct [(.inr "great", .ref g), (.inr "mix", .int m), (.inr "turn", .int t)]
structure IsWell (h : Hh) (w g n : Nat) : Prop where
  d : ∃ mix turn : Int, h[w]? = some (welD g mix turn) ∧ (0 ≤ mix ∧ mix < 2147483647) ∧ 0 ≤ turn ∧ turn ≤ n
  l : ∃ gs : List Int, h[g]? = some (.lst (gs.map D.int)) ∧ gs.length ≤ 63
abbrev Wl (w g : Nat) : Nat → Prop := fun i => i = w ∨ i = g
section
variable {h h1 : Hh} {w g n : Nat}
theorem IsWell.ne (W : IsWell h w g n) : w ≠ g := fun z => by
  obtain ⟨_, _, e, _⟩ := W.d
  obtain ⟨_, f, _⟩ := W.l
  rw [z, f] at e
  cases e
theorem IsWell.ext (W : IsWell h w g n) (E : Ext noS h h1) : IsWell h1 w g n := by
  obtain ⟨m, t, e, k⟩ := W.d
  obtain ⟨gs, f, l⟩ := W.l
  exact ⟨⟨m, t, E.get e, k⟩, gs, E.get f, l⟩
theorem IsWell.put {r : Nat} {o : Ob} (W : IsWell h w g n) (nw : ¬ Wl w g r) : IsWell (h.set r o) w g n := by
  obtain ⟨m, t, e, k⟩ := W.d
  obtain ⟨gs, f, l⟩ := W.l
  exact ⟨⟨m, t, set_ne e (fun z => nw (.inl z.symm)), k⟩, gs, set_ne f (fun z => nw (.inr z.symm)), l⟩
theorem IsWell.up {m : Nat} (W : IsWell h w g n) (l : n ≤ m) : IsWell h w g m := by
  obtain ⟨m', t, e, k, t0, t1⟩ := W.d
  exact ⟨⟨m', t, e, k, t0, by omega⟩, W.l⟩
theorem toPys_ints (m : Nat) (gs : List Int) : toPys h m (gs.map D.int) = some (gs.map PyData.int) := toPys_map fun x _ => by simp [toPy]
theorem canAll_ints (gs : List Int) : PyData.canLayAll0 (gs.map PyData.int) = true := canAll_map gs fun x => rfl
theorem lPop0 {x : D} {xs : List D} (e : h[g]? = some (.lst (x :: xs))) : lPopAt (.ref g) [.int 0] h = some (x, h.set g (.lst xs)) := by
  have e1 : seqIndex? 0 (xs.length + 1) = some 0 := by simp [seqIndex?]
  simp -implicitDefEqProofs [lPopAt, e, e1]
theorem lIns0 {d : D} {xs : List D} (e : h[g]? = some (.lst xs)) (l : xs.length < 1000) : lInsert (.ref g) [.int 0, d] h = some (.non, h.set g (.lst (d :: xs))) := by
  have : xs.length < sizeLine := Nat.lt_of_lt_of_le l (by decide)
  simp -implicitDefEqProofs [lInsert, e, this]
section
variable {m t t' : Int} (e : h[w]? = some (welD g m t))
include e
theorem w_great : oGet (.ref w) (.str "great") h = some (.ref g, h) := by rw [oGet_dct e]; rfl
theorem w_mix : oGet (.ref w) (.str "mix") h = some (.int m, h) := by rw [oGet_dct e]; rfl
theorem w_turn : oGet (.ref w) (.str "turn") h = some (.int t, h) := by rw [oGet_dct e]; rfl
theorem w_putTurn : oPut (.ref w) (.str "turn") (.int t') h = some (h.set w (welD g m t')) := by rw [oPut_dct e (show 3 < sizeLine by decide)]; rfl
theorem w_putMix : oPut (.ref w) (.str "mix") (.int t') h = some (h.set w (welD g t' t)) := by rw [oPut_dct e (show 3 < sizeLine by decide)]; rfl
end
theorem draw_ok {many : Int} (W : IsWell h w g n) (m0 : 0 < many) (m1 : many < 1073741824) (hn : n < 1000000000) :
    spec (F__law_draw [.ref w, .int many] h) fun d h' => ∃ x, d = .int x ∧ (0 ≤ x ∧ x < many) ∧ IsWell h' w g (n + 1) ∧ Ext (Wl w g) h h' := by
  unfold F__law_draw
  apply wO_fn
  have ne := W.ne
  obtain ⟨mix, turn, ew, ⟨x0, x1⟩, t0, t1⟩ := W.d
  obtain ⟨gs, eg, lg⟩ := W.l
  have g1 := w_great ew
  have hx : (h ++ [Ob.lst []])[g]? = some (.lst (gs.map D.int)) := push_get eg
  have hw : (h ++ [Ob.lst []])[w]? = some (welD g mix turn) := push_get ew
  have nn := oNe_nil (h := h ++ [Ob.lst []]) hx push_new (toPys_ints 63 gs) (canAll_ints gs) (fun p hp => by
    obtain ⟨i, _, rfl⟩ := List.mem_map.mp hp
    simp [PyData.depth])
  generalize hh : h ++ [Ob.lst []] = h' at hx hw nn
  have E : Ext (Wl w g) h h' := hh ▸ .push
  have mm : 0 ≤ many := by omega
  cases gs with
  | nil =>
    have a1 := w_turn hw
    have a2 := w_putTurn (t' := turn + 1) hw
    have hw2 : (h'.set w (welD g mix (turn + 1)))[w]? = some (welD g mix (turn + 1)) := set_get hw
    have hg2 : (h'.set w (welD g mix (turn + 1)))[g]? = some (.lst []) := set_ne hx (Ne.symm ne)
    have E2 : Ext (Wl w g) h (h'.set w (welD g mix (turn + 1))) := E.setR (.inl rfl)
    generalize h'.set w (welD g mix (turn + 1)) = h2 at a2 hw2 hg2 E2
    have b1 := w_mix hw2
    have b2 := w_turn hw2
    have c1 : mulOk mix 48271 = true := mulOk_r (by omega)
    have c2 : mulOk (turn + 1) (turn + 1) = true := mulOk_b (by omega) (by omega)
    have c3 : mulOk ((turn + 1) * (turn + 1)) 69621 = true := mulOk_r (by omega)
    generalize hy : (mix * 48271 + (turn + 1) * (turn + 1) * 69621 + 11) % 2147483647 = y
    have y0 : 0 ≤ y ∧ y < 2147483647 := by omega
    have b3 := w_putMix (t' := y) hw2
    have hw3 : (h2.set w (welD g y (turn + 1)))[w]? = some (welD g y (turn + 1)) := set_get hw2
    have hg3 : (h2.set w (welD g y (turn + 1)))[g]? = some (.lst []) := set_ne hg2 (Ne.symm ne)
    have E3 : Ext (Wl w g) h (h2.set w (welD g y (turn + 1))) := E2.setR (.inl rfl)
    generalize h2.set w (welD g y (turn + 1)) = h3 at b3 hw3 hg3 E3
    have d1 := w_mix hw3
    have c4 : mulOk y y = true := mulOk_b (by omega) (by omega)
    have c5 : divOk 16 = true := divOk_n (by omega) (by omega)
    simp -implicitDefEqProofs [m__law_draw, g1, hh, nn, a1, a2, b1, b2, c1, c2, c3, hy, b3, d1, c4, c5, m0]
    exact ⟨_, rfl, ⟨Int.emod_nonneg _ (by omega), Int.emod_lt_of_pos _ m0⟩, ⟨⟨y, turn + 1, hw3, y0, by omega, by omega⟩, [], hg3, by simp⟩, E3⟩
  | cons c cs =>
    have p0 := lPop0 (h := h') hx
    have l1 : (h'.set g (.lst (cs.map D.int)))[g]? = some (.lst (cs.map D.int)) := set_get hx
    have hw2 : (h'.set g (.lst (cs.map D.int)))[w]? = some (welD g mix turn) := set_ne hw ne
    have E2 : Ext (Wl w g) h (h'.set g (.lst (cs.map D.int))) := E.setR (.inr rfl)
    generalize h'.set g (.lst (cs.map D.int)) = h2 at p0 l1 hw2 E2
    simp at lg
    have nn : oNe (D.ref g) (D.ref (List.length h)) h' = some (.bl true, h') := nn
    by_cases hc : many ≤ c
    · have i0 := lIns0 (d := .int (c / many)) l1 (by simp; omega)
      have l2 : (h2.set g (.lst (D.int (c / many) :: cs.map D.int)))[g]? = some (.lst ((c / many :: cs).map D.int)) := set_get l1
      have hw3 : (h2.set g (.lst (D.int (c / many) :: cs.map D.int)))[w]? = some (welD g mix turn) := set_ne hw2 ne
      have E3 : Ext (Wl w g) h (h2.set g (.lst (D.int (c / many) :: cs.map D.int))) := E2.setR (.inr rfl)
      generalize h2.set g (.lst (D.int (c / many) :: cs.map D.int)) = h3 at i0 l2 hw3 E3
      have c5 : divOk many = true := divOk_n m0 m1
      have hc' : decide (many ≤ c) = true := decide_eq_true hc
      simp -implicitDefEqProofs [m__law_draw, g1, hh, nn, hx, p0, oGeA, hc', l1, c5, i0, m0]
      exact ⟨_, rfl, ⟨Int.emod_nonneg _ (by omega), Int.emod_lt_of_pos _ m0⟩, ⟨⟨mix, turn, hw3, ⟨x0, x1⟩, t0, by omega⟩, _, l2, by simp; omega⟩, E3⟩
    · have hc' : decide (many ≤ c) = false := decide_eq_false hc
      simp -implicitDefEqProofs [m__law_draw, g1, hh, nn, hx, p0, oGeA, hc', l1, m0]
      exact ⟨_, rfl, ⟨Int.emod_nonneg _ (by omega), Int.emod_lt_of_pos _ m0⟩, ⟨⟨mix, turn, hw2, ⟨x0, x1⟩, t0, by omega⟩, _, l1, by omega⟩, E2⟩
theorem draw_dec {many : Int} (W : IsWell h w g n) (m0 : 0 < many ∧ many < 1073741824) (hn : n < 1000000000) :
    spec (F__law_draw [.ref w, .int many] h) fun d h' => ∃ x, d = .int x ∧ (0 ≤ x ∧ x < many) ∧ IsWell h' w g (n + 1) ∧ Ext (Wl w g) h h' := draw_ok W m0.1 m0.2 hn
theorem one_ok {r : Nat} {xs : List D} (W : IsWell h w g n) (hn : n < 1000000000) (e : h[r]? = some (.lst xs)) (x0 : xs ≠ []) (x1 : xs.length < 1000000) (r0 : ¬ Wl w g r) :
    spec (F__law_one [.ref w, .ref r] h) fun d h' => d ∈ xs ∧ IsWell h' w g (n + 1) ∧ Ext (Wl w g) h h' := by
  unfold F__law_one
  apply wO_fn
  have dr := draw_ok (many := (xs.length : Int)) W (by have := List.length_pos_iff.mpr x0; omega) (by omega) hn
  generalize F__law_draw = gd at dr
  simp -implicitDefEqProofs [m__law_one, e]
  refine wS.bind (dr) ?_
  rintro _ h1 ⟨x, rfl, xb, W1, E1⟩
  have e1 := E1.keep r _ e r0
  obtain ⟨d, ed, md⟩ := atI_some xb.1 xb.2
  simp -implicitDefEqProofs [oGet_lst e1, ed]
  exact ⟨md, W1, E1⟩
theorem by_ok (W : IsWell h w g n) (hn : n < 100000000) :
    spec (F__law_by [.ref w] h) fun d h' => ∃ x, d = .int x ∧ bd (10 ^ 32) x ∧ IsWell h' w g (n + 3) ∧ Ext (Wl w g) h h' := by
  unfold F__law_by
  apply wO_fn
  have dr := fun {h : Hh} {n : Nat} {many : Int} (W : IsWell h w g n) (m0 : 0 < many ∧ many < 1073741824) hn => draw_dec W m0 hn
  generalize F__law_draw = gd at dr
  simp -implicitDefEqProofs [m__law_by]
  refine wS.bind (dr (many := 11) W (by decide) (by omega)) ?_
  rintro _ h1 ⟨x, rfl, xb, W1, E1⟩
  simp -implicitDefEqProofs
  refine wS.bind (dr (many := 6) W1 (by decide) (by omega)) ?_
  rintro _ h2 ⟨y, rfl, yb, W2, E2⟩
  have p1 : powOk 10 30 = true := pow_ok (n := 30) (by omega)
  have p2 : powOk 10 9 = true := pow_ok (n := 9) (by omega)
  by_cases hy : y = 0
  · subst hy
    have c1 : mulOk (x - 5) 1000000000000000000000000000000 = true := mulOk_l (by omega)
    simp -implicitDefEqProofs [p1, p2, c1]
    refine wS.bind (dr (many := 1000000000) W2 (by decide) (by omega)) ?_
    rintro _ h3 ⟨z, rfl, zb, W3, E3⟩
    simp -implicitDefEqProofs
    exact ⟨_, rfl, by unfold bd; omega, W3, (E1.trans E2).trans E3⟩
  · simp -implicitDefEqProofs [hy]
    exact ⟨_, rfl, by unfold bd; omega, W2.up (by omega), E1.trans E2⟩
/-! ### atoms as data -/
def atomP (a : Atm) : PyData := .tuple [.int a.1, .int a.2.1, .int a.2.2]
def leA (a b : Atm) : Bool := !decide (ltA b a)
def keyA (a : Atm) : List Key := [.inl a.1, .inl a.2.1, .inl a.2.2]
theorem keyA_inj (a b : Atm) (e : keyA a = keyA b) : a = b := by
  obtain ⟨a1, a2, a3⟩ := a
  obtain ⟨b1, b2, b3⟩ := b
  simpa [keyA] using e
theorem keyA_D (a : Atm) : D.tup ((keyA a).map kD) = atomD a := rfl
theorem keysD_atom (a : Atm) : keysD [.int a.1, .int a.2.1, .int a.2.2] = some (keyA a) := rfl
theorem atom_sorts : SortsBy atomD atomP leA where
  to := fun h x => by simp -implicitDefEqProofs [atomD, atomP, toPy, toPys]
  al := fun a b => by simp [atomP, PySem.W.alike, PySem.W.alikeAll]
  t1 := fun a => rfl
  dp := fun a => by simp [atomP, PyData.depth, PyData.depthAll]
  le_ := fun a b => by
    simp only [PySem.W.dataLe, PySem.W.sortLe, atomP, PySem.W.keyToks, PySem.W.keyToksAll, List.cons_append, List.nil_append, cond_false, leA]
    congr 1
    show PyProof.Rows.lexLt itemOrd _ _ = _
    rw [lex_int, lex_int, lex_int, lex_int, lex_int, lex_int, lex_int, lex_nil]
    rw [Bool.eq_iff_iff]
    simp [ltA]
    exact decide_eq_true_iff.symm
theorem ltA_irr (a : Atm) : ¬ ltA a a := by unfold ltA; omega
theorem ltA_tr {a b c : Atm} (h1 : ltA a b) (h2 : ltA b c) : ltA a c := by unfold ltA at *; omega
theorem ltA_or (a b : Atm) : a = b ∨ ltA a b ∨ ltA b a := by
  obtain ⟨a1, a2, a3⟩ := a
  obtain ⟨b1, b2, b3⟩ := b
  simp only [Prod.mk.injEq, ltA]
  omega
/-- sorted without twins: ascending -/
theorem sortA_lt {as : List Atm} (nd : as.Nodup) : (as.mergeSort leA).Pairwise ltA := by
  have s := List.pairwise_mergeSort (le := leA) (fun a b c h1 h2 => by
    simp [leA] at *
    intro h
    rcases ltA_or a b with e | e | e
    · subst e; exact h2 h
    · exact h2 (ltA_tr h e)
    · exact h1 e) (fun a b => by
    simp [leA]
    rcases ltA_or a b with e | e | e
    · subst e; exact .inl (ltA_irr _)
    · exact .inl fun z => ltA_irr _ (ltA_tr z e)
    · exact .inr fun z => ltA_irr _ (ltA_tr z e)) as
  have nd2 : (as.mergeSort leA).Nodup := (List.mergeSort_perm as leA).nodup_iff.mpr nd
  refine (s.and nd2).imp ?_
  rintro a b ⟨h1, h2⟩
  simp [leA] at h1
  rcases ltA_or a b with e | e | e
  · exact absurd e h2
  · exact e
  · exact absurd e h1
theorem atom_eqs : EqBy atomD atomP where
  to := fun h n x hn => by
    obtain ⟨k, rfl⟩ : ∃ k, n = k + 1 := ⟨n - 1, by omega⟩
    simp -implicitDefEqProofs [atomD, atomP, toPy, toPys]
  eq := fun a b => by
    obtain ⟨a1, a2, a3⟩ := a
    obtain ⟨b1, b2, b3⟩ := b
    simp [atomP, PyData.eqv, PyData.eqvAll]
  ly := fun a => by simp [atomP, PyData.canLay0, PyData.canLayAll0]
  dp := fun a => by simp [atomP, PyData.depth, PyData.depthAll]
/-! ### drawn forms -/
theorem drawn_form_ok {r : Nat} {as : List Atm} (W : IsWell h w g n) (hn : n < 10000000) (e : h[r]? = some (.lst (as.map atomD))) (ha : ∀ a ∈ as, okA a) (so : as.Pairwise ltA) (al : as.length ≤ 9) (r0 : ¬ Wl w g r) :
    spec (F__law_drawn_form [.ref w, .ref r] h) fun d h' => ∃ f, d = formD f ∧ okF (10 ^ 32) f ∧ (∀ t ∈ f.2, t.1 ∈ as) ∧ IsWell h' w g (n + 40) ∧ Ext (Wl w g) h h' := by
  unfold F__law_drawn_form
  apply wO_fn
  have dr := fun {h : Hh} {n : Nat} {many : Int} (W : IsWell h w g n) (m0 : 0 < many ∧ many < 1073741824) hn => draw_dec W m0 hn
  generalize F__law_draw = gd at dr
  have by_ := fun {h : Hh} {n : Nat} (W : IsWell h w g n) hn => by_ok W hn
  generalize F__law_by = gb at by_
  simp -implicitDefEqProofs [m__law_drawn_form, iterA_lst e, wipeR]
  have W1 : IsWell (h ++ [.lst []]) w g n := W.ext .push
  have lw : ∀ {h : Hh} {n : Nat}, IsWell h w g n → w < h.length ∧ g < h.length := fun W => ⟨lt_of W.d.choose_spec.choose_spec.1, lt_of W.l.choose_spec.1⟩
  obtain ⟨w0, g0⟩ := lw W
  refine wS.bind (spec.lc (R := fun d h' => d = .ref h.length ∧ ∃ ts : List Trm, h'[h.length]? = some (.lst (ts.map termD)) ∧ (ts.map (·.1)).Sublist as ∧ (∀ t ∈ ts, bd (10 ^ 32) t.2) ∧ IsWell h' w g (n + 36) ∧ Ext (Wl w g) h h')
    (fun i acc h' => ∃ ts : List Trm, acc = ts.map termD ∧ (ts.map (·.1)).Sublist (as.take i) ∧ (∀ t ∈ ts, bd (10 ^ 32) t.2) ∧ IsWell h' w g (n + 4 * i) ∧ Ext (Wl w g) h h') (lt_sl (by omega)) ⟨[], rfl, by simp, by simp, W1, .push⟩ ?_ ?_) ?_
  · rintro acc h' ⟨ts, rfl, sub, hb, W2, E2⟩ e2
    have e3 := E2.keep r _ e r0
    rw [jSrc_lst e3]
    rw [List.take_length] at sub
    exact ⟨by simp, rfl, ts, e2, sub, hb, W2.up (by omega), E2⟩
  · rintro i acc h' hi ⟨ts, rfl, sub, hb, W2, E2⟩ e2
    have e3 := E2.keep r _ e r0
    obtain ⟨a, ea⟩ : ∃ a, as[i]? = some a := ⟨_, List.getElem?_eq_getElem hi⟩
    refine ⟨atomD a, _, h', by rw [jSrc_lst e3, map_at ea], rfl, ?_⟩
    have nw : ¬ Wl w g h.length := by rintro (z | z) <;> omega
    have sub1 : (ts.map (·.1)).Sublist (as.take (i + 1)) := sub.trans (List.take_sublist_take_left (by omega))
    simp -implicitDefEqProofs
    refine wO.bind (dr (many := 2) W2 (by decide) (by omega)) ?_
    rintro _ h2 ⟨x, rfl, xb, W3, E3⟩
    by_cases hx : x = 0
    · simp -implicitDefEqProofs [hx]
      refine ⟨fun _ => ?_, fun z => by cases z⟩
      simp -implicitDefEqProofs
      refine wO.bind (by_ W3 (by omega)) ?_
      rintro _ h3 ⟨y, rfl, yb, W4, E4⟩
      simp -implicitDefEqProofs
      refine ⟨E4.keep _ _ (E3.keep _ _ e2 nw) nw, ts ++ [(a, y)], by simp [termD], ?_, ?_, ?_, ?_⟩
      · rw [List.map_append, List.take_add_one, ea]
        exact sub.append (List.Sublist.refl _)
      · intro t ht
        rcases List.mem_append.mp ht with ht | ht
        · exact hb t ht
        · simp at ht; subst ht; exact yb
      · exact (W4.put nw).up (by omega)
      · exact ((E2.trans E3).trans E4).new (Nat.le_refl _)
    · have hx' : (x == 0) = false := by simp [hx]
      simp -implicitDefEqProofs [hx']
      exact ⟨fun z => (by cases z), fun _ => ⟨E3.keep _ _ e2 nw, ts, rfl, sub1, hb, W3.up (by omega), E2.trans E3⟩⟩
  · rintro _ h1 ⟨rfl, ts, e1, sub, hb, W1, E1⟩
    simp -implicitDefEqProofs
    refine wS.bind (by_ W1 (by omega)) ?_
    rintro _ h2 ⟨c, rfl, cb, W2, E2⟩
    have nw : ¬ Wl w g h.length := by rintro (z | z) <;> omega
    have e2 := E2.keep _ _ e1 nw
    simp -implicitDefEqProofs [iterA_lst e2, wipeR]
    have tl : ts.length ≤ 9 := by have := sub.length_le; simp at this; omega
    refine wS.bind (spec.lct (R := fun d h' => d = .ref h2.length ∧ h' = h2 ++ [.lst ((ts.filter fun t => t.2 ≠ 0).map termD)]) (xs := ts) (enc := termD) (fun t => if t.2 ≠ 0 then some (termD t) else none) rfl (lt_sl (by omega)) (fun acc i => by rw [jSrc_lst (push_get e2)]) (fun t ht acc => ?_) ?_) ?_
    · refine ⟨_, rfl, ?_⟩
      by_cases hz : t.2 = 0
      · simp -implicitDefEqProofs [hz, termD]
      · simp -implicitDefEqProofs [hz, termD]
    · refine ⟨rfl, ?_⟩
      rw [filterMap_if]
    · rintro _ _ ⟨rfl, rfl⟩
      simp -implicitDefEqProofs
      refine ⟨(c, ts.filter fun t => t.2 ≠ 0), by simp [formD], ⟨cb, ?_, ?_, ?_⟩, ?_, (W2.ext .push).up (by omega), (E1.trans E2).pushR⟩
      · intro t ht
        obtain ⟨m1, m2⟩ := List.mem_filter.mp ht
        exact ⟨ha _ (sub.subset (List.mem_map_of_mem m1)), by simpa using m2, hb t m1⟩
      · refine List.Pairwise.filter _ ?_
        exact List.pairwise_map.mp (so.sublist sub)
      · have := List.length_filter_le (fun t : Trm => decide (t.2 ≠ 0)) ts
        show (ts.filter fun t => decide (t.2 ≠ 0)).length ≤ 40
        omega
      · intro t ht
        exact sub.subset (List.mem_map_of_mem (List.mem_filter.mp ht).1)
theorem origin_ok (W : IsWell h w g n) (hn : n < 10000000) :
    spec (F__law_origin [.ref w] h) fun d h' => ∃ o, d = origD o ∧ okO o ∧ IsWell h' w g (n + 3) ∧ Ext (Wl w g) h h' := by
  unfold F__law_origin
  apply wO_fn
  have dr := fun {h : Hh} {n : Nat} {many : Int} (W : IsWell h w g n) (m0 : 0 < many ∧ many < 1073741824) hn => draw_dec W m0 hn
  generalize F__law_draw = gd at dr
  simp -implicitDefEqProofs [m__law_origin]
  refine wS.bind (dr (many := 2) W (by decide) (by omega)) ?_
  rintro _ h1 ⟨x, rfl, xb, W1, E1⟩
  by_cases hx : x = 0
  · simp -implicitDefEqProofs [hx]
    exact ⟨none, rfl, trivial, W1.up (by omega), E1⟩
  · simp -implicitDefEqProofs [hx]
    refine wS.bind (dr (many := 240) W1 (by decide) (by omega)) ?_
    rintro _ h2 ⟨y, rfl, yb, W2, E2⟩
    refine wS.bind (dr (many := 30) W2 (by decide) (by omega)) ?_
    rintro _ h3 ⟨z, rfl, zb, W3, E3⟩
    simp -implicitDefEqProofs
    exact ⟨some (y, z), rfl, ⟨by constructor <;> dsimp only <;> omega, by constructor <;> dsimp only <;> omega⟩, W3, (E1.trans E2).trans E3⟩
/-! ### the well, the atoms -/
theorem well_ok {ns : List Int} (hl : ns.length ≤ 63) : spec (F__law_well [.rol (ns.map D.int)] h) fun d h' => ∃ w g, d = .ref w ∧ IsWell h' w g 0 ∧ Ext noS h h' := by
  unfold F__law_well
  apply wO_fn
  have sl : ∀ h : Hh, oSl (.rol (ns.map D.int)) none (some 63) h = some (.ref h.length, h ++ [.lst (ns.map D.int)]) := fun h => by
    have : PI.cutD (ns.map D.int) none (some 63) = ns.map D.int := by
      unfold PI.cutD HT.sIx
      have : min 63 ns.length = ns.length := by omega
      simp [this]
      exact List.take_of_length_le (by simp)
    simp [oSl, this]
  simp -implicitDefEqProofs [m__law_well, sl, iterA_lst push_new]
  refine wS.loop (fun i ρ h' => h' = h ++ [.lst (ns.map D.int)] ∧ ∃ (m : Int) (o : Option D), ρ = [some (.rol (ns.map D.int)), some (.int m), o] ∧ 0 ≤ m ∧ m < 2147483647) ⟨rfl, 5, none, rfl, by omega, by omega⟩ ?_ ?_
  · rintro _ _ ⟨rfl, m, o, rfl, m0, m1⟩
    rw [jSrc_lst push_new]
    refine ⟨by simp, ?_⟩
    have p1 : powOk 10 18 = true := pow_ok (n := 18) (by omega)
    have E1 : Ext noS h (h ++ [Ob.lst (ns.map D.int)]) := .push
    generalize h ++ [Ob.lst (ns.map D.int)] = h1 at E1 ⊢
    have g1 : (h1 ++ [Ob.dct []] ++ [Ob.lst (ns.map D.int)])[(h1 ++ [Ob.dct []]).length]? = some (.lst (ns.map D.int)) := push_new
    have d1 : (h1 ++ [Ob.dct []] ++ [Ob.lst (ns.map D.int)])[h1.length]? = some (.dct []) := push_get push_new
    have E2 : Ext noS h1 (h1 ++ [Ob.dct []] ++ [Ob.lst (ns.map D.int)]) := Ext.push.pushR
    simp -implicitDefEqProofs [-List.append_assoc, -List.length_append, -List.cons_append, sl, wipeR, iterA_lst g1]
    generalize h1 ++ [Ob.dct []] ++ [Ob.lst (ns.map D.int)] = h2 at g1 d1 E2 ⊢
    refine wS.bind (spec.lct (R := fun d h' => ∃ gs : List Int, gs.length ≤ 63 ∧ d = .ref h2.length ∧ h' = h2 ++ [.lst (gs.map D.int)]) (xs := ns) (enc := D.int) (fun x => if 10 ^ 18 ≤ x then some (.int x) else none) rfl (lt_sl (by omega)) (fun acc i => jSrc_lst (push_get g1)) (fun x hx acc => ?_) ?_) ?_
    · refine ⟨_, rfl, ?_⟩
      by_cases hz : 10 ^ 18 ≤ x
      · rw [if_pos hz]
        simp -implicitDefEqProofs [-List.append_assoc, -List.length_append, -List.cons_append, p1, oGeA, oGe]
        omega
      · rw [if_neg hz]
        simp -implicitDefEqProofs [-List.append_assoc, -List.length_append, -List.cons_append, p1, oGeA, oGe]
        omega
    · refine ⟨ns.filter fun x => decide (10 ^ 18 ≤ x), ?_, rfl, by rw [filterMap_if]⟩
      have := List.length_filter_le (fun x : Int => decide (10 ^ 18 ≤ x)) ns
      omega
    · rintro _ _ ⟨gs, gl, rfl, rfl⟩
      have d2 : (h2 ++ [Ob.lst (gs.map D.int)])[h1.length]? = some (.dct []) := push_get d1
      have k2 : (h2 ++ [Ob.lst (gs.map D.int)])[h2.length]? = some (.lst (gs.map D.int)) := push_new
      have E3 : Ext noS h1 (h2 ++ [Ob.lst (gs.map D.int)]) := E2.pushR
      have lt := lt_of d1
      generalize h2 ++ [Ob.lst (gs.map D.int)] = h3 at d2 k2 E3 ⊢
      simp -implicitDefEqProofs [-List.append_assoc, -List.length_append, -List.cons_append, d2]
      have me : mergeD [] [((.inr "great" : Key), D.ref h2.length), (.inr "mix", .int m), (.inr "turn", .int 0)] = [(.inr "great", D.ref h2.length), (.inr "mix", .int m), (.inr "turn", .int 0)] := rfl
      rw [me]
      refine ⟨_, h2.length, rfl, ⟨⟨m, 0, set_get d2, ⟨m0, m1⟩, by omega, by omega⟩, gs, set_ne k2 (by omega), gl⟩, E1.trans (E3.new (Nat.le_refl _))⟩
  · rintro i _ _ hi ⟨rfl, m, o, rfl, m0, m1⟩
    obtain ⟨x, ex⟩ : ∃ x, ns[i]? = some x := ⟨_, List.getElem?_eq_getElem (by simpa using hi)⟩
    refine ⟨.int x, _, _, by rw [jSrc_lst push_new, map_at ex], rfl, ?_⟩
    have c1 : mulOk m 16807 = true := mulOk_r (by omega)
    simp -implicitDefEqProofs [c1]
    exact ⟨rfl, _, _, rfl, by omega, by omega⟩
theorem nodup_snoc {α : Type} {xs : List α} {x : α} (h : xs.Nodup) (n : x ∉ xs) : (xs ++ [x]).Nodup := List.nodup_append.mpr ⟨h, by simp, by
  intro a ha b hb e
  simp at hb
  subst hb
  subst e
  exact n ha⟩
theorem atoms_ok (W : IsWell h w g n) (hn : n < 10000000) : spec (F__law_atoms [.ref w] h) fun d h' => ∃ (r : Nat) (as : List Atm), d = .ref r ∧ h'[r]? = some (.lst (as.map atomD)) ∧ (∀ a ∈ as, okA a) ∧ as.Pairwise ltA ∧ 1 ≤ as.length ∧ as.length ≤ 9 ∧ h.length ≤ r ∧ IsWell h' w g (n + 100) ∧ Ext (Wl w g) h h' := by
  unfold F__law_atoms
  apply wO_fn
  have dr := fun {h : Hh} {n : Nat} {many : Int} (W : IsWell h w g n) (m0 : 0 < many ∧ many < 1073741824) hn => draw_dec W m0 hn
  have on := fun {h : Hh} {n r : Nat} {xs : List D} (W : IsWell h w g n) hn (e : h[r]? = some (.lst xs)) x0 x1 r0 => one_ok W hn e x0 x1 r0
  generalize F__law_draw = gd at dr
  generalize F__law_one = go at on
  simp -implicitDefEqProofs [-List.append_assoc, -List.length_append, -List.cons_append, m__law_atoms]
  have lw : ∀ {h : Hh} {n : Nat}, IsWell h w g n → w < h.length ∧ g < h.length := fun W => ⟨lt_of W.d.choose_spec.choose_spec.1, lt_of W.l.choose_spec.1⟩
  obtain ⟨w0, g0⟩ := lw W
  have W1 : IsWell (h ++ [.lst []]) w g n := W.ext .push
  have f1 : (h ++ [Ob.lst []])[h.length]? = some (.lst ([].map atomD)) := push_new
  have E1 : Ext (Wl w g) h (h ++ [.lst []]) := .push
  have nw : ¬ Wl w g h.length := by rintro (z | z) <;> omega
  generalize hr : h.length = r at f1 nw ⊢
  generalize h ++ [Ob.lst []] = h1 at W1 f1 E1 ⊢
  refine wS.bind (dr (many := 8) W1 (by decide) (by omega)) ?_
  rintro _ h2 ⟨x, rfl, xb, W2, E2⟩
  have f2 := E2.keep _ _ f1 nw
  have c1 : 0 ≤ 2 + x ∧ 2 + x < 1000000000 := by omega
  simp -implicitDefEqProofs [-List.append_assoc, -List.length_append, -List.cons_append, c1]
  refine wS.loop (fun i ρ h' => ∃ (as : List Atm) (o2 o3 o4 : Option D), ρ = [some (.ref w), some (.ref r), o2, o3, o4] ∧ h'[r]? = some (.lst (as.map atomD)) ∧ (∀ a ∈ as, okA a) ∧ as.Nodup ∧ (0 < i → 1 ≤ as.length) ∧ as.length ≤ i ∧ IsWell h' w g (n + 1 + 8 * i) ∧ Ext (Wl w g) h h')
    ⟨[], none, none, none, rfl, f2, by simp, by simp, by omega, by simp, W2, E1.trans E2⟩ ?_ ?_
  · rintro _ h' ⟨as, o2, o3, o4, rfl, f3, ok, nd, l1, l2, W3, E3⟩
    refine ⟨jRng_end, ?_⟩
    simp -implicitDefEqProofs [-List.append_assoc, -List.length_append, -List.cons_append, atom_sorts.lst f3]
    have le := List.length_mergeSort (le := leA) as
    exact ⟨_, as.mergeSort leA, rfl, push_new, fun a ha => ok a (List.mem_mergeSort.mp ha), sortA_lt nd, by omega, by omega, by have := E3.len; omega, (W3.ext .push).up (by omega), E3.pushR⟩
  · rintro i _ h' hi ⟨as, o2, o3, o4, rfl, f3, ok, nd, l1, l2, W3, E3⟩
    refine ⟨_, _, _, jRng_at hi, rfl, ?_⟩
    simp -implicitDefEqProofs [-List.append_assoc, -List.length_append, -List.cons_append]
    refine wS.bind (dr (many := 5) W3 (by decide) (by omega)) ?_
    rintro _ h4 ⟨y, rfl, yb, W4, E4⟩
    simp -implicitDefEqProofs [-List.append_assoc, -List.length_append, -List.cons_append]
    refine wS.bind (dr (many := 401) W4 (by decide) (by omega)) ?_
    rintro _ h5 ⟨a2, rfl, a2b, W5, E5⟩
    simp -implicitDefEqProofs [-List.append_assoc, -List.length_append, -List.cons_append]
    refine wS.bind (dr (many := 13) W5 (by decide) (by omega)) ?_
    rintro _ h6 ⟨a3, rfl, a3b, W6, E6⟩
    have E36 := (E4.trans E5).trans E6
    have f6 := E36.keep _ _ f3 nw
    have E06 := E3.trans E36
    have ok1 : okA (0, a2 - 1, a3) := .inl ⟨rfl, by dsimp only; omega, by dsimp only; omega, by dsimp only; omega, by dsimp only; omega⟩
    by_cases hy : y = 0
    · subst hy
      simp -implicitDefEqProofs [-List.append_assoc, -List.length_append, -List.cons_append]
      refine wS.bind (dr (many := 240) W6 (by decide) (by omega)) ?_
      rintro _ h7 ⟨b2, rfl, b2b, W7, E7⟩
      refine wS.bind (dr (many := 6) W7 (by decide) (by omega)) ?_
      rintro _ h8 ⟨b3, rfl, b3b, W8, E8⟩
      have E08 := (E06.trans E7).trans E8
      have f8 := (E7.trans E8).keep _ _ f6 nw
      have ok2 : okA (1, b2, b3) := .inr ⟨rfl, by dsimp only; omega, by dsimp only; omega, by dsimp only; omega, by dsimp only; omega⟩
      obtain ⟨b, _, en, hb⟩ := atom_eqs.inL (1, b2, b3) f8
      simp only [atomD] at en
      cases b with
      | true =>
        simp -implicitDefEqProofs [-List.append_assoc, -List.length_append, -List.cons_append, en, atomD]
        exact ⟨as, _, _, _, rfl, f8, ok, nd, fun _ => by cases as; simp at hb; simp, by omega, (W8).up (by omega), E08⟩
      | false =>
        have hl : as.length < sizeLine := lt_sl (by omega)
        simp -implicitDefEqProofs [-List.append_assoc, -List.length_append, -List.cons_append, en, atomD, f8, lAppend, hl]
        refine ⟨as ++ [(1, b2, b3)], _, _, _, rfl, by rw [set_get f8]; simp [atomD], ?_, nodup_snoc nd (fun z => by simpa using hb.mpr z), by simp, by simp; omega, ?_, (E08).new (by omega)⟩
        · intro a ha
          rcases List.mem_append.mp ha with ha | ha
          · exact ok a ha
          · simp at ha; subst ha; exact ok2
        · exact ((W8).put nw).up (by omega)
    · by_cases hy1 : y = 1
      · subst hy1
        simp -implicitDefEqProofs [-List.append_assoc, -List.length_append, -List.cons_append]
        have f7 : (h6 ++ [Ob.lst [D.tup [.int 0, .int (-1), .int 12], .tup [.int 0, .int 399, .int 1], .tup [.int 0, .int 0, .int 0], .tup [.int 1, .int 0, .int 5], .tup [.int 1, .int 239, .int 0], .tup [.int 0, .int 399, .int 12]]])[h6.length]? = _ := push_new
        have l6 := lw W6
        refine wS.bind (on (W6.ext .push) (by omega) f7 (by simp) (by simp) (by rintro (z | z) <;> omega)) ?_
        rintro d h8 ⟨md, W8, E8⟩
        obtain ⟨a, rfl, ok2⟩ : ∃ a, d = atomD a ∧ okA a := by
          simp at md
          rcases md with rfl | rfl | rfl | rfl | rfl | rfl
          · exact ⟨(0, -1, 12), rfl, by decide⟩
          · exact ⟨(0, 399, 1), rfl, by decide⟩
          · exact ⟨(0, 0, 0), rfl, by decide⟩
          · exact ⟨(1, 0, 5), rfl, by decide⟩
          · exact ⟨(1, 239, 0), rfl, by decide⟩
          · exact ⟨(0, 399, 12), rfl, by decide⟩
        have E08 := (E06.pushR).trans E8
        have f8 := E8.keep _ _ (push_get f6) nw
        obtain ⟨b, _, en, hb⟩ := atom_eqs.inL a f8
        simp only [atomD] at en
        cases b with
        | true =>
          simp -implicitDefEqProofs [-List.append_assoc, -List.length_append, -List.cons_append, en, atomD]
          exact ⟨as, _, _, _, rfl, f8, ok, nd, fun _ => by cases as; simp at hb; simp, by omega, (W8).up (by omega), E08⟩
        | false =>
          have hl : as.length < sizeLine := lt_sl (by omega)
          simp -implicitDefEqProofs [-List.append_assoc, -List.length_append, -List.cons_append, en, atomD, f8, lAppend, hl]
          refine ⟨as ++ [a], _, _, _, rfl, by rw [set_get f8]; simp [atomD], ?_, nodup_snoc nd (fun z => by simpa using hb.mpr z), by simp, by simp; omega, ?_, (E08).new (by omega)⟩
          · intro a ha
            rcases List.mem_append.mp ha with ha | ha
            · exact ok a ha
            · simp at ha; subst ha; exact ok2
          · exact ((W8).put nw).up (by omega)
      · simp -implicitDefEqProofs [-List.append_assoc, -List.length_append, -List.cons_append, hy, hy1]
        obtain ⟨b, _, en, hb⟩ := atom_eqs.inL (0, a2 - 1, a3) f6
        simp only [atomD] at en
        cases b with
        | true =>
          simp -implicitDefEqProofs [-List.append_assoc, -List.length_append, -List.cons_append, en, atomD]
          exact ⟨as, _, _, _, rfl, f6, ok, nd, fun _ => by cases as; simp at hb; simp, by omega, (W6).up (by omega), E06⟩
        | false =>
          have hl : as.length < sizeLine := lt_sl (by omega)
          simp -implicitDefEqProofs [-List.append_assoc, -List.length_append, -List.cons_append, en, atomD, f6, lAppend, hl]
          refine ⟨as ++ [(0, a2 - 1, a3)], _, _, _, rfl, by rw [set_get f6]; simp [atomD], ?_, nodup_snoc nd (fun z => by simpa using hb.mpr z), by simp, by simp; omega, ?_, (E06).new (by omega)⟩
          · intro a ha
            rcases List.mem_append.mp ha with ha | ha
            · exact ok a ha
            · simp at ha; subst ha; exact ok1
          · exact ((W6).put nw).up (by omega)
end
end K60
namespace K60
open PySem PySem.Spec L2 PI
open PyProof.Rows hiding St
/-! ### sums of forms -/
/-- the coefficient of an atom -/
def co (ts : List Trm) (a : Atm) : Int := (ts.map fun t => if t.1 = a then t.2 else 0).sum
def totC (ps : List (Frm × Int)) : Int := (ps.map fun p => p.2 * p.1.1).sum
def totA (ps : List (Frm × Int)) (a : Atm) : Int := (ps.map fun p => p.2 * co p.1.2 a).sum
theorem take_succ {α : Type} {xs : List α} {i : Nat} {x : α} (e : xs[i]? = some x) : xs.take (i + 1) = xs.take i ++ [x] := by rw [List.take_add_one, e]; rfl
theorem co_snoc (ts : List Trm) (t : Trm) (a : Atm) : co (ts ++ [t]) a = co ts a + if t.1 = a then t.2 else 0 := by
  unfold co
  rw [List.map_append, List.sum_append]
  simp
theorem totC_snoc (ps : List (Frm × Int)) (p : Frm × Int) : totC (ps ++ [p]) = totC ps + p.2 * p.1.1 := by
  unfold totC
  rw [List.map_append, List.sum_append]
  simp
theorem totA_snoc (ps : List (Frm × Int)) (p : Frm × Int) (a : Atm) : totA (ps ++ [p]) a = totA ps a + p.2 * co p.1.2 a := by
  unfold totA
  rw [List.map_append, List.sum_append]
  simp
theorem totC_cons (ps : List (Frm × Int)) (p : Frm × Int) : totC (p :: ps) = p.2 * p.1.1 + totC ps := by simp [totC]
theorem totA_cons (ps : List (Frm × Int)) (p : Frm × Int) (a : Atm) : totA (p :: ps) a = p.2 * co p.1.2 a + totA ps a := by simp [totA]
theorem co_not {ts : List Trm} {a : Atm} (h : ∀ t ∈ ts, t.1 ≠ a) : co ts a = 0 := by
  unfold co
  induction ts with
  | nil => rfl
  | cons t ts ih =>
    have h1 := h t List.mem_cons_self
    rw [List.map_cons, List.sum_cons, if_neg h1, ih fun s hs => h s (List.mem_cons_of_mem _ hs)]
    rfl
theorem co_before {B : Int} {f : Frm} (ok : okF B f) {i : Nat} {t : Trm} (e : f.2[i]? = some t) : co (f.2.take i) t.1 = 0 := by
  refine co_not fun s hs => ?_
  obtain ⟨j, hj, e1⟩ := List.mem_iff_getElem.mp hs
  rw [List.length_take] at hj
  rw [List.getElem_take] at e1
  obtain ⟨hi, e2⟩ := List.getElem?_eq_some_iff.mp e
  have := List.pairwise_iff_getElem.mp ok.o j i (by omega) hi (by omega)
  rw [e1, e2] at this
  intro z
  rw [z] at this
  exact ltA_irr _ this
/-- a table of sums -/
structure Tab (h : Hh) (r : Nat) (S : Atm → Int) (A : Atm → Prop) (n : Nat) : Prop where
  ex : ∃ t : List (Atm × Int), h[r]? = some (.dctT (tabD keyA t)) ∧ (t.map (·.1)).Nodup ∧ (∀ a, look t a = S a) ∧ (∀ a ∈ t.map (·.1), A a) ∧ t.length ≤ n
section
variable {h h1 : Hh} {w g n r : Nat}
theorem Tab.new {A : Atm → Prop} : Tab (h ++ [.dctT []]) h.length (fun _ => 0) A 0 := ⟨[], push_new, by simp, fun _ => rfl, by simp, by simp⟩
theorem Tab.ext {S : Atm → Int} {A : Atm → Prop} (T : Tab h r S A n) (E : Ext noS h h1) : Tab h1 r S A n := by
  obtain ⟨t, e, k⟩ := T.ex
  exact ⟨t, E.get e, k⟩
theorem Tab.keep {Z : Nat → Prop} {S : Atm → Int} {A : Atm → Prop} (T : Tab h r S A n) (E : Ext Z h h1) (z : ¬ Z r) : Tab h1 r S A n := by
  obtain ⟨t, e, k⟩ := T.ex
  exact ⟨t, E.keep _ _ e z, k⟩
theorem Tab.conv {S S' : Atm → Int} {A A' : Atm → Prop} {m : Nat} (T : Tab h r S A n) (hS : ∀ a, S' a = S a) (hA : ∀ a, A a → A' a) (l : n ≤ m) : Tab h r S' A' m := by
  obtain ⟨t, e, nd, lk, k, len⟩ := T.ex
  exact ⟨t, e, nd, fun a => by rw [hS, lk], fun a m => hA a (k a m), by omega⟩
/-- table.get(atom, 0) -/
theorem Tab.get {S : Atm → Int} {A : Atm → Prop} (T : Tab h r S A n) (a : Atm) : isDc (.ref r) h = true ∧ ∃ o, getD? (.ref r) (atomD a) h = some o ∧ o.getD (.int 0) = .int (S a) := by
  obtain ⟨t, e, _, l, _⟩ := T.ex
  refine ⟨isDc_T e, valD (tabD keyA t) (keyA a), ?_, ?_⟩
  · simp [getD?, e, atomD, keysD_atom]
  · rw [getD_tab keyA_inj, l]
/-- table[atom] = v -/
theorem Tab.put {S S' : Atm → Int} {A : Atm → Prop} (T : Tab h r S A n) (hn : n < 1000000) (a : Atm) (v : Int) (hA : A a) (hS : ∀ b, S' b = if b = a then v else S b) : ∃ o, oPut (.ref r) (atomD a) (.int v) h = some (h.set r o) ∧ Tab (h.set r o) r S' A (n + 1) := by
  obtain ⟨t, e, nd, l, k, len⟩ := T.ex
  refine ⟨.dctT (tabD keyA (putT t a v)), ?_, putT t a v, set_get e, nodup_put nd, fun b => by rw [look_put, l, hS], fun b hb => ?_, ?_⟩
  · have hl : (tabD keyA t).length < sizeLine := lt_sl (by simp [tabD]; omega)
    unfold atomD
    rw [oPut_dctT e (keysD_atom a) hl, putD_tab keyA_inj]
  · rcases mem_put hb with hb | hb
    · subst hb; exact hA
    · exact k b hb
  · have := len_put t a v
    omega
theorem Tab.lt {S : Atm → Int} {A : Atm → Prop} (T : Tab h r S A n) : r < h.length := by
  obtain ⟨t, e, _⟩ := T.ex
  exact lt_of e
theorem form0 {f : Frm} : oGet (formD f) (.int 0) h = some (.int f.1, h) := by simp [formD]
theorem form1 {f : Frm} : oGet (formD f) (.int 1) h = some (.tup (f.2.map termD), h) := by simp [formD]
theorem hint0 {x : Hnt} : oGet (hintD x) (.int 0) h = some (formD x.f, h) := by simp [hintD]
theorem hint1 {x : Hnt} : oGet (hintD x) (.int 1) h = some (.bl x.ex, h) := by simp [hintD]
theorem hint2 {x : Hnt} : oGet (hintD x) (.int 2) h = some (origD x.o, h) := by simp [hintD]
def prs (hs : List Hnt) (bs : List Int) : List (Frm × Int) := (hs.map (·.f)).zip bs
theorem prs_at {hs : List Hnt} {bs : List Int} {i : Nat} {x : Hnt} {b : Int} (e1 : hs[i]? = some x) (e2 : bs[i]? = some b) : (prs hs bs)[i]? = some (x.f, b) := by
  unfold prs
  rw [List.getElem?_zip_eq_some, List.getElem?_map, e1, e2]
  exact ⟨rfl, rfl⟩
theorem bd_up {B C x : Int} (b : bd B x) (l : B ≤ C) : bd C x := by unfold bd at *; omega
theorem mul_bd {x y : Int} (a : bd (10 ^ 80) x) (b : bd (10 ^ 80) y) : mulOk x y = true := mulOk_b (by unfold bd at a; omega) (by unfold bd at b; omega)
theorem rest_ok {hd md : D} {hs : List Hnt} {bs : List Int} {g : Frm} {s : Int} (z : ZipOk h hd md (hs.map hintD) (bs.map D.int)) (okg : okF (10 ^ 80) g) (okh : ∀ x ∈ hs, okF (10 ^ 80) x.f) (sb : bd (10 ^ 80) s) (bb : ∀ b ∈ bs, bd (10 ^ 80) b) (hl : hs.length ≤ 8000) (le : bs.length = hs.length) :
    spec (F__law_rest [formD g, hd, .int s, md] h) fun d h' => ∃ q t, d = .ref q ∧ h'[q]? = some (.lst [.int (s * g.1 - totC (prs hs bs)), .ref t]) ∧ Tab h' t (fun a => s * co g.2 a - totA (prs hs bs) a) (fun a => (∃ t ∈ g.2, t.1 = a) ∨ ∃ x ∈ hs, ∃ t ∈ x.f.2, t.1 = a) 400000 ∧ h.length ≤ t ∧ h.length ≤ q ∧ q ≠ t ∧ Ext noS h h' := by
  unfold F__law_rest
  apply wO_fn
  generalize hA : (fun a : Atm => (∃ t ∈ g.2, t.1 = a) ∨ ∃ x ∈ hs, ∃ t ∈ x.f.2, t.1 = a) = A
  have c0 := mul_bd sb okg.c
  simp -implicitDefEqProofs [-List.append_assoc, -List.length_append, -List.cons_append, m__law_rest, form0, form1, c0]
  have T0 : Tab (h ++ [.dctT []]) h.length (fun _ => 0) A 0 := Tab.new
  have E0 : Ext noS h (h ++ [.dctT []]) := .push
  generalize hr : h.length = r at T0 ⊢
  generalize h ++ [Ob.dctT []] = h1 at T0 E0 ⊢
  refine wS.loop (fun i ρ h' => ∃ o6 o7, ρ = [some (formD g), some hd, some (.int s), some md, some (.int (s * g.1)), some (.ref r), o6, o7, none, none] ∧ Tab h' r (fun a => s * co (g.2.take i) a) A i ∧ Ext noS h h') ⟨none, none, rfl, by simpa [co] using T0, E0⟩ ?_ ?_
  · rintro _ h2 ⟨o6, o7, rfl, T2, E2⟩
    refine ⟨by simp, ?_⟩
    rw [List.take_length] at T2
    have z2 := z.ext E2
    simp -implicitDefEqProofs [-List.append_assoc, -List.length_append, -List.cons_append, z2.out]
    have n40 := okg.n
    have ml : min hs.length bs.length = hs.length := by omega
    have pl : (prs hs bs).length = hs.length := by simp [prs, le]
    refine wS.loop (fun i ρ h' => ∃ o6 o7 o8 o9, ρ = [some (formD g), some hd, some (.int s), some md, some (.int (s * g.1 - totC ((prs hs bs).take i))), some (.ref r), o6, o7, o8, o9] ∧ Tab h' r (fun a => s * co g.2 a - totA ((prs hs bs).take i) a) A (g.2.length + 40 * i) ∧ Ext noS h h') ⟨o6, o7, none, none, by simp [totC], by simpa [totA] using T2, E2⟩ ?_ ?_
    · rintro _ h3 ⟨o6, o7, o8, o9, rfl, T3, E3⟩
      have z3 := z.ext E3
      refine ⟨by have := z3.end (n := min hs.length bs.length); simpa using this, ?_⟩
      rw [ml, List.take_of_length_le (by omega)] at T3
      simp -implicitDefEqProofs [-List.append_assoc, -List.length_append, -List.cons_append]
      have r3 := T3.lt
      refine ⟨h3.length, r, rfl, ?_, ?_, by omega, by have := E3.len; omega, by omega, E3.pushR⟩
      · rw [push_new, ml, List.take_of_length_le (by omega)]
      · obtain ⟨t, e, k1, k2, k3, k4⟩ := (T3.ext (h1 := h3 ++ [_]) .push).ex
        exact ⟨t, e, k1, k2, k3, by omega⟩
    · rintro i _ h3 hi ⟨o6, o7, o8, o9, rfl, T3, E3⟩
      obtain ⟨x, ex⟩ : ∃ x, hs[i]? = some x := ⟨_, List.getElem?_eq_getElem (by omega)⟩
      obtain ⟨b, eb⟩ : ∃ b, bs[i]? = some b := ⟨_, List.getElem?_eq_getElem (by omega)⟩
      have okx := okh x (List.mem_of_getElem? ex)
      have okb := bb b (List.mem_of_getElem? eb)
      refine ⟨_, _, _, (z.ext E3).at_ (map_at ex) (map_at eb), rfl, ?_⟩
      have c1 := mul_bd okb okx.c
      simp -implicitDefEqProofs [-List.append_assoc, -List.length_append, -List.cons_append, hint0, form0, form1, c1]
      have ep := take_succ (prs_at ex eb)
      have tC : s * g.1 - totC ((prs hs bs).take i) - b * x.f.1 = s * g.1 - totC ((prs hs bs).take (i + 1)) := by rw [ep, totC_snoc]; dsimp only; omega
      rw [tC]
      refine wS.loop (fun j ρ h' => ∃ o6 o7, ρ = [some (formD g), some hd, some (.int s), some md, some (.int (s * g.1 - totC ((prs hs bs).take (i + 1)))), some (.ref r), o6, o7, some (hintD x), some (.int b)] ∧ Tab h' r (fun a => s * co g.2 a - totA ((prs hs bs).take i) a - b * co (x.f.2.take j) a) A (g.2.length + 40 * i + j) ∧ Ext noS h h') ⟨o6, o7, rfl, by simpa [co] using T3, E3⟩ ?_ ?_
      · rintro _ h4 ⟨o6, o7, rfl, T4, E4⟩
        refine ⟨by simp, ?_⟩
        simp -implicitDefEqProofs [-List.append_assoc, -List.length_append, -List.cons_append]
        refine ⟨_, _, _, _, rfl, ?_, E4⟩
        have nx := okx.n
        rw [List.take_length] at T4
        obtain ⟨t, e, k1, k2, k3, k4⟩ := T4.ex
        refine ⟨t, e, k1, fun a => ?_, k3, by omega⟩
        rw [k2, ep, totA_snoc]
        dsimp only
        omega
      · rintro j _ h4 hj ⟨o6, o7, rfl, T4, E4⟩
        obtain ⟨t, et⟩ : ∃ t, x.f.2[j]? = some t := ⟨_, List.getElem?_eq_getElem (by simpa using hj)⟩
        obtain ⟨ta, tn, tb⟩ := okx.t t (List.mem_of_getElem? et)
        have c2 := mul_bd okb tb
        obtain ⟨d1, o, g1, g2⟩ := T4.get t.1
        have hA1 : A t.1 := by rw [← hA]; exact .inr ⟨x, List.mem_of_getElem? ex, t, List.mem_of_getElem? et, rfl⟩
        have nx := okx.n
        obtain ⟨ob, p1, T5⟩ := T4.put (by omega) t.1 (s * co g.2 t.1 - totA ((prs hs bs).take i) t.1 - b * co (x.f.2.take j) t.1 - b * t.2) hA1 (S' := fun a => s * co g.2 a - totA ((prs hs bs).take i) a - b * co (x.f.2.take (j + 1)) a) (fun a => by
          rw [take_succ et, co_snoc, Int.mul_add]
          by_cases e : a = t.1
          · subst e; simp; omega
          · have : ¬ t.1 = a := fun z => e z.symm
            simp [e, this])
        refine ⟨termD t, _, _, by simp [et], rfl, ?_⟩
        simp -implicitDefEqProofs [-List.append_assoc, -List.length_append, -List.cons_append, termD, d1, g1, g2, c2, p1]
        refine ⟨_, _, rfl, T5, E4.new (by omega)⟩
  · rintro i _ h2 hi ⟨o6, o7, rfl, T2, E2⟩
    obtain ⟨t, et⟩ : ∃ t, g.2[i]? = some t := ⟨_, List.getElem?_eq_getElem (by simpa using hi)⟩
    obtain ⟨ta, tn, tb⟩ := okg.t t (List.mem_of_getElem? et)
    have c1 := mul_bd sb tb
    have hA1 : A t.1 := by rw [← hA]; exact .inl ⟨t, List.mem_of_getElem? et, rfl⟩
    have n40 := okg.n
    obtain ⟨ob, p1, T5⟩ := T2.put (by omega) t.1 (s * t.2) hA1 (S' := fun a => s * co (g.2.take (i + 1)) a) (fun a => by
      rw [take_succ et, co_snoc]
      by_cases e : a = t.1
      · subst e; simp [co_before okg et]
      · have : ¬ t.1 = a := fun z => e z.symm
        simp [e, this])
    refine ⟨termD t, _, _, by simp [et], rfl, ?_⟩
    simp -implicitDefEqProofs [-List.append_assoc, -List.length_append, -List.cons_append, termD, c1, p1]
    refine ⟨_, _, rfl, T5, E2.new (by omega)⟩
theorem tab_oGet {t : List (Atm × Int)} (e : h[r]? = some (.dctT (tabD keyA t))) {a : Atm} (m : a ∈ t.map (·.1)) : oGet (.ref r) (atomD a) h = some (.int (look t a), h) := by
  have e1 := oGet_dctT (xs := [.int a.1, .int a.2.1, .int a.2.2]) e (keysD_atom a)
  rw [valD_tab keyA_inj] at e1
  obtain ⟨p, hp, rfl⟩ := List.mem_map.mp m
  have : ∃ q, t.find? (fun q => decide (q.1 = p.1)) = some q := by
    cases eq : t.find? (fun q => decide (q.1 = p.1)) with
    | some q => exact ⟨q, rfl⟩
    | none =>
      have := List.find?_eq_none.mp eq p hp
      simp at this
  obtain ⟨q, eq⟩ := this
  rw [eq] at e1
  unfold look
  rw [eq]
  exact e1
theorem tab_oGetL {t : List (Atm × Int)} (e : h[r]? = some (.dlkT (tabD keyA t))) {a : Atm} (m : a ∈ t.map (·.1)) : oGet (.ref r) (atomD a) h = some (.int (look t a), h) := by
  obtain ⟨p, hp, rfl⟩ := List.mem_map.mp m
  have : ∃ q, t.find? (fun q => decide (q.1 = p.1)) = some q := by
    cases eq : t.find? (fun q => decide (q.1 = p.1)) with
    | some q => exact ⟨q, rfl⟩
    | none =>
      have := List.find?_eq_none.mp eq p hp
      simp at this
  obtain ⟨q, eq⟩ := this
  have v : valD (tabD keyA t) (keyA p.1) = some (.int q.2) := by rw [valD_tab keyA_inj, eq]; rfl
  simp [oGet, getD?, e, atomD, keysD_atom, v, look, eq]
theorem Tab.setne {S : Atm → Int} {A : Atm → Prop} {j : Nat} {o : Ob} (T : Tab h r S A n) (ne : r ≠ j) : Tab (h.set j o) r S A n := by
  obtain ⟨t, e, k⟩ := T.ex
  exact ⟨t, set_ne e ne, k⟩
theorem _root_.K60.IsWell.keep {Z : Nat → Prop} (W : IsWell h w g n) (E : Ext Z h h1) (z1 : ¬ Z w) (z2 : ¬ Z g) : IsWell h1 w g n := by
  obtain ⟨m, t, e, k⟩ := W.d
  obtain ⟨gs, f, l⟩ := W.l
  exact ⟨⟨m, t, E.keep _ _ e z1, k⟩, gs, E.keep _ _ f z2, l⟩
def partD (p : Frm × Int) : D := .tup [formD p.1, .int p.2]
theorem summed_ok {q : Nat} {c : Int} {ps : List (Frm × Int)} (e0 : h[q]? = some (.lst (ps.map partD))) (okp : ∀ p ∈ ps, okF (10 ^ 80) p.1 ∧ bd (10 ^ 80) p.2) (hl : ps.length ≤ 8001) :
    spec (F_summed [.int c, .ref q] h) fun d h' => ∃ ts : List Trm, d = .tup [.int (c + totC ps), .tup (ts.map termD)] ∧ (∀ a v, (a, v) ∈ ts ↔ v = totA ps a ∧ v ≠ 0) ∧ ts.Pairwise (fun s t => ltA s.1 t.1) ∧ ts.length ≤ 400000 ∧ Ext noS h h' := by
  unfold F_summed
  apply wO_fn
  simp -implicitDefEqProofs [-List.append_assoc, -List.length_append, -List.cons_append, m_summed]
  have T0 : Tab (h ++ [.dctT []]) h.length (fun _ => 0) (fun _ => True) 0 := Tab.new
  have E0 : Ext noS h (h ++ [.dctT []]) := .push
  generalize hr : h.length = r at T0 ⊢
  generalize h ++ [Ob.dctT []] = h1 at T0 E0 ⊢
  simp -implicitDefEqProofs [-List.append_assoc, -List.length_append, -List.cons_append, iterA_lst (E0.get e0)]
  refine wS.loop (fun i ρ h' => ∃ o3 o4 o5 o6, ρ = [some (.int (c + totC (ps.take i))), some (.ref q), some (.ref r), o3, o4, o5, o6] ∧ Tab h' r (fun a => totA (ps.take i) a) (fun _ => True) (40 * i) ∧ Ext noS h h') ⟨none, none, none, none, by simp [totC], by simpa [totA] using T0, E0⟩ ?_ ?_
  · rintro _ h2 ⟨o3, o4, o5, o6, rfl, T2, E2⟩
    rw [jSrc_lst (E2.get e0)]
    refine ⟨by simp, ?_⟩
    rw [List.take_length] at T2 ⊢
    obtain ⟨t, e, nd, lk, _, len⟩ := T2.ex
    have so := atom_sorts.keys (ke := keyA) keyA_D e
    have e3 : (h2 ++ [Ob.lst (((t.map (·.1)).mergeSort leA).map atomD)])[r]? = _ := push_get e
    have e4 : (h2 ++ [Ob.lst (((t.map (·.1)).mergeSort leA).map atomD)])[h2.length]? = some (.lst (((t.map (·.1)).mergeSort leA).map atomD)) := push_new
    have lt := sortA_lt nd
    have ml := List.length_mergeSort (le := leA) (t.map (·.1))
    have mm : ∀ a, a ∈ (t.map (·.1)).mergeSort leA ↔ a ∈ t.map (·.1) := fun a => List.mem_mergeSort
    have E3 : Ext noS h (h2 ++ [Ob.lst (((t.map (·.1)).mergeSort leA).map atomD)]) := E2.pushR
    simp -implicitDefEqProofs [-List.append_assoc, -List.length_append, -List.cons_append, so]
    rw [List.length_map] at ml
    generalize (t.map (·.1)).mergeSort leA = ks at so e3 e4 lt ml mm E3 ⊢
    generalize h2 ++ [Ob.lst (ks.map atomD)] = h3 at e3 e4 E3 ⊢
    simp -implicitDefEqProofs [-List.append_assoc, -List.length_append, -List.cons_append, iterA_lst e4, wipeR]
    refine wS.bind (spec.lct (R := fun d h' => d = .ref h3.length ∧ h' = h3 ++ [.lst ((ks.filter fun a => look t a ≠ 0).map fun a => termD (a, look t a))]) (xs := ks) (enc := atomD) (fun a => if look t a ≠ 0 then some (termD (a, look t a)) else none) rfl (lt_sl (by omega)) (fun acc i => jSrc_lst (push_get e4)) (fun a ha acc => ?_) ?_) ?_
    · refine ⟨_, rfl, ?_⟩
      have gg := tab_oGet (h := h3 ++ [.lst acc]) (push_get e3) ((mm a).mp ha)
      by_cases hz : look t a = 0
      · simp -implicitDefEqProofs [-List.append_assoc, -List.length_append, -List.cons_append, gg, hz]
      · simp -implicitDefEqProofs [-List.append_assoc, -List.length_append, -List.cons_append, gg, hz, termD]
    · exact ⟨rfl, by rw [filterMap_if]⟩
    · rintro _ _ ⟨rfl, rfl⟩
      simp -implicitDefEqProofs [-List.append_assoc, -List.length_append, -List.cons_append]
      refine ⟨(ks.filter fun a => look t a ≠ 0).map fun a => (a, look t a), by rw [List.map_map]; simp [Function.comp_def], ?_, ?_, ?_, E3.pushR⟩
      · intro a v
        constructor
        · intro m
          obtain ⟨b, hb, e⟩ := List.mem_map.mp m
          obtain ⟨_, m2⟩ := List.mem_filter.mp hb
          cases e
          refine ⟨lk a, by simpa using m2⟩
        · rintro ⟨rfl, nz⟩
          rw [← lk a] at nz ⊢
          refine List.mem_map.mpr ⟨a, List.mem_filter.mpr ⟨(mm a).mpr ?_, by simpa using nz⟩, rfl⟩
          by_cases z : a ∈ t.map (·.1)
          · exact z
          · exact absurd (look_not z) nz
      · rw [List.pairwise_map]
        exact lt.filter _
      · have := List.length_filter_le (fun a : Atm => decide (look t a ≠ 0)) ks
        rw [List.length_map]
        omega
  · rintro i _ h2 hi ⟨o3, o4, o5, o6, rfl, T2, E2⟩
    obtain ⟨p, ep⟩ : ∃ p, ps[i]? = some p := ⟨_, List.getElem?_eq_getElem hi⟩
    obtain ⟨okf, okb⟩ := okp p (List.mem_of_getElem? ep)
    refine ⟨partD p, _, _, by rw [jSrc_lst (E2.get e0), map_at ep], rfl, ?_⟩
    have tk := take_succ ep
    by_cases hz : p.2 = 0
    · simp -implicitDefEqProofs [-List.append_assoc, -List.length_append, -List.cons_append, hz]
      refine ⟨_, _, _, _, by rw [tk, totC_snoc, hz, Int.zero_mul, Int.add_zero], ?_, E2⟩
      obtain ⟨t, e, nd, lk, k, len⟩ := T2.ex
      exact ⟨t, e, nd, fun a => by rw [lk, tk, totA_snoc, hz]; simp, k, by omega⟩
    · have c1 := mul_bd okb okf.c
      simp -implicitDefEqProofs [-List.append_assoc, -List.length_append, -List.cons_append, hz, form0, form1, c1]
      have tC : c + totC (ps.take i) + p.2 * p.1.1 = c + totC (ps.take (i + 1)) := by rw [tk, totC_snoc]; omega
      rw [tC]
      refine wS.loop (fun j ρ h' => ∃ o5 o6, ρ = [some (.int (c + totC (ps.take (i + 1)))), some (.ref q), some (.ref r), some (formD p.1), some (.int p.2), o5, o6] ∧ Tab h' r (fun a => totA (ps.take i) a + p.2 * co (p.1.2.take j) a) (fun _ => True) (40 * i + j) ∧ Ext noS h h') ⟨_, _, rfl, by simpa [co] using T2, E2⟩ ?_ ?_
      · rintro _ h4 ⟨o5, o6, rfl, T4, E4⟩
        refine ⟨by simp, ?_⟩
        simp -implicitDefEqProofs [-List.append_assoc, -List.length_append, -List.cons_append]
        refine ⟨_, _, _, _, rfl, ?_, E4⟩
        have nx := okf.n
        rw [List.take_length] at T4
        obtain ⟨t, e, k1, k2, k3, k4⟩ := T4.ex
        exact ⟨t, e, k1, fun a => by rw [k2, tk, totA_snoc], k3, by omega⟩
      · rintro j _ h4 hj ⟨o5, o6, rfl, T4, E4⟩
        obtain ⟨t, et⟩ : ∃ t, p.1.2[j]? = some t := ⟨_, List.getElem?_eq_getElem (by simpa using hj)⟩
        obtain ⟨ta, tn, tb⟩ := okf.t t (List.mem_of_getElem? et)
        have c2 := mul_bd okb tb
        obtain ⟨d1, o, g1, g2⟩ := T4.get t.1
        have nx := okf.n
        have hj' : j < p.1.2.length := by simpa using hj
        obtain ⟨ob, p1, T5⟩ := T4.put (by omega) t.1 (totA (ps.take i) t.1 + p.2 * co (p.1.2.take j) t.1 + p.2 * t.2) trivial (S' := fun a => totA (ps.take i) a + p.2 * co (p.1.2.take (j + 1)) a) (fun a => by
          rw [take_succ et, co_snoc, Int.mul_add]
          by_cases e : a = t.1
          · subst e; simp; omega
          · have : ¬ t.1 = a := fun z => e z.symm
            simp [e, this])
        refine ⟨termD t, _, _, by simp [et], rfl, ?_⟩
        simp -implicitDefEqProofs [-List.append_assoc, -List.length_append, -List.cons_append, termD, d1, g1, g2, c2, p1]
        refine ⟨_, _, rfl, T5, E4.new (by omega)⟩
end
end K60
namespace K60
open PySem PySem.Spec L2 PI
open PyProof.Rows hiding St
/-! ### what shows -/
structure Fits (hs : List Hnt) (d : D) (s : Int) (bs : List Int) : Prop where
  e : d = .tup [.int s, .tup (bs.map D.int)]
  s0 : 0 ≤ s
  len : bs.length = hs.length
  sg : ∀ (i : Nat) x b, hs[i]? = some x → bs[i]? = some b → b < 0 → x.ex = true
def floorA (ns : List Int) (a : Atm) : Prop := a.1 = 1 ∨ a.2.2 ∈ ns
structure Enough (ns : List Int) (g : Frm) (hs : List Hnt) (s : Int) (bs : List Int) : Prop where
  c : (if s = 0 then 1 else 0) ≤ s * g.1 - totC (prs hs bs)
  a : ∀ a, 0 ≤ s * co g.2 a - totA (prs hs bs) a ∧ (0 < s * co g.2 a - totA (prs hs bs) a → floorA ns a)
def ShownP (ns : List Int) (g : Frm) (hs : List Hnt) (d : D) : Prop := ∃ s bs, Fits hs d s bs ∧ Enough ns g hs s bs
def isI : D → Bool
  | .int _ => true
  | _ => false
inductive MulD (h : Hh) : D → Prop
  | other {d : D} {t : String} : tyD h d = some t → t ≠ "tuple" → MulD h d
  | tup {bs : List D} : (∀ b ∈ bs, (∃ t, tyD h b = some t) ∧ ∀ i, b = .int i → bd (10 ^ 80) i) → MulD h (.tup bs)
inductive ThD (h : Hh) : D → Prop
  | other {d : D} {t : String} : tyD h d = some t → t ≠ "tuple" → ThD h d
  | len {xs : List D} : xs.length ≠ 2 → ThD h (.tup xs)
  | pair {s m : D} {t : String} : tyD h s = some t → (∀ i, s = .int i → bd (10 ^ 80) i) → MulD h m → ThD h (.tup [s, m])
section
variable {h h1 : Hh} {w g n r : Nat}
theorem tyD_int {d : D} (e : tyD h d = some "int") : ∃ i, d = .int i := by
  cases d with
  | int i => exact ⟨i, rfl⟩
  | ref i =>
    simp only [tyD] at e
    split at e <;> simp at e
  | _ => simp [tyD] at e
theorem tyD_ext {d : D} {t : String} {S : Nat → Prop} (E : Ext noS h h1) (e : tyD h d = some t) : tyD h1 d = some t := by
  cases d with
  | ref i =>
    cases q : h[i]? with
    | none => simp [tyD, q] at e
    | some o =>
      have := E.get q
      simp only [tyD, q, this] at e ⊢
      exact e
  | _ => exact e
theorem isI_int {d : D} (e : isI d = true) : ∃ i, d = .int i := by
  cases d with
  | int i => exact ⟨i, rfl⟩
  | _ => cases e
theorem is_int_d {d : D} {t : String} (e : tyD h d = some t) : F_is_int [d] h = .ok (.bl (isI d)) h := by
  by_cases ht : t = "int"
  · subst ht
    obtain ⟨i, rfl⟩ := tyD_int e
    exact is_int_int i
  · rw [is_int_ty e ht]
    cases d with
    | int i => simp [tyD] at e; exact absurd e.symm ht
    | _ => rfl
theorem law_is_int_d {d : D} {t : String} (e : tyD h d = some t) : F__law_is_int [d] h = .ok (.bl (isI d)) h := is_int_d e
theorem ty_ne {t : String} (n : t ≠ "tuple") : subT t "tuple" = false := by simp [subT, n]
theorem fits_tup {hs : List Hnt} {s : Int} {m : D} {s' : Int} {bs : List Int} (f : Fits hs (.tup [.int s, m]) s' bs) : s' = s ∧ m = .tup (bs.map D.int) := by
  have := f.e
  simp at this
  exact ⟨this.1.symm, this.2⟩
theorem showing_fits_ok {hs : List Hnt} {d : D} (T : ThD h d) (hl : hs.length ≤ 8000) : spec (F_showing_fits [.tup (hs.map hintD), d] h) fun r h' => ∃ b, r = .bl b ∧ (b = true ↔ ∃ s bs, Fits hs d s bs) ∧ h' = h := by
  unfold F_showing_fits
  have I : ∀ (d : D) (t : String), tyD h d = some t → F_is_int [d] h = .ok (.bl (isI d)) h := fun d t => is_int_d
  generalize F_is_int = gi at I
  apply wO_fn
  cases T with
  | other e n =>
    simp -implicitDefEqProofs [m_showing_fits, e, ty_ne n]
    refine ⟨false, rfl, ⟨fun z => (by cases z), ?_⟩, rfl⟩
    rintro ⟨s, bs, f⟩
    rw [f.e] at e
    simp [tyD] at e
    exact absurd e.symm n
  | @len xs n =>
    have n' : ¬ ((xs.length : Int) = 2) := by omega
    simp -implicitDefEqProofs [m_showing_fits, ty_tup, subT, n']
    refine ⟨false, rfl, ⟨fun z => (by cases z), ?_⟩, rfl⟩
    rintro ⟨s, bs, f⟩
    have := f.e
    simp at this
    subst this
    exact absurd rfl n
  | @pair s m t es sb M =>
    simp -implicitDefEqProofs [m_showing_fits, ty_tup, subT, I s t es]
    cases hs0 : isI s with
    | false =>
      simp -implicitDefEqProofs [hs0]
      refine ⟨false, rfl, ⟨fun z => (by cases z), ?_⟩, rfl⟩
      rintro ⟨s', bs, f⟩
      have := f.e
      simp at this
      rw [this.1] at hs0
      cases hs0
    | true =>
      obtain ⟨i0, rfl⟩ := isI_int hs0
      by_cases l0 : i0 < 0
      · simp -implicitDefEqProofs [l0, isI]
        refine ⟨false, rfl, ⟨fun z => (by cases z), ?_⟩, rfl⟩
        rintro ⟨s', bs, f⟩
        have := (fits_tup f).1
        have := f.s0
        omega
      · simp -implicitDefEqProofs [l0, isI]
        cases M with
        | other e n =>
          simp -implicitDefEqProofs [e, ty_ne n]
          refine ⟨false, rfl, ⟨fun z => (by cases z), ?_⟩, rfl⟩
          rintro ⟨s', bs, f⟩
          have := (fits_tup f).2
          rw [this] at e
          simp [tyD] at e
          exact absurd e.symm n
        | @tup bs0 hb =>
          by_cases hl2 : bs0.length = hs.length
          · have z : ZipOk h (.tup (hs.map hintD)) (.tup bs0) (hs.map hintD) bs0 := .inl ⟨rfl, rfl⟩
            simp -implicitDefEqProofs [ty_tup, subT, hl2, z.out]
            refine wS.loop (fun i ρ h' => h' = h ∧ (∃ o4 o5, ρ = [some (.tup (hs.map hintD)), some (.tup [.int i0, .tup bs0]), some (.int i0), some (.tup bs0), o4, o5]) ∧ ∃ bs : List Int, bs0.take i = bs.map D.int ∧ ∀ (j : Nat) x b, hs[j]? = some x → bs[j]? = some b → b < 0 → x.ex = true) ⟨rfl, ⟨none, none, rfl⟩, [], rfl, by simp⟩ ?_ ?_
            · rintro _ h' ⟨rfl, ⟨o4, o5, rfl⟩, bs, e, sg⟩
              refine ⟨by have := z.end (n := hs.length); simpa [hl2] using this, ?_⟩
              simp -implicitDefEqProofs
              rw [← hl2, List.take_length] at e
              subst e
              simp at hl2
              exact ⟨true, rfl, ⟨fun _ => ⟨i0, bs, rfl, by omega, hl2, sg⟩, fun _ => rfl⟩, rfl⟩
            · rintro i _ h' hi ⟨rfl, ⟨o4, o5, rfl⟩, bs, e, sg⟩
              obtain ⟨x, ex⟩ : ∃ x, hs[i]? = some x := ⟨_, List.getElem?_eq_getElem hi⟩
              obtain ⟨b, eb⟩ : ∃ b, bs0[i]? = some b := ⟨_, List.getElem?_eq_getElem (by omega)⟩
              obtain ⟨⟨tb, etb⟩, _⟩ := hb b (List.mem_of_getElem? eb)
              refine ⟨_, _, _, z.at_ (map_at ex) eb, rfl, ?_⟩
              have lb : bs.length = i := by
                have := congrArg List.length e
                simp at this
                omega
              simp -implicitDefEqProofs [I b tb etb]
              cases hb0 : isI b with
              | false =>
                simp -implicitDefEqProofs
                refine ⟨false, rfl, ⟨fun z => (by cases z), ?_⟩, rfl⟩
                rintro ⟨s', bs', f⟩
                have e2 := (fits_tup f).2
                simp at e2
                rw [e2, List.getElem?_map] at eb
                cases q : bs'[i]? with
                | none => rw [q] at eb; cases eb
                | some k => rw [q] at eb; cases eb; cases hb0
              | true =>
                obtain ⟨k, rfl⟩ := isI_int hb0
                have next : (k < 0 → x.ex = true) → ∃ bs : List Int, bs0.take (i + 1) = bs.map D.int ∧ ∀ (j : Nat) x b, hs[j]? = some x → bs[j]? = some b → b < 0 → x.ex = true := by
                  intro hk
                  refine ⟨bs ++ [k], by rw [take_succ eb, e]; simp, fun j y b' h1 h2 h3 => ?_⟩
                  by_cases hj : j < bs.length
                  · rw [List.getElem?_append_left hj] at h2
                    exact sg j y b' h1 h2 h3
                  · by_cases hj2 : j = i
                    · subst hj2
                      rw [List.getElem?_append_right (by omega)] at h2
                      simp [lb] at h2
                      rw [ex] at h1
                      cases h1
                      subst h2
                      exact hk h3
                    · rw [List.getElem?_eq_none (by simp; omega)] at h2
                      cases h2
                by_cases hk : k < 0
                · simp -implicitDefEqProofs [hk, hint1]
                  cases hx : x.ex with
                  | false =>
                    simp -implicitDefEqProofs
                    refine ⟨false, rfl, ⟨fun z => (by cases z), ?_⟩, rfl⟩
                    rintro ⟨s', bs', f⟩
                    have e2 := (fits_tup f).2
                    simp at e2
                    rw [e2, List.getElem?_map] at eb
                    cases q : bs'[i]? with
                    | none => rw [q] at eb; cases eb
                    | some k' =>
                      rw [q] at eb
                      cases eb
                      have := f.sg i x k ex q hk
                      rw [hx] at this
                      cases this
                  | true =>
                    simp -implicitDefEqProofs
                    exact ⟨rfl, ⟨_, _, rfl⟩, next fun _ => hx⟩
                · simp -implicitDefEqProofs [hk]
                  exact ⟨rfl, ⟨_, _, rfl⟩, next fun z => absurd z hk⟩
          · have n' : ¬ ((bs0.length : Int) = hs.length) := by omega
            simp -implicitDefEqProofs [ty_tup, subT, n']
            refine ⟨false, rfl, ⟨fun z => (by cases z), ?_⟩, rfl⟩
            rintro ⟨s', bs, f⟩
            have e2 := (fits_tup f).2
            simp at e2
            subst e2
            have := f.len
            simp at hl2
            exact absurd this hl2
theorem int_eqs : EqBy D.int PyData.int where
  to := fun h n x _ => by simp [toPy]
  eq := fun a b => by simp [PyData.eqv]
  ly := fun a => rfl
  dp := fun a => by simp [PyData.depth]
theorem is_floor_ok {ns : List Int} (a : Atm) : ∃ b, F_is_floor [neverD ns, atomD a] h = .ok (.bl b) h ∧ (b = true ↔ floorA ns a) := by
  obtain ⟨c, e1, _, hc⟩ := int_eqs.inT (h := h) (xs := ns) a.2.2
  by_cases h1 : a.1 = 1
  · exact ⟨true, by simp -implicitDefEqProofs [F_is_floor, mFn, m_is_floor, atomD, neverD, e1, h1], by simp [floorA, h1]⟩
  · exact ⟨c, by simp -implicitDefEqProofs [F_is_floor, mFn, m_is_floor, atomD, neverD, e1, h1], by simp [floorA, h1, hc]⟩
theorem ThD.bds {hs : List Hnt} {d : D} {s : Int} {bs : List Int} (T : ThD h d) (f : Fits hs d s bs) : bd (10 ^ 80) s ∧ ∀ b ∈ bs, bd (10 ^ 80) b := by
  cases T with
  | other e n => rw [f.e] at e; simp [tyD] at e; exact absurd e.symm n
  | len n => have := f.e; simp at this; subst this; exact absurd rfl n
  | pair e sb M =>
    have e2 := f.e
    simp at e2
    obtain ⟨rfl, rfl⟩ := e2
    refine ⟨sb s rfl, fun b hb => ?_⟩
    cases M with
    | other e n => simp [tyD] at e; exact absurd e.symm n
    | tup k => exact (k (.int b) (List.mem_map_of_mem hb)).2 b rfl
def negp (p : Frm × Int) : Frm × Int := (p.1, -p.2)
theorem totC_neg (ps : List (Frm × Int)) : totC (ps.map negp) = -totC ps := by
  induction ps with
  | nil => rfl
  | cons p ps ih => rw [List.map_cons, totC_cons, totC_cons, ih, negp, Int.neg_mul]; dsimp only; omega
theorem totA_neg (ps : List (Frm × Int)) (a : Atm) : totA (ps.map negp) a = -totA ps a := by
  induction ps with
  | nil => rfl
  | cons p ps ih => rw [List.map_cons, totA_cons, totA_cons, ih, negp, Int.neg_mul]; dsimp only; omega
theorem shows_ok {ns : List Int} {gl : Frm} {hs : List Hnt} {d : D} (okg : okF (10 ^ 80) gl) (okh : ∀ x ∈ hs, okF (10 ^ 80) x.f) (T : ThD h d) (hl : hs.length ≤ 8000) :
    spec (F_shows [neverD ns, formD gl, .tup (hs.map hintD), d] h) fun r h' => ∃ b, r = .bl b ∧ (b = true ↔ ShownP ns gl hs d) ∧ Ext noS h h' := by
  unfold F_shows
  have f1 := showing_fits_ok T hl
  have f2 := fun {h : Hh} {q : Nat} {c : Int} {ps : List (Frm × Int)} (e0 : h[q]? = some (.lst (ps.map partD))) okp hl => summed_ok (c := c) e0 okp hl
  have f3 := fun {h : Hh} (a : Atm) => is_floor_ok (h := h) (ns := ns) a
  generalize F_showing_fits = g1 at f1
  generalize F_summed = g2 at f2
  generalize F_is_floor = g3 at f3
  apply wO_fn
  simp -implicitDefEqProofs [-List.append_assoc, -List.length_append, -List.cons_append, m_shows]
  refine wS.bind (f1) ?_
  rintro _ h' ⟨b, rfl, hb, rfl⟩
  cases b with
  | false =>
    simp -implicitDefEqProofs [-List.append_assoc, -List.length_append, -List.cons_append]
    refine ⟨false, rfl, ⟨fun z => (by cases z), ?_⟩, .refl⟩
    rintro ⟨s, bs, f, _⟩
    exact absurd (hb.mpr ⟨s, bs, f⟩) (by simp)
  | true =>
    obtain ⟨s, bs, f⟩ := hb.mp rfl
    obtain ⟨sb, bb⟩ := T.bds f
    obtain ⟨rfl, s0, le, sg⟩ := f
    simp -implicitDefEqProofs [-List.append_assoc, -List.length_append, -List.cons_append]
    have e0 : (h' ++ [Ob.lst [D.tup [formD gl, .int s]]])[h'.length]? = some (.lst ([(gl, s)].map partD)) := push_new
    have E0 : Ext noS h' (h' ++ [Ob.lst [D.tup [formD gl, .int s]]]) := .push
    generalize hr : h'.length = r at e0 ⊢
    generalize h' ++ [Ob.lst [D.tup [formD gl, .int s]]] = h1 at e0 E0 ⊢
    have z : ZipOk h1 (.tup (hs.map hintD)) (.tup (bs.map D.int)) (hs.map hintD) (bs.map D.int) := .inl ⟨rfl, rfl⟩
    have pl : (prs hs bs).length = hs.length := by simp [prs, le]
    simp -implicitDefEqProofs [-List.append_assoc, -List.length_append, -List.cons_append, z.out, le]
    refine wS.loop (fun i ρ h2 => (∃ o7 o8, ρ = [some (neverD ns), some (formD gl), some (.tup (hs.map hintD)), some (.tup [.int s, .tup (bs.map D.int)]), some (.int s), some (.tup (bs.map D.int)), some (.ref r), o7, o8, none, none, none, none]) ∧ h2[r]? = some (.lst (((gl, s) :: ((prs hs bs).take i).map negp).map partD)) ∧ Ext noS h' h2) ⟨⟨none, none, rfl⟩, by simpa using e0, E0⟩ ?_ ?_
    · rintro _ h2 ⟨⟨o7, o8, rfl⟩, e2, E2⟩
      refine ⟨by have := ZipOk.end (h := h2) (n := hs.length) (.inl ⟨rfl, rfl⟩ : ZipOk h2 (.tup (hs.map hintD)) (.tup (bs.map D.int)) _ _); simpa [le] using this, ?_⟩
      rw [List.take_of_length_le (by omega)] at e2
      simp -implicitDefEqProofs [-List.append_assoc, -List.length_append, -List.cons_append]
      have okp : ∀ p ∈ (gl, s) :: (prs hs bs).map negp, okF (10 ^ 80) p.1 ∧ bd (10 ^ 80) p.2 := by
        intro p hp
        rcases List.mem_cons.mp hp with rfl | hp
        · exact ⟨okg, sb⟩
        · obtain ⟨q, hq, rfl⟩ := List.mem_map.mp hp
          have := List.of_mem_zip hq
          obtain ⟨x, hx, e⟩ := List.mem_map.mp this.1
          have b2 := bb _ this.2
          exact ⟨by have := okh x hx; rw [e] at this; exact this, by unfold bd negp at *; dsimp only at *; omega⟩
      refine wS.bind (f2 (c := 0) e2 okp (by simp; omega)) ?_
      rintro _ h3 ⟨ts, rfl, mt, _, _, E3⟩
      rw [totC_cons, totC_neg] at *
      have tA : ∀ a, totA ((gl, s) :: (prs hs bs).map negp) a = s * co gl.2 a - totA (prs hs bs) a := fun a => by rw [totA_cons, totA_neg]; dsimp only; omega
      have tC : 0 + (s * gl.1 + -totC (prs hs bs)) = s * gl.1 - totC (prs hs bs) := by omega
      dsimp only
      rw [tC]
      generalize hC : s * gl.1 - totC (prs hs bs) = C
      have bad : (¬ Enough ns gl hs s bs) → ∃ b, D.bl false = .bl b ∧ (b = true ↔ ShownP ns gl hs (.tup [.int s, .tup (bs.map D.int)])) ∧ Ext noS h' h3 := fun n => ⟨false, rfl, ⟨fun z => (by cases z), by
        rintro ⟨s', bs', f, q⟩
        obtain ⟨e1, e2⟩ := fits_tup f
        have e3 : bs = bs' := ints_inj (D.tup.inj e2)
        subst e1
        subst e3
        exact absurd q n⟩, E2.trans E3⟩
      by_cases c1 : (if s = 0 then 1 else 0) ≤ C
      · have k1 : ¬ C < 0 := by split at c1 <;> omega
        have k2 : ¬ (s = 0 ∧ C < 1) := by
          rintro ⟨rfl, q⟩
          simp at c1
          omega
        have k3 : (if s = 0 then Out.ok (decide (C < 1)) h3 else Out.ok false h3) = Out.ok false h3 := by
          split
          · rename_i e
            rw [decide_eq_false (fun z => k2 ⟨e, z⟩)]
          · rfl
        simp -implicitDefEqProofs [-List.append_assoc, -List.length_append, -List.cons_append, k1, k3]
        refine wS.loop (fun i ρ h4 => h4 = h3 ∧ (∃ o11 o12, ρ = [some (neverD ns), some (formD gl), some (.tup (hs.map hintD)), some (.tup [.int s, .tup (bs.map D.int)]), some (.int s), some (.tup (bs.map D.int)), some (.ref r), o7, o8, some (.int C), some (.tup (ts.map termD)), o11, o12]) ∧ ∀ t ∈ ts.take i, 0 ≤ t.2 ∧ floorA ns t.1) ⟨rfl, ⟨none, none, rfl⟩, by simp⟩ ?_ ?_
        · rintro _ h4 ⟨rfl, ⟨o11, o12, rfl⟩, al⟩
          rw [List.take_length] at al
          refine ⟨by simp, ?_⟩
          simp -implicitDefEqProofs [-List.append_assoc, -List.length_append, -List.cons_append]
          refine ⟨true, rfl, ⟨fun _ => ⟨s, bs, ⟨rfl, s0, le, sg⟩, by rw [hC]; exact c1, fun a => ?_⟩, fun _ => rfl⟩, E2.trans E3⟩
          have := mt a (s * co gl.2 a - totA (prs hs bs) a)
          rw [tA] at this
          by_cases z : s * co gl.2 a - totA (prs hs bs) a = 0
          · rw [z]; exact ⟨by omega, fun y => by omega⟩
          · have := al _ (this.mpr ⟨rfl, z⟩)
            exact ⟨this.1, fun _ => this.2⟩
        · rintro i _ h4 hi ⟨rfl, ⟨o11, o12, rfl⟩, al⟩
          obtain ⟨t, et⟩ : ∃ t, ts[i]? = some t := ⟨_, List.getElem?_eq_getElem (by simpa using hi)⟩
          refine ⟨termD t, _, _, by simp [et], rfl, ?_⟩
          obtain ⟨b, eb, hb2⟩ := f3 (h := h4) t.1
          have mm := (mt t.1 t.2).mp (List.mem_of_getElem? et)
          rw [tA] at mm
          by_cases v0 : t.2 < 0
          · simp -implicitDefEqProofs [-List.append_assoc, -List.length_append, -List.cons_append, v0]
            exact bad fun z => by have := (z.a t.1).1; omega
          · cases b with
            | false =>
              simp -implicitDefEqProofs [-List.append_assoc, -List.length_append, -List.cons_append, v0, eb]
              refine bad fun z => ?_
              have := hb2.mpr ((z.a t.1).2 (by omega))
              cases this
            | true =>
              simp -implicitDefEqProofs [-List.append_assoc, -List.length_append, -List.cons_append, v0, eb]
              refine ⟨rfl, ⟨_, _, rfl⟩, fun x hx => ?_⟩
              rw [take_succ et] at hx
              rcases List.mem_append.mp hx with hx | hx
              · exact al x hx
              · simp at hx
                subst hx
                exact ⟨by omega, hb2.mp rfl⟩
      · have q : C < 0 ∨ (s = 0 ∧ C < 1) := by split at c1 <;> omega
        have nq : ¬ Enough ns gl hs s bs := fun z => c1 (by have := z.c; rw [hC] at this; exact this)
        rcases q with q | ⟨q1, q⟩
        · simp -implicitDefEqProofs [-List.append_assoc, -List.length_append, -List.cons_append, q]
          exact bad nq
        · by_cases q0 : C < 0
          · simp -implicitDefEqProofs [-List.append_assoc, -List.length_append, -List.cons_append, q0]
            exact bad nq
          · subst q1
            simp -implicitDefEqProofs [-List.append_assoc, -List.length_append, -List.cons_append, q0, q]
            exact bad nq
    · rintro i _ h2 hi ⟨⟨o7, o8, rfl⟩, e2, E2⟩
      obtain ⟨x, ex⟩ : ∃ x, hs[i]? = some x := ⟨_, List.getElem?_eq_getElem hi⟩
      obtain ⟨b, eb⟩ : ∃ b, bs[i]? = some b := ⟨_, List.getElem?_eq_getElem (by omega)⟩
      refine ⟨_, _, _, (ZipOk.at_ (.inl ⟨rfl, rfl⟩) (map_at ex) (map_at eb)), rfl, ?_⟩
      have ll : ((((gl, s) :: ((prs hs bs).take i).map negp).map partD)).length < sizeLine := lt_sl (by simp; omega)
      generalize hL : ((gl, s) :: ((prs hs bs).take i).map negp).map partD = L at e2 ll
      simp -implicitDefEqProofs [-List.append_assoc, -List.length_append, -List.cons_append, hint0, e2, lApp e2 ll]
      have r0 : h'.length ≤ r := by omega
      refine ⟨⟨_, _, rfl⟩, ?_, E2.new r0⟩
      rw [set_get e2, take_succ (prs_at ex eb), ← hL]
      simp [partD, negp]
end
end K60
namespace K60
open PySem PySem.Spec L2 PI
open PyProof.Rows hiding St
/-! ### the law's own sum -/
def termP (t : Trm) : PyData := .tuple [atomP t.1, .int t.2]
def formP (f : Frm) : PyData := .tuple [.int f.1, .tuple (f.2.map termP)]
def origP : Option (Int × Int) → PyData
  | none => .none
  | some p => .tuple [.int p.1, .int p.2]
def hintP (x : Hnt) : PyData := .tuple [formP x.f, .bool x.ex, origP x.o]
section
variable {h h1 : Hh} {w g n r : Nat}
theorem term_to (k : Nat) (t : Trm) : toPy h (k + 2) (termD t) = some (termP t) := by
  simp -implicitDefEqProofs [termD, termP, atomD, atomP, toPy, toPys]
theorem form_to (k : Nat) (f : Frm) : toPy h (k + 4) (formD f) = some (formP f) := by
  have e : toPys h (k + 2) (f.2.map termD) = some (f.2.map termP) := toPys_map fun t _ => term_to k t
  simp -implicitDefEqProofs [formD, formP, toPy, toPys, e]
theorem orig_to (k : Nat) (o : Option (Int × Int)) : toPy h (k + 1) (origD o) = some (origP o) := by
  cases o with
  | none => simp -implicitDefEqProofs [origD, origP, toPy]
  | some p => simp -implicitDefEqProofs [origD, origP, toPy, toPys]
theorem hint_data : DataOf hintD hintP where
  to := fun h n x hn => by
    obtain ⟨k, rfl⟩ : ∃ k, n = k + 5 := ⟨n - 5, by omega⟩
    simp -implicitDefEqProofs [hintD, hintP, toPy, toPys, form_to (k := k), orig_to (k := k + 3)]
  ly := fun x => by
    have e : PyData.canLayAll0 (x.f.2.map termP) = true := canAll_map _ fun t => by simp [termP, atomP, PyData.canLay0, PyData.canLayAll0]
    have e2 : (origP x.o).canLay0 = true := by cases x.o <;> simp [origP, PyData.canLay0, PyData.canLayAll0]
    simp [hintP, formP, PyData.canLay0, PyData.canLayAll0, e, e2]
  dp := fun x => by
    have e : PyData.depthAll (x.f.2.map termP) ≤ 2 := depthAll_le fun p hp => by
      obtain ⟨t, _, rfl⟩ := List.mem_map.mp hp
      simp [termP, atomP, PyData.depth, PyData.depthAll]
    have e2 : (origP x.o).depth ≤ 1 := by cases x.o <;> simp [origP, PyData.depth, PyData.depthAll]
    simp [hintP, formP, PyData.depth, PyData.depthAll]
    omega
theorem allI : ∀ {bs0 : List D}, (bs0.map isI).all id = true → ∃ bs : List Int, bs0 = bs.map D.int
  | [], _ => ⟨[], rfl⟩
  | b :: bs0, h => by
    simp at h
    obtain ⟨i, rfl⟩ := isI_int h.1
    obtain ⟨bs, rfl⟩ := allI (bs0 := bs0) (by simpa using h.2)
    exact ⟨i :: bs, rfl⟩
theorem law_shows_ok {ns : List Int} {gl : Frm} {hs : List Hnt} {d : D} (okg : okF (10 ^ 80) gl) (okh : ∀ x ∈ hs, okF (10 ^ 80) x.f) (T : ThD h d) (hl : hs.length ≤ 8000) :
    spec (F__law_shows [neverD ns, formD gl, .tup (hs.map hintD), d] h) fun r h' => ∃ b, r = .bl b ∧ (b = true ↔ ShownP ns gl hs d) ∧ Ext noS h h' := by
  unfold F__law_shows
  have I : ∀ {h : Hh} (d : D) (t : String), tyD h d = some t → F__law_is_int [d] h = .ok (.bl (isI d)) h := fun d t => law_is_int_d
  have f1 := fun {h : Hh} {hd md : D} {hs : List Hnt} {bs : List Int} {g : Frm} {s : Int} (z : ZipOk h hd md (hs.map hintD) (bs.map D.int)) okg okh sb bb hl le => rest_ok (g := g) (s := s) z okg okh sb bb hl le
  generalize F__law_is_int = gi at I
  generalize F__law_rest = gr at f1
  apply wO_fn
  have bad : (¬ ∃ s bs, Fits hs d s bs) → ∀ h', Ext noS h h' → ∃ b, D.bl false = .bl b ∧ (b = true ↔ ShownP ns gl hs d) ∧ Ext noS h h' := fun n h' E => ⟨false, rfl, ⟨fun z => (by cases z), fun ⟨s, bs, f, _⟩ => absurd ⟨s, bs, f⟩ n⟩, E⟩
  cases T with
  | other e n =>
    simp -implicitDefEqProofs [-List.append_assoc, -List.length_append, -List.cons_append, m__law_shows, e, ty_ne n]
    refine bad ?_ _ .refl
    rintro ⟨s, bs, f⟩
    rw [f.e] at e
    simp [tyD] at e
    exact absurd e.symm n
  | @len xs n =>
    have n' : ¬ ((xs.length : Int) = 2) := by omega
    simp -implicitDefEqProofs [-List.append_assoc, -List.length_append, -List.cons_append, m__law_shows, ty_tup, subT, n']
    refine bad ?_ _ .refl
    rintro ⟨s, bs, f⟩
    have := f.e
    simp at this
    subst this
    exact absurd rfl n
  | @pair s m t es sb M =>
    simp -implicitDefEqProofs [-List.append_assoc, -List.length_append, -List.cons_append, m__law_shows, ty_tup, subT, I s t es]
    cases hs0 : isI s with
    | false =>
      simp -implicitDefEqProofs [-List.append_assoc, -List.length_append, -List.cons_append, hs0]
      refine bad ?_ _ .refl
      rintro ⟨s', bs, f⟩
      have := f.e
      simp at this
      rw [this.1] at hs0
      cases hs0
    | true =>
      obtain ⟨i0, rfl⟩ := isI_int hs0
      by_cases l0 : i0 < 0
      · simp -implicitDefEqProofs [-List.append_assoc, -List.length_append, -List.cons_append, l0, isI]
        refine bad ?_ _ .refl
        rintro ⟨s', bs, f⟩
        have := (fits_tup f).1
        have := f.s0
        omega
      · cases M with
        | other e n =>
          simp -implicitDefEqProofs [-List.append_assoc, -List.length_append, -List.cons_append, l0, isI, e, ty_ne n]
          refine bad ?_ _ .refl
          rintro ⟨s', bs, f⟩
          have := (fits_tup f).2
          rw [this] at e
          simp [tyD] at e
          exact absurd e.symm n
        | @tup bs0 hb =>
          by_cases hl2 : bs0.length = hs.length
          · simp -implicitDefEqProofs [-List.append_assoc, -List.length_append, -List.cons_append, l0, isI, ty_tup, subT, hl2, wipeR]
            refine wS.bind (spec.lct (R := fun d h' => d = .ref h.length ∧ h' = h ++ [.lst ((bs0.map isI).map D.bl)]) (xs := bs0) (enc := fun d => d) (fun d => some (.bl (isI d))) hl2.symm (lt_sl (by omega)) (fun acc i => by rw [jSrc_tup]; simp) (fun b hb2 acc => ?_) ?_) ?_
            · obtain ⟨⟨tb, etb⟩, _⟩ := hb b hb2
              have i1 := I b tb (tyD_ext (S := noS) (.push (l := [.lst acc])) etb)
              exact ⟨_, rfl, rfl, by simp -implicitDefEqProofs [-List.append_assoc, -List.length_append, -List.cons_append, i1]⟩
            · refine ⟨rfl, ?_⟩
              rw [List.map_map, ← List.filterMap_eq_map]
              rfl
            · rintro _ h1 ⟨rfl, eh⟩
              have E1 : Ext noS h h1 := eh ▸ .push
              have k1 : h1[h.length]? = some (.lst ((bs0.map isI).map D.bl)) := by rw [eh]; exact push_new
              clear eh
              have al := bAll_ok k1
              cases hall : (bs0.map isI).all id with
              | false =>
                rw [hall] at al
                simp -implicitDefEqProofs [-List.append_assoc, -List.length_append, -List.cons_append, al]
                refine bad ?_ _ E1
                rintro ⟨s', bs, f⟩
                have e2 := (fits_tup f).2
                simp at e2
                subst e2
                rw [List.map_map] at hall
                simp [isI, Function.comp_def] at hall
              | true =>
                rw [hall] at al
                obtain ⟨bs, rfl⟩ := allI hall
                have le : bs.length = hs.length := by simpa using hl2
                have z : ZipOk h1 (.tup (hs.map hintD)) (.tup (bs.map D.int)) (hs.map hintD) (bs.map D.int) := .inl ⟨rfl, rfl⟩
                simp -implicitDefEqProofs [-List.append_assoc, -List.length_append, -List.cons_append, al, z.out, le, wipeR]
                refine wS.bind (spec.lct (R := fun d h' => ∃ vs : List Hnt, d = .ref h1.length ∧ h' = h1 ++ [.lst (vs.map hintD)] ∧ (vs = [] ↔ ∀ p ∈ hs.zip bs, p.2 < 0 → p.1.ex = true)) (xs := hs.zip bs) (enc := fun p => .tup [hintD p.1, .int p.2]) (fun p => if p.2 < 0 ∧ p.1.ex = false then some (hintD p.1) else none) (by simp; omega) (lt_sl (by omega)) (fun acc i => ?_) (fun p hp acc => ?_) ?_) ?_
                · rw [ZipOk.all (.inl ⟨rfl, rfl⟩), List.zip_map, List.getElem?_map, List.getElem?_map]
                  cases (hs.zip bs)[i]? <;> rfl
                · refine ⟨_, rfl, ?_⟩
                  by_cases p0 : p.2 < 0
                  · cases px : p.1.ex with
                    | false => simp -implicitDefEqProofs [-List.append_assoc, -List.length_append, -List.cons_append, p0, hint1, px]
                    | true => simp -implicitDefEqProofs [-List.append_assoc, -List.length_append, -List.cons_append, p0, hint1, px]
                  · simp -implicitDefEqProofs [-List.append_assoc, -List.length_append, -List.cons_append, p0]
                · refine ⟨((hs.zip bs).filter fun p => decide (p.2 < 0 ∧ p.1.ex = false)).map (·.1), rfl, ?_, ?_⟩
                  · rw [filterMap_if (enc := fun p : Hnt × Int => hintD p.1), List.map_map]; rfl
                  · simp
                · rintro _ _ ⟨vs, rfl, rfl, hv⟩
                  have k2 : (h1 ++ [Ob.lst (vs.map hintD)])[h1.length]? = some (.lst (vs.map hintD)) := push_new
                  have E2 : Ext noS h (h1 ++ [Ob.lst (vs.map hintD)]) := E1.pushR
                  generalize hq : h1.length = q at k2
                  generalize h1 ++ [Ob.lst (vs.map hintD)] = h2 at k2 E2
                  have nn := hint_data.ne_nil (h := h2 ++ [.lst []]) (e := h2.length) (push_get k2) push_new
                  have E3 : Ext noS h (h2 ++ [.lst []]) := E2.pushR
                  generalize hq2 : h2.length = q2 at nn
                  generalize hh3 : h2 ++ [Ob.lst []] = h3 at nn E3
                  simp -implicitDefEqProofs [-List.append_assoc, -List.length_append, -List.cons_append, hq, hq2, hh3, nn]
                  by_cases hve : vs = []
                  rotate_left
                  · simp -implicitDefEqProofs [-List.append_assoc, -List.length_append, -List.cons_append, hve]
                    refine bad ?_ _ E3
                    rintro ⟨s', bs', f⟩
                    obtain ⟨e1, e2⟩ := fits_tup f
                    have e3 := ints_inj (D.tup.inj e2)
                    subst e3
                    refine absurd (hv.mpr fun p hp p0 => by
                      obtain ⟨i, hi, e⟩ := List.mem_iff_getElem.mp hp
                      have e := List.getElem?_eq_some_iff.mpr ⟨hi, e⟩
                      rw [List.getElem?_zip_eq_some] at e
                      exact f.sg i _ _ e.1 e.2 p0) hve
                  · have F : Fits hs (.tup [.int i0, .tup (bs.map D.int)]) i0 bs := ⟨rfl, by omega, le, fun i x b h1 h2 h3 => by
                      have := hv.mp hve (x, b) (List.mem_of_getElem? (List.getElem?_zip_eq_some.mpr ⟨h1, h2⟩) : _ ∈ hs.zip bs) h3
                      exact this⟩
                    have sb' := sb i0 rfl
                    have bb : ∀ b ∈ bs, bd (10 ^ 80) b := fun b hb2 => (hb (.int b) (List.mem_map_of_mem hb2)).2 b rfl
                    have z3 : ZipOk h3 (.tup (hs.map hintD)) (.tup (bs.map D.int)) (hs.map hintD) (bs.map D.int) := .inl ⟨rfl, rfl⟩
                    simp -implicitDefEqProofs [-List.append_assoc, -List.length_append, -List.cons_append, hve]
                    refine wS.bind (f1 (g := gl) (s := i0) z3 okg okh sb' bb hl le) ?_
                    rintro _ h4 ⟨q3, t, rfl, k4, T4, t0, q0, qt, E4⟩
                    simp -implicitDefEqProofs [-List.append_assoc, -List.length_append, -List.cons_append, gmSeq_lst k4]
                    generalize hC : i0 * gl.1 - totC (prs hs bs) = C
                    have E34 := E3.trans E4
                    have bad2 : (¬ Enough ns gl hs i0 bs) → ∃ b, D.bl false = .bl b ∧ (b = true ↔ ShownP ns gl hs (.tup [.int i0, .tup (bs.map D.int)])) ∧ Ext noS h h4 := fun n => ⟨false, rfl, ⟨fun z => (by cases z), by
                      rintro ⟨s', bs', f, q⟩
                      obtain ⟨e1, e2⟩ := fits_tup f
                      have e3 := ints_inj (D.tup.inj e2)
                      subst e1
                      subst e3
                      exact absurd q n⟩, E34⟩
                    by_cases c1 : C < if i0 = 0 then 1 else 0
                    · simp -implicitDefEqProofs [-List.append_assoc, -List.length_append, -List.cons_append, c1]
                      exact bad2 fun z => by have := z.c; rw [hC] at this; omega
                    · simp -implicitDefEqProofs [-List.append_assoc, -List.length_append, -List.cons_append, c1]
                      obtain ⟨tb, et, nd, lk, at_, tl⟩ := T4.ex
                      refine wS.lockT (k := t) rfl et ?_
                      have e5 := set_get (o' := .dlkT (tabD keyA tb)) et
                      have sb5 : (h4.set t (.dlkT (tabD keyA tb))).set t (.dctT (tabD keyA tb)) = h4 := set_back et
                      generalize h4.set t (.dlkT (tabD keyA tb)) = h5 at e5 sb5
                      simp -implicitDefEqProofs [-List.append_assoc, -List.length_append, -List.cons_append, lkLen_T e5]
                      have ln : (tabD keyA tb).length = tb.length := by simp [tabD]
                      rw [ln]
                      refine wS.loop (fun i ρ h6 => h6 = h5 ∧ (∃ o6 o7, ρ = [some (neverD ns), some (formD gl), some (.tup (hs.map hintD)), some (.tup [.int i0, .tup (bs.map D.int)]), some (.int C), some (.ref t), o6, o7, none, none]) ∧ ∀ p ∈ tb.take i, 0 ≤ p.2 ∧ (0 < p.2 → floorA ns p.1)) ⟨rfl, ⟨none, none, rfl⟩, by simp⟩ ?_ ?_
                      · rintro _ h6 ⟨rfl, ⟨o6, o7, rfl⟩, al⟩
                        rw [List.take_length] at al
                        refine ⟨by rw [jItems_T e5]; simp [tabD], _, e5, ?_⟩
                        rw [sb5]
                        simp -implicitDefEqProofs [-List.append_assoc, -List.length_append, -List.cons_append]
                        refine ⟨true, rfl, ⟨fun _ => ⟨i0, bs, F, by rw [hC]; omega, fun a => ?_⟩, fun _ => rfl⟩, E34⟩
                        rw [← lk a]
                        by_cases m : a ∈ tb.map (·.1)
                        · obtain ⟨p, hp, rfl⟩ := List.mem_map.mp m
                          rw [look_mem nd hp]
                          exact al p hp
                        · rw [look_not m]
                          exact ⟨by omega, fun z => by omega⟩
                      · rintro i _ h6 hi ⟨rfl, ⟨o6, o7, rfl⟩, al⟩
                        obtain ⟨p, ep⟩ : ∃ p, tb[i]? = some p := ⟨_, List.getElem?_eq_getElem hi⟩
                        have mp := List.mem_of_getElem? ep
                        have lp := look_mem nd mp
                        rw [lk] at lp
                        have okp : okA p.1 := by
                          rcases at_ p.1 (List.mem_map_of_mem mp) with ⟨t, ht, e⟩ | ⟨x, hx, t, ht, e⟩
                          · rw [← e]; exact (okg.t t ht).1
                          · rw [← e]; exact ((okh x hx).t t ht).1
                        refine ⟨.tup [atomD p.1, .int p.2], _, _, by rw [jItems_T e5, tabD, List.getElem?_map, ep]; rfl, rfl, ?_⟩
                        have bad3 : (¬ Enough ns gl hs i0 bs) → ∃ kvs', h6[t]? = some (.dlkT kvs') ∧ ∃ b, D.bl false = .bl b ∧ (b = true ↔ ShownP ns gl hs (.tup [.int i0, .tup (bs.map D.int)])) ∧ Ext noS h (h6.set t (.dctT kvs')) := fun n => ⟨_, e5, by rw [sb5]; exact bad2 n⟩
                        have next : (0 ≤ p.2 ∧ (0 < p.2 → floorA ns p.1)) → ∀ x ∈ tb.take (i + 1), 0 ≤ x.2 ∧ (0 < x.2 → floorA ns x.1) := by
                          intro hp x hx
                          rw [take_succ ep] at hx
                          rcases List.mem_append.mp hx with hx | hx
                          · exact al x hx
                          · simp at hx; subst hx; exact hp
                        obtain ⟨c, _, en, hc⟩ := int_eqs.inT (h := h6) (xs := ns) p.1.2.2
                        by_cases p0 : p.2 < 0
                        · simp -implicitDefEqProofs [-List.append_assoc, -List.length_append, -List.cons_append, p0]
                          exact bad3 fun z => by have := (z.a p.1).1; omega
                        · by_cases p1 : 0 < p.2
                          · rcases okp with ⟨a0, _⟩ | ⟨a1, _⟩
                            · cases c with
                              | false =>
                                simp -implicitDefEqProofs [-List.append_assoc, -List.length_append, -List.cons_append, p0, p1, atomD, a0, oGt, en, neverD]
                                refine bad3 fun z => ?_
                                rcases (z.a p.1).2 (by omega) with y | y
                                · omega
                                · have := hc.mpr y; cases this
                              | true =>
                                simp -implicitDefEqProofs [-List.append_assoc, -List.length_append, -List.cons_append, p0, p1, atomD, a0, oGt, en, neverD]
                                exact ⟨rfl, ⟨_, _, rfl⟩, next ⟨by omega, fun _ => .inr (hc.mp rfl)⟩⟩
                            · simp -implicitDefEqProofs [-List.append_assoc, -List.length_append, -List.cons_append, p0, p1, atomD, a1, oGt]
                              exact ⟨rfl, ⟨_, _, rfl⟩, next ⟨by omega, fun _ => .inl a1⟩⟩
                          · simp -implicitDefEqProofs [-List.append_assoc, -List.length_append, -List.cons_append, p0, p1, oGt]
                            exact ⟨rfl, ⟨_, _, rfl⟩, next ⟨by omega, fun z => absurd z p1⟩⟩
          · have n' : ¬ ((bs0.length : Int) = hs.length) := by omega
            simp -implicitDefEqProofs [-List.append_assoc, -List.length_append, -List.cons_append, l0, isI, ty_tup, subT, n']
            refine bad ?_ _ .refl
            rintro ⟨s', bs, f⟩
            have e2 := (fits_tup f).2
            simp at e2
            subst e2
            have := f.len
            simp at hl2
            exact absurd this hl2
end
end K60
namespace K60
open PySem PySem.Spec L2 PI
open PyProof.Rows hiding St
section
variable {h h1 : Hh} {w g n r : Nat}
theorem is_shown_ok {ns : List Int} {gl : Frm} {hs : List Hnt} {d : D} (okn : okN ns) (okg : okF (10 ^ 80) gl) (okh : ∀ x ∈ hs, okH (10 ^ 80) x) (T : ThD h d) (hl : hs.length ≤ 8000) :
    spec (F_is_shown [neverD ns, formD gl, .tup (hs.map hintD), d] h) fun r h' => ∃ b, r = .bl b ∧ (b = true ↔ ShownP ns gl hs d) ∧ Ext noS h h' := by
  unfold F_is_shown
  have n1 := need_never_eq (h := h) okn
  have n2 := need_goal_eq (h := h) okg
  have n3 := need_hints_eq (h := h) okh hl
  have f1 := shows_ok (h := h) (ns := ns) okg (fun x hx => (okh x hx).1) T hl
  generalize F_need_never = g1 at n1
  generalize F_need_goal = g2 at n2
  generalize F_need_hints = g3 at n3
  generalize F_shows = g4 at f1
  apply wO_fn
  simp -implicitDefEqProofs [-List.append_assoc, -List.length_append, -List.cons_append, m_is_shown, n1, n2, n3]
  refine wS.bind (f1) ?_
  rintro _ h' ⟨b, rfl, hb, E⟩
  simp -implicitDefEqProofs [-List.append_assoc, -List.length_append, -List.cons_append]
  exact ⟨b, rfl, hb, E⟩
theorem sum_of_ok {c : Int} {S : Atm → Int} {A : Atm → Prop} (T : Tab h r S A n) (hn : n < 1000000) :
    spec (F__law_sum_of [.int c, .ref r] h) fun d h' => ∃ ts : List Trm, d = formD (c, ts) ∧ (∀ a v, (a, v) ∈ ts ↔ v = S a ∧ v ≠ 0) ∧ ts.Pairwise (fun s t => ltA s.1 t.1) ∧ (∀ t ∈ ts, A t.1) ∧ Ext noS h h' := by
  unfold F__law_sum_of
  apply wO_fn
  obtain ⟨t, e, nd, lk, at_, len⟩ := T.ex
  have so := atom_sorts.keys (ke := keyA) keyA_D e
  have e3 : (h ++ [Ob.lst (((t.map (·.1)).mergeSort leA).map atomD)])[r]? = _ := push_get e
  have e4 : (h ++ [Ob.lst (((t.map (·.1)).mergeSort leA).map atomD)])[h.length]? = some (.lst (((t.map (·.1)).mergeSort leA).map atomD)) := push_new
  have lt := sortA_lt nd
  have ml := List.length_mergeSort (le := leA) (t.map (·.1))
  have mm : ∀ a, a ∈ (t.map (·.1)).mergeSort leA ↔ a ∈ t.map (·.1) := fun a => List.mem_mergeSort
  have E3 : Ext noS h (h ++ [Ob.lst (((t.map (·.1)).mergeSort leA).map atomD)]) := .push
  simp -implicitDefEqProofs [-List.append_assoc, -List.length_append, -List.cons_append, m__law_sum_of, so]
  rw [List.length_map] at ml
  generalize (t.map (·.1)).mergeSort leA = ks at so e3 e4 lt ml mm E3 ⊢
  generalize hq : h.length = q at e4 ⊢
  generalize h ++ [Ob.lst (ks.map atomD)] = h3 at e3 e4 E3 ⊢
  simp -implicitDefEqProofs [-List.append_assoc, -List.length_append, -List.cons_append, iterA_lst e4, wipeR]
  refine wS.bind (spec.lct (R := fun d h' => d = .ref h3.length ∧ h' = h3 ++ [.lst ((ks.filter fun a => look t a ≠ 0).map fun a => termD (a, look t a))]) (xs := ks) (enc := atomD) (fun a => if look t a ≠ 0 then some (termD (a, look t a)) else none) rfl (lt_sl (by omega)) (fun acc i => jSrc_lst (push_get e4)) (fun a ha acc => ?_) ?_) ?_
  · refine ⟨_, rfl, ?_⟩
    have gg := tab_oGet (h := h3 ++ [.lst acc]) (push_get e3) ((mm a).mp ha)
    by_cases hz : look t a = 0
    · simp -implicitDefEqProofs [-List.append_assoc, -List.length_append, -List.cons_append, gg, hz]
    · simp -implicitDefEqProofs [-List.append_assoc, -List.length_append, -List.cons_append, gg, hz, termD]
  · exact ⟨rfl, by rw [filterMap_if]⟩
  · rintro _ _ ⟨rfl, rfl⟩
    simp -implicitDefEqProofs [-List.append_assoc, -List.length_append, -List.cons_append]
    refine ⟨(ks.filter fun a => look t a ≠ 0).map fun a => (a, look t a), by simp [formD, Function.comp_def], ?_, ?_, ?_, E3.pushR⟩
    · intro a v
      constructor
      · intro m
        obtain ⟨b, hb, e⟩ := List.mem_map.mp m
        obtain ⟨_, m2⟩ := List.mem_filter.mp hb
        cases e
        refine ⟨lk a, by simpa using m2⟩
      · rintro ⟨rfl, nz⟩
        rw [← lk a] at nz ⊢
        refine List.mem_map.mpr ⟨a, List.mem_filter.mpr ⟨(mm a).mpr ?_, by simpa using nz⟩, rfl⟩
        by_cases z : a ∈ t.map (·.1)
        · exact z
        · exact absurd (look_not z) nz
    · rw [List.pairwise_map]
      exact lt.filter _
    · intro x hx
      obtain ⟨b, hb, rfl⟩ := List.mem_map.mp hx
      exact at_ b ((mm b).mp (List.mem_filter.mp hb).1)
/-! ### plain sums -/
theorem nodup_len {α : Type} [DecidableEq α] : ∀ {l m : List α}, l.Nodup → (∀ x ∈ l, x ∈ m) → l.length ≤ m.length
  | [], _, _, _ => by simp
  | a :: l, m, nd, s => by
    rw [List.nodup_cons] at nd
    have ha := s a List.mem_cons_self
    have := nodup_len (l := l) (m := m.erase a) nd.2 fun x hx => by
      have hx2 := s x (List.mem_cons_of_mem _ hx)
      exact (List.mem_erase_of_ne (fun z => nd.1 (by rw [← z]; exact hx))).mpr hx2
    have := List.length_erase_of_mem ha
    have := List.length_pos_of_mem ha
    simp
    omega
theorem bd_mul {A B x y : Int} (a : bd A x) (b : bd B y) : bd (A * B) (x * y) := by
  have h1 : x.natAbs < A.toNat := by unfold bd at a; omega
  have h2 : y.natAbs < B.toNat := by unfold bd at b; omega
  have h3 : (x * y).natAbs < A.toNat * B.toNat := by
    rw [Int.natAbs_mul]
    exact Nat.mul_lt_mul'' h1 h2
  have h4 : ((A.toNat * B.toNat : Nat) : Int) = A * B := by
    rw [Int.natCast_mul, Int.toNat_of_nonneg (by unfold bd at a; omega), Int.toNat_of_nonneg (by unfold bd at b; omega)]
  unfold bd
  omega
theorem co_mem {ts : List Trm} (so : ts.Pairwise fun s t => ltA s.1 t.1) {t : Trm} (m : t ∈ ts) : co ts t.1 = t.2 := by
  induction ts with
  | nil => cases m
  | cons s ts ih =>
    rw [List.pairwise_cons] at so
    unfold co at ih ⊢
    rw [List.map_cons, List.sum_cons]
    rcases List.mem_cons.mp m with rfl | m
    · rw [if_pos rfl]
      have : co ts t.1 = 0 := co_not fun s hs e => ltA_irr t.1 (by have := so.1 s hs; rw [e] at this; exact this)
      unfold co at this
      rw [this]
      omega
    · have : ¬ s.1 = t.1 := fun e => ltA_irr t.1 (by have := so.1 t m; rw [e] at this; exact this)
      rw [if_neg this, ih so.2 m]
      omega
theorem co_bd {B : Int} (hB : 0 < B) {f : Frm} (ok : okF B f) (a : Atm) : bd B (co f.2 a) := by
  by_cases m : ∃ t ∈ f.2, t.1 = a
  · obtain ⟨t, ht, rfl⟩ := m
    rw [co_mem ok.o ht]
    exact (ok.t t ht).2.2
  · rw [co_not fun t ht e => m ⟨t, ht, e⟩]
    unfold bd
    omega
/-- what the terms say, if they say S -/
theorem co_of {ts : List Trm} (so : ts.Pairwise fun s t => ltA s.1 t.1) {S : Atm → Int} (m : ∀ a v, (a, v) ∈ ts ↔ v = S a ∧ v ≠ 0) (a : Atm) : co ts a = S a := by
  by_cases z : S a = 0
  · rw [z]
    refine co_not fun t ht e => ?_
    have := (m t.1 t.2).mp ht
    rw [e, z] at this
    exact this.2 this.1
  · have := (m a (S a)).mpr ⟨rfl, z⟩
    exact co_mem so this
theorem tot_bd {M : Int} {ps : List (Frm × Int)} (k : ∀ p ∈ ps, bd M (p.2 * p.1.1) ∧ ∀ a, bd M (p.2 * co p.1.2 a)) : (-(ps.length * M) ≤ totC ps ∧ totC ps ≤ ps.length * M) ∧ ∀ a, -(ps.length * M) ≤ totA ps a ∧ totA ps a ≤ ps.length * M := by
  induction ps with
  | nil => simp [totC, totA]
  | cons p ps ih =>
    have i := ih fun q hq => k q (List.mem_cons_of_mem _ hq)
    have kp := k p List.mem_cons_self
    have e : ((p :: ps).length : Int) * M = ps.length * M + M := by rw [List.length_cons, Int.natCast_add, Int.add_mul]; simp
    rw [e]
    refine ⟨?_, fun a => ?_⟩
    · rw [totC_cons]; have := kp.1; unfold bd at this; omega
    · rw [totA_cons]; have := kp.2 a; have := i.2 a; unfold bd at *; omega
theorem totA_dvd {s : Int} {ps : List (Frm × Int)} (k : ∀ p ∈ ps, s ∣ p.2) (a : Atm) : s ∣ totA ps a := by
  induction ps with
  | nil => exact ⟨0, by simp [totA]⟩
  | cons p ps ih =>
    rw [totA_cons]
    exact Int.dvd_add (Int.dvd_trans (k p List.mem_cons_self) ⟨_, rfl⟩) (ih fun q hq => k q (List.mem_cons_of_mem _ hq))
theorem totA_zero {ps : List (Frm × Int)} {a : Atm} (k : ∀ p ∈ ps, ∀ t ∈ p.1.2, t.1 ≠ a) : totA ps a = 0 := by
  induction ps with
  | nil => rfl
  | cons p ps ih =>
    rw [totA_cons, co_not (k p List.mem_cons_self), ih fun q hq => k q (List.mem_cons_of_mem _ hq)]
    omega
end
end K60
namespace K60
open PySem PySem.Spec L2 PI
open PyProof.Rows hiding St
section
variable {h h1 : Hh} {w g n r : Nat}
/-! ### the made showing -/
instance (ns : List Int) (a : Atm) : Decidable (floorA ns a) := by unfold floorA; infer_instance
theorem lw_of (W : IsWell h w g n) : w < h.length ∧ g < h.length := ⟨lt_of W.d.choose_spec.choose_spec.1, lt_of W.l.choose_spec.1⟩
theorem okF.up {B C : Int} {f : Frm} (o : okF B f) (l : B ≤ C) : okF C f := ⟨bd_up o.c l, fun t ht => ⟨(o.t t ht).1, (o.t t ht).2.1, bd_up (o.t t ht).2.2 l⟩, o.o, o.n⟩
abbrev drawT (gd : FnM) (w g : Nat) : Prop := ∀ {h : Hh} {n : Nat} {many : Int}, IsWell h w g n → 0 < many ∧ many < 1073741824 → n < 1000000000 → spec (gd [.ref w, .int many] h) fun d h' => ∃ x, d = .int x ∧ (0 ≤ x ∧ x < many) ∧ IsWell h' w g (n + 1) ∧ Ext (Wl w g) h h'
abbrev byT (gb : FnM) (w g : Nat) : Prop := ∀ {h : Hh} {n : Nat}, IsWell h w g n → n < 100000000 → spec (gb [.ref w] h) fun d h' => ∃ x, d = .int x ∧ bd (10 ^ 32) x ∧ IsWell h' w g (n + 3) ∧ Ext (Wl w g) h h'
/-- the floors of a table made less -/
structure Less (ns : List Int) (fl : List Atm) (S0 S : Atm → Int) (K : Int) : Prop where
  le : ∀ a, S a ≤ S0 a ∧ S0 a - S a ≤ K
  ch : ∀ a, S a ≠ S0 a → a ∈ fl
structure Made (ns : List Int) (as : List Atm) (gl : Frm) (hs : List Hnt) (s : Int) (bs : List Int) : Prop where
  g : okF (10 ^ 70) gl
  gm : ∀ t ∈ gl.2, t.1 ∈ as
  h : ∀ x ∈ hs, okH (10 ^ 70) x
  l : hs.length ≤ 301
  f : Fits hs (.tup [.int s, .tup (bs.map D.int)]) s bs
  s6 : s < 6
  bb : ∀ b ∈ bs, bd (10 ^ 33) b
  e : Enough ns gl hs s bs
theorem abs_eq (x : Int) : (if x < 0 then -x else x) = (x.natAbs : Int) := by split <;> omega
theorem prs_snoc {hs : List Hnt} {bs : List Int} (X : Hnt) (b : Int) (l : bs.length = hs.length) : prs (hs ++ [X]) (bs ++ [b]) = prs hs bs ++ [(X.f, b)] := by
  unfold prs
  rw [List.map_append, List.zip_append (by simp [l])]
  rfl
theorem sum_len {ts : List Trm} {as : List Atm} (so : ts.Pairwise fun s t => ltA s.1 t.1) (m : ∀ t ∈ ts, t.1 ∈ as) : ts.length ≤ as.length := by
  have nd : (ts.map (·.1)).Nodup := by
    refine (List.pairwise_map.mpr so).imp ?_
    rintro a b h rfl
    exact ltA_irr _ h
  have := nodup_len nd (m := as) fun x hx => by
    obtain ⟨t, ht, rfl⟩ := List.mem_map.mp hx
    exact m t ht
  simpa using this
theorem made_ok {ns : List Int} {as : List Atm} {q : Nat} (W : IsWell h w g n) (hn : n < 1000000) (e : h[q]? = some (.lst (as.map atomD))) (q0 : ¬ Wl w g q) (ha : ∀ a ∈ as, okA a) (so : as.Pairwise ltA) (al : as.length ≤ 9) :
    spec (F__law_made [.ref w, neverD ns, .ref q] h) fun d h' => ∃ (p : Nat) (gl : Frm) (hs : List Hnt) (s : Int) (bs : List Int), d = .ref p ∧ h'[p]? = some (.lst [formD gl, .tup (hs.map hintD), .tup [.int s, .tup (bs.map D.int)]]) ∧ Made ns as gl hs s bs ∧ IsWell h' w g (n + 40000) ∧ Ext (Wl w g) h h' := by
  unfold F__law_made
  have dr : drawT F__law_draw w g := fun W m0 hn => draw_dec W m0 hn
  generalize F__law_draw = gd at dr
  have by_ : byT F__law_by w g := fun W hn => by_ok W hn
  generalize F__law_by = gb at by_
  have df := fun {h : Hh} {n r : Nat} {as : List Atm} (W : IsWell h w g n) hn (e : h[r]? = some (.lst (as.map atomD))) ha so al r0 => drawn_form_ok W hn e ha so al r0
  generalize F__law_drawn_form = gf at df
  have og := fun {h : Hh} {n : Nat} (W : IsWell h w g n) hn => origin_ok W hn
  generalize F__law_origin = go at og
  have rs := fun {h : Hh} {hd md : D} {hs : List Hnt} {bs : List Int} {g : Frm} {s : Int} (z : ZipOk h hd md (hs.map hintD) (bs.map D.int)) okg okh sb bb hl le => rest_ok (g := g) (s := s) z okg okh sb bb hl le
  generalize F__law_rest = gr at rs
  have sm := fun {h : Hh} {n r : Nat} {c : Int} {S : Atm → Int} {A : Atm → Prop} (T : Tab h r S A n) hn => sum_of_ok (c := c) T hn
  generalize F__law_sum_of = gs at sm
  apply wO_fn
  obtain ⟨w0, g0⟩ := lw_of W
  simp -implicitDefEqProofs [-List.append_assoc, -List.length_append, -List.cons_append, m__law_made, iterA_lst e, wipeR]
  -- the floors
  refine wS.bind (spec.lct (R := fun d h' => ∃ fl : List Atm, d = .ref h.length ∧ h' = h ++ [.lst (fl.map atomD)] ∧ fl.Sublist as ∧ ∀ a ∈ fl, floorA ns a) (xs := as) (enc := atomD) (fun a => if floorA ns a then some (atomD a) else none) rfl (lt_sl (by omega)) (fun acc i => jSrc_lst (push_get e)) (fun a ha acc => ?_) ?_) ?_
  · refine ⟨_, rfl, ?_⟩
    obtain ⟨c, ei, _, hc⟩ := int_eqs.inT (h := h ++ [Ob.lst acc]) (xs := ns) a.2.2
    by_cases h1 : a.1 = 1
    · have : floorA ns a := .inl h1
      rw [if_pos this]
      simp -implicitDefEqProofs [-List.append_assoc, -List.length_append, -List.cons_append, atomD, h1]
    · by_cases h2 : a.2.2 ∈ ns
      · have : floorA ns a := .inr h2
        rw [if_pos this]
        rw [hc.mpr h2] at ei
        simp -implicitDefEqProofs [-List.append_assoc, -List.length_append, -List.cons_append, atomD, h1, neverD, ei]
      · have : ¬ floorA ns a := fun z => z.elim h1 h2
        rw [if_neg this]
        have c0 : c = false := by cases c <;> simp_all
        rw [c0] at ei
        simp -implicitDefEqProofs [-List.append_assoc, -List.length_append, -List.cons_append, atomD, h1, neverD, ei]
  · refine ⟨as.filter fun a => decide (floorA ns a), rfl, by rw [filterMap_if], List.filter_sublist, fun a m => by simpa using (List.mem_filter.mp m).2⟩
  · rintro _ _ ⟨fl, rfl, rfl, fls, flo⟩
    have f1 : (h ++ [Ob.lst (fl.map atomD)])[h.length]? = some (.lst (fl.map atomD)) := push_new
    have e1 : (h ++ [Ob.lst (fl.map atomD)])[q]? = _ := push_get e
    have W1 := W.ext (h1 := h ++ [Ob.lst (fl.map atomD)]) .push
    have E1 : Ext (Wl w g) h (h ++ [Ob.lst (fl.map atomD)]) := .push
    have nf : ¬ Wl w g h.length := by rintro (z | z) <;> omega
    generalize hlf : h.length = f at f1 nf ⊢
    generalize h ++ [Ob.lst (fl.map atomD)] = h1 at f1 e1 W1 E1 ⊢
    simp -implicitDefEqProofs [-List.append_assoc, -List.length_append, -List.cons_append]
    refine wS.bind (dr (many := 6) W1 (by decide) (by omega)) ?_
    rintro _ h2 ⟨s, rfl, sb, W2, E2⟩
    -- free
    have free : spec (if s = 0 then Out.ok (D.bl true) h2 else (gd [D.ref w, D.int 2] h2).bind fun a h1 => Out.ofO (oEq a (D.int 0) h1)) fun d h' => ∃ b, d = .bl b ∧ (s = 0 → b = true) ∧ IsWell h' w g (n + 2) ∧ Ext (Wl w g) h2 h' := by
      by_cases s0 : s = 0
      · rw [if_pos s0]
        exact spec.of rfl ⟨true, rfl, fun _ => rfl, W2.up (by omega), .refl⟩
      · rw [if_neg s0]
        refine wO.bind (dr (many := 2) W2 (by decide) (by omega)) ?_
        rintro _ h3 ⟨x, rfl, xb, W3, E3⟩
        simp -implicitDefEqProofs [-List.append_assoc, -List.length_append, -List.cons_append]
        exact ⟨_, rfl, fun z => absurd z s0, W3, E3⟩
    simp -implicitDefEqProofs [-List.append_assoc, -List.length_append, -List.cons_append]
    refine wS.bind (free) ?_
    rintro _ h3 ⟨fr, rfl, fr0, W3, E3⟩
    have E13 := E2.trans E3
    have f3 := E13.keep _ _ f1 nf
    have e3 := E13.keep _ _ e1 q0
    simp -implicitDefEqProofs [-List.append_assoc, -List.length_append, -List.cons_append]
    -- some
    obtain ⟨sr, ss, hsr, ess, s4, nss, nsr⟩ : ∃ (sr : Nat) (ss : List Atm), atI [D.ref f, D.ref q] (if fr = true then 1 else 0) = some (.ref sr) ∧ (∀ h', Ext (Wl w g) h3 h' → h'[sr]? = some (.lst (ss.map atomD))) ∧ ss.Sublist as ∧ (fr = false → ss = fl) ∧ ¬ Wl w g sr := by
      cases fr with
      | true => exact ⟨q, as, by simp, fun h' E => E.keep _ _ e3 q0, List.Sublist.refl _, (fun z => by cases z), q0⟩
      | false => exact ⟨f, fl, by simp, fun h' E => E.keep _ _ f3 nf, fls, fun _ => rfl, nf⟩
    have W4 := W3.ext (h1 := h3 ++ [Ob.lst [D.ref f, D.ref q]]) .push
    have E4 : Ext (Wl w g) h3 (h3 ++ [Ob.lst [D.ref f, D.ref q]]) := .push
    have g4 := oGet_lst (i := if fr = true then 1 else 0) (h := h3 ++ [Ob.lst [D.ref f, D.ref q]]) push_new
    rw [hsr] at g4
    generalize hq3 : h3.length = q3 at g4
    generalize hh4 : h3 ++ [Ob.lst [D.ref f, D.ref q]] = h4 at W4 E4 g4
    simp -implicitDefEqProofs [-List.append_assoc, -List.length_append, -List.cons_append, hq3, hh4, g4]
    refine wS.bind (dr (many := 8) W4 (by decide) (by omega)) ?_
    rintro _ h5 ⟨z, rfl, zb, W5, E5⟩
    simp -implicitDefEqProofs [-List.append_assoc, -List.length_append, -List.cons_append]
    refine wS.bind (dr (many := 8) W5 (by decide) (by omega)) ?_
    rintro _ h6 ⟨m0, rfl, mb, W6, E6⟩
    obtain ⟨c, hc, cb⟩ : ∃ c : Int, atI [D.int 53, D.int 101, D.int 0] (if 2 < z then 2 else z) = some (.int c) ∧ 0 ≤ c ∧ c ≤ 101 := by
      by_cases z0 : z = 0
      · exact ⟨53, by simp [z0], by omega, by omega⟩
      · by_cases z1 : z = 1
        · exact ⟨101, by simp [z1], by omega, by omega⟩
        · refine ⟨0, ?_, by omega, by omega⟩
          have : (if 2 < z then 2 else z) = 2 := by split <;> omega
          simp [this]
    have W7 := W6.ext (h1 := h6 ++ [Ob.lst [D.int 53, D.int 101, D.int 0]]) .push
    have E7 : Ext (Wl w g) h6 (h6 ++ [Ob.lst [D.int 53, D.int 101, D.int 0]]) := .push
    have g7 := oGet_lst (i := if 2 < z then 2 else z) (h := h6 ++ [Ob.lst [D.int 53, D.int 101, D.int 0]]) push_new
    rw [hc] at g7
    generalize hq6 : h6.length = q6 at g7
    generalize hh7 : h6 ++ [Ob.lst [D.int 53, D.int 101, D.int 0]] = h7 at W7 E7 g7
    simp -implicitDefEqProofs [-List.append_assoc, -List.length_append, -List.cons_append, hq6, hh7, g7]
    -- many
    refine wS.cut (fun ρ h8 => ∃ m : Int, (0 ≤ m ∧ m ≤ 300) ∧ ρ = [some (.ref w), some (neverD ns), some (.ref q), none, some (.ref f), some (.int s), some (.bl fr), some (.ref sr), some (.int z), some (.int m), none, none, none, none, none, none, none, none, none, none, none] ∧ IsWell h8 w g (n + 10) ∧ Ext (Wl w g) h7 h8) ?_ ?_
    · by_cases z1 : z = 1
      · subst z1
        simp -implicitDefEqProofs [-List.append_assoc, -List.length_append, -List.cons_append]
        refine wS.bind (dr (many := 193) W7 (by decide) (by omega)) ?_
        rintro _ h8 ⟨y, rfl, yb, W8, E8⟩
        simp -implicitDefEqProofs [-List.append_assoc, -List.length_append, -List.cons_append]
        exact ⟨m0 + c + y, by omega, rfl, W8.up (by omega), E8⟩
      · simp -implicitDefEqProofs [-List.append_assoc, -List.length_append, -List.cons_append, z1]
        exact ⟨_, by omega, rfl, W7.up (by omega), .refl⟩
    · rintro _ h8 ⟨m, mb, rfl, W8, E8⟩
      have c8 : 0 ≤ m ∧ m < 1000000000 := by omega
      simp -implicitDefEqProofs [-List.append_assoc, -List.length_append, -List.cons_append, c8, wipeR]
      have E38 : Ext (Wl w g) h3 h8 := (((E4.trans E5).trans E6).trans E7).trans E8
      obtain ⟨w8, g8⟩ := lw_of W8
      have ssl := s4.length_le
      have n8 : ¬ Wl w g h8.length := by rintro (z | z) <;> omega
      refine wS.bind (spec.lc (R := fun d h' => d = .ref h8.length ∧ ∃ hs : List Hnt, h'[h8.length]? = some (.lst (hs.map hintD)) ∧ hs.length = m.toNat ∧ (∀ x ∈ hs, okH (10 ^ 32) x ∧ ∀ t ∈ x.f.2, t.1 ∈ ss) ∧ IsWell h' w g (n + 15010) ∧ Ext (Wl w g) h8 h')
        (fun i acc h' => ∃ hs : List Hnt, acc = hs.map hintD ∧ hs.length = i ∧ (∀ x ∈ hs, okH (10 ^ 32) x ∧ ∀ t ∈ x.f.2, t.1 ∈ ss) ∧ IsWell h' w g (n + 10 + 50 * i) ∧ Ext (Wl w g) h8 h') (lt_sl (by omega)) ⟨[], rfl, rfl, by simp, W8.ext .push, .push⟩ ?_ ?_) ?_
      · rintro acc h9 ⟨hs, rfl, hl, ok, W9, E9⟩ e9
        exact ⟨jRng_end, rfl, hs, e9, hl, ok, W9.up (by omega), E9⟩
      · rintro i acc h9 hi ⟨hs, rfl, hl, ok, W9, E9⟩ e9
        refine ⟨_, _, _, jRng_at hi, rfl, ?_⟩
        simp -implicitDefEqProofs [-List.append_assoc, -List.length_append, -List.cons_append]
        refine ⟨fun _ => ?_, fun z => by cases z⟩
        simp -implicitDefEqProofs [-List.append_assoc, -List.length_append, -List.cons_append]
        have es9 := ess h9 (E38.trans E9)
        refine wO.bind (df W9 (by omega) es9 (fun a m => ha a (s4.subset m)) (so.sublist s4) (by omega) nsr) ?_
        rintro _ h10 ⟨f, rfl, okf, mf, W10, E10⟩
        refine wO.bind (dr (many := 3) W10 (by decide) (by omega)) ?_
        rintro _ h11 ⟨y, rfl, yb, W11, E11⟩
        simp -implicitDefEqProofs [-List.append_assoc, -List.length_append, -List.cons_append]
        refine wO.bind (og W11 (by omega)) ?_
        rintro _ h12 ⟨o, rfl, oko, W12, E12⟩
        simp -implicitDefEqProofs [-List.append_assoc, -List.length_append, -List.cons_append]
        have E912 := (E10.trans E11).trans E12
        refine ⟨E912.keep _ _ e9 n8, hs ++ [⟨f, y == 0, o⟩], by simp [hintD], by simp [hl], ?_, (W12.put n8).up (by omega), (E9.trans E912).new (Nat.le_refl _)⟩
        intro x hx
        rcases List.mem_append.mp hx with hx | hx
        · exact ok x hx
        · simp at hx
          subst hx
          exact ⟨⟨okf, oko⟩, mf⟩
      · rintro _ h9 ⟨rfl, hs, e9, hl, ok, W9, E9⟩
        simp -implicitDefEqProofs [-List.append_assoc, -List.length_append, -List.cons_append]
        have ih : (h9 ++ [Ob.lst []])[h8.length]? = some (.lst (hs.map hintD)) := push_get e9
        have it : (h9 ++ [Ob.lst []])[h9.length]? = some (.lst ([].map D.int)) := push_new
        have W10 := W9.ext (h1 := h9 ++ [Ob.lst []]) .push
        have E10 : Ext (Wl w g) h9 (h9 ++ [Ob.lst []]) := .push
        obtain ⟨w9, g9⟩ := lw_of W9
        have nt : ¬ Wl w g h9.length := by rintro (z | z) <;> omega
        have hrt : h8.length ≠ h9.length := by have := lt_of e9; omega
        generalize hhr : h8.length = hr at ih n8 hrt e9 ⊢
        generalize htr : h9.length = tr at it nt hrt ⊢
        generalize h9 ++ [Ob.lst []] = h10 at ih it W10 E10 ⊢
        simp -implicitDefEqProofs [-List.append_assoc, -List.length_append, -List.cons_append, iterA_lst ih]
        refine wS.loop (fun i ρ h' => (∃ o12 o13 o14 o15, ρ = [some (.ref w), some (neverD ns), some (.ref q), none, some (.ref f), some (.int s), some (.bl fr), some (.ref sr), some (.int z), some (.int m), some (.ref hr), some (.ref tr), o12, o13, o14, o15, none, none, none, none, none]) ∧ ∃ bs : List Int, h'[tr]? = some (.lst (bs.map D.int)) ∧ bs.length = i ∧ (∀ b ∈ bs, bd (10 ^ 33) b ∧ (fr = true → 0 < s → s ∣ b)) ∧ (∀ (j : Nat) x b, hs[j]? = some x → bs[j]? = some b → b < 0 → x.ex = true) ∧ IsWell h' w g (n + 15010 + 10 * i) ∧ Ext (Wl w g) h9 h')
          ⟨⟨none, none, none, none, rfl⟩, [], it, rfl, by simp, by simp, W10, E10⟩ ?_ ?_
        · rintro _ h11 ⟨⟨o12, o13, o14, o15, rfl⟩, bs, it, bl, bb, sg, W11, E11⟩
          have ih11 := E11.keep _ _ e9 n8
          refine ⟨by rw [jSrc_lst ih11]; simp, ?_⟩
          simp -implicitDefEqProofs [-List.append_assoc, -List.length_append, -List.cons_append]
          have z11 : ZipOk h11 (.ref hr) (.ref tr) (hs.map hintD) (bs.map D.int) := .inr ⟨hr, tr, rfl, rfl, ih11, it⟩
          have ok0 : okF (10 ^ 80) ((0, []) : Frm) := ⟨by unfold bd; omega, by simp, .nil, by simp⟩
          refine wS.bind (rs (g := (0, [])) (s := 0) z11 ok0 (fun x hx => (ok x hx).1.1.up (by omega)) (by unfold bd; omega) (fun b hb => bd_up (bb b hb).1 (by omega)) (by omega) (by omega)) ?_
          rintro _ h12 ⟨p, t, rfl, k12, T12, t0, p0, pt, E12⟩
          simp -implicitDefEqProofs [-List.append_assoc, -List.length_append, -List.cons_append, gmSeq_lst k12]
          have hb : ∀ p ∈ prs hs bs, bd (10 ^ 33 * 10 ^ 32) (p.2 * p.1.1) ∧ ∀ a, bd (10 ^ 33 * 10 ^ 32) (p.2 * co p.1.2 a) := by
            intro p hp
            have := List.of_mem_zip hp
            obtain ⟨x, hx, e⟩ := List.mem_map.mp this.1
            have okx := (ok x hx).1.1
            rw [e] at okx
            have b2 := (bb _ this.2).1
            exact ⟨bd_mul b2 okx.c, fun a => bd_mul b2 (co_bd (by omega) okx a)⟩
          have pl : (prs hs bs).length ≤ 300 := by simp [prs]; omega
          obtain ⟨tC, tA⟩ := tot_bd hb
          have tC2 : -(10 ^ 68) ≤ -totC (prs hs bs) ∧ -totC (prs hs bs) ≤ 10 ^ 68 := by omega
          have tA2 : ∀ a, -(10 ^ 68) ≤ -totA (prs hs bs) a ∧ -totA (prs hs bs) a ≤ 10 ^ 68 := fun a => by have := tA a; omega
          have T12' := T12.conv (S' := fun a => -totA (prs hs bs) a) (A' := fun a => a ∈ as) (fun a => by simp [co]) (fun a ha => by
            rcases ha with ⟨t, ht, _⟩ | ⟨x, hx, t, ht, e⟩
            · cases ht
            · rw [← e]; exact s4.subset ((ok x hx).2 t ht)) (Nat.le_refl _)
          have sgz : ∀ (j : Nat) x b, hs[j]? = some x → bs[j]? = some b → b < 0 → x.ex = true := sg
          have hl2 : bs.length = hs.length := bl
          clear hb tC tA T12
          have W12 := W11.ext E12
          have E311 : Ext (Wl w g) h3 h11 := (E38.trans E9).trans E11
          have E312 : Ext (Wl w g) h3 h12 := E311.trans E12.of
          have f11 := E311.keep _ _ f3 nf
          have e11 := E311.keep _ _ e3 q0
          have fll := fls.length_le
          have f12 := E312.keep _ _ f3 nf
          have e12 := E312.keep _ _ e3 q0
          have i12 := E12.get ih11
          have m12 := E12.get it
          obtain ⟨w11, g11⟩ := lw_of W11
          have nt12 : ¬ Wl w g t := by rintro (z | z) <;> omega
          have lhr : hr < h11.length := lt_of ih11
          have ltr : tr < h11.length := lt_of it
          have E011 : Ext (Wl w g) h h11 := ((E1.trans E2).trans (E3.trans E38)).trans (E9.trans E11)
          by_cases s0 : s = 0
          · subst s0
            simp -implicitDefEqProofs [-List.append_assoc, -List.length_append, -List.cons_append, iterA_lst f12]
            refine wS.loop (fun i ρ h' => (∃ o3, ρ = [some (.ref w), some (neverD ns), some (.ref q), o3, some (.ref f), some (.int 0), some (.bl fr), some (.ref sr), some (.int z), some (.int m), some (.ref hr), some (.ref tr), o12, o13, o14, o15, some (.int (-totC (prs hs bs))), some (.ref t), none, none, none]) ∧ ∃ S, Tab h' t S (fun a => a ∈ as) (400000 + i) ∧ Less ns fl (fun a => -totA (prs hs bs) a) S (i * 10 ^ 33) ∧ IsWell h' w g (n + 20000 + 10 * i) ∧ Ext (Wl w g) h11 h')
              ⟨⟨none, rfl⟩, _, T12', ⟨fun a => by simp, fun a z => absurd rfl z⟩, W12.up (by omega), E12.of⟩ ?_ ?_
            · rintro _ h13 ⟨⟨o3, rfl⟩, S, T13, L13, W13, E13⟩
              refine ⟨by rw [jSrc_lst (E13.keep _ _ f11 nf)]; simp, ?_⟩
              have i13 := E13.keep _ _ ih11 n8
              simp -implicitDefEqProofs [-List.append_assoc, -List.length_append, -List.cons_append, i13]
              refine wS.bind (by_ W13 (by omega)) ?_
              rintro _ h14 ⟨y, rfl, yb, W14, E14⟩
              (try simp -implicitDefEqProofs [-List.append_assoc, -List.length_append, -List.cons_append])
              refine wS.bind (sm (T13.keep E14 nt12) (by omega)) ?_
              rintro _ h15 ⟨ts, rfl, mt, so15, at15, E15⟩
              have W15 := W14.ext E15
              (try simp -implicitDefEqProofs [-List.append_assoc, -List.length_append, -List.cons_append])
              refine wS.bind (dr (many := 2) W15 (by decide) (by omega)) ?_
              rintro _ h16 ⟨u, rfl, ub, W16, E16⟩
              (try simp -implicitDefEqProofs [-List.append_assoc, -List.length_append, -List.cons_append])
              refine wS.bind (og W16 (by omega)) ?_
              rintro _ h17 ⟨o, rfl, oko, W17, E17⟩
              have ay : 0 ≤ (if y < 0 then -y else y) ∧ (if y < 0 then -y else y) < 10 ^ 32 := by unfold bd at yb; split <;> omega
              generalize (if y < 0 then -y else y) = k at ay ⊢
              have E1317 := ((E14.trans E15.of).trans E16).trans E17
              have i17 := E1317.keep _ _ i13 n8
              generalize hX : (⟨(-totC (prs hs bs) - 1 - k, ts), u == 0, o⟩ : Hnt) = X
              have eX : D.tup [formD (-totC (prs hs bs) - 1 - k, ts), D.bl (u == 0), origD o] = hintD X := by rw [← hX]; rfl
              have hL : (hs.map hintD).length < sizeLine := lt_sl (by simp; omega)
              have i18 : (h17.set hr (.lst (hs.map hintD ++ [hintD X])))[hr]? = some (.lst ((hs ++ [X]).map hintD)) := by rw [set_get i17]; simp
              have lap := lApp (d := hintD X) i17 hL
              rw [eX, lap]
              have W18 := W17.put (o := .lst (hs.map hintD ++ [hintD X])) n8
              have E18 : Ext (fun i => Wl w g i ∨ i = hr) h11 (h17.set hr (.lst (hs.map hintD ++ [hintD X]))) := ((E13.trans E1317).weak fun i _ z => .inl z).setR (.inr rfl)
              generalize h17.set hr (.lst (hs.map hintD ++ [hintD X])) = h18 at i18 W18 E18
              have m18 := E18.keep _ _ it (by rintro (z | z); exact nt z; exact hrt z.symm)
              have qhr : q ≠ hr := by have := lt_of e; have := E1.len; have := E2.len; have := E3.len; have := E38.len; omega
              have e18 := E18.keep _ _ e11 (by rintro (z | z); exact q0 z; exact qhr z)
              simp -implicitDefEqProofs [-List.append_assoc, -List.length_append, -List.cons_append]
              refine wS.bind (df W18 (by omega) e18 ha so al q0) ?_
              rintro _ h19 ⟨gl, rfl, okgl, mgl, W19, E19⟩
              have i19 := E19.keep _ _ i18 n8
              have m19 := E19.keep _ _ m18 nt
              have m20 : (h19 ++ [Ob.lst [D.int 1]])[tr]? = _ := push_get m19
              have hle : bs.length + 1 ≤ sizeLine := le_sl (by omega)
              have m22 : (h19 ++ [Ob.lst [D.int 1]] ++ [Ob.lst (bs.map D.int ++ [D.int 1])])[(h19 ++ [Ob.lst [D.int 1]]).length]? = some (.lst (bs.map D.int ++ [D.int 1])) := push_new
              have E22 : Ext (fun i => Wl w g i ∨ i = hr) h11 (h19 ++ [Ob.lst [D.int 1]] ++ [Ob.lst (bs.map D.int ++ [D.int 1])]) := ((E18.trans (E19.weak fun i _ z => .inl z)).pushR).pushR
              have W22 : IsWell (h19 ++ [Ob.lst [D.int 1]] ++ [Ob.lst (bs.map D.int ++ [D.int 1])]) w g _ := W19.ext (Ext.push.pushR)
              simp -implicitDefEqProofs [-List.append_assoc, -List.length_append, -List.cons_append, i19, m20, hle, m22]
              generalize h19 ++ [Ob.lst [D.int 1]] ++ [Ob.lst (bs.map D.int ++ [D.int 1])] = h22 at m22 E22 W22 ⊢
              refine ⟨h22.length, gl, hs ++ [X], 0, bs ++ [1], rfl, by rw [push_new]; simp, ?_, (W22.ext .push).up (by omega), (E011.go E22 fun i hi z => z.elim (fun z => z) (fun z => by have := E1.len; have := E2.len; have := E3.len; have := E38.len; omega)).pushR⟩
              have sb13 : ∀ a, bd (10 ^ 70) (S a) := fun a => by
                have := L13.le a
                have := tA2 a
                unfold bd
                dsimp only at *
                omega
              have cS := co_of so15 mt
              have pp := prs_snoc X 1 hl2
              refine ⟨okgl.up (by omega), mgl, ?_, by simp; omega, ⟨rfl, by omega, by simp [hl2], ?_⟩, by omega, ?_, ?_, ?_⟩
              · intro x hx
                rcases List.mem_append.mp hx with hx | hx
                · exact ⟨(ok x hx).1.1.up (by omega), (ok x hx).1.2⟩
                · simp at hx
                  subst hx
                  rw [← hX]
                  refine ⟨⟨by unfold bd; dsimp only; omega, fun t ht => ?_, so15, by have := sum_len so15 at15; dsimp only; omega⟩, oko⟩
                  have := (mt t.1 t.2).mp ht
                  refine ⟨ha _ (at15 t ht), this.2, ?_⟩
                  rw [this.1]
                  exact sb13 _
              · intro j x b h1 h2 h3
                by_cases hj : j < bs.length
                · rw [List.getElem?_append_left hj] at h2
                  rw [List.getElem?_append_left (by omega)] at h1
                  exact sgz j x b h1 h2 h3
                · by_cases hj2 : j = bs.length
                  · subst hj2
                    simp at h2
                    omega
                  · rw [List.getElem?_eq_none (by simp; omega)] at h2
                    cases h2
              · intro b hb
                rcases List.mem_append.mp hb with hb | hb
                · exact (bb b hb).1
                · simp at hb; subst hb; unfold bd; omega
              · rw [pp, totC_snoc, ← hX, if_pos rfl]
                dsimp only
                omega
              · intro a
                rw [pp, totA_snoc, ← hX]
                dsimp only
                rw [cS a]
                have := L13.le a
                refine ⟨by omega, fun z => flo a (L13.ch a fun y => ?_)⟩
                omega
            · rintro i _ h13 hi ⟨⟨o3, rfl⟩, S, T13, L13, W13, E13⟩
              obtain ⟨a, ea⟩ : ∃ a, fl[i]? = some a := ⟨_, List.getElem?_eq_getElem hi⟩
              have ma := List.mem_of_getElem? ea
              refine ⟨atomD a, _, _, by rw [jSrc_lst (E13.keep _ _ f11 nf), map_at ea], rfl, ?_⟩
              obtain ⟨d1, o, g1, g2⟩ := T13.get a
              simp -implicitDefEqProofs [-List.append_assoc, -List.length_append, -List.cons_append, d1, g1, g2]
              refine wS.bind (by_ W13 (by omega)) ?_
              rintro _ h14 ⟨y, rfl, yb, W14, E14⟩
              have ay : 0 ≤ (if y < 0 then -y else y) ∧ (if y < 0 then -y else y) < 10 ^ 32 := by unfold bd at yb; split <;> omega
              simp -implicitDefEqProofs [-List.append_assoc, -List.length_append, -List.cons_append]
              generalize (if y < 0 then -y else y) = k at ay ⊢
              obtain ⟨ob, p1, T14⟩ := (T13.keep E14 nt12).put (by omega) a (S a - k) (fls.subset ma) (S' := fun b => if b = a then S a - k else S b) (fun b => rfl)
              simp -implicitDefEqProofs [-List.append_assoc, -List.length_append, -List.cons_append, p1]
              refine ⟨⟨_, rfl⟩, _, T14, ⟨fun b => ?_, fun b z => ?_⟩, (W14.put nt12).up (by omega), (E13.trans E14).new (by omega)⟩
              · have := L13.le b
                split
                · rename_i e; subst e; omega
                · omega
              · split at z
                · rename_i e; subst e; exact ma
                · exact L13.ch b z
          · have s1 : 0 < s := by omega
            simp -implicitDefEqProofs [-List.append_assoc, -List.length_append, -List.cons_append, s0, iterA_lst f12]
            refine wS.loop (fun i ρ h' => (∃ o3 o18, ρ = [some (.ref w), some (neverD ns), some (.ref q), o3, some (.ref f), some (.int s), some (.bl fr), some (.ref sr), some (.int z), some (.int m), some (.ref hr), some (.ref tr), o12, o13, o14, o15, some (.int (-totC (prs hs bs))), some (.ref t), o18, none, none]) ∧ ∃ S, Tab h' t S (fun a => a ∈ as) (400000 + i) ∧ Less ns fl (fun a => -totA (prs hs bs) a) S (i * 10 ^ 34) ∧ (∀ a ∈ fl.take i, s ∣ S a) ∧ IsWell h' w g (n + 20000 + 10 * i) ∧ Ext (Wl w g) h11 h')
              ⟨⟨none, none, rfl⟩, _, T12', ⟨fun a => by simp, fun a z => absurd rfl z⟩, by simp, W12.up (by omega), E12.of⟩ ?_ ?_
            · rintro _ h13 ⟨⟨o3, o18, rfl⟩, S, T13, L13, D13, W13, E13⟩
              rw [List.take_length] at D13
              refine ⟨by rw [jSrc_lst (E13.keep _ _ f11 nf)]; simp, ?_⟩
              simp -implicitDefEqProofs [-List.append_assoc, -List.length_append, -List.cons_append, s1]
              refine wS.bind (by_ W13 (by omega)) ?_
              rintro _ h14 ⟨y, rfl, yb, W14, E14⟩
              have ay : 0 ≤ (if y < 0 then -y else y) ∧ (if y < 0 then -y else y) < 10 ^ 32 := by unfold bd at yb; split <;> omega
              have c1 : mulOk s (if y < 0 then -y else y) = true := mulOk_l (by omega)
              simp -implicitDefEqProofs [-List.append_assoc, -List.length_append, -List.cons_append, c1]
              generalize (if y < 0 then -y else y) = k at ay ⊢
              refine wS.bind (dr (many := 2) W14 (by decide) (by omega)) ?_
              rintro _ h15 ⟨u, rfl, ub, W15, E15⟩
              have c2 : mulOk (s * k) u = true := mulOk_r (by omega)
              have mo : 0 ≤ -totC (prs hs bs) % s ∧ -totC (prs hs bs) % s < s := ⟨Int.emod_nonneg _ (by omega), Int.emod_lt_of_pos _ s1⟩
              have sk : 0 ≤ s * k ∧ s * k ≤ 5 * 10 ^ 32 := by
                have : s = 1 ∨ s = 2 ∨ s = 3 ∨ s = 4 ∨ s = 5 := by omega
                rcases this with rfl | rfl | rfl | rfl | rfl <;> omega
              have su : 0 ≤ s * k * u ∧ s * k * u ≤ 5 * 10 ^ 32 := by
                have : u = 0 ∨ u = 1 := by omega
                rcases this with rfl | rfl <;> omega
              have dv : s ∣ -totC (prs hs bs) - -totC (prs hs bs) % s - s * k * u := Int.dvd_sub (Int.dvd_self_sub_emod) ⟨k * u, by rw [Int.mul_assoc]⟩
              simp -implicitDefEqProofs [-List.append_assoc, -List.length_append, -List.cons_append, c2]
              generalize hc' : -totC (prs hs bs) - -totC (prs hs bs) % s - s * k * u = c' at dv ⊢
              -- inner
              have E1315 := E14.trans E15
              have T15 := T13.keep E1315 nt12
              obtain ⟨tb, et, nd, lk, ka, tl⟩ := T15.ex
              have et16 : (h15 ++ [Ob.dctT []])[t]? = _ := push_get et
              have I16 : Tab (h15 ++ [Ob.dctT []]) h15.length (fun _ => 0) (fun a => a ∈ as) 0 := Tab.new
              have E16 : Ext (fun i => i = t) h15 (h15 ++ [Ob.dctT []]) := .push
              have irt : h15.length ≠ t := by have := lt_of et; omega
              have wt : ¬ w = t := fun z => nt12 (.inl z.symm)
              have gt : ¬ g = t := fun z => nt12 (.inr z.symm)
              have L15 : ∀ h', Ext (fun i => i = t) h15 h' → IsWell h' w g (n + 20000 + 10 * fl.length + 4) := fun h' E => (W15.up (by omega)).keep E wt gt
              generalize hir : h15.length = ir at I16 irt ⊢
              generalize h15 ++ [Ob.dctT []] = h16 at et16 I16 E16 ⊢
              refine wS.lockT (k := t) rfl et16 ?_
              have e17 := set_get (o' := .dlkT (tabD keyA tb)) et16
              have I17 := I16.setne (o := .dlkT (tabD keyA tb)) irt
              have E17 : Ext (fun i => i = t) h15 (h16.set t (.dlkT (tabD keyA tb))) := E16.setR rfl
              generalize h16.set t (.dlkT (tabD keyA tb)) = h17 at e17 I17 E17
              simp -implicitDefEqProofs [-List.append_assoc, -List.length_append, -List.cons_append, lkLen_T e17]
              have ln : (tabD keyA tb).length = tb.length := by simp [tabD]
              rw [ln]
              have tbl : tb.length ≤ 9 := by
                have := nodup_len nd (m := as) ka
                simp at this
                omega
              have c5 : divOk s = true := divOk_n s1 (by omega)
              refine wS.loop (fun i ρ h' => (∃ o3, ρ = [some (.ref w), some (neverD ns), some (.ref q), o3, some (.ref f), some (.int s), some (.bl fr), some (.ref sr), some (.int z), some (.int m), some (.ref hr), some (.ref tr), o12, o13, o14, o15, some (.int c'), some (.ref t), o18, some (.ref ir), none]) ∧ h'[t]? = some (.dlkT (tabD keyA tb)) ∧ Tab h' ir (fun a => if a ∈ (tb.map (·.1)).take i then (-S a) / s else 0) (fun a => a ∈ as) i ∧ Ext (fun i => i = t) h15 h')
                ⟨⟨_, rfl⟩, e17, by simpa using I17, E17⟩ ?_ ?_
              · rintro _ h18 ⟨⟨o3, rfl⟩, e18, I18, E18⟩
                refine ⟨by rw [jKeys_T e18]; simp [tabD], _, e18, ?_⟩
                have I19 := I18.setne (o := .dctT (tabD keyA tb)) irt
                have E19 : Ext (fun i => i = t) h15 (h18.set t (.dctT (tabD keyA tb))) := E18.setR rfl
                generalize h18.set t (.dctT (tabD keyA tb)) = h19 at I19 E19
                have W19 := L15 h19 E19
                have I20 := I19.conv (S' := fun a => (-S a) / s) (A' := fun a => a ∈ as) (m := 9) (fun a => by
                  rw [List.take_of_length_le (by simp)]
                  by_cases m : a ∈ tb.map (·.1)
                  · rw [if_pos m]
                  · rw [if_neg m, ← lk a, look_not m]; simp) (fun a z => z) tbl
                simp -implicitDefEqProofs [-List.append_assoc, -List.length_append, -List.cons_append, c5]
                refine wS.bind (sm I20 (by omega)) ?_
                rintro _ h20 ⟨ts, rfl, mt, so20, at20, E20⟩
                have E1120 : Ext (fun i => Wl w g i ∨ i = t) h11 h20 := (((E13.trans E1315).weak fun i _ z => .inl z).trans (E19.weak fun i _ z => .inr z)).trans E20.of
                have i20 := E1120.keep _ _ ih11 (by rintro (z | z); exact n8 z; omega)
                have m20 := E1120.keep _ _ it (by rintro (z | z); exact nt z; omega)
                simp -implicitDefEqProofs [-List.append_assoc, -List.length_append, -List.cons_append, i20, m20]
                refine ⟨h20.length, (-c' / s, ts), hs, s, bs, rfl, by rw [push_new], ?_, ((W19.ext E20).ext .push).up (by omega), (E011.go E1120 fun i hi z => z.elim (fun z => z) (fun z => by have := E011.len; omega)).pushR⟩
                have dvS : ∀ a, s ∣ S a := fun a => by
                  by_cases m : a ∈ fl
                  · exact D13 a m
                  · have e : S a = -totA (prs hs bs) a := by
                      by_cases z : S a = -totA (prs hs bs) a
                      · exact z
                      · exact absurd (L13.ch a z) m
                    rw [e]
                    refine Int.dvd_neg.mpr ?_
                    cases fr with
                    | true => exact totA_dvd (fun p hp => (bb _ (List.of_mem_zip hp).2).2 rfl s1) a
                    | false =>
                      rw [totA_zero (fun p hp t ht e => ?_)]
                      · exact ⟨0, by simp⟩
                      · obtain ⟨x, hx, e2⟩ := List.mem_map.mp (List.of_mem_zip hp).1
                        rw [← e2] at ht
                        have := (ok x hx).2 t ht
                        rw [nss rfl, e] at this
                        exact m this
                have quo : ∀ v : Int, s ∣ v → s * (-v / s) = -v ∧ (v < 0 → 0 ≤ -v / s ∧ -v / s ≤ -v) ∧ (0 ≤ v → v * -1 ≤ -v / s ∧ -v / s ≤ 0) := by
                  rintro v ⟨x, rfl⟩
                  have e : -(s * x) / s = -x := by rw [← Int.mul_neg, Int.mul_ediv_cancel_left _ (by omega)]
                  rw [e]
                  have : s = 1 ∨ s = 2 ∨ s = 3 ∨ s = 4 ∨ s = 5 := by omega
                  rcases this with rfl | rfl | rfl | rfl | rfl <;> refine ⟨?_, fun _ => ⟨?_, ?_⟩, fun _ => ⟨?_, ?_⟩⟩ <;> omega
                have cS := co_of so20 mt
                obtain ⟨q1, q2, q3⟩ := quo c' dv
                refine ⟨⟨?_, fun t ht => ?_, so20, by have := sum_len so20 at20; dsimp only; omega⟩, at20, fun x hx => ⟨(ok x hx).1.1.up (by omega), (ok x hx).1.2⟩, by omega, ⟨rfl, by omega, hl2, sgz⟩, sb.2, fun b hb => (bb b hb).1, ?_, ?_⟩
                · unfold bd
                  dsimp only
                  by_cases z : c' < 0
                  · have := q2 z; omega
                  · have := q3 (by omega); omega
                · have := (mt t.1 t.2).mp ht
                  refine ⟨ha _ (at20 t ht), this.2, ?_⟩
                  rw [this.1]
                  obtain ⟨r1, r2, r3⟩ := quo _ (dvS t.1)
                  have l1 := L13.le t.1
                  have l2 := tA2 t.1
                  unfold bd
                  by_cases z : S t.1 < 0
                  · have := r2 z; omega
                  · have := r3 (by omega); omega
                · rw [if_neg s0]
                  dsimp only
                  rw [q1]
                  omega
                · intro a
                  dsimp only
                  rw [cS a, (quo _ (dvS a)).1]
                  have l1 := L13.le a
                  refine ⟨by omega, fun z => flo a (L13.ch a fun y => ?_)⟩
                  omega
              · rintro i _ h18 hi ⟨⟨o3, rfl⟩, e18, I18, E18⟩
                obtain ⟨p, ep⟩ : ∃ p, tb[i]? = some p := ⟨_, List.getElem?_eq_getElem hi⟩
                have mp := List.mem_of_getElem? ep
                have mk : p.1 ∈ tb.map (·.1) := List.mem_map_of_mem mp
                refine ⟨atomD p.1, _, _, by rw [jKeys_T e18, tabD, List.getElem?_map, ep]; rfl, rfl, ?_⟩
                have gg := tab_oGetL e18 mk
                rw [lk] at gg
                obtain ⟨ob, p1, I19⟩ := I18.put (by omega) p.1 ((-S p.1) / s) (ka _ mk) (S' := fun a => if a ∈ (tb.map (·.1)).take (i + 1) then (-S a) / s else 0) (fun a => by
                  rw [take_succ (map_at (f := fun q : Atm × Int => q.1) ep)]
                  by_cases e : a = p.1
                  · subst e; simp
                  · simp [e])
                simp -implicitDefEqProofs [-List.append_assoc, -List.length_append, -List.cons_append, gg, c5, p1]
                exact ⟨⟨_, rfl⟩, set_ne e18 (Ne.symm irt), I19, E18.new (by omega)⟩
            · rintro i _ h13 hi ⟨⟨o3, o18, rfl⟩, S, T13, L13, D13, W13, E13⟩
              obtain ⟨a, ea⟩ : ∃ a, fl[i]? = some a := ⟨_, List.getElem?_eq_getElem hi⟩
              have ma := List.mem_of_getElem? ea
              refine ⟨atomD a, _, _, by rw [jSrc_lst (E13.keep _ _ f11 nf), map_at ea], rfl, ?_⟩
              obtain ⟨d1, o, g1, g2⟩ := T13.get a
              simp -implicitDefEqProofs [-List.append_assoc, -List.length_append, -List.cons_append, d1, g1, g2, s1]
              refine wS.bind (by_ W13 (by omega)) ?_
              rintro _ h14 ⟨y, rfl, yb, W14, E14⟩
              have ay : 0 ≤ (if y < 0 then -y else y) ∧ (if y < 0 then -y else y) < 10 ^ 32 := by unfold bd at yb; split <;> omega
              have c1 : mulOk s (if y < 0 then -y else y) = true := mulOk_l (by omega)
              simp -implicitDefEqProofs [-List.append_assoc, -List.length_append, -List.cons_append, c1]
              generalize (if y < 0 then -y else y) = k at ay ⊢
              have mo : 0 ≤ S a % s ∧ S a % s < s := ⟨Int.emod_nonneg _ (by omega), Int.emod_lt_of_pos _ s1⟩
              have sk : 0 ≤ s * k ∧ s * k ≤ 5 * 10 ^ 32 := by
                have : s = 1 ∨ s = 2 ∨ s = 3 ∨ s = 4 ∨ s = 5 := by omega
                rcases this with rfl | rfl | rfl | rfl | rfl <;> omega
              have dv : s ∣ S a - S a % s - s * k := Int.dvd_sub (Int.dvd_self_sub_emod) ⟨k, rfl⟩
              obtain ⟨ob, p1, T14⟩ := (T13.keep E14 nt12).put (by omega) a (S a - S a % s - s * k) (fls.subset ma) (S' := fun b => if b = a then S a - S a % s - s * k else S b) (fun b => rfl)
              simp -implicitDefEqProofs [-List.append_assoc, -List.length_append, -List.cons_append, p1]
              refine ⟨⟨_, _, rfl⟩, _, T14, ⟨fun b => ?_, fun b z => ?_⟩, fun b hb => ?_, (W14.put nt12).up (by omega), (E13.trans E14).new (by omega)⟩
              · have := L13.le b
                split
                · rename_i e; subst e; omega
                · omega
              · split at z
                · rename_i e; subst e; exact ma
                · exact L13.ch b z
              · split
                · exact dv
                · rename_i ne
                  rw [take_succ ea] at hb
                  rcases List.mem_append.mp hb with hb | hb
                  · exact D13 b hb
                  · simp at hb; exact absurd hb ne
        · rintro i _ h11 hi ⟨⟨o12, o13, o14, o15, rfl⟩, bs, it, bl, bb, sg, W11, E11⟩
          have ih11 := E11.keep _ _ e9 n8
          obtain ⟨x, ex⟩ : ∃ x, hs[i]? = some x := ⟨_, List.getElem?_eq_getElem hi⟩
          refine ⟨hintD x, _, _, by rw [jSrc_lst ih11, map_at ex], rfl, ?_⟩
          simp -implicitDefEqProofs [-List.append_assoc, -List.length_append, -List.cons_append]
          refine wS.bind (by_ W11 (by omega)) ?_
          rintro _ h12 ⟨y, rfl, yb, W12, E12⟩
          refine wS.bind (dr (many := 3) W12 (by decide) (by omega)) ?_
          rintro _ h13 ⟨u, rfl, ub, W13, E13⟩
          have c1 : mulOk y (if 0 < u then 1 else 0) = true := mulOk_r (by split <;> omega)
          have it13 := (E12.trans E13).keep _ _ it nt
          have yb2 : bd (10 ^ 32) (y * (if 0 < u then 1 else 0)) := by unfold bd at *; split <;> omega
          simp -implicitDefEqProofs [-List.append_assoc, -List.length_append, -List.cons_append, c1, oGt]
          generalize y * (if 0 < u then 1 else 0) = y2 at yb2 ⊢
          have E13' := (E11.trans E12).trans E13
          -- times free
          refine wS.cut (fun ρ h' => ∃ y3 : Int, (bd (5 * 10 ^ 32) y3 ∧ (fr = true → 0 < s → s ∣ y3)) ∧ h' = h13 ∧ ρ = [some (.ref w), some (neverD ns), some (.ref q), none, some (.ref f), some (.int s), some (.bl fr), some (.ref sr), some (.int z), some (.int m), some (.ref hr), some (.ref tr), some (formD x.f), some (.bl x.ex), some (origD x.o), some (.int y3), none, none, none, none, none]) ?_ ?_
          · cases fr with
            | false =>
              simp -implicitDefEqProofs [-List.append_assoc, -List.length_append, -List.cons_append]
              exact ⟨y2, ⟨by unfold bd at *; omega, fun z => by cases z⟩, rfl, rfl⟩
            | true =>
              by_cases s1 : 1 < s
              · have c2 : mulOk y2 s = true := mulOk_r (by omega)
                simp -implicitDefEqProofs [-List.append_assoc, -List.length_append, -List.cons_append, oGt, s1, c2]
                refine ⟨y2 * s, ⟨?_, fun _ _ => ⟨y2, by rw [Int.mul_comm]⟩⟩, rfl, rfl⟩
                have : s = 2 ∨ s = 3 ∨ s = 4 ∨ s = 5 := by omega
                unfold bd at *
                rcases this with rfl | rfl | rfl | rfl <;> omega
              · simp -implicitDefEqProofs [-List.append_assoc, -List.length_append, -List.cons_append, oGt, s1]
                refine ⟨y2, ⟨by unfold bd at *; omega, fun _ s0 => ?_⟩, rfl, rfl⟩
                have : s = 1 := by omega
                rw [this]
                exact ⟨y2, by omega⟩
          · rintro _ h14 ⟨y3, ⟨yb3, yd⟩, rfl, rfl⟩
            simp only [then_nx, mSeq_ap, wS_seq]
            refine wS.cut (fun ρ h' => ∃ y4 : Int, (bd (5 * 10 ^ 32) y4 ∧ (fr = true → 0 < s → s ∣ y4) ∧ (y4 < 0 → x.ex = true)) ∧ h' = h14 ∧ ρ = [some (.ref w), some (neverD ns), some (.ref q), none, some (.ref f), some (.int s), some (.bl fr), some (.ref sr), some (.int z), some (.int m), some (.ref hr), some (.ref tr), some (formD x.f), some (.bl x.ex), some (origD x.o), some (.int y4), none, none, none, none, none]) ?_ ?_
            · cases hx : x.ex with
              | true =>
                simp -implicitDefEqProofs [-List.append_assoc, -List.length_append, -List.cons_append, hx]
                exact ⟨y3, ⟨yb3, yd, fun _ => rfl⟩, rfl, rfl⟩
              | false =>
                simp -implicitDefEqProofs [-List.append_assoc, -List.length_append, -List.cons_append, hx]
                refine ⟨if y3 < 0 then -y3 else y3, ⟨by unfold bd at *; split <;> omega, fun a b => ?_, fun z => by split at z <;> omega⟩, rfl, rfl⟩
                split
                · exact Int.dvd_neg.mpr (yd a b)
                · exact yd a b
            · rintro _ h15 ⟨y4, ⟨yb4, yd4, ys4⟩, rfl, rfl⟩
              have ll : (bs.map D.int).length < sizeLine := lt_sl (by simp; omega)
              generalize hL : bs.map D.int = L at it13 ll
              simp -implicitDefEqProofs [-List.append_assoc, -List.length_append, -List.cons_append, it13, lApp it13 ll]
              refine ⟨⟨_, _, _, _, rfl⟩, bs ++ [y4], by rw [set_get it13, ← hL]; simp, by simp [bl], ?_, ?_, (W13.put nt).up (by omega), E13'.new (by omega)⟩
              · intro b hb
                rcases List.mem_append.mp hb with hb | hb
                · exact bb b hb
                · simp at hb; subst hb; exact ⟨by unfold bd at *; omega, yd4⟩
              · intro j x' b h1 h2 h3
                by_cases hj : j < bs.length
                · rw [List.getElem?_append_left hj] at h2
                  exact sg j x' b h1 h2 h3
                · by_cases hj2 : j = i
                  · subst hj2
                    rw [List.getElem?_append_right (by omega)] at h2
                    simp [bl] at h2
                    rw [ex] at h1
                    cases h1
                    subst h2
                    exact ys4 h3
                  · rw [List.getElem?_eq_none (by simp; omega)] at h2
                    cases h2
end
end K60
namespace K60
open PySem PySem.Spec L2 PI
open PyProof.Rows hiding St
/-! ### spoilt -/
structure Spoil (w0 g0 : Nat) (h : Hh) (as : List Atm) (B : Int) (l : Nat) (ns : List Int) (gl : Frm) (hs : List Hnt) (th : D) : Prop where
  n : okN ns
  g : okF B gl
  gm : ∀ t ∈ gl.2, t.1 ∈ as
  ho : ∀ x ∈ hs, okH B x
  l : hs.length = l
  t : ∀ h1, Ext (Wl w0 g0) h h1 → ThD h1 th
  c : ∀ h1, Ext (Wl w0 g0) h h1 → PyOk h1 64 th
/-- an entry of multipliers -/
inductive Ent : D → Prop
  | int {i : Int} : bd (10 ^ 80) i → Ent (.int i)
  | bl {b : Bool} : Ent (.bl b)
  | non : Ent .non
  | one : Ent (.str "1")
  | tup : Ent (.tup [.int 1])
section
variable {h h1 : Hh} {w g n r : Nat}
theorem Ent.ty {d : D} (e : Ent d) : (∃ t, tyD h d = some t) ∧ ∀ i, d = .int i → bd (10 ^ 80) i := by
  cases e with
  | int b => exact ⟨⟨_, rfl⟩, fun j e => by cases e; exact b⟩
  | bl => exact ⟨⟨_, rfl⟩, fun j e => by cases e⟩
  | non => exact ⟨⟨_, rfl⟩, fun j e => by cases e⟩
  | one => exact ⟨⟨_, rfl⟩, fun j e => by cases e⟩
  | tup => exact ⟨⟨_, rfl⟩, fun j e => by cases e⟩
theorem Ent.py {d : D} {k : Nat} (e : Ent d) : PyOk h (k + 1) d := by
  cases e with
  | int b => exact .int
  | bl => exact .bl
  | non => exact .non
  | one => exact .str (by decide +kernel)
  | tup => exact .tup (by intro d hd; simp at hd; subst hd; exact .int)
/-- (scale, multipliers) -/
theorem th_pair {s : Int} {xs : List D} (sb : bd (10 ^ 80) s) (k : ∀ x ∈ xs, Ent x) : ThD h (.tup [.int s, .tup xs]) ∧ PyOk h 64 (.tup [.int s, .tup xs]) := by
  refine ⟨.pair (t := "int") rfl (fun i e => by cases e; exact sb) (.tup fun b hb => (k b hb).ty), .tup fun d hd => ?_⟩
  simp at hd
  rcases hd with rfl | rfl
  · exact .int
  · exact .tup fun x hx => (k x hx).py
theorem ent_ints {bs : List Int} (bb : ∀ b ∈ bs, bd (10 ^ 33) b) : ∀ x ∈ bs.map D.int, Ent x := by
  intro x hx
  obtain ⟨b, hb, rfl⟩ := List.mem_map.mp hx
  exact .int (bd_up (bb b hb) (by omega))
theorem ent_put {bs : List Int} {x : D} {k : Nat} (bb : ∀ b ∈ bs, bd (10 ^ 33) b) (ex : Ent x) : ∀ y ∈ (bs.map D.int).take k ++ [x] ++ (bs.map D.int).drop (k + 1), Ent y := by
  intro y hy
  rcases List.mem_append.mp hy with hy | hy
  · rcases List.mem_append.mp hy with hy | hy
    · exact ent_ints bb y (List.mem_of_mem_take hy)
    · simp at hy; subst hy; exact ex
  · exact ent_ints bb y (List.mem_of_mem_drop hy)
def ltT (s t : Trm) : Prop := ltA s.1 t.1 ∨ (s.1 = t.1 ∧ s.2 < t.2)
instance (s t : Trm) : Decidable (ltT s t) := by unfold ltT; infer_instance
def leT (s t : Trm) : Bool := !decide (ltT t s)
theorem term_sorts : SortsBy termD termP leT where
  to := fun h x => term_to 58 x
  al := fun a b => by simp [termP, atomP, PySem.W.alike, PySem.W.alikeAll]
  t1 := fun a => rfl
  dp := fun a => by simp [termP, atomP, PyData.depth, PyData.depthAll]
  le_ := fun a b => by
    simp only [PySem.W.dataLe, PySem.W.sortLe, termP, atomP, PySem.W.keyToks, PySem.W.keyToksAll, List.cons_append, List.nil_append, List.append_assoc, cond_false, leT]
    congr 1
    show PyProof.Rows.lexLt itemOrd _ _ = _
    rw [lex_int, lex_int, lex_int, lex_int, lex_int, lex_int, lex_int, lex_int, lex_int, lex_int, lex_int, lex_nil]
    rw [Bool.eq_iff_iff]
    obtain ⟨⟨a1, a2, a3⟩, a4⟩ := a
    obtain ⟨⟨b1, b2, b3⟩, b4⟩ := b
    rw [decide_eq_true_iff]
    simp [ltT, ltA]
    omega
theorem sortT_lt {ts : List Trm} (nd : (ts.map (·.1)).Nodup) : (ts.mergeSort leT).Pairwise fun s t => ltA s.1 t.1 := by
  have tot : ∀ a b : Trm, ltT a b ∨ ltT b a ∨ a = b := fun a b => by
    obtain ⟨a1, a2⟩ := a
    obtain ⟨b1, b2⟩ := b
    unfold ltT
    dsimp only
    rcases ltA_or a1 b1 with e | e | e
    · subst e
      by_cases z : a2 < b2
      · exact .inl (.inr ⟨rfl, z⟩)
      · by_cases y : b2 < a2
        · exact .inr (.inl (.inr ⟨rfl, y⟩))
        · have : a2 = b2 := by omega
          subst this
          exact .inr (.inr rfl)
    · exact .inl (.inl e)
    · exact .inr (.inl (.inl e))
  have tr : ∀ a b c : Trm, ltT a b → ltT b c → ltT a c := by
    rintro ⟨a1, a2⟩ ⟨b1, b2⟩ ⟨c1, c2⟩ h1 h2
    unfold ltT at *
    dsimp only at *
    rcases h1 with h1 | ⟨rfl, h1⟩ <;> rcases h2 with h2 | ⟨rfl, h2⟩
    · exact .inl (ltA_tr h1 h2)
    · exact .inl h1
    · exact .inl h2
    · exact .inr ⟨rfl, by omega⟩
  have irr : ∀ a : Trm, ¬ ltT a a := fun a z => by
    rcases z with z | z
    · exact ltA_irr _ z
    · omega
  have s := List.pairwise_mergeSort (le := leT) (fun a b c h1 h2 => by
    simp [leT] at h1 h2 ⊢
    intro h
    rcases tot a b with e | e | e
    · exact h2 (tr _ _ _ h e)
    · exact h1 e
    · subst e; exact h2 h) (fun a b => by
    simp [leT]
    rcases tot a b with e | e | e
    · exact .inl fun z => irr _ (tr _ _ _ z e)
    · exact .inr fun z => irr _ (tr _ _ _ z e)
    · subst e; exact .inl (irr _)) ts
  have nd2 : ((ts.mergeSort leT).map (·.1)).Nodup := ((List.mergeSort_perm ts leT).map _).nodup_iff.mpr nd
  refine (s.and (List.pairwise_map.mp nd2)).imp ?_
  rintro a b ⟨h1, h2⟩
  simp [leT] at h1
  rcases ltA_or a.1 b.1 with e | e | e
  · exact absurd e h2
  · exact e
  · exact absurd (.inl e) h1
def SpPost (w g n : Nat) (as : List Atm) (B : Int) (l : Nat) (h : Hh) (d : D) (h' : Hh) : Prop := ∃ p ns gl hs th, d = .ref p ∧ h.length ≤ p ∧ h'[p]? = some (.lst [neverD ns, formD gl, .tup (hs.map hintD), th]) ∧ Spoil w g h' as B l ns gl hs th ∧ IsWell h' w g (n + 1000) ∧ Ext (Wl w g) h h'
theorem sp_fin {as : List Atm} {B : Int} {l m : Nat} {ns : List Int} {gl : Frm} {hs : List Hnt} {th : D} (S : Spoil w g (h1 ++ [.lst [neverD ns, formD gl, .tup (hs.map hintD), th]]) as B l ns gl hs th) (W : IsWell h1 w g m) (hm : m ≤ n + 1000) (E : Ext (Wl w g) h h1) :
    SpPost w g n as B l h (.ref h1.length) (h1 ++ [.lst [neverD ns, formD gl, .tup (hs.map hintD), th]]) :=
  ⟨h1.length, ns, gl, hs, th, rfl, E.len, push_new, S, (W.ext .push).up hm, E.pushR⟩
theorem cut_put {xs : List D} {k : Nat} {x : D} (lk : k < xs.length) (l : xs.length ≤ 1000) : PI.cutD xs none (some (k : Int)) = xs.take k ∧ PI.cutD xs (some ((k : Int) + 1)) none = xs.drop (k + 1) ∧
      oAdd (.tup (xs.take k)) (.tup [x]) h = some (.tup (xs.take k ++ [x]), h) ∧ oAdd (.tup (xs.take k ++ [x])) (.tup (xs.drop (k + 1))) h = some (.tup (xs.take k ++ [x] ++ xs.drop (k + 1)), h) := by
  refine ⟨cutD_take (by omega), ?_, oAdd_t (by simp; omega), oAdd_t (by simp; omega)⟩
  have := cutD_drop (xs := xs) (k := k + 1) (by omega)
  simpa using this
theorem spoilt_ok {ns : List Int} {as : List Atm} {gl : Frm} {hs : List Hnt} {s B : Int} {bs : List Int} {q : Nat} (W : IsWell h w g n) (hn : n < 1000000) (e : h[q]? = some (.lst (as.map atomD))) (q0 : ¬ Wl w g q) (okn : okN ns) (okg : okF B gl) (gm : ∀ t ∈ gl.2, t.1 ∈ as) (okh : ∀ x ∈ hs, okH B x) (ll : bs.length = hs.length) (hl : hs.length ≤ 301) (sb : 0 ≤ s ∧ s < 6) (bb : ∀ b ∈ bs, bd (10 ^ 33) b) (ha : ∀ a ∈ as, okA a) (al : 1 ≤ as.length ∧ as.length ≤ 9) (hB : 0 < B ∧ B ≤ 10 ^ 75) :
    spec (F__law_spoilt [.ref w, neverD ns, formD gl, .tup (hs.map hintD), .tup [.int s, .tup (bs.map D.int)], .ref q] h) (SpPost w g n as (B + 10 ^ 40) hs.length h) := by
  unfold F__law_spoilt
  have dr : drawT F__law_draw w g := fun W m0 hn => draw_dec W m0 hn
  generalize F__law_draw = gd at dr
  have by_ : byT F__law_by w g := fun W hn => by_ok W hn
  generalize F__law_by = gb at by_
  apply wO_fn
  have okg' : okF (B + 10 ^ 40) gl := okg.up (by omega)
  have okh' : ∀ x ∈ hs, okH (B + 10 ^ 40) x := fun x hx => ⟨(okh x hx).1.up (by omega), (okh x hx).2⟩
  have sb80 : bd (10 ^ 80) s := by unfold bd; omega
  have thS := fun {h : Hh} => th_pair (h := h) sb80 (ent_ints bb)
  simp -implicitDefEqProofs [-List.append_assoc, -List.length_append, -List.cons_append, m__law_spoilt]
  refine wS.bind (dr (many := 12) W (by decide) (by omega)) ?_
  rintro _ h2 ⟨pick, rfl, pb, W2, E2⟩
  have c0 : 0 < (bs.length : Int) + 1 ∧ (bs.length : Int) + 1 < 1073741824 := by omega
  simp -implicitDefEqProofs [-List.append_assoc, -List.length_append, -List.cons_append]
  refine wS.bind (dr (many := (bs.length : Int) + 1) W2 c0 (by omega)) ?_
  rintro _ h3 ⟨k0, rfl, kb, W3, E3⟩
  obtain ⟨k, rfl⟩ : ∃ k : Nat, k0 = k := ⟨k0.toNat, by omega⟩
  have E03 := E2.trans E3
  have xl : (bs.map D.int).length = bs.length := by simp
  -- the first: one multiplier
  have put : ∀ {h : Hh} {x : D}, k < bs.length → Ent x → _ := fun {h x} lk _ => cut_put (xs := bs.map D.int) (k := k) (x := x) (h := h) (by omega) (by omega)
  by_cases p3 : pick < 3
  · by_cases kl : k < bs.length
    · obtain ⟨b, eb⟩ : ∃ b, bs[k]? = some b := ⟨_, List.getElem?_eq_getElem kl⟩
      have ab : atI (bs.map D.int) (k : Int) = some (.int b) := atI_of (map_at eb)
      have b33 := bb b (List.mem_of_getElem? eb)
      have cm : mulOk (-2) b = true := mulOk_l (by omega)
      have kl' : (k : Int) < bs.length := by omega
      simp -implicitDefEqProofs [-List.append_assoc, -List.length_append, -List.cons_append, p3, kl', ab, cm]
      obtain ⟨x, hx, xb⟩ : ∃ x : Int, atI [D.int 1, D.int (-1), D.int (-2 * b)] pick = some (.int x) ∧ bd (10 ^ 34) x := by
        have : pick = 0 ∨ pick = 1 ∨ pick = 2 := by omega
        rcases this with rfl | rfl | rfl
        · exact ⟨1, by simp, by unfold bd; omega⟩
        · exact ⟨-1, by simp, by unfold bd; omega⟩
        · exact ⟨-2 * b, by simp, by unfold bd at *; omega⟩
      have g4 := oGet_lst (i := pick) (h := h3 ++ [Ob.lst [D.int 1, D.int (-1), D.int (-2 * b)]]) push_new
      rw [hx] at g4
      have ey : Ent (.int (b + x)) := .int (by unfold bd at *; omega)
      have W4 := W3.ext (h1 := h3 ++ [Ob.lst [D.int 1, D.int (-1), D.int (-2 * b)]]) .push
      have E4 : Ext (Wl w g) h (h3 ++ [Ob.lst [D.int 1, D.int (-1), D.int (-2 * b)]]) := E03.pushR
      obtain ⟨u1, u2, u3, u4⟩ := put (h := h3 ++ [Ob.lst [D.int 1, D.int (-1), D.int (-2 * b)]]) kl ey
      generalize hq3 : h3.length = q3 at g4
      generalize h3 ++ [Ob.lst [D.int 1, D.int (-1), D.int (-2 * b)]] = h4 at W4 E4 g4 u3 u4 ⊢
      simp -implicitDefEqProofs [-List.append_assoc, -List.length_append, -List.cons_append, g4, u1, u2, u3, u4]
      have t5 := fun {h : Hh} => th_pair (h := h) sb80 (ent_put (k := k) bb ey)
      exact sp_fin ⟨okn, okg', gm, okh', rfl, fun _ _ => t5.1, fun _ _ => t5.2⟩ W4 (by omega) E4
    · have kl' : ¬ (k : Int) < bs.length := by omega
      have n3 : ¬ pick = 3 := by omega
      have n4 : ¬ pick = 4 := by omega
      have n5 : ¬ pick = 5 := by omega
      have n6 : ¬ pick = 6 := by omega
      have n7 : ¬ pick = 7 := by omega
      have n8 : ¬ pick = 8 := by omega
      have n9 : ¬ pick = 9 := by omega
      have n10 : ¬ pick = 10 := by omega
      simp -implicitDefEqProofs [-List.append_assoc, -List.length_append, -List.cons_append, kl', n3, n4, n5, n6, n7, n8, n9, n10, wipeR]
      refine wS.bind (spec.lct (R := fun d h' => d = .ref h3.length ∧ h' = h3 ++ [.lst (bs.map fun _ => D.int 0)]) (xs := bs) (enc := D.int) (fun _ => some (.int 0)) rfl (lt_sl (by omega)) (fun acc i => by rw [jSrc_tup]) (fun x hx acc => ⟨_, rfl, rfl, rfl⟩) ⟨rfl, by rw [← List.filterMap_eq_map]; rfl⟩) ?_
      rintro _ _ ⟨rfl, rfl⟩
      have m4 : (h3 ++ [Ob.lst (bs.map fun _ => D.int 0)])[h3.length]? = _ := push_new
      have W4 := W3.ext (h1 := h3 ++ [Ob.lst (bs.map fun _ => D.int 0)]) .push
      have E4 : Ext (Wl w g) h (h3 ++ [Ob.lst (bs.map fun _ => D.int 0)]) := E03.pushR
      generalize h3 ++ [Ob.lst (bs.map fun _ => D.int 0)] = h4 at m4 W4 E4 ⊢
      simp -implicitDefEqProofs [-List.append_assoc, -List.length_append, -List.cons_append, m4]
      have t5 := fun {h : Hh} => th_pair (h := h) sb80 (xs := bs.map fun _ => D.int 0) (fun x hx => by
        obtain ⟨_, _, rfl⟩ := List.mem_map.mp hx
        exact .int (by unfold bd; omega))
      exact sp_fin ⟨okn, okg', gm, okh', rfl, fun _ _ => t5.1, fun _ _ => t5.2⟩ W4 (by omega) E4
  · by_cases n3 : pick = 3
    · subst n3
      simp -implicitDefEqProofs [-List.append_assoc, -List.length_append, -List.cons_append, form0, form1]
      refine wS.bind (dr (many := 2) W3 (by decide) (by omega)) ?_
      rintro _ h4 ⟨u, rfl, ub, W4, E4⟩
      (try simp -implicitDefEqProofs [-List.append_assoc, -List.length_append, -List.cons_append])
      refine wS.bind (by_ W4 (by omega)) ?_
      rintro _ h5 ⟨y, rfl, yb, W5, E5⟩
      have ay : 0 ≤ (if y < 0 then -y else y) ∧ (if y < 0 then -y else y) < 10 ^ 32 := by unfold bd at yb; split <;> omega
      have c1 : mulOk u (if y < 0 then -y else y) = true := mulOk_l (by omega)
      simp -implicitDefEqProofs [-List.append_assoc, -List.length_append, -List.cons_append, c1]
      generalize (if y < 0 then -y else y) = v at ay ⊢
      have uv : 0 ≤ u * v ∧ u * v < 10 ^ 32 := by
        have : u = 0 ∨ u = 1 := by omega
        rcases this with rfl | rfl <;> omega
      exact sp_fin (gl := (gl.1 - 1 - u * v, gl.2)) ⟨okn, ⟨by have := okg.c; unfold bd at *; dsimp only; omega, okg'.t, okg'.o, okg'.n⟩, gm, okh', rfl, fun _ _ => thS.1, fun _ _ => thS.2⟩ W5 (by omega) ((E03.trans E4).trans E5)
    · by_cases n4 : pick = 4
      · subst n4
        simp -implicitDefEqProofs [-List.append_assoc, -List.length_append, -List.cons_append, wipeR, neverD]
        obtain ⟨w3, g3⟩ := lw_of W3
        have n3' : ¬ Wl w g h3.length := by rintro (z | z) <;> omega
        have okn3 := okn.2.2
        refine wS.bind (spec.lc (R := fun d h' => d = .ref h3.length ∧ ∃ ms : List Int, h'[h3.length]? = some (.lst (ms.map D.int)) ∧ ms.Sublist ns ∧ IsWell h' w g (n + 100) ∧ Ext (Wl w g) h3 h') (fun i acc h' => ∃ ms : List Int, acc = ms.map D.int ∧ ms.Sublist (ns.take i) ∧ IsWell h' w g (n + 2 + i) ∧ Ext (Wl w g) h3 h') (lt_sl (by omega)) ⟨[], rfl, by simp, W3.ext .push, .push⟩ ?_ ?_) ?_
        · rintro acc h' ⟨ms, rfl, sl, W4, E4⟩ e4
          rw [List.take_length] at sl
          exact ⟨by rw [jSrc_tup]; simp, rfl, ms, e4, sl, W4.up (by omega), E4⟩
        · rintro i acc h' hi ⟨ms, rfl, sl, W4, E4⟩ e4
          obtain ⟨x, ex⟩ : ∃ x, ns[i]? = some x := ⟨_, List.getElem?_eq_getElem hi⟩
          refine ⟨.int x, _, h', by rw [jSrc_tup, map_at ex], rfl, ?_⟩
          simp -implicitDefEqProofs [-List.append_assoc, -List.length_append, -List.cons_append]
          refine wO.bind (dr (many := 4) W4 (by decide) (by omega)) ?_
          rintro _ h5 ⟨y, rfl, yb, W5, E5⟩
          by_cases y0 : 0 < y
          · simp -implicitDefEqProofs [-List.append_assoc, -List.length_append, -List.cons_append, oGt, y0]
            refine ⟨fun _ => ?_, fun z => by cases z⟩
            simp -implicitDefEqProofs [-List.append_assoc, -List.length_append, -List.cons_append]
            refine ⟨E5.keep _ _ e4 n3', ms ++ [x], by simp, ?_, (W5.put n3').up (by omega), (E4.trans E5).new (Nat.le_refl _)⟩
            rw [take_succ ex]
            exact sl.append (List.Sublist.refl _)
          · simp -implicitDefEqProofs [-List.append_assoc, -List.length_append, -List.cons_append, oGt, y0]
            refine ⟨fun z => (by cases z), fun _ => ⟨E5.keep _ _ e4 n3', ms, rfl, sl.trans (List.take_sublist_take_left (by omega)), W5.up (by omega), E4.trans E5⟩⟩
        · rintro _ h4 ⟨rfl, ms, e4, sl, W4, E4⟩
          simp -implicitDefEqProofs [-List.append_assoc, -List.length_append, -List.cons_append, e4]
          exact sp_fin (ns := ms) ⟨⟨fun m hm => okn.1 m (sl.subset hm), okn.2.1.sublist sl, by have := sl.length_le; omega⟩, okg', gm, okh', rfl, fun _ _ => thS.1, fun _ _ => thS.2⟩ W4 (by omega) (E03.trans E4)
      · by_cases n5 : pick = 5 ∧ k < bs.length
        · obtain ⟨rfl, kl⟩ := n5
          obtain ⟨x, ex⟩ : ∃ x, hs[k]? = some x := ⟨_, List.getElem?_eq_getElem (by omega)⟩
          obtain ⟨u1, u2, u3, u4⟩ := cut_put (xs := hs.map hintD) (k := k) (x := D.tup [formD x.f, D.bl (!x.ex), origD x.o]) (h := h3) (by simp; omega) (by simp; omega)
          have ax : atI (hs.map hintD) (k : Int) = some (.tup [formD x.f, D.bl x.ex, origD x.o]) := atI_of (map_at ex)
          simp -implicitDefEqProofs [-List.append_assoc, -List.length_append, -List.cons_append, kl, ax, u1, u2, u3, u4]
          have eh : (hs.map hintD).take k ++ [D.tup [formD x.f, D.bl (!x.ex), origD x.o]] ++ (hs.map hintD).drop (k + 1) = (hs.take k ++ [(⟨x.f, !x.ex, x.o⟩ : Hnt)] ++ hs.drop (k + 1)).map hintD := by simp [hintD]
          rw [eh]
          refine sp_fin ⟨okn, okg', gm, fun y hy => ?_, by simp; omega, fun _ _ => thS.1, fun _ _ => thS.2⟩ W3 (by omega) E03
          rcases List.mem_append.mp hy with hy | hy
          · rcases List.mem_append.mp hy with hy | hy
            · exact okh' y (List.mem_of_mem_take hy)
            · simp at hy; subst hy; exact okh' x (List.mem_of_getElem? ex)
          · exact okh' y (List.mem_of_mem_drop hy)
        · by_cases n6 : pick = 6
          · subst n6
            have c2 : mulOk s 2 = true := mulOk_r (by omega)
            simp -implicitDefEqProofs [-List.append_assoc, -List.length_append, -List.cons_append, wipeR, c2]
            refine wS.bind (spec.lct (R := fun d h' => d = .ref h3.length ∧ h' = h3 ++ [.lst (bs.map fun b => D.int (2 * b))]) (xs := bs) (enc := D.int) (fun b => some (.int (2 * b))) rfl (lt_sl (by omega)) (fun acc i => by rw [jSrc_tup]) (fun x hx acc => ?_) ⟨rfl, by rw [← List.filterMap_eq_map]; rfl⟩) ?_
            · have c3 : mulOk 2 x = true := mulOk_l (by omega)
              exact ⟨_, rfl, rfl, by simp -implicitDefEqProofs [-List.append_assoc, -List.length_append, -List.cons_append, c3]⟩
            · rintro _ _ ⟨rfl, rfl⟩
              have m4 : (h3 ++ [Ob.lst (bs.map fun b => D.int (2 * b))])[h3.length]? = _ := push_new
              have W4 := W3.ext (h1 := h3 ++ [Ob.lst (bs.map fun b => D.int (2 * b))]) .push
              have E4 : Ext (Wl w g) h (h3 ++ [Ob.lst (bs.map fun b => D.int (2 * b))]) := E03.pushR
              generalize h3 ++ [Ob.lst (bs.map fun b => D.int (2 * b))] = h4 at m4 W4 E4 ⊢
              obtain ⟨four, h4e⟩ : ∃ four : List D, four = [D.tup [D.int (s + 1), D.tup (bs.map D.int)], D.tup [D.int (s - 1), D.tup (bs.map D.int)], D.tup [D.int (s * 2), D.tup (bs.map fun b => D.int (2 * b))], D.tup [D.int 0, D.tup (bs.map D.int)]] := ⟨_, rfl⟩
              simp -implicitDefEqProofs [-List.append_assoc, -List.length_append, -List.cons_append, m4]
              rw [← h4e]
              have m5 : (h4 ++ [Ob.lst four])[h4.length]? = _ := push_new
              have W5 := W4.ext (h1 := h4 ++ [Ob.lst four]) .push
              have E5 : Ext (Wl w g) h (h4 ++ [Ob.lst four]) := E4.pushR
              obtain ⟨w4, g4⟩ := lw_of W4
              have n4' : ¬ Wl w g h4.length := by rintro (z | z) <;> omega
              generalize hq4 : h4.length = q4 at m5 n4' ⊢
              generalize h4 ++ [Ob.lst four] = h5 at m5 W5 E5 ⊢
              refine wS.bind (dr (many := 4) W5 (by decide) (by omega)) ?_
              rintro _ h6 ⟨u, rfl, ub, W6, E6⟩
              have m6 := E6.keep _ _ m5 n4'
              obtain ⟨th, at_, mem⟩ := atI_some (L := four) ub.1 (by rw [h4e]; exact ub.2)
              simp -implicitDefEqProofs [-List.append_assoc, -List.length_append, -List.cons_append, oGet_lst m6, at_]
              have e2 : ∀ x ∈ bs.map fun b => D.int (2 * b), Ent x := by
                intro x hx
                obtain ⟨b, hb, rfl⟩ := List.mem_map.mp hx
                exact .int (by have := bb b hb; unfold bd at *; omega)
              have tt : ∀ {h : Hh}, ThD h th ∧ PyOk h 64 th := fun {h} => by
                rw [h4e] at mem
                simp only [List.mem_cons, List.not_mem_nil, or_false] at mem
                rcases mem with rfl | rfl | rfl | rfl
                · exact th_pair (by unfold bd; omega) (ent_ints bb)
                · exact th_pair (by unfold bd; omega) (ent_ints bb)
                · exact th_pair (by unfold bd; omega) e2
                · exact th_pair (by unfold bd; omega) (ent_ints bb)
              exact sp_fin ⟨okn, okg', gm, okh', rfl, fun _ _ => tt.1, fun _ _ => tt.2⟩ W6 (by omega) (E5.trans E6)
          · by_cases n7 : pick = 7
            · subst n7
              have o1 : ∀ h, oAdd (.tup (bs.map D.int)) (.tup [.int 0]) h = some (.tup (bs.map D.int ++ [.int 0]), h) := fun h => oAdd_t (by simp; omega)
              have i1 : (h3 ++ [Ob.lst [D.int s, D.tup (bs.map D.int)]] ++ [Ob.lst (bs.map D.int)])[h3.length]? = some (.lst [D.int s, D.tup (bs.map D.int)]) := push_get push_new
              have i2 : (h3 ++ [Ob.lst [D.int s, D.tup (bs.map D.int)]] ++ [Ob.lst (bs.map D.int)])[(h3 ++ [Ob.lst [D.int s, D.tup (bs.map D.int)]]).length]? = some (.lst (bs.map D.int)) := push_new
              have W4 := W3.ext (h1 := h3 ++ [Ob.lst [D.int s, D.tup (bs.map D.int)]] ++ [Ob.lst (bs.map D.int)]) (Ext.push.pushR)
              have E4 : Ext (Wl w g) h (h3 ++ [Ob.lst [D.int s, D.tup (bs.map D.int)]] ++ [Ob.lst (bs.map D.int)]) := E03.pushR.pushR
              have lw3 := lw_of W3
              have ni1 : ¬ Wl w g h3.length := by rintro (z | z) <;> omega
              have ni2 : ¬ Wl w g (h3 ++ [Ob.lst [D.int s, D.tup (bs.map D.int)]]).length := by rintro (z | z) <;> simp at z <;> omega
              simp -implicitDefEqProofs [-List.append_assoc, -List.length_append, -List.cons_append]
              generalize h3 ++ [Ob.lst [D.int s, D.tup (bs.map D.int)]] ++ [Ob.lst (bs.map D.int)] = h4 at i1 i2 W4 E4 ⊢
              generalize (h3 ++ [Ob.lst [D.int s, D.tup (bs.map D.int)]]).length = l2 at i2 ni2 ⊢
              generalize h3.length = l1 at i1 ni1 ⊢
              simp -implicitDefEqProofs [-List.append_assoc, -List.length_append, -List.cons_append, o1, cutD_last]
              obtain ⟨six, hsx⟩ : ∃ six : List D, six = [D.ref l1, D.tup [D.int s, D.ref l2], D.tup [D.int s, D.tup (bs.map D.int ++ [D.int 0])], D.tup [D.int s, D.tup ((bs.map D.int).take (bs.length - 1))], D.tup [D.tup (bs.map D.int), D.int s], D.non] := ⟨_, rfl⟩
              obtain ⟨five, hf⟩ : ∃ five : List D, five = [D.tup [D.int s], D.tup [D.int s, D.tup (bs.map D.int), D.int 0], D.tup [D.bl true, D.tup (bs.map D.int)], D.int 7, D.tup []] := ⟨_, rfl⟩
              rw [← hsx]
              have l6 : six.length = 6 := by rw [hsx]; rfl
              have l5 : five.length = 5 := by rw [hf]; rfl
              have k1 : (h4 ++ [Ob.lst six] ++ [Ob.lst five])[h4.length]? = some (.lst six) := push_get push_new
              have k2 : (h4 ++ [Ob.lst six] ++ [Ob.lst five])[(h4 ++ [Ob.lst six]).length]? = some (.lst five) := push_new
              have W5 := W4.ext (h1 := h4 ++ [Ob.lst six] ++ [Ob.lst five] ++ [Ob.lst (six ++ five)]) (Ext.push.pushR.pushR)
              have E45 : Ext noS h4 (h4 ++ [Ob.lst six] ++ [Ob.lst five] ++ [Ob.lst (six ++ five)]) := Ext.push.pushR.pushR
              have lw4 := lw_of W4
              have n5' : ¬ Wl w g (h4 ++ [Ob.lst six] ++ [Ob.lst five]).length := by rintro (z | z) <;> simp at z <;> omega
              have k5 : (h4 ++ [Ob.lst six] ++ [Ob.lst five] ++ [Ob.lst (six ++ five)])[(h4 ++ [Ob.lst six] ++ [Ob.lst five]).length]? = some (.lst (six ++ five)) := push_new
              have lc : six.length + five.length ≤ sizeLine := le_sl (by omega)
              simp -implicitDefEqProofs [-List.append_assoc, -List.length_append, -List.cons_append, ← hf, k1, k2, lc]
              generalize h4 ++ [Ob.lst six] ++ [Ob.lst five] ++ [Ob.lst (six ++ five)] = h5 at W5 E45 k5 ⊢
              generalize (h4 ++ [Ob.lst six] ++ [Ob.lst five]).length = l5' at k5 n5' ⊢
              refine wS.bind (dr (many := 11) W5 (by decide) (by omega)) ?_
              rintro _ h6 ⟨u, rfl, ub, W6, E6⟩
              have m6 := E6.keep _ _ k5 n5'
              obtain ⟨th, at_, mem⟩ := atI_some (L := six ++ five) ub.1 (by rw [List.length_append]; omega)
              simp -implicitDefEqProofs [-List.append_assoc, -List.length_append, -List.cons_append, oGet_lst m6, at_]
              have r1 : (h6 ++ [Ob.lst [neverD ns, formD gl, D.tup (hs.map hintD), th]])[l1]? = some (.lst [D.int s, D.tup (bs.map D.int)]) := push_get (E6.keep _ _ (E45.get i1) ni1)
              have r2 : (h6 ++ [Ob.lst [neverD ns, formD gl, D.tup (hs.map hintD), th]])[l2]? = some (.lst (bs.map D.int)) := push_get (E6.keep _ _ (E45.get i2) ni2)
              have tt : ∀ h7, Ext (Wl w g) (h6 ++ [Ob.lst [neverD ns, formD gl, D.tup (hs.map hintD), th]]) h7 → ThD h7 th ∧ PyOk h7 64 th := by
                intro h7 E7
                have r1' := E7.keep _ _ r1 ni1
                have r2' := E7.keep _ _ r2 ni2
                have pt : ∀ {n : Nat}, PyOk h7 (n + 1 + 1) (.tup (bs.map D.int)) := fun {n} => .tup fun d hd => (ent_ints bb d hd).py
                have bi := ent_ints bb
                rw [hsx, hf] at mem
                simp only [List.cons_append, List.nil_append, List.mem_cons, List.not_mem_nil, or_false] at mem
                rcases mem with rfl | rfl | rfl | rfl | rfl | rfl | rfl | rfl | rfl | rfl | rfl
                · refine ⟨.other (t := "list") (by simp [tyD, r1']) (by decide), .ref r1' fun d hd => ?_⟩
                  simp at hd
                  rcases hd with rfl | rfl
                  · exact .int
                  · exact pt
                · refine ⟨.pair (t := "int") rfl (fun i e => by cases e; exact sb80) (.other (t := "list") (by simp [tyD, r2']) (by decide)), .tup fun d hd => ?_⟩
                  simp at hd
                  rcases hd with rfl | rfl
                  · exact .int
                  · exact .ref r2' fun x hx => (bi x hx).py
                · exact th_pair sb80 fun x hx => by
                    rcases List.mem_append.mp hx with hx | hx
                    · exact bi x hx
                    · simp at hx; subst hx; exact .int (by unfold bd; omega)
                · exact th_pair sb80 fun x hx => bi x (List.mem_of_mem_take hx)
                · refine ⟨.pair (t := "tuple") rfl (fun i e => by cases e) (.other (t := "int") rfl (by decide)), .tup fun d hd => ?_⟩
                  simp at hd
                  rcases hd with rfl | rfl
                  · exact pt
                  · exact .int
                · exact ⟨.other (t := "NoneType") rfl (by decide), .non⟩
                · refine ⟨.len (by simp), .tup fun d hd => ?_⟩
                  simp at hd; subst hd; exact .int
                · refine ⟨.len (by simp), .tup fun d hd => ?_⟩
                  simp at hd
                  rcases hd with rfl | rfl | rfl
                  · exact .int
                  · exact pt
                  · exact .int
                · refine ⟨.pair (t := "bool") rfl (fun i e => by cases e) (.tup fun b hb => (bi b hb).ty), .tup fun d hd => ?_⟩
                  simp at hd
                  rcases hd with rfl | rfl
                  · exact .bl
                  · exact pt
                · exact ⟨.other (t := "int") rfl (by decide), .int⟩
                · exact ⟨.len (by simp), .tup fun d hd => by simp at hd⟩
              exact sp_fin ⟨okn, okg', gm, okh', rfl, fun h7 E7 => (tt h7 E7).1, fun h7 E7 => (tt h7 E7).2⟩ W6 (by omega) ((E4.trans E45.of).trans E6)
            · by_cases n8 : pick = 8
              · subst n8
                have e3 := E03.keep _ _ e q0
                simp -implicitDefEqProofs [-List.append_assoc, -List.length_append, -List.cons_append, e3]
                refine wS.bind (dr (many := (as.length : Int)) W3 (by omega) (by omega)) ?_
                rintro _ h4 ⟨u, rfl, ub, W4, E4⟩
                have e4 := E4.keep _ _ e3 q0
                obtain ⟨j, rfl⟩ : ∃ j : Nat, u = j := ⟨u.toNat, by omega⟩
                obtain ⟨a, ea⟩ : ∃ a, as[j]? = some a := ⟨_, List.getElem?_eq_getElem (by omega)⟩
                have ma := List.mem_of_getElem? ea
                have aa : atI (as.map atomD) (j : Int) = some (atomD a) := atI_of (map_at ea)
                simp -implicitDefEqProofs [-List.append_assoc, -List.length_append, -List.cons_append, oGet_lst e4, aa, form1, wipeR]
                have gl9 := sum_len okg.o gm
                refine wS.bind (spec.lct (R := fun d h' => d = .ref h4.length ∧ h' = h4 ++ [.lst ((gl.2.filter fun t => decide (t.1 ≠ a)).map termD)]) (xs := gl.2) (enc := termD) (fun t => if t.1 ≠ a then some (termD t) else none) rfl (lt_sl (by omega)) (fun acc i => by rw [jSrc_tup]) (fun t ht acc => ?_) ⟨rfl, by rw [filterMap_if]⟩) ?_
                · refine ⟨_, rfl, ?_⟩
                  obtain ⟨r, er, hr⟩ := atom_eqs.eqB (h := h4 ++ [Ob.lst acc]) (x := t.1) (y := a) rfl
                  by_cases ta : t.1 = a
                  · rw [hr.mpr ta, ta] at er
                    simp -implicitDefEqProofs [-List.append_assoc, -List.length_append, -List.cons_append, termD, oNe, er, ta]
                  · have : r = false := by cases r <;> simp_all
                    rw [this] at er
                    simp -implicitDefEqProofs [-List.append_assoc, -List.length_append, -List.cons_append, termD, oNe, er, ta]
                · rintro _ _ ⟨rfl, rfl⟩
                  have f1 : ∀ t ∈ gl.2.filter (fun t => decide (t.1 ≠ a)), t ∈ gl.2 ∧ t.1 ≠ a := fun t ht => by
                    have := List.mem_filter.mp ht
                    exact ⟨this.1, by simpa using this.2⟩
                  have f2 : (gl.2.filter fun t => decide (t.1 ≠ a)).Pairwise fun s t => ltA s.1 t.1 := okg.o.filter _
                  have f3 := List.length_filter_le (fun t : Trm => decide (t.1 ≠ a)) gl.2
                  have lw4 := lw_of W4
                  have ni1 : ¬ Wl w g h4.length := by rintro (z | z) <;> omega
                  have m5 : (h4 ++ [Ob.lst ((gl.2.filter fun t => decide (t.1 ≠ a)).map termD)])[h4.length]? = _ := push_new
                  have W5 := W4.ext (h1 := h4 ++ [Ob.lst ((gl.2.filter fun t => decide (t.1 ≠ a)).map termD)]) .push
                  have E5 : Ext (Wl w g) h (h4 ++ [Ob.lst ((gl.2.filter fun t => decide (t.1 ≠ a)).map termD)]) := (E03.trans E4).pushR
                  have l04 := (E03.trans E4).len
                  generalize gl.2.filter (fun t => decide (t.1 ≠ a)) = ts at f1 f2 f3 m5 W5 E5 ⊢
                  generalize h4 ++ [Ob.lst (ts.map termD)] = h5 at m5 W5 E5 ⊢
                  generalize h4.length = l4 at m5 ni1 l04 ⊢
                  simp -implicitDefEqProofs [-List.append_assoc, -List.length_append, -List.cons_append]
                  refine wS.bind (by_ W5 (by omega)) ?_
                  rintro _ h6 ⟨y, rfl, yb, W6, E6⟩
                  have m6 := E6.keep _ _ m5 ni1
                  have nd0 : (ts.map (·.1)).Nodup := (List.pairwise_map.mpr f2).imp fun z e => by subst e; exact ltA_irr _ z
                  simp only [wS_nx, then_nx, mSeq_ap, wS_seq]
                  refine wS.cut (fun ρ h7 => ∃ ts' : List Trm, ρ = [some (.ref w), some (neverD ns), some (formD gl), some (.tup (hs.map hintD)), some (.tup [.int s, .tup (bs.map D.int)]), some (.ref q), some (.int s), some (.tup (bs.map D.int)), some (.int 8), some (.int k), some (.int y), none, none, none, none, some (atomD a), some (.ref l4), none, none] ∧ h7[l4]? = some (.lst (ts'.map termD)) ∧ (ts'.map (·.1)).Nodup ∧ (∀ t ∈ ts', okA t.1 ∧ t.2 ≠ 0 ∧ bd (B + 10 ^ 40) t.2) ∧ (∀ t ∈ ts', t.1 ∈ as) ∧ ts'.length ≤ 11 ∧ IsWell h7 w g (n + 10) ∧ Ext (Wl w g) h h7) ?_ ?_
                  · by_cases y0 : y = 0
                    · simp -implicitDefEqProofs [-List.append_assoc, -List.length_append, -List.cons_append, y0]
                      subst y0
                      exact ⟨ts, rfl, m6, nd0, (fun t ht => okg'.t t (f1 t ht).1), (fun t ht => gm t (f1 t ht).1), (by omega), (W6.up (by omega)), (E5.trans E6)⟩
                    · have ll6 : (ts.map termD).length < sizeLine := lt_sl (by simp; omega)
                      generalize hL : ts.map termD = L at m6 ll6
                      simp -implicitDefEqProofs [-List.append_assoc, -List.length_append, -List.cons_append, y0, m6, lApp m6 ll6]
                      refine ⟨ts ++ [(a, y)], rfl, (by rw [set_get m6, ← hL]; simp [termD]), ?_, ?_, ?_, (by simp; omega), ((W6.put ni1).up (by omega)), ((E5.trans E6).new (by omega))⟩
                      · rw [List.map_append]
                        refine nodup_snoc nd0 fun z => ?_
                        obtain ⟨t, ht, e⟩ := List.mem_map.mp z
                        exact (f1 t ht).2 e
                      · intro t ht
                        rcases List.mem_append.mp ht with ht | ht
                        · exact okg'.t t (f1 t ht).1
                        · simp at ht; subst ht; exact ⟨ha a ma, y0, by unfold bd at *; dsimp only; omega⟩
                      · intro t ht
                        rcases List.mem_append.mp ht with ht | ht
                        · exact gm t (f1 t ht).1
                        · simp at ht; subst ht; exact ma
                  · rintro _ h7 ⟨ts', rfl, m7, nd, ok7, in7, l7, W7, E7⟩
                    have so := term_sorts.lst m7
                    have ss := sortT_lt nd
                    have sl := List.length_mergeSort (le := leT) ts'
                    have sm : ∀ t, t ∈ ts'.mergeSort leT ↔ t ∈ ts' := fun t => List.mem_mergeSort
                    have m8 : (h7 ++ [Ob.lst ((ts'.mergeSort leT).map termD)])[h7.length]? = _ := push_new
                    have W8 := W7.ext (h1 := h7 ++ [Ob.lst ((ts'.mergeSort leT).map termD)]) .push
                    have E8 : Ext (Wl w g) h (h7 ++ [Ob.lst ((ts'.mergeSort leT).map termD)]) := E7.pushR
                    simp -implicitDefEqProofs [-List.append_assoc, -List.length_append, -List.cons_append, form0, so]
                    generalize ts'.mergeSort leT = us at ss sl sm m8 W8 E8 ⊢
                    generalize h7 ++ [Ob.lst (us.map termD)] = h8 at m8 W8 E8 ⊢
                    generalize h7.length = l8 at m8 ⊢
                    exact sp_fin (gl := (gl.1, us)) ⟨okn, ⟨okg'.c, fun t ht => ok7 t ((sm t).mp ht), ss, by dsimp only; omega⟩, fun t ht => in7 t ((sm t).mp ht), okh', rfl, fun _ _ => thS.1, fun _ _ => thS.2⟩ W8 (by omega) E8
              · by_cases n9 : pick = 9 ∧ k < bs.length
                · obtain ⟨rfl, kl⟩ := n9
                  simp -implicitDefEqProofs [-List.append_assoc, -List.length_append, -List.cons_append, kl]
                  have m4 : (h3 ++ [Ob.lst [D.bl true, D.non, D.str "1", D.tup [D.int 1]]])[h3.length]? = _ := push_new
                  have W4 := W3.ext (h1 := h3 ++ [Ob.lst [D.bl true, D.non, D.str "1", D.tup [D.int 1]]]) .push
                  have E4 : Ext (Wl w g) h (h3 ++ [Ob.lst [D.bl true, D.non, D.str "1", D.tup [D.int 1]]]) := E03.pushR
                  have lw3 := lw_of W3
                  have ni1 : ¬ Wl w g h3.length := by rintro (z | z) <;> omega
                  refine wS.bind (dr (many := 4) W4 (by decide) (by omega)) ?_
                  rintro _ h5 ⟨u, rfl, ub, W5, E5⟩
                  have m5 := E5.keep _ _ m4 ni1
                  obtain ⟨x, at_, mem⟩ := atI_some (L := [D.bl true, D.non, D.str "1", D.tup [D.int 1]]) ub.1 ub.2
                  have ex : Ent x := by
                    simp at mem
                    rcases mem with rfl | rfl | rfl | rfl
                    · exact .bl
                    · exact .non
                    · exact .one
                    · exact .tup
                  obtain ⟨u1, u2, u3, u4⟩ := put (h := h5) (x := x) kl ex
                  simp -implicitDefEqProofs [-List.append_assoc, -List.length_append, -List.cons_append, oGet_lst m5, at_, u1, u2, u3, u4]
                  have t5 := fun {h : Hh} => th_pair (h := h) sb80 (ent_put (k := k) bb ex)
                  exact sp_fin ⟨okn, okg', gm, okh', rfl, fun _ _ => t5.1, fun _ _ => t5.2⟩ W5 (by omega) (E4.trans E5)
                · by_cases n10 : pick = 10 ∧ k < bs.length
                  · obtain ⟨rfl, kl⟩ := n10
                    obtain ⟨x, ex⟩ : ∃ x, hs[k]? = some x := ⟨_, List.getElem?_eq_getElem (by omega)⟩
                    obtain ⟨u1, u2, u3, u4⟩ := cut_put (xs := hs.map hintD) (k := k) (x := D.tup [D.tup [D.int (x.f.1 + 1), D.tup (x.f.2.map termD)], D.bl x.ex, origD x.o]) (h := h3) (by simp; omega) (by simp; omega)
                    have ax : atI (hs.map hintD) (k : Int) = some (.tup [formD x.f, D.bl x.ex, origD x.o]) := atI_of (map_at ex)
                    simp -implicitDefEqProofs [-List.append_assoc, -List.length_append, -List.cons_append, kl, ax, form0, form1, u1, u2, u3, u4]
                    have eh : (hs.map hintD).take k ++ [D.tup [D.tup [D.int (x.f.1 + 1), D.tup (x.f.2.map termD)], D.bl x.ex, origD x.o]] ++ (hs.map hintD).drop (k + 1) = (hs.take k ++ [(⟨(x.f.1 + 1, x.f.2), x.ex, x.o⟩ : Hnt)] ++ hs.drop (k + 1)).map hintD := by simp [hintD, formD]
                    rw [eh]
                    refine sp_fin ⟨okn, okg', gm, fun y hy => ?_, by simp; omega, fun _ _ => thS.1, fun _ _ => thS.2⟩ W3 (by omega) E03
                    rcases List.mem_append.mp hy with hy | hy
                    · rcases List.mem_append.mp hy with hy | hy
                      · exact okh' y (List.mem_of_mem_take hy)
                      · simp at hy
                        subst hy
                        have o := okh x (List.mem_of_getElem? ex)
                        have o' := okh' x (List.mem_of_getElem? ex)
                        exact ⟨⟨by have := o.1.c; unfold bd at *; dsimp only; omega, o'.1.t, o'.1.o, o'.1.n⟩, o'.2⟩
                    · exact okh' y (List.mem_of_mem_drop hy)
                  · have i5 : ¬ (pick = 5 ∧ (k : Int) < bs.length) := fun z => n5 ⟨z.1, by omega⟩
                    have j5 : ∀ h : Hh, (if pick = 5 then Out.ok (decide (k < bs.length)) h else Out.ok false h) = Out.ok false h := fun h => by split <;> simp_all
                    have j9 : ∀ h : Hh, (if pick = 9 then Out.ok (decide (k < bs.length)) h else Out.ok false h) = Out.ok false h := fun h => by split <;> simp_all
                    have j10 : ∀ h : Hh, (if pick = 10 then Out.ok (decide (k < bs.length)) h else Out.ok false h) = Out.ok false h := fun h => by split <;> simp_all
                    simp -implicitDefEqProofs [-List.append_assoc, -List.length_append, -List.cons_append, p3, n3, n4, n6, n7, n8, j5, j9, j10, wipeR]
                    refine wS.bind (spec.lct (R := fun d h' => d = .ref h3.length ∧ h' = h3 ++ [.lst (bs.map fun _ => D.int 0)]) (xs := bs) (enc := D.int) (fun _ => some (.int 0)) rfl (lt_sl (by omega)) (fun acc i => by rw [jSrc_tup]) (fun x hx acc => ⟨_, rfl, rfl, rfl⟩) ⟨rfl, by rw [← List.filterMap_eq_map]; rfl⟩) ?_
                    rintro _ _ ⟨rfl, rfl⟩
                    have m4 : (h3 ++ [Ob.lst (bs.map fun _ => D.int 0)])[h3.length]? = _ := push_new
                    have W4 := W3.ext (h1 := h3 ++ [Ob.lst (bs.map fun _ => D.int 0)]) .push
                    have E4 : Ext (Wl w g) h (h3 ++ [Ob.lst (bs.map fun _ => D.int 0)]) := E03.pushR
                    generalize h3 ++ [Ob.lst (bs.map fun _ => D.int 0)] = h4 at m4 W4 E4 ⊢
                    simp -implicitDefEqProofs [-List.append_assoc, -List.length_append, -List.cons_append, m4]
                    have t5 := fun {h : Hh} => th_pair (h := h) sb80 (xs := bs.map fun _ => D.int 0) (fun x hx => by
                      obtain ⟨_, _, rfl⟩ := List.mem_map.mp hx
                      exact .int (by unfold bd; omega))
                    exact sp_fin ⟨okn, okg', gm, okh', rfl, fun _ _ => t5.1, fun _ _ => t5.2⟩ W4 (by omega) E4
end
end K60
namespace K60
open PySem PySem.Spec L2 PI
open PyProof.Rows hiding St
section
variable {h h1 : Hh} {w g n r : Nat}
/-! ### thousands of hints -/
theorem prs_set {hs : List Hnt} {bs : List Int} {i : Nat} {x : Hnt} {b v : Int} (ex : hs[i]? = some x) (eb : bs[i]? = some b) : totC (prs hs (bs.set i v)) = totC (prs hs bs) + (v - b) * x.f.1 ∧ ∀ a, totA (prs hs (bs.set i v)) a = totA (prs hs bs) a + (v - b) * co x.f.2 a := by
  induction hs generalizing bs i with
  | nil => cases ex
  | cons y hs ih =>
    cases bs with
    | nil => cases eb
    | cons c bs =>
      cases i with
      | zero =>
        simp at ex eb
        subst ex
        subst eb
        refine ⟨?_, fun a => ?_⟩
        · show totC ((y.f, v) :: prs hs bs) = totC ((y.f, c) :: prs hs bs) + _
          rw [totC_cons, totC_cons, Int.sub_mul]; dsimp only; omega
        · show totA ((y.f, v) :: prs hs bs) a = totA ((y.f, c) :: prs hs bs) a + _
          rw [totA_cons, totA_cons, Int.sub_mul]; dsimp only; omega
      | succ i =>
        obtain ⟨h1, h2⟩ := ih (i := i) (bs := bs) (by simpa using ex) (by simpa using eb)
        refine ⟨?_, fun a => ?_⟩
        · show totC ((y.f, c) :: prs hs (bs.set i v)) = totC ((y.f, c) :: prs hs bs) + _
          rw [totC_cons, totC_cons, h1]; omega
        · show totA ((y.f, c) :: prs hs (bs.set i v)) a = totA ((y.f, c) :: prs hs bs) a + _
          rw [totA_cons, totA_cons, h2]; omega
theorem prs_zero (hs : List Hnt) (m : Nat) : totC (prs hs (List.replicate m 0)) = 0 ∧ ∀ a, totA (prs hs (List.replicate m 0)) a = 0 := by
  induction hs generalizing m with
  | nil => exact ⟨rfl, fun a => rfl⟩
  | cons y hs ih =>
    cases m with
    | zero => exact ⟨rfl, fun a => rfl⟩
    | succ m =>
      obtain ⟨h1, h2⟩ := ih m
      refine ⟨?_, fun a => ?_⟩
      · show totC ((y.f, 0) :: prs hs (List.replicate m 0)) = 0
        rw [totC_cons, h1]; simp
      · show totA ((y.f, 0) :: prs hs (List.replicate m 0)) a = 0
        rw [totA_cons, h2]; simp
def Sg (A : Atm) (f : Frm) : Prop := ∃ v, f.2 = [(A, v)] ∧ (1 ≤ v ∧ v ≤ 9) ∧ -4 ≤ f.1 ∧ f.1 ≤ 4
theorem Sg.ok {A : Atm} {f : Frm} (s : Sg A f) (oka : okA A) : okF (10 ^ 80) f := by
  obtain ⟨v, e, vb, cb⟩ := s
  refine ⟨by unfold bd; omega, fun t ht => ?_, by rw [e]; exact List.pairwise_singleton _ _, by rw [e]; simp⟩
  rw [e] at ht
  simp at ht
  subst ht
  exact ⟨oka, by dsimp only; omega, by unfold bd; dsimp only; omega⟩
theorem rng_all {m i : Nat} : (jRng 0 m).at_ i h = some (((List.range m).map fun k : Nat => D.int k)[i]?) := by
  by_cases l : i < m
  · rw [jRng_at l, List.getElem?_map, List.getElem?_range l]
    simp
  · rw [List.getElem?_eq_none (by simp; omega)]
    simp [jRng, l]
theorem long_ok (W : IsWell h w g n) (hn : n < 1000000) : spec (F__law_long [.ref w] h) fun d h' => d = .bl true ∧ IsWell h' w g (n + 1000) ∧ Ext (Wl w g) h h' := by
  unfold F__law_long
  have dr : drawT F__law_draw w g := fun W m0 hn => draw_dec W m0 hn
  generalize F__law_draw = gd at dr
  have sh := fun {h : Hh} {ns : List Int} {gl : Frm} {hs : List Hnt} {d : D} okn okg okh (T : ThD h d) hl => is_shown_ok (ns := ns) (gl := gl) (hs := hs) okn okg okh T hl
  generalize F_is_shown = gs at sh
  apply wO_fn
  simp -implicitDefEqProofs [-List.append_assoc, -List.length_append, -List.cons_append, m__law_long]
  have lw0 := lw_of W
  obtain ⟨L, hL⟩ : ∃ L : List D, L = [D.int 1001, D.int 2001, D.int 4097, D.int 5001, D.int 7999, D.int 8000] := ⟨_, rfl⟩
  rw [← hL]
  have m1 : (h ++ [Ob.lst L])[h.length]? = _ := push_new
  have W1 := W.ext (h1 := h ++ [Ob.lst L]) .push
  have E1 : Ext (Wl w g) h (h ++ [Ob.lst L]) := .push
  have ni : ¬ Wl w g h.length := by rintro (z | z) <;> omega
  generalize h.length = l1 at m1 ni ⊢
  generalize h ++ [Ob.lst L] = h1 at m1 W1 E1 ⊢
  refine wS.bind (dr (many := 6) W1 (by decide) (by omega)) ?_
  rintro _ h2 ⟨u, rfl, ub, W2, E2⟩
  have m2 := E2.keep _ _ m1 ni
  obtain ⟨d, at_, mem⟩ := atI_some (L := L) ub.1 (by rw [hL]; exact ub.2)
  obtain ⟨m, rfl, mb⟩ : ∃ m : Nat, d = .int m ∧ 1000 ≤ m ∧ m ≤ 8000 := by
    rw [hL] at mem
    simp at mem
    rcases mem with rfl | rfl | rfl | rfl | rfl | rfl
    · exact ⟨1001, rfl, by omega⟩
    · exact ⟨2001, rfl, by omega⟩
    · exact ⟨4097, rfl, by omega⟩
    · exact ⟨5001, rfl, by omega⟩
    · exact ⟨7999, rfl, by omega⟩
    · exact ⟨8000, rfl, by omega⟩
  simp -implicitDefEqProofs [-List.append_assoc, -List.length_append, -List.cons_append, oGet_lst m2, at_]
  refine wS.bind (dr (many := 240) W2 (by decide) (by omega)) ?_
  rintro _ h3 ⟨a1, rfl, a1b, W3, E3⟩
  (try simp -implicitDefEqProofs [-List.append_assoc, -List.length_append, -List.cons_append])
  refine wS.bind (dr (many := 6) W3 (by decide) (by omega)) ?_
  rintro _ h4 ⟨a2, rfl, a2b, W4, E4⟩
  have oka : okA (1, a1, a2) := .inr ⟨rfl, by dsimp only; omega, by dsimp only; omega, by dsimp only; omega, by dsimp only; omega⟩
  have ea : D.tup [D.int 1, D.int a1, D.int a2] = atomD (1, a1, a2) := rfl
  simp -implicitDefEqProofs [-List.append_assoc, -List.length_append, -List.cons_append, wipeR, ea]
  generalize ((1, a1, a2) : Atm) = A at oka ⊢
  have E04 := ((E1.trans E2).trans E3).trans E4
  have lw4 := lw_of W4
  have n4 : ¬ Wl w g h4.length := by rintro (z | z) <;> omega
  -- some
  clear at_ mem
  refine wS.bind (spec.lc (R := fun d h' => d = .ref h4.length ∧ ∃ ps : List Frm, h'[h4.length]? = some (.lst (ps.map formD)) ∧ ps.length = 7 ∧ (∀ f ∈ ps, Sg A f) ∧ IsWell h' w g (n + 17) ∧ Ext (Wl w g) h4 h') (fun i acc h' => ∃ ps : List Frm, acc = ps.map formD ∧ ps.length = i ∧ (∀ f ∈ ps, Sg A f) ∧ IsWell h' w g (n + 3 + 2 * i) ∧ Ext (Wl w g) h4 h') (lt_sl (by omega)) ⟨[], rfl, rfl, by simp, W4.ext .push, .push⟩ ?_ ?_) ?_
  · rintro acc h' ⟨ps, rfl, pl, pa, W5, E5⟩ e5
    exact ⟨jRng_end, rfl, ps, e5, pl, pa, W5.up (by omega), E5⟩
  · rintro i acc h' hi ⟨ps, rfl, pl, pa, W5, E5⟩ e5
    refine ⟨_, _, _, jRng_at hi, rfl, ?_⟩
    simp -implicitDefEqProofs [-List.append_assoc, -List.length_append, -List.cons_append]
    refine ⟨fun _ => ?_, fun z => by cases z⟩
    simp -implicitDefEqProofs [-List.append_assoc, -List.length_append, -List.cons_append]
    refine wO.bind (dr (many := 9) W5 (by decide) (by omega)) ?_
    rintro _ h6 ⟨x, rfl, xb, W6, E6⟩
    (try simp -implicitDefEqProofs [-List.append_assoc, -List.length_append, -List.cons_append])
    refine wO.bind (dr (many := 9) W6 (by decide) (by omega)) ?_
    rintro _ h7 ⟨y, rfl, yb, W7, E7⟩
    simp -implicitDefEqProofs [-List.append_assoc, -List.length_append, -List.cons_append]
    refine ⟨E7.keep _ _ (E6.keep _ _ e5 n4) n4, ps ++ [(x - 4, [(A, 1 + y)])], by simp [formD, termD], by simp [pl], fun f hf => ?_, (W7.put n4).up (by omega), ((E5.trans E6).trans E7).new (Nat.le_refl _)⟩
    rcases List.mem_append.mp hf with hf | hf
    · exact pa f hf
    · simp at hf; subst hf; exact ⟨1 + y, rfl, by omega, by dsimp only; omega, by dsimp only; omega⟩
  · intro d5 h5 hR
    have ed := hR.1
    have hR1 := hR.2
    have hR2 := hR1.choose_spec
    generalize hR1.choose = ps at hR2
    have e5 := hR2.1
    have pl := hR2.2.1
    have pa := hR2.2.2.1
    have W5 := hR2.2.2.2.1
    have E5 := hR2.2.2.2.2
    clear hR hR1 hR2
    subst ed
    have m9 : m < 1000000000 := by omega
    simp -implicitDefEqProofs [-List.append_assoc, -List.length_append, -List.cons_append, wipeR, m9]
    generalize h4.length = l4 at e5 n4 ⊢
    obtain ⟨hk, hhk⟩ : ∃ hk : Nat → Hnt, hk = fun k => (⟨(ps[k % 7]?).getD (0, []), false, none⟩ : Hnt) := ⟨_, rfl⟩
    have pk : ∀ k : Nat, ps[k % 7]? = some (hk k).f := fun k => by
      obtain ⟨f, ef⟩ : ∃ f, ps[k % 7]? = some f := ⟨_, List.getElem?_eq_getElem (by omega)⟩
      rw [hhk]; simp [ef]
    have sk : ∀ k, Sg A (hk k).f := fun k => pa _ (List.mem_of_getElem? (pk k))
    have dk : ∀ k, D.tup [formD (hk k).f, D.bl false, D.non] = hintD (hk k) := fun k => by rw [hhk]; rfl
    refine wS.bind (spec.lct (R := fun d h' => d = .ref h5.length ∧ h' = h5 ++ [.lst (((List.range m).map hk).map hintD)]) (xs := List.range m) (enc := fun k : Nat => D.int k) (fun k => some (hintD (hk k))) (by simp) (lt_sl (by omega)) (fun acc i => rng_all) (fun k hk' acc => ?_) ⟨rfl, ?_⟩) ?_
    · refine ⟨_, rfl, rfl, ?_⟩
      have ek : ((k : Int) % 7) = ((k % 7 : Nat) : Int) := by omega
      have ak : atI (ps.map formD) ((k : Int) % 7) = some (formD (hk k).f) := by rw [ek]; exact atI_of (map_at (pk k))
      simp -implicitDefEqProofs [-List.append_assoc, -List.length_append, -List.cons_append, oGet_lst (push_get (l := [Ob.lst acc]) e5), ak]
      rw [dk]
    · rw [← List.filterMap_eq_map, List.filterMap_map]; rfl
    · rintro _ _ ⟨rfl, rfl⟩
      have m6 : (h5 ++ [Ob.lst (((List.range m).map hk).map hintD)])[h5.length]? = _ := push_new
      have W6 := W5.ext (h1 := h5 ++ [Ob.lst (((List.range m).map hk).map hintD)]) .push
      have E06 : Ext (Wl w g) h (h5 ++ [Ob.lst (((List.range m).map hk).map hintD)]) := (E04.trans E5).pushR
      generalize h5 ++ [Ob.lst (((List.range m).map hk).map hintD)] = h6 at m6 W6 E06 ⊢
      generalize h5.length = l5 at m6 ⊢
      have okh : ∀ x ∈ (List.range m).map hk, okH (10 ^ 80) x := fun x hx => by
        obtain ⟨k, _, rfl⟩ := List.mem_map.mp hx
        exact ⟨(sk k).ok oka, by rw [hhk]; trivial⟩
      have hat : ∀ k < m, ((List.range m).map hk)[k]? = some (hk k) := fun k l => map_at (List.getElem?_range l)
      have hlen : ((List.range m).map hk).length = m := by simp
      generalize (List.range m).map hk = hs at m6 okh hat hlen ⊢
      simp -implicitDefEqProofs [-List.append_assoc, -List.length_append, -List.cons_append, m6]
      refine wS.bind (dr (many := (m : Int)) W6 (by omega) (by omega)) ?_
      rintro _ h7 ⟨x1, rfl, x1b, W7, E7⟩
      (try simp -implicitDefEqProofs [-List.append_assoc, -List.length_append, -List.cons_append])
      have m8 : (h7 ++ [Ob.lst [D.int ((m : Int) - 1), D.int x1]])[h7.length]? = _ := push_new
      have W8 := W7.ext (h1 := h7 ++ [Ob.lst [D.int ((m : Int) - 1), D.int x1]]) .push
      have E08 : Ext (Wl w g) h (h7 ++ [Ob.lst [D.int ((m : Int) - 1), D.int x1]]) := (E06.trans E7).pushR
      have lw7 := lw_of W7
      have n7 : ¬ Wl w g h7.length := by rintro (z | z) <;> omega
      generalize h7 ++ [Ob.lst [D.int ((m : Int) - 1), D.int x1]] = h8 at m8 W8 E08 ⊢
      generalize h7.length = l7 at m8 n7 ⊢
      refine wS.bind (dr (many := 2) W8 (by decide) (by omega)) ?_
      rintro _ h9 ⟨u1, rfl, u1b, W9, E9⟩
      have m9 := E9.keep _ _ m8 n7
      obtain ⟨k, hk1, km⟩ : ∃ k : Nat, atI [D.int ((m : Int) - 1), D.int x1] u1 = some (.int k) ∧ k < m := by
        have : u1 = 0 ∨ u1 = 1 := by omega
        rcases this with rfl | rfl
        · refine ⟨m - 1, ?_, by omega⟩
          have : ((m - 1 : Nat) : Int) = (m : Int) - 1 := by omega
          rw [this]; simp
        · refine ⟨x1.toNat, ?_, by omega⟩
          have : ((x1.toNat : Nat) : Int) = x1 := by omega
          rw [this]; simp
      simp -implicitDefEqProofs [-List.append_assoc, -List.length_append, -List.cons_append, oGet_lst m9, hk1]
      refine wS.bind (dr (many := 5) W9 (by decide) (by omega)) ?_
      rintro _ h10 ⟨y, rfl, yb, W10, E10⟩
      obtain ⟨v, ev, vb, cb⟩ := sk k
      have hx := hat k km
      have ah : atI (hs.map hintD) (k : Int) = some (hintD (hk k)) := atI_of (map_at hx)
      have ff : formD (hk k).f = .tup [.int (hk k).f.1, .tup [.tup [atomD A, .int v]]] := by unfold formD; rw [ev]; rfl
      have c1 : mulOk (1 + y) (hk k).f.1 = true := mulOk_l (by omega)
      have c2 : mulOk (1 + y) v = true := mulOk_l (by omega)
      simp -implicitDefEqProofs [-List.append_assoc, -List.length_append, -List.cons_append, ah, hint0, ff, c1, c2]
      have m11 : (h10 ++ [Ob.lst [D.int 0]])[h10.length]? = some (.lst [D.int 0]) := push_new
      have mu := mulL (k := m) m11 (by simp; omega) (by omega)
      rw [List.flatten_replicate_singleton] at mu
      have er : List.replicate m (D.int 0) = (List.replicate m (0 : Int)).map D.int := by simp
      rw [er] at mu
      have m12 : (h10 ++ [Ob.lst [D.int 0]] ++ [Ob.lst ((List.replicate m (0 : Int)).map D.int)])[(h10 ++ [Ob.lst [D.int 0]]).length]? = some (.lst ((List.replicate m (0 : Int)).map D.int)) := push_new
      have W12 := W10.ext (h1 := h10 ++ [Ob.lst [D.int 0]] ++ [Ob.lst ((List.replicate m (0 : Int)).map D.int)]) (Ext.push.pushR)
      have E12 : Ext (Wl w g) h (h10 ++ [Ob.lst [D.int 0]] ++ [Ob.lst ((List.replicate m (0 : Int)).map D.int)]) := ((E08.trans E9).trans E10).pushR.pushR
      have lw10 := lw_of W10
      have lh0 : h.length ≤ (h10 ++ [Ob.lst [D.int 0]]).length := by have := ((E08.trans E9).trans E10).len; simp; omega
      have n12 : ¬ Wl w g (h10 ++ [Ob.lst [D.int 0]]).length := by rintro (z | z) <;> simp at z <;> omega
      obtain ⟨z1, z2⟩ := prs_zero hs m
      have l0 : (List.replicate m (0 : Int)).length = m := by simp
      have b0 : (List.replicate m (0 : Int))[k]? = some 0 := by simp [km]
      have bb0 : ∀ b ∈ List.replicate m (0 : Int), b = 0 := fun b hb => (List.mem_replicate.mp hb).2
      obtain ⟨t1, t2⟩ := prs_set (v := 1 + y) hx b0
      rw [z1] at t1
      simp only [Int.sub_zero, Int.zero_add] at t1 t2
      simp -implicitDefEqProofs [-List.append_assoc, -List.length_append, -List.cons_append, mu]
      rw [er]
      generalize List.replicate m (0 : Int) = bs0 at m12 W12 E12 z1 z2 l0 b0 bb0 t1 t2 ⊢
      generalize h10 ++ [Ob.lst [D.int 0]] ++ [Ob.lst (bs0.map D.int)] = h12 at m12 W12 E12 ⊢
      generalize (h10 ++ [Ob.lst [D.int 0]]).length = lt at m12 n12 lh0 ⊢
      have pu := putL (d := .int (1 + y)) m12 (k := k) (by simp [l0]; omega)
      have e13 : (bs0.map D.int).set k (.int (1 + y)) = (bs0.set k (1 + y)).map D.int := by rw [List.map_set]
      rw [e13] at pu
      have m13 : (h12.set lt (.lst ((bs0.set k (1 + y)).map D.int)))[lt]? = _ := set_get m12
      have W13 := W12.put (o := .lst ((bs0.set k (1 + y)).map D.int)) n12
      have E13 : Ext (Wl w g) h (h12.set lt (.lst ((bs0.set k (1 + y)).map D.int))) := E12.new lh0
      have l1 : (bs0.set k (1 + y)).length = m := by simp [l0]
      have bb1 : ∀ b ∈ bs0.set k (1 + y), 0 ≤ b ∧ b ≤ 10 := fun b hb => by
        rcases List.mem_or_eq_of_mem_set hb with hb | hb
        · have := bb0 b hb; omega
        · omega
      simp -implicitDefEqProofs [-List.append_assoc, -List.length_append, -List.cons_append, pu]
      rw [e13]
      generalize bs0.set k (1 + y) = bs1 at m13 W13 E13 l1 bb1 t1 t2 ⊢
      generalize h12.set lt (.lst (bs1.map D.int)) = h13 at m13 W13 E13 ⊢
      simp -implicitDefEqProofs [-List.append_assoc, -List.length_append, -List.cons_append, m13]
      have co1 : ∀ (u : Int) (a : Atm), co [(A, u)] a = if A = a then u else 0 := fun u a => by simp [co]
      have ent : ∀ (bs : List Int), (∀ b ∈ bs, 0 ≤ b ∧ b ≤ 11) → ∀ {h : Hh}, ThD h (.tup [.int 1, .tup (bs.map D.int)]) := fun bs hb {h} => (th_pair (by unfold bd; omega) (ent_ints fun b hb' => by have := hb b hb'; unfold bd; omega)).1
      have v90 : 1 ≤ (1 + y) * v ∧ (1 + y) * v ≤ 45 := by
        have : y = 0 ∨ y = 1 ∨ y = 2 ∨ y = 3 ∨ y = 4 := by omega
        rcases this with rfl | rfl | rfl | rfl | rfl <;> omega
      have c90 : -20 ≤ (1 + y) * (hk k).f.1 ∧ (1 + y) * (hk k).f.1 ≤ 20 := by
        have : y = 0 ∨ y = 1 ∨ y = 2 ∨ y = 3 ∨ y = 4 := by omega
        rcases this with rfl | rfl | rfl | rfl | rfl <;> omega
      have okg : okF (10 ^ 80) (((1 + y) * (hk k).f.1, [(A, (1 + y) * v)]) : Frm) := ⟨by unfold bd; dsimp only; omega, fun t ht => by
        simp at ht
        subst ht
        exact ⟨oka, by dsimp only; omega, by unfold bd; dsimp only; omega⟩, List.pairwise_singleton _ _, by simp⟩
      have okn : okN [] := ⟨by simp, .nil, by simp⟩
      refine wS.bind (sh (ns := []) (gl := ((1 + y) * (hk k).f.1, [(A, (1 + y) * v)])) okn okg okh (ent bs1 fun b hb => by have := bb1 b hb; omega) (by omega)) ?_
      rintro _ h14 ⟨b, rfl, hb, E14⟩
      have shown : b = true := by
        refine hb.mpr ⟨1, bs1, ⟨rfl, by omega, by omega, fun i x b _ h2 h3 => by have := bb1 b (List.mem_of_getElem? h2); omega⟩, ?_, fun a => ?_⟩
        · rw [t1, if_neg (by omega)]; dsimp only; omega
        · rw [t2, z2, ev, co1, co1]
          split
          · refine ⟨by omega, fun z => by omega⟩
          · refine ⟨by omega, fun z => by omega⟩
      subst shown
      have W14 := W13.ext E14
      have m14 := E14.get m13
      simp -implicitDefEqProofs [-List.append_assoc, -List.length_append, -List.cons_append, oNotB]
      refine wS.bind (dr (many := (m : Int)) W14 (by omega) (by omega)) ?_
      rintro _ h15 ⟨x2, rfl, x2b, W15, E15⟩
      have m15 := E15.keep _ _ m14 n12
      have m16 : (h15 ++ [Ob.lst [D.int ((m : Int) - 1), D.int k, D.int x2]])[h15.length]? = _ := push_new
      have m15' : (h15 ++ [Ob.lst [D.int ((m : Int) - 1), D.int k, D.int x2]])[lt]? = _ := push_get m15
      have W16 := W15.ext (h1 := h15 ++ [Ob.lst [D.int ((m : Int) - 1), D.int k, D.int x2]]) .push
      have E16 : Ext (Wl w g) h (h15 ++ [Ob.lst [D.int ((m : Int) - 1), D.int k, D.int x2]]) := ((E13.trans E14.of).trans E15).pushR
      have lw15 := lw_of W15
      have n15 : ¬ Wl w g h15.length := by rintro (z | z) <;> omega
      (try simp -implicitDefEqProofs [-List.append_assoc, -List.length_append, -List.cons_append])
      generalize h15 ++ [Ob.lst [D.int ((m : Int) - 1), D.int k, D.int x2]] = h16 at m16 m15' W16 E16 ⊢
      generalize h15.length = l15 at m16 n15 ⊢
      refine wS.bind (dr (many := 3) W16 (by decide) (by omega)) ?_
      rintro _ h17 ⟨u2, rfl, u2b, W17, E17⟩
      have m17 := E17.keep _ _ m16 n15
      have m17' := E17.keep _ _ m15' n12
      obtain ⟨j, hj1, jm⟩ : ∃ j : Nat, atI [D.int ((m : Int) - 1), D.int k, D.int x2] u2 = some (.int j) ∧ j < m := by
        have : u2 = 0 ∨ u2 = 1 ∨ u2 = 2 := by omega
        rcases this with rfl | rfl | rfl
        · refine ⟨m - 1, ?_, by omega⟩
          have : ((m - 1 : Nat) : Int) = (m : Int) - 1 := by omega
          rw [this]; simp
        · exact ⟨k, by simp, km⟩
        · refine ⟨x2.toNat, ?_, by omega⟩
          have : ((x2.toNat : Nat) : Int) = x2 := by omega
          rw [this]; simp
      obtain ⟨b1, eb1⟩ : ∃ b1, bs1[j]? = some b1 := ⟨_, List.getElem?_eq_getElem (by omega)⟩
      have ab1 : atI (bs1.map D.int) (j : Int) = some (.int b1) := atI_of (map_at eb1)
      have pu2 := putL (d := .int (b1 + 1)) m17' (k := j) (by simp [l1]; omega)
      have e18 : (bs1.map D.int).set j (.int (b1 + 1)) = (bs1.set j (b1 + 1)).map D.int := by rw [List.map_set]
      have m18 : (h17.set lt (.lst ((bs1.map D.int).set j (.int (b1 + 1)))))[lt]? = some (.lst ((bs1.map D.int).set j (.int (b1 + 1)))) := set_get m17'
      have W18 := W17.put (o := .lst ((bs1.map D.int).set j (.int (b1 + 1)))) n12
      have E18 : Ext (Wl w g) h (h17.set lt (.lst ((bs1.map D.int).set j (.int (b1 + 1))))) := (E16.trans E17).new lh0
      obtain ⟨q1, q2⟩ := prs_set (v := b1 + 1) (hat j jm) eb1
      have one : b1 + 1 - b1 = 1 := by omega
      simp only [one, Int.one_mul] at q1 q2
      have l2 : (bs1.set j (b1 + 1)).length = m := by simp [l1]
      have bb2 : ∀ b ∈ bs1.set j (b1 + 1), 0 ≤ b ∧ b ≤ 11 := fun b hb => by
        rcases List.mem_or_eq_of_mem_set hb with hb | hb
        · have := bb1 b hb; omega
        · have := bb1 b1 (List.mem_of_getElem? eb1); omega
      simp -implicitDefEqProofs [-List.append_assoc, -List.length_append, -List.cons_append, oGet_lst m17, hj1, oGet_lst m17', ab1, pu2]
      generalize h17.set lt (.lst ((bs1.map D.int).set j (.int (b1 + 1)))) = h18 at m18 W18 E18 ⊢
      rw [e18] at m18
      simp -implicitDefEqProofs [-List.append_assoc, -List.length_append, -List.cons_append, m18]
      try rw [e18]
      refine wS.bind (sh (ns := []) (gl := ((1 + y) * (hk k).f.1, [(A, (1 + y) * v)])) okn okg okh (ent (bs1.set j (b1 + 1)) bb2) (by omega)) ?_
      rintro _ h19 ⟨b, rfl, hb2, E19⟩
      have W19 := W18.ext E19
      have fa : b = false := by
        cases b with
        | false => rfl
        | true =>
          obtain ⟨s', bs', f, q⟩ := hb2.mp rfl
          obtain ⟨e1, e2⟩ := fits_tup f
          have e3 := ints_inj (D.tup.inj e2)
          subst e1
          subst e3
          obtain ⟨v', ev', vb', _⟩ := sk j
          have := (q.a A).1
          rw [q2, t2, z2, ev, ev', co1, co1, co1, if_pos rfl, if_pos rfl, if_pos rfl] at this
          omega
      subst fa
      simp -implicitDefEqProofs [-List.append_assoc, -List.length_append, -List.cons_append, oIsB]
      exact ⟨rfl, W19.up (by omega), E18.trans E19.of⟩
end
end K60
namespace K60
open PySem PySem.Spec L2 PI
open PyProof.Rows hiding St
section
variable {h h1 : Hh} {w g n r : Nat}
/-! ### errors -/
theorem err_never {a b c d : D} (e : F_need_never [a] h = .err ⟨"BadNever", []⟩ h) : F_is_shown [a, b, c, d] h = .err ⟨"BadNever", []⟩ h := by
  unfold F_is_shown
  generalize F_need_never = g1 at e
  simp -implicitDefEqProofs [mFn, m_is_shown, e]
theorem err_goal {a b c d : D} (e : F_need_never [a] h = .ok .non h) (e2 : F_need_goal [b] h = .err ⟨"BadGoal", []⟩ h) : F_is_shown [a, b, c, d] h = .err ⟨"BadGoal", []⟩ h := by
  unfold F_is_shown
  generalize F_need_never = g1 at e
  generalize F_need_goal = g2 at e2
  simp -implicitDefEqProofs [mFn, m_is_shown, e, e2]
theorem err_hints {a b c d : D} (e : F_need_never [a] h = .ok .non h) (e2 : F_need_goal [b] h = .ok .non h) (e3 : F_need_hints [c] h = .err ⟨"BadHints", []⟩ h) : F_is_shown [a, b, c, d] h = .err ⟨"BadHints", []⟩ h := by
  unfold F_is_shown
  generalize F_need_never = g1 at e
  generalize F_need_goal = g2 at e2
  generalize F_need_hints = g3 at e3
  simp -implicitDefEqProofs [mFn, m_is_shown, e, e2, e3]
theorem mTry_ap {sb : Str → Str → Bool} {b : MS} {hs : List Hd} {ρ : Rho} : mTry sb b hs ρ h = match b ρ h with
  | .er x ρ' h' => clauses sb x ρ' h' hs
  | o => o := rfl
theorem uni_const {o : OutS} : uni (fun _ => o) = o := uni_eq fun _ => rfl
theorem error_never {a b c : D} (e : F_is_shown [a, b, c, .non] h = .err ⟨"BadNever", []⟩ h) : F__law_error [a, b, c] h = .ok (.str "never") h := by
  unfold F__law_error
  generalize F_is_shown = g1 at e
  have s1 : sb "BadNever" "BadNever" = true := by decide
  simp -implicitDefEqProofs [mFn, m__law_error, mTry_ap, perm, e, clauses, s1, uni_const, noEr]
theorem error_goal {a b c : D} (e : F_is_shown [a, b, c, .non] h = .err ⟨"BadGoal", []⟩ h) : F__law_error [a, b, c] h = .ok (.str "goal") h := by
  unfold F__law_error
  generalize F_is_shown = g1 at e
  have s1 : sb "BadGoal" "BadNever" = false := by decide
  have s2 : sb "BadGoal" "BadGoal" = true := by decide
  simp -implicitDefEqProofs [mFn, m__law_error, mTry_ap, perm, e, clauses, s1, s2, uni_const, noEr]
theorem error_hints {a b c : D} (e : F_is_shown [a, b, c, .non] h = .err ⟨"BadHints", []⟩ h) : F__law_error [a, b, c] h = .ok (.str "hints") h := by
  unfold F__law_error
  generalize F_is_shown = g1 at e
  have s1 : sb "BadHints" "BadNever" = false := by decide
  have s2 : sb "BadHints" "BadGoal" = false := by decide
  have s3 : sb "BadHints" "BadHints" = true := by decide
  simp -implicitDefEqProofs [mFn, m__law_error, mTry_ap, perm, e, clauses, s1, s2, s3, uni_const, noEr]
theorem error_none {a b c d : D} (e : F_is_shown [a, b, c, .non] h = .ok d h1) : F__law_error [a, b, c] h = .ok (.str "none") h1 := by
  unfold F__law_error
  generalize F_is_shown = g1 at e
  simp -implicitDefEqProofs [mFn, m__law_error, mTry_ap, perm, e]
/-! ### bad things -/
def BadN (h : Hh) (d : D) : Prop := d = .non ∨ (∃ r xs, d = .ref r ∧ h[r]? = some (.lst xs)) ∨ d = .tup [.int 0] ∨ d = .tup [.int 13] ∨ d = .tup [.int 1, .int 1] ∨ d = .tup [.int 2, .int 1] ∨ d = .tup [.bl true] ∨ d = .tup [.str "1"] ∨ d = .int 1 ∨ d = .tup [.int 1, .int 2, .int 3, .non]
theorem bad_never {d : D} (b : BadN h d) : F_need_never [d] h = .err ⟨"BadNever", []⟩ h := by
  unfold F_need_never
  have W1 : ∀ x lo hi : Int, F_within [.int x, .int lo, .int hi] h = .ok (.bl (decide (lo ≤ x ∧ x ≤ hi))) h := within_int
  have W2 : ∀ (b : Bool) (lo hi : D), F_within [.bl b, lo, hi] h = .ok (.bl false) h := fun b lo hi => within_ty (t := "bool") rfl (by decide)
  have W3 : ∀ (b : Str) (lo hi : D), F_within [.str b, lo, hi] h = .ok (.bl false) h := fun b lo hi => within_ty (t := "str") rfl (by decide)
  have W4 : ∀ (lo hi : D), F_within [.non, lo, hi] h = .ok (.bl false) h := fun lo hi => within_ty (t := "NoneType") rfl (by decide)
  generalize F_within = gw at W1 W2 W3 W4
  rcases b with rfl | ⟨r, xs, rfl, e⟩ | rfl | rfl | rfl | rfl | rfl | rfl | rfl | rfl
  · simp -implicitDefEqProofs [mFn, m_need_never, tyD, subT]
  · simp -implicitDefEqProofs [mFn, m_need_never, tyD, e, subT]
  · simp -implicitDefEqProofs [mFn, m_need_never, tyD, subT, oGt, forL, jRng, W1]
  · simp -implicitDefEqProofs [mFn, m_need_never, tyD, subT, oGt, forL, jRng, W1]
  · simp -implicitDefEqProofs [mFn, m_need_never, tyD, subT, oGt, forL, jRng, W1, oGeA, oGe]
  · simp -implicitDefEqProofs [mFn, m_need_never, tyD, subT, oGt, forL, jRng, W1, oGeA, oGe]
  · simp -implicitDefEqProofs [mFn, m_need_never, tyD, subT, oGt, forL, jRng, W2]
  · simp -implicitDefEqProofs [mFn, m_need_never, tyD, subT, oGt, forL, jRng, W3]
  · simp -implicitDefEqProofs [mFn, m_need_never, tyD, subT]
  · simp -implicitDefEqProofs [mFn, m_need_never, tyD, subT, oGt, forL, jRng, W1, W4, oGeA, oGe]
def BadA (h : Hh) (d : D) : Prop := d = .tup [.int 0, .int 400, .int 1] ∨ d = .tup [.int 0, .int (-2), .int 1] ∨ d = .tup [.int 0, .int 1, .int 13] ∨ d = .tup [.int 1, .int 240, .int 0] ∨ d = .tup [.int 1, .int 1, .int 6] ∨ d = .tup [.int 2, .int 1, .int 1] ∨ d = .tup [.int 1, .int (-1), .int 0] ∨ d = .tup [.int 0, .int 1] ∨ (∃ r xs, d = .ref r ∧ h[r]? = some (.lst xs)) ∨ d = .tup [.int 0, .bl true, .int 1]
theorem bad_atom {d : D} (b : BadA h d) : F_is_atom [d] h = .ok (.bl false) h := by
  unfold F_is_atom
  have W1 : ∀ x lo hi : Int, F_within [.int x, .int lo, .int hi] h = .ok (.bl (decide (lo ≤ x ∧ x ≤ hi))) h := within_int
  have W2 : ∀ (b : Bool) (lo hi : D), F_within [.bl b, lo, hi] h = .ok (.bl false) h := fun b lo hi => within_ty (t := "bool") rfl (by decide)
  generalize F_within = gw at W1 W2
  rcases b with rfl | rfl | rfl | rfl | rfl | rfl | rfl | rfl | ⟨r, xs, rfl, e⟩ | rfl
  · simp -implicitDefEqProofs [mFn, m_is_atom, tyD, subT, W1]
  · simp -implicitDefEqProofs [mFn, m_is_atom, tyD, subT, W1]
  · simp -implicitDefEqProofs [mFn, m_is_atom, tyD, subT, W1]
  · simp -implicitDefEqProofs [mFn, m_is_atom, tyD, subT, W1]
  · simp -implicitDefEqProofs [mFn, m_is_atom, tyD, subT, W1]
  · simp -implicitDefEqProofs [mFn, m_is_atom, tyD, subT, W1]
  · simp -implicitDefEqProofs [mFn, m_is_atom, tyD, subT, W1]
  · simp -implicitDefEqProofs [mFn, m_is_atom, tyD, subT]
  · simp -implicitDefEqProofs [mFn, m_is_atom, tyD, e, subT]
  · simp -implicitDefEqProofs [mFn, m_is_atom, tyD, subT, W1, W2]
def BadG (h : Hh) (d : D) : Prop := d = .non ∨ d = .int 5 ∨ (∃ a, BadA h a ∧ d = .tup [.int 0, .tup [.tup [a, .int 1]]]) ∨ d = .tup [.int 0, .tup [.tup [.tup [.int 0, .int 1, .int 1], .int 0]]] ∨
  d = .tup [.int 0, .tup [.tup [.tup [.int 0, .int 2, .int 1], .int 1], .tup [.tup [.int 0, .int 1, .int 1], .int 1]]] ∨ d = .tup [.bl true, .tup []] ∨ (∃ r xs, d = .ref r ∧ h[r]? = some (.lst xs)) ∨
  d = .tup [.int 0, .tup [.tup [.tup [.int 0, .int 1, .int 1], .int 1], .tup [.tup [.int 0, .int 1, .int 1], .int 2]]] ∨ (∃ r xs, d = .tup [.int 0, .ref r] ∧ h[r]? = some (.lst xs)) ∨ d = .tup [.int 0] ∨ d = .tup [.str "0", .tup []] ∨ d = .tup [.int 0, .tup [.tup [.tup [.int 0, .int 1, .int 1], .bl true]]]
theorem bad_form {d : D} (b : BadG h d) : F_is_form [d] h = .ok (.bl false) h := by
  unfold F_is_form
  have I1 : ∀ i, F_is_int [.int i] h = .ok (.bl true) h := is_int_int
  have I2 : ∀ (b : Bool), F_is_int [.bl b] h = .ok (.bl false) h := fun b => is_int_ty (t := "bool") rfl (by decide)
  have I3 : ∀ (b : Str), F_is_int [.str b] h = .ok (.bl false) h := fun b => is_int_ty (t := "str") rfl (by decide)
  have A1 : ∀ {d}, BadA h d → F_is_atom [d] h = .ok (.bl false) h := bad_atom
  have A2 : F_is_atom [.tup [.int 0, .int 1, .int 1]] h = .ok (.bl true) h := is_atom_eq (a := (0, 1, 1)) (by decide)
  have A3 : F_is_atom [.tup [.int 0, .int 2, .int 1]] h = .ok (.bl true) h := is_atom_eq (a := (0, 2, 1)) (by decide)
  have G1 := oGeA_atom (h := h) (0, 2, 1) (0, 1, 1)
  have G2 := oGeA_atom (h := h) (0, 1, 1) (0, 1, 1)
  simp only [atomD, ltA] at G1 G2
  generalize F_is_int = gi at I1 I2 I3
  generalize F_is_atom = ga at A1 A2 A3
  rcases b with rfl | rfl | ⟨a, ba, rfl⟩ | rfl | rfl | rfl | ⟨r, xs, rfl, e⟩ | rfl | ⟨r, xs, rfl, e⟩ | rfl | rfl | rfl
  · simp -implicitDefEqProofs [mFn, m_is_form, tyD, subT]
  · simp -implicitDefEqProofs [mFn, m_is_form, tyD, subT]
  · simp -implicitDefEqProofs [mFn, m_is_form, tyD, subT, I1, forL, jRng, A1 ba]
  · simp -implicitDefEqProofs [mFn, m_is_form, tyD, subT, I1, forL, jRng, A2]
  · simp -implicitDefEqProofs [mFn, m_is_form, tyD, subT, I1, forL, jRng, A2, A3, oGt, G1]
  · simp -implicitDefEqProofs [mFn, m_is_form, tyD, subT, I2]
  · simp -implicitDefEqProofs [mFn, m_is_form, tyD, e, subT]
  · simp -implicitDefEqProofs [mFn, m_is_form, tyD, subT, I1, forL, jRng, A2, oGt, G2]
  · simp -implicitDefEqProofs [mFn, m_is_form, tyD, subT, I1, e]
  · simp -implicitDefEqProofs [mFn, m_is_form, tyD, subT]
  · simp -implicitDefEqProofs [mFn, m_is_form, tyD, subT, I3]
  · simp -implicitDefEqProofs [mFn, m_is_form, tyD, subT, I1, I2, forL, jRng, A2]
theorem bad_goal {d : D} (b : BadG h d) : F_need_goal [d] h = .err ⟨"BadGoal", []⟩ h := by
  unfold F_need_goal
  have e1 := bad_form b
  generalize F_is_form = gf at e1
  simp -implicitDefEqProofs [mFn, m_need_goal, e1]
def BadO (h : Hh) (d : D) : Prop := d = .tup [.int 240, .int 0] ∨ d = .tup [.int 0, .int 30] ∨ d = .tup [.int (-1), .int 0] ∨ d = .tup [.int 0] ∨ d = .tup [.bl true, .int 0] ∨ d = .str "x" ∨ d = .tup [.int 0, .int 0, .int 0] ∨ (∃ r xs, d = .ref r ∧ h[r]? = some (.lst xs))
theorem bad_origin {d : D} (b : BadO h d) : F_is_origin [d] h = .ok (.bl false) h := by
  unfold F_is_origin
  have W1 : ∀ x lo hi : Int, F_within [.int x, .int lo, .int hi] h = .ok (.bl (decide (lo ≤ x ∧ x ≤ hi))) h := within_int
  have W2 : ∀ (b : Bool) (lo hi : D), F_within [.bl b, lo, hi] h = .ok (.bl false) h := fun b lo hi => within_ty (t := "bool") rfl (by decide)
  generalize F_within = gw at W1 W2
  rcases b with rfl | rfl | rfl | rfl | rfl | rfl | rfl | ⟨r, xs, rfl, e⟩
  · simp -implicitDefEqProofs [mFn, m_is_origin, PI.isNon, tyD, subT, W1]
  · simp -implicitDefEqProofs [mFn, m_is_origin, PI.isNon, tyD, subT, W1]
  · simp -implicitDefEqProofs [mFn, m_is_origin, PI.isNon, tyD, subT, W1]
  · simp -implicitDefEqProofs [mFn, m_is_origin, PI.isNon, tyD, subT]
  · simp -implicitDefEqProofs [mFn, m_is_origin, PI.isNon, tyD, subT, W2]
  · simp -implicitDefEqProofs [mFn, m_is_origin, PI.isNon, tyD, subT]
  · simp -implicitDefEqProofs [mFn, m_is_origin, PI.isNon, tyD, subT]
  · simp -implicitDefEqProofs [mFn, m_is_origin, PI.isNon, tyD, e, subT]
abbrev form0D : D := .tup [.int 0, .tup []]
def BadH (h : Hh) (d : D) : Prop := d = .tup [form0D, .int 0, .non] ∨ d = .tup [form0D, .non, .non] ∨ (∃ o, BadO h o ∧ d = .tup [form0D, .bl true, o]) ∨ d = .tup [form0D, .bl true] ∨ (∃ r xs, d = .ref r ∧ h[r]? = some (.lst xs)) ∨ d = .tup [.non, .bl true, .non] ∨
  (∃ a, BadA h a ∧ d = .tup [.tup [.int 0, .tup [.tup [a, .int 1]]], .bl false, .non]) ∨ d = form0D ∨ d = .non
theorem bad_hint {d : D} (b : BadH h d) : F_is_hint [d] h = .ok (.bl false) h := by
  unfold F_is_hint
  have f1 : F_is_form [form0D] h = .ok (.bl true) h := is_form_eq (B := 1) (f := (0, [])) ⟨by unfold bd; omega, by simp, .nil, by simp⟩
  have f2 : ∀ {d}, BadG h d → F_is_form [d] h = .ok (.bl false) h := bad_form
  have o1 : ∀ {d}, BadO h d → F_is_origin [d] h = .ok (.bl false) h := bad_origin
  have f3 := f2 (d := .non) (.inl rfl)
  generalize F_is_form = gf at f1 f2 f3
  generalize F_is_origin = go at o1
  rcases b with rfl | rfl | ⟨o, bo, rfl⟩ | rfl | ⟨r, xs, rfl, e⟩ | rfl | ⟨a, ba, rfl⟩ | rfl | rfl
  · simp -implicitDefEqProofs [mFn, m_is_hint, tyD, subT, f1]
  · simp -implicitDefEqProofs [mFn, m_is_hint, tyD, subT, f1]
  · simp -implicitDefEqProofs [mFn, m_is_hint, tyD, subT, f1, o1 bo]
  · simp -implicitDefEqProofs [mFn, m_is_hint, tyD, subT]
  · simp -implicitDefEqProofs [mFn, m_is_hint, tyD, e, subT]
  · simp -implicitDefEqProofs [mFn, m_is_hint, tyD, subT, f3]
  · have f4 := f2 (.inr (.inr (.inl ⟨a, ba, rfl⟩)))
    simp -implicitDefEqProofs [mFn, m_is_hint, tyD, subT, f4]
  · simp -implicitDefEqProofs [mFn, m_is_hint, tyD, subT]
  · simp -implicitDefEqProofs [mFn, m_is_hint, tyD, subT]
def BadHs (h : Hh) (B : Int) (d : D) : Prop := (∃ t, tyD h d = some t ∧ t ≠ "tuple") ∨ (∃ xs, d = .tup xs ∧ 8000 < xs.length) ∨ ∃ (hs : List Hnt) (x : D) (ys : List D), d = .tup (hs.map hintD ++ x :: ys) ∧ (∀ y ∈ hs, okH B y) ∧ BadH h x
theorem bad_hints {B : Int} {d : D} (b : BadHs h B d) : F_need_hints [d] h = .err ⟨"BadHints", []⟩ h := by
  have w : specE (F_need_hints [d] h) (fun _ _ => False) (fun x h' => x = ⟨"BadHints", []⟩ ∧ h' = h) := by
    unfold F_need_hints
    have A : ∀ x, okH B x → F_is_hint [hintD x] h = .ok (.bl true) h := fun x m => is_hint_eq m
    have A2 : ∀ {d}, BadH h d → F_is_hint [d] h = .ok (.bl false) h := bad_hint
    generalize F_is_hint = gh at A A2
    apply wO_fn
    rcases b with ⟨t, e, n⟩ | ⟨xs, rfl, l⟩ | ⟨hs, x, ys, rfl, ok, bx⟩
    · simp -implicitDefEqProofs [m_need_hints, e, ty_ne n]
      exact ⟨rfl, rfl⟩
    · have l' : 8000 < (xs.length : Int) := by omega
      simp -implicitDefEqProofs [m_need_hints, ty_tup, subT, oGt, l']
      exact ⟨rfl, rfl⟩
    · by_cases l' : 8000 < ((hs.map hintD ++ x :: ys).length : Int)
      · generalize hs.map hintD ++ x :: ys = zs at l'
        simp -implicitDefEqProofs [m_need_hints, ty_tup, subT, oGt, l']
        exact ⟨rfl, rfl⟩
      · have ll : (hs.map hintD ++ x :: ys).length = hs.length + ys.length + 1 := by simp; omega
        have at1 : ∀ (i : Nat) y, hs[i]? = some y → (hs.map hintD ++ x :: ys)[i]? = some (hintD y) := fun i y e => by
          rw [List.getElem?_append_left (by have := (List.getElem?_eq_some_iff.mp e).1; simpa using this)]
          exact map_at e
        have at2 : (hs.map hintD ++ x :: ys)[hs.length]? = some x := by
          rw [List.getElem?_append_right (by simp)]
          simp
        generalize hs.map hintD ++ x :: ys = zs at l' ll at1 at2
        simp -implicitDefEqProofs [m_need_hints, ty_tup, subT, oGt, l']
        refine wS.loop (fun i ρ h' => h' = h ∧ i ≤ hs.length ∧ ∃ o1, ρ = [some (.tup zs), o1]) ⟨rfl, by omega, none, rfl⟩ ?_ ?_
        · rintro _ h' ⟨rfl, li, o1, rfl⟩
          omega
        · rintro i _ h' hi ⟨rfl, li, o1, rfl⟩
          by_cases e : i = hs.length
          · refine ⟨x, _, _, by rw [jSrc_tup, e, at2], rfl, ?_⟩
            simp -implicitDefEqProofs [A2 bx]
            exact ⟨rfl, rfl⟩
          · obtain ⟨y, ey⟩ : ∃ y, hs[i]? = some y := ⟨_, List.getElem?_eq_getElem (by omega)⟩
            refine ⟨hintD y, _, _, by rw [jSrc_tup, at1 i y ey], rfl, ?_⟩
            simp -implicitDefEqProofs [A y (ok y (List.mem_of_getElem? ey))]
            exact ⟨rfl, by omega, _, rfl⟩
  cases q : F_need_hints [d] h with
  | ok a h' => rw [q] at w; exact w.ok.elim
  | err x h' => rw [q] at w; obtain ⟨rfl, rfl⟩ := w.err; rfl
  | bad => rw [q] at w; exact w.bad.elim
end
end K60
namespace K60
open PySem PySem.Spec L2 PI
open PyProof.Rows hiding St
/-- lists stay lists -/
def Kp (h h' : Hh) : Prop := ∀ (r : Nat) (xs : List D), h[r]? = some (.lst xs) → ∃ ys, h'[r]? = some (.lst ys)
section
variable {h h1 h2 : Hh} {w g n m r : Nat}
theorem Kp.of (E : Ext noS h h1) : Kp h h1 := fun r xs e => ⟨xs, E.get e⟩
theorem Kp.trans (a : Kp h h1) (b : Kp h1 h2) : Kp h h2 := fun r xs e => let ⟨ys, e1⟩ := a r xs e; b r ys e1
theorem Kp.well (W : IsWell h w g n) (W1 : IsWell h1 w g m) (E : Ext (Wl w g) h h1) : Kp h h1 := fun r xs e => by
  by_cases z : Wl w g r
  · rcases z with rfl | rfl
    · obtain ⟨_, _, e2, _⟩ := W.d
      rw [e] at e2
      cases e2
    · obtain ⟨gs, e2, _⟩ := W1.l
      exact ⟨_, e2⟩
  · exact ⟨xs, E.keep _ _ e z⟩
theorem Kp.set {o : List D} (e : h[r]? = some (.lst o)) {ys : List D} : Kp h (h.set r (.lst ys)) := fun j xs e2 => by
  by_cases z : j = r
  · subst z; exact ⟨ys, set_get e⟩
  · exact ⟨xs, set_ne e2 z⟩
theorem lsK {d : D} (k : Kp h h1) (b : ∃ r xs, d = .ref r ∧ h[r]? = some (.lst xs)) : ∃ r xs, d = .ref r ∧ h1[r]? = some (.lst xs) := by
  obtain ⟨r, xs, e, f⟩ := b
  obtain ⟨ys, f2⟩ := k r xs f
  exact ⟨r, ys, e, f2⟩
theorem BadN.keep {d : D} (b : BadN h d) (k : Kp h h1) : BadN h1 d := by
  rcases b with b | b | b
  · exact .inl b
  · exact .inr (.inl (lsK k b))
  · exact .inr (.inr b)
theorem BadA.keep {d : D} (b : BadA h d) (k : Kp h h1) : BadA h1 d := by
  rcases b with b | b | b | b | b | b | b | b | b | b
  · exact .inl b
  · exact .inr (.inl b)
  · exact .inr (.inr (.inl b))
  · exact .inr (.inr (.inr (.inl b)))
  · exact .inr (.inr (.inr (.inr (.inl b))))
  · exact .inr (.inr (.inr (.inr (.inr (.inl b)))))
  · exact .inr (.inr (.inr (.inr (.inr (.inr (.inl b))))))
  · exact .inr (.inr (.inr (.inr (.inr (.inr (.inr (.inl b)))))))
  · exact .inr (.inr (.inr (.inr (.inr (.inr (.inr (.inr (.inl (lsK k b)))))))))
  · exact .inr (.inr (.inr (.inr (.inr (.inr (.inr (.inr (.inr b))))))))
theorem BadG.keep {d : D} (b : BadG h d) (k : Kp h h1) : BadG h1 d := by
  rcases b with b | b | ⟨a, b, e⟩ | b | b | b | b | b | ⟨r, xs, e, f⟩ | b
  · exact .inl b
  · exact .inr (.inl b)
  · exact .inr (.inr (.inl ⟨a, b.keep k, e⟩))
  · exact .inr (.inr (.inr (.inl b)))
  · exact .inr (.inr (.inr (.inr (.inl b))))
  · exact .inr (.inr (.inr (.inr (.inr (.inl b)))))
  · exact .inr (.inr (.inr (.inr (.inr (.inr (.inl (lsK k b)))))))
  · exact .inr (.inr (.inr (.inr (.inr (.inr (.inr (.inl b)))))))
  · obtain ⟨ys, f2⟩ := k r xs f
    exact .inr (.inr (.inr (.inr (.inr (.inr (.inr (.inr (.inl ⟨r, ys, e, f2⟩))))))))
  · exact .inr (.inr (.inr (.inr (.inr (.inr (.inr (.inr (.inr b))))))))
theorem BadO.keep {d : D} (b : BadO h d) (k : Kp h h1) : BadO h1 d := by
  rcases b with b | b | b | b | b | b | b | b
  · exact .inl b
  · exact .inr (.inl b)
  · exact .inr (.inr (.inl b))
  · exact .inr (.inr (.inr (.inl b)))
  · exact .inr (.inr (.inr (.inr (.inl b))))
  · exact .inr (.inr (.inr (.inr (.inr (.inl b)))))
  · exact .inr (.inr (.inr (.inr (.inr (.inr (.inl b))))))
  · exact .inr (.inr (.inr (.inr (.inr (.inr (.inr (lsK k b)))))))
theorem BadH.keep {d : D} (b : BadH h d) (k : Kp h h1) : BadH h1 d := by
  rcases b with b | b | ⟨o, b, e⟩ | b | b | b | ⟨a, b, e⟩ | b
  · exact .inl b
  · exact .inr (.inl b)
  · exact .inr (.inr (.inl ⟨o, b.keep k, e⟩))
  · exact .inr (.inr (.inr (.inl b)))
  · exact .inr (.inr (.inr (.inr (.inl (lsK k b)))))
  · exact .inr (.inr (.inr (.inr (.inr (.inl b)))))
  · exact .inr (.inr (.inr (.inr (.inr (.inr (.inl ⟨a, b.keep k, e⟩))))))
  · exact .inr (.inr (.inr (.inr (.inr (.inr (.inr b))))))
theorem BadHs.keep {B : Int} {d : D} (b : BadHs h B d) (k : Kp h h1) (kd : ∀ t, tyD h d = some t → tyD h1 d = some t) : BadHs h1 B d := by
  rcases b with ⟨t, e, n⟩ | b | ⟨hs, x, ys, e, ok, bx⟩
  · exact .inl ⟨t, kd t e, n⟩
  · exact .inr (.inl b)
  · exact .inr (.inr ⟨hs, x, ys, e, ok, bx.keep k⟩)
def BadM (h : Hh) (d : D) : Prop := (∃ r xs, d = .ref r ∧ h[r]? = some (.lst xs)) ∨ d = .non ∨ d = .str "h" ∨ (∃ xs, d = .tup xs ∧ 8000 < xs.length) ∨ ∃ (hs : List Hnt) (x : D) (ys : List D), d = .tup (hs.map hintD ++ x :: ys) ∧ (∀ y ∈ hs, okH (10 ^ 80) y) ∧ BadH h x
theorem BadM.keep {d : D} (b : BadM h d) (k : Kp h h1) : BadM h1 d := by
  rcases b with b | b | b | b | ⟨hs, x, ys, e, ok, bx⟩
  · exact .inl (lsK k b)
  · exact .inr (.inl b)
  · exact .inr (.inr (.inl b))
  · exact .inr (.inr (.inr (.inl b)))
  · exact .inr (.inr (.inr (.inr ⟨hs, x, ys, e, ok, bx.keep k⟩)))
theorem BadM.bad {d : D} (b : BadM h d) : BadHs h (10 ^ 80) d := by
  rcases b with ⟨r, xs, rfl, e⟩ | rfl | rfl | b | b
  · exact .inl ⟨"list", by simp [tyD, e], by decide⟩
  · exact .inl ⟨"NoneType", rfl, by decide⟩
  · exact .inl ⟨"str", rfl, by decide⟩
  · exact .inr (.inl b)
  · exact .inr (.inr b)
structure ErrI (w g n r3 r6 r10 : Nat) (Ln Lg Lm : List D) (wr : D) (h : Hh) : Prop where
  m3 : h[r3]? = some (.lst Ln)
  m6 : h[r6]? = some (.lst Lg)
  m10 : h[r10]? = some (.lst Lm)
  bn : ∀ d ∈ Ln, BadN h d
  bg : ∀ d ∈ Lg, BadG h d
  bm : ∀ d ∈ Lm, BadM h d
  bw : BadH h wr
  W : IsWell h w g n
theorem ErrI.keep {n' r3 r6 r10 : Nat} {Ln Lg Lm : List D} {wr : D} (I : ErrI w g n r3 r6 r10 Ln Lg Lm wr h) (W1 : IsWell h1 w g n') (E : Ext (Wl w g) h h1) (h3 : ¬ Wl w g r3) (h6 : ¬ Wl w g r6) (h10 : ¬ Wl w g r10) : ErrI w g n' r3 r6 r10 Ln Lg Lm wr h1 := by
  have K := Kp.well I.W W1 E
  exact ⟨E.keep _ _ I.m3 h3, E.keep _ _ I.m6 h6, E.keep _ _ I.m10 h10, fun d hd => (I.bn d hd).keep K, fun d hd => (I.bg d hd).keep K, fun d hd => (I.bm d hd).keep K, I.bw.keep K, W1⟩
theorem ErrI.put {r3 r6 r10 j : Nat} {Ln Lg Lm ys : List D} {wr : D} (I : ErrI w g n r3 r6 r10 Ln Lg Lm wr h) (K : Kp h (h.set j (.lst ys))) (nw : ¬ Wl w g j) (h3 : r3 ≠ j) (h6 : r6 ≠ j) (h10 : r10 ≠ j) : ErrI w g n r3 r6 r10 Ln Lg Lm wr (h.set j (.lst ys)) :=
  ⟨set_ne I.m3 h3, set_ne I.m6 h6, set_ne I.m10 h10, fun d hd => (I.bn d hd).keep K, fun d hd => (I.bg d hd).keep K, fun d hd => (I.bm d hd).keep K, I.bw.keep K, I.W.put nw⟩
theorem idx_bools {b0 b1 b2 : Bool} (e : h[r]? = some (.lst [.bl b0, .bl b1, .bl b2, .bl true])) : lIndex (.ref r) [.bl true] h = some (.int (if b0 = true then 0 else if b1 = true then 1 else if b2 = true then 2 else 3), h) := by
  have t1 : toPy h 60 (.bl true) = some (.bool true) := by simp [toPy]
  have t2 : toPys h 60 [.bl b0, .bl b1, .bl b2, .bl true] = some [.bool b0, .bool b1, .bool b2, .bool true] := by simp [toPy, toPys]
  have s1 : SeqAt.shaped (.bool true) = true := by decide +kernel
  have s2 : SeqAt.shaped (.list [.bool b0, .bool b1, .bool b2, .bool true]) = true := by cases b0 <;> cases b1 <;> cases b2 <;> decide +kernel
  simp only [lIndex, e, t1, t2]
  rw [if_pos ⟨s1, s2⟩]
  cases b0 <;> cases b1 <;> cases b2 <;> rfl
theorem big_tup (x : D) (k : Nat) (h2 : 2 ≤ k) (h1 : k ≤ 1000000) : ∃ big : List D, (∀ h, oMulA (.tup [x]) (.int (k : Int)) h = some (.tup big, h)) ∧ big.length = k ∧ ∀ d ∈ big, d = x := by
  refine ⟨List.replicate k x, fun h => ?_, by simp, fun d hd => (List.mem_replicate.mp hd).2⟩
  have c : [x] ≠ [] ∧ 2 ≤ (k : Int) ∧ (([x].length : Nat) : Int) * (k : Int) ≤ 1000000 := ⟨by simp, by omega, by simp; omega⟩
  show (if [x] ≠ [] ∧ 2 ≤ (k : Int) ∧ (([x].length : Nat) : Int) * (k : Int) ≤ 1000000 then some (D.tup (List.replicate (k : Int).toNat [x]).flatten, h) else none) = _
  rw [if_pos c, Int.toNat_natCast, List.flatten_replicate_singleton]
theorem errors_ok {gl : Frm} {hs : List Hnt} (W : IsWell h w g n) (hn : n < 1000000) (okg : okF (10 ^ 80) gl) (okh : ∀ x ∈ hs, okH (10 ^ 80) x) (hl : hs.length ≤ 301) :
    spec (F__law_errors_right [.ref w, formD gl, .tup (hs.map hintD)] h) fun d h' => d = .bl true ∧ IsWell h' w g (n + 1000) ∧ Ext (Wl w g) h h' := by
  unfold F__law_errors_right
  have dr : drawT F__law_draw w g := fun W m0 hn => draw_dec W m0 hn
  generalize F__law_draw = gd at dr
  have on := fun {h : Hh} {n r : Nat} {xs : List D} (W : IsWell h w g n) hn (e : h[r]? = some (.lst xs)) x0 x1 r0 => one_ok W hn e x0 x1 r0
  generalize F__law_one = go at on
  have er1 := fun {h : Hh} {a b c : D} e => error_never (h := h) (a := a) (b := b) (c := c) e
  have er2 := fun {h : Hh} {a b c : D} e => error_goal (h := h) (a := a) (b := b) (c := c) e
  have er3 := fun {h : Hh} {a b c : D} e => error_hints (h := h) (a := a) (b := b) (c := c) e
  have er4 := fun {h h1 : Hh} {a b c d : D} e => error_none (h := h) (h1 := h1) (a := a) (b := b) (c := c) (d := d) e
  generalize F__law_error = ge at er1 er2 er3 er4
  apply wO_fn
  have okN12 : okN [1, 12] := ⟨by decide, by decide, by decide⟩
  have lw0 := lw_of W
  simp only [m__law_errors_right, mSeq_ap, wS_seq, List.map_cons, List.map_nil, List.length_cons, List.length_nil, List.cons_append, List.nil_append]
  -- nevers
  refine wS.cut (fun ρ h1 => ∃ (r3 : Nat) (Ln : List D), ρ = [some (.ref w), some (formD gl), some (.tup (hs.map hintD)), some (.ref r3), none, none, none, none, none, none, none, none, none, none, none, none, none] ∧ h1[r3]? = some (.lst Ln) ∧ (∀ d ∈ Ln, BadN h1 d) ∧ Ln ≠ [] ∧ Ln.length ≤ 100 ∧ h.length ≤ r3 ∧ Ext noS h h1) ?_ ?_
  · simp -implicitDefEqProofs [-List.append_assoc, -List.length_append, -List.cons_append]
    refine ⟨_, _, rfl, push_new, fun d hd => ?_, by simp, by simp, by simp, Ext.push.pushR⟩
    simp only [List.mem_cons, List.not_mem_nil, or_false] at hd
    unfold BadN
    rcases hd with e | e | e | e | e | e | e | e | e | e
    · exact .inl e
    · exact .inr (.inl ⟨_, _, e, push_get push_new⟩)
    · simp [e]
    · simp [e]
    · simp [e]
    · simp [e]
    · simp [e]
    · simp [e]
    · simp [e]
    · simp [e]
  rintro _ h1 ⟨r3, Ln, rfl, m1, bn1, n01, nl1, r3l, E1⟩
  have W1 := W.ext E1
  have nw3 : ¬ Wl w g r3 := by rintro (z | z) <;> omega
  simp only [then_nx, mSeq_ap, wS_seq]
  -- atoms
  refine wS.cut (fun ρ h2 => ∃ (r4 : Nat) (La : List D), ρ = [some (.ref w), some (formD gl), some (.tup (hs.map hintD)), some (.ref r3), some (.ref r4), none, none, none, none, none, none, none, none, none, none, none, none] ∧ h2[r4]? = some (.lst La) ∧ (∀ d ∈ La, BadA h2 d) ∧ La ≠ [] ∧ La.length ≤ 100 ∧ h1.length ≤ r4 ∧ Ext noS h1 h2) ?_ ?_
  · simp -implicitDefEqProofs [-List.append_assoc, -List.length_append, -List.cons_append]
    refine ⟨_, _, rfl, push_new, fun d hd => ?_, by simp, by simp, by simp, Ext.push.pushR⟩
    simp only [List.mem_cons, List.not_mem_nil, or_false] at hd
    unfold BadA
    rcases hd with e | e | e | e | e | e | e | e | e | e
    · simp [e]
    · simp [e]
    · simp [e]
    · simp [e]
    · simp [e]
    · simp [e]
    · simp [e]
    · simp [e]
    · exact .inr (.inr (.inr (.inr (.inr (.inr (.inr (.inr (.inl ⟨_, _, e, push_get push_new⟩))))))))
    · simp [e]
  rintro _ h2 ⟨r4, La, rfl, m2, ba2, n02, nl2, r4l, E2⟩
  have W2 := W1.ext E2
  have lw1 := lw_of W1
  have nw4 : ¬ Wl w g r4 := by rintro (z | z) <;> omega
  simp only [then_nx, mSeq_ap, wS_seq]
  simp -implicitDefEqProofs [-List.append_assoc, -List.length_append, -List.cons_append]
  refine wS.bind (on W2 (by omega) m2 n02 (by omega) nw4) ?_
  rintro bad h3 ⟨md, W3, E3⟩
  have K23 := Kp.well W2 W3 E3
  have ba3 := (ba2 bad md).keep K23
  have m13 := E3.keep _ _ (E2.get m1) nw3
  have bn3 : ∀ d ∈ Ln, BadN h3 d := fun d hd => (bn1 d hd).keep ((Kp.of E2).trans K23)
  have E03 : Ext (Wl w g) h h3 := (E1.trans E2).of.trans E3
  clear ba2 md bn1 n02 nl2 m2
  simp only [wS_nx, then_nx, mSeq_ap, wS_seq, List.set_cons_succ, List.set_cons_zero]
  -- goals
  refine wS.cut (fun ρ h4 => ∃ (r6 : Nat) (Lg : List D), ρ = [some (.ref w), some (formD gl), some (.tup (hs.map hintD)), some (.ref r3), some (.ref r4), some bad, some (.ref r6), none, none, none, none, none, none, none, none, none, none] ∧ h4[r6]? = some (.lst Lg) ∧ (∀ d ∈ Lg, BadG h4 d) ∧ Lg.length = 7 ∧ h3.length ≤ r6 ∧ Ext noS h3 h4) ?_ ?_
  · simp -implicitDefEqProofs [-List.append_assoc, -List.length_append, -List.cons_append]
    refine ⟨_, _, rfl, push_new, fun d hd => ?_, rfl, by simp, Ext.push.pushR⟩
    simp only [List.mem_cons, List.not_mem_nil, or_false] at hd
    unfold BadG
    rcases hd with e | e | e | e | e | e | e
    · simp [e]
    · simp [e]
    · exact .inr (.inr (.inl ⟨bad, ba3.keep (Kp.of (Ext.push.pushR)), e⟩))
    · exact .inr (.inr (.inr (.inl e)))
    · exact .inr (.inr (.inr (.inr (.inl e))))
    · exact .inr (.inr (.inr (.inr (.inr (.inl e)))))
    · exact .inr (.inr (.inr (.inr (.inr (.inr (.inl ⟨_, _, e, push_get push_new⟩))))))
  rintro _ h4 ⟨r6, Lg, rfl, m4, bg4, gl4, r6l, E4⟩
  simp only [then_nx, mSeq_ap, wS_seq]
  refine wS.cut (fun ρ h5 => ∃ (r6 : Nat) (Lg : List D), ρ = [some (.ref w), some (formD gl), some (.tup (hs.map hintD)), some (.ref r3), some (.ref r4), some bad, some (.ref r6), none, none, none, none, none, none, none, none, none, none] ∧ h5[r6]? = some (.lst Lg) ∧ (∀ d ∈ Lg, BadG h5 d) ∧ Lg ≠ [] ∧ Lg.length ≤ 100 ∧ h4.length ≤ r6 ∧ Ext noS h4 h5) ?_ ?_
  · have mm : ∀ l1 l2 : Ob, (h4 ++ [l1] ++ [l2])[r6]? = some (.lst Lg) := fun l1 l2 => push_get (push_get m4)
    simp -implicitDefEqProofs [-List.append_assoc, -List.length_append, -List.cons_append, mm, gl4]
    refine ⟨_, _, rfl, push_new, fun d hd => ?_, by simp, by simp; omega, by simp, Ext.push.pushR.pushR⟩
    rcases List.mem_append.mp hd with hd | hd
    · exact (bg4 d hd).keep (Kp.of (Ext.push.pushR.pushR))
    · simp only [List.mem_cons, List.not_mem_nil, or_false] at hd
      unfold BadG
      rcases hd with e | e | e | e | e
      · exact .inr (.inr (.inr (.inr (.inr (.inr (.inr (.inl e)))))))
      · exact .inr (.inr (.inr (.inr (.inr (.inr (.inr (.inr (.inl ⟨_, _, e, push_get (push_get push_new)⟩))))))))
      · exact .inr (.inr (.inr (.inr (.inr (.inr (.inr (.inr (.inr (.inl e)))))))))
      · exact .inr (.inr (.inr (.inr (.inr (.inr (.inr (.inr (.inr (.inr (.inl e))))))))))
      · exact .inr (.inr (.inr (.inr (.inr (.inr (.inr (.inr (.inr (.inr (.inr e))))))))))
  clear m4 bg4 gl4 r6l
  clear r6 Lg
  rintro _ h5 ⟨r6, Lg, rfl, m6, bg5, n06, nl6, r6l, E5⟩
  have E35 := E4.trans E5
  have W5 := W3.ext E35
  have bn5 : ∀ d ∈ Ln, BadN h5 d := fun d hd => (bn3 d hd).keep (Kp.of E35)
  have ba5 := ba3.keep (Kp.of E35)
  have m15 := E35.get m13
  have E05 : Ext (Wl w g) h h5 := E03.trans E35.of
  have lw3 := lw_of W3
  have l34 := E4.len
  have nw6 : ¬ Wl w g r6 := by rintro (z | z) <;> omega
  clear bn3 ba3 m13 W3 K23 E3 E4 E5 E35
  simp only [then_nx, mSeq_ap, wS_seq]
  -- origin
  refine wS.cut (fun ρ h6 => ∃ or, ρ = [some (.ref w), some (formD gl), some (.tup (hs.map hintD)), some (.ref r3), some (.ref r4), some bad, some (.ref r6), some form0D, some or, none, none, none, none, none, none, none, none] ∧ BadO h6 or ∧ IsWell h6 w g (n + 2) ∧ Ext (Wl w g) h5 h6) ?_ ?_
  · simp -implicitDefEqProofs [-List.append_assoc, -List.length_append, -List.cons_append]
    have lw5 := lw_of W5
    refine wS.bind (on (W5.ext (Ext.push.pushR)) (by omega) push_new (by simp) (by simp) (by rintro (z | z) <;> simp at z <;> omega)) ?_
    rintro or h6 ⟨mo, W6, E6⟩
    simp -implicitDefEqProofs [-List.append_assoc, -List.length_append, -List.cons_append]
    refine ⟨or, rfl, ?_, W6.up (by omega), (Ext.push.pushR).trans E6⟩
    refine BadO.keep (h := h5 ++ [Ob.lst [D.int 0, D.int 0]] ++ [_]) ?_ (Kp.well (W5.ext (Ext.push.pushR)) W6 E6)
    simp only [List.mem_cons, List.not_mem_nil, or_false] at mo
    unfold BadO
    rcases mo with e | e | e | e | e | e | e | e
    · exact .inl e
    · exact .inr (.inl e)
    · exact .inr (.inr (.inl e))
    · exact .inr (.inr (.inr (.inl e)))
    · exact .inr (.inr (.inr (.inr (.inl e))))
    · exact .inr (.inr (.inr (.inr (.inr (.inl e)))))
    · exact .inr (.inr (.inr (.inr (.inr (.inr (.inl e))))))
    · exact .inr (.inr (.inr (.inr (.inr (.inr (.inr ⟨_, _, e, push_get push_new⟩))))))
  rintro _ h6 ⟨or, rfl, bo6, W6, E6⟩
  simp only [then_nx, mSeq_ap, wS_seq]
  have K56 := Kp.well W5 W6 E6
  have ba6 := ba5.keep K56
  -- wrong
  refine wS.cut (fun ρ h7 => ∃ (r9 : Nat) (Lw : List D), ρ = [some (.ref w), some (formD gl), some (.tup (hs.map hintD)), some (.ref r3), some (.ref r4), some bad, some (.ref r6), some form0D, some or, some (.ref r9), none, none, none, none, none, none, none] ∧ h7[r9]? = some (.lst Lw) ∧ (∀ d ∈ Lw, BadH h7 d) ∧ Lw.length = 6 ∧ h6.length ≤ r9 ∧ Ext noS h6 h7) ?_ ?_
  · simp -implicitDefEqProofs [-List.append_assoc, -List.length_append, -List.cons_append]
    refine ⟨_, _, rfl, push_new, fun d hd => ?_, rfl, by simp, Ext.push.pushR⟩
    simp only [List.mem_cons, List.not_mem_nil, or_false] at hd
    unfold BadH
    rcases hd with e | e | e | e | e | e
    · exact .inl e
    · exact .inr (.inl e)
    · exact .inr (.inr (.inl ⟨or, bo6.keep (Kp.of (Ext.push.pushR)), e⟩))
    · exact .inr (.inr (.inr (.inl e)))
    · exact .inr (.inr (.inr (.inr (.inl ⟨_, _, e, push_get push_new⟩))))
    · exact .inr (.inr (.inr (.inr (.inr (.inl e)))))
  rintro _ h7 ⟨r9, Lw, rfl, m9, bh7, lw9, r9l, E7⟩
  simp only [then_nx, mSeq_ap, wS_seq]
  have W7 := W6.ext E7
  refine wS.cut (fun ρ h8 => ∃ wr, ρ = [some (.ref w), some (formD gl), some (.tup (hs.map hintD)), some (.ref r3), some (.ref r4), some bad, some (.ref r6), some form0D, some or, some wr, none, none, none, none, none, none, none] ∧ BadH h8 wr ∧ IsWell h8 w g (n + 3) ∧ Ext (Wl w g) h7 h8) ?_ ?_
  · have mm : ∀ l1 : Ob, (h7 ++ [l1])[r9]? = some (.lst Lw) := fun l1 => push_get m9
    simp -implicitDefEqProofs [-List.append_assoc, -List.length_append, -List.cons_append, mm, lw9]
    have lw7 := lw_of W7
    refine wS.bind (on (W7.ext (Ext.push.pushR)) (by omega) push_new (by simp) (by simp; omega) (by rintro (z | z) <;> simp at z <;> omega)) ?_
    rintro wr h8 ⟨mo, W8, E8⟩
    simp -implicitDefEqProofs [-List.append_assoc, -List.length_append, -List.cons_append]
    refine ⟨wr, rfl, ?_, W8.up (by omega), (Ext.push.pushR).trans E8⟩
    refine BadH.keep (h := h7 ++ [_] ++ [_]) ?_ (Kp.well (W7.ext (Ext.push.pushR)) W8 E8)
    rcases List.mem_append.mp mo with mo | mo
    · exact (bh7 wr mo).keep (Kp.of (Ext.push.pushR))
    · simp only [List.mem_cons, List.not_mem_nil, or_false] at mo
      unfold BadH
      rcases mo with e | e | e
      · exact .inr (.inr (.inr (.inr (.inr (.inr (.inl ⟨bad, ba6.keep ((Kp.of E7).trans (Kp.of (Ext.push.pushR))), e⟩))))))
      · exact .inr (.inr (.inr (.inr (.inr (.inr (.inr (.inl e)))))))
      · exact .inr (.inr (.inr (.inr (.inr (.inr (.inr (.inr e)))))))
  rintro _ h8 ⟨wr, rfl, bh8, W8, E8⟩
  simp only [then_nx, mSeq_ap, wS_seq]
  -- many
  obtain ⟨big, hbig, lbig, _⟩ := big_tup (.tup [form0D, .bl true, .non]) 8001 (by omega) (by omega)
  have hbig : ∀ h, oMulA (.tup [.tup [form0D, .bl true, .non]]) (.int 8001) h = some (.tup big, h) := hbig
  have lw8 := lw_of W8
  have E58 := (E6.trans E7.of).trans E8
  have K58 := Kp.well W5 W8 E58
  have E08 := E05.trans E58
  refine wS.cut (fun ρ h9 => ∃ (r10 : Nat) (Lm : List D), ρ = [some (.ref w), some (formD gl), some (.tup (hs.map hintD)), some (.ref r3), some (.ref r4), some bad, some (.ref r6), some form0D, some or, some wr, some (.ref r10), none, none, none, none, none, none] ∧ h9[r10]? = some (.lst Lm) ∧ (∀ d ∈ Lm, BadM h9 d) ∧ Lm.length = 4 ∧ h8.length ≤ r10 ∧ Ext noS h8 h9) ?_ ?_
  · simp -implicitDefEqProofs [-List.append_assoc, -List.length_append, -List.cons_append, hbig]
    refine ⟨_, _, rfl, push_new, fun d hd => ?_, rfl, by simp, Ext.push.pushR⟩
    simp only [List.mem_cons, List.not_mem_nil, or_false] at hd
    unfold BadM
    rcases hd with e | e | e | e
    · exact .inl ⟨_, _, e, push_get push_new⟩
    · exact .inr (.inl e)
    · exact .inr (.inr (.inr (.inl ⟨big, e, by omega⟩)))
    · exact .inr (.inr (.inl e))
  rintro _ h9 ⟨r10, Lm, rfl, m10, bm9, lm9, r10l, E9⟩
  have nw10 : ¬ Wl w g r10 := by rintro (z | z) <;> omega
  have E59 := E58.trans E9.of
  have W9 := W8.ext E9
  have K59 := Kp.well W5 W9 E59
  have I9 : ErrI w g (n + 3) r3 r6 r10 Ln Lg Lm wr h9 := ⟨E59.keep _ _ m15 nw3, E59.keep _ _ m6 nw6, m10, fun d hd => (bn5 d hd).keep K59, fun d hd => (bg5 d hd).keep K59, bm9, bh8.keep (Kp.of E9), W9⟩
  have E09 := E08.trans E9.of
  clear bn5 bg5 bm9 bh8 m15 m6 m10 bo6 ba6 ba5 bh7 m9
  simp only [then_nx, mSeq_ap, wS_seq]
  have c0 : 0 < (hs.length : Int) + 1 ∧ (hs.length : Int) + 1 < 1073741824 := by omega
  simp -implicitDefEqProofs [-List.append_assoc, -List.length_append, -List.cons_append]
  refine wS.bind (dr (many := (hs.length : Int) + 1) W9 c0 (by omega)) ?_
  rintro _ h10 ⟨k0, rfl, kb, W10, E10⟩
  obtain ⟨k, rfl⟩ : ∃ k : Nat, k0 = k := ⟨k0.toNat, by omega⟩
  have I10 := I9.keep W10 E10 nw3 nw6 nw10
  have E010 := E09.trans E10
  simp -implicitDefEqProofs [-List.append_assoc, -List.length_append, -List.cons_append]
  refine wS.loop (fun i ρ h' => (∃ o12 o13 o14 o15, ρ = [some (.ref w), some (formD gl), some (.tup (hs.map hintD)), some (.ref r3), some (.ref r4), some bad, some (.ref r6), some form0D, some or, some wr, some (.ref r10), some (.int k), o12, o13, o14, o15, none]) ∧ ErrI w g (n + 10 + 20 * i) r3 r6 r10 Ln Lg Lm wr h' ∧ Ext (Wl w g) h h') ⟨⟨none, none, none, none, rfl⟩, I10.keep (I10.W.up (by omega)) .refl nw3 nw6 nw10, E010⟩ ?_ ?_
  · rintro _ h11 ⟨⟨o12, o13, o14, o15, rfl⟩, I11, E11⟩
    refine ⟨jRng_end, ?_⟩
    obtain ⟨big2, hbig2, lbig2, mb2⟩ := big_tup (.tup [form0D, .bl true, .tup [.int 239, .int 29]]) 8000 (by omega) (by omega)
    have hbig2 : ∀ h, oMulA (.tup [.tup [form0D, .bl true, .tup [.int 239, .int 29]]]) (.int 8000) h = some (.tup big2, h) := hbig2
    have eb : big2 = (List.replicate 8000 (⟨(0, []), true, some (239, 29)⟩ : Hnt)).map hintD := by
      rw [List.map_replicate]
      refine List.eq_replicate_iff.mpr ⟨lbig2, fun d hd => ?_⟩
      rw [mb2 d hd]; rfl
    have okb : ∀ x ∈ List.replicate 8000 (⟨(0, []), true, some (239, 29)⟩ : Hnt), okH (10 ^ 80) x := fun x hx => by
      rw [(List.mem_replicate.mp hx).2]
      exact ⟨⟨by unfold bd; dsimp only; omega, by simp, .nil, by simp⟩, ⟨by decide, by decide⟩, by decide, by decide⟩
    have lb : (List.replicate 8000 (⟨(0, []), true, some (239, 29)⟩ : Hnt)).length ≤ 8000 := by rw [List.length_replicate]; omega
    generalize List.replicate 8000 (⟨(0, []), true, some (239, 29)⟩ : Hnt) = hs2 at eb okb lb
    obtain ⟨_, h12, e12, b, rfl, _, E12⟩ := (is_shown_ok (h := h11) (ns := []) (gl := gl) (hs := hs2) (d := .non) ⟨by simp, .nil, by simp⟩ okg okb (.other (t := "NoneType") rfl (by decide)) lb).ex
    rw [← eb] at e12
    have e13 := er4 (a := .tup []) (b := formD gl) (c := .tup big2) e12
    simp -implicitDefEqProofs [-List.append_assoc, -List.length_append, -List.cons_append, hbig2, e13]
    exact ⟨rfl, (I11.W.ext E12).up (by omega), E11.trans E12.of⟩
  · rintro i _ h11 hi ⟨⟨o12, o13, o14, o15, rfl⟩, I11, E11⟩
    refine ⟨_, _, _, jRng_at hi, rfl, ?_⟩
    simp -implicitDefEqProofs [-List.append_assoc, -List.length_append, -List.cons_append, wipeR]
    have lw11 := lw_of I11.W
    have n11 : ¬ Wl w g h11.length := by rintro (z | z) <;> omega
    refine wS.bind (spec.lc (R := fun d h' => d = .ref h11.length ∧ ∃ bs : List Bool, h'[h11.length]? = some (.lst (bs.map D.bl)) ∧ bs.length = 3 ∧ IsWell h' w g (n + 10 + 20 * i + 3) ∧ Ext (Wl w g) h11 h') (fun j acc h' => ∃ bs : List Bool, acc = bs.map D.bl ∧ bs.length = j ∧ IsWell h' w g (n + 10 + 20 * i + j) ∧ Ext (Wl w g) h11 h') (lt_sl (by omega)) ⟨[], rfl, rfl, I11.W.ext .push, .push⟩ ?_ ?_) ?_
    · rintro acc h' ⟨bs, rfl, bl, W12, E12⟩ e12
      exact ⟨jRng_end, rfl, bs, e12, bl, W12, E12⟩
    · rintro j acc h' hj ⟨bs, rfl, bl, W12, E12⟩ e12
      refine ⟨_, _, _, jRng_at hj, rfl, ?_⟩
      simp -implicitDefEqProofs [-List.append_assoc, -List.length_append, -List.cons_append]
      refine ⟨fun _ => ?_, fun z => by cases z⟩
      simp -implicitDefEqProofs [-List.append_assoc, -List.length_append, -List.cons_append]
      refine wO.bind (dr (many := 2) W12 (by decide) (by omega)) ?_
      rintro _ h13 ⟨x, rfl, xb, W13, E13⟩
      simp -implicitDefEqProofs [-List.append_assoc, -List.length_append, -List.cons_append]
      exact ⟨E13.keep _ _ e12 n11, bs ++ [x == 0], by simp, by simp [bl], (W13.put n11).up (by omega), (E12.trans E13).new (Nat.le_refl _)⟩
    · intro d12 h12 hR
      have ed := hR.1
      have hR1 := hR.2
      have hR2 := hR1.choose_spec
      generalize hR1.choose = bs at hR2
      have m12 := hR2.1
      have bl := hR2.2.1
      have W12 := hR2.2.2.1
      have E12 := hR2.2.2.2
      clear hR hR1 hR2
      subst ed
      have I12 := I11.keep W12 E12 nw3 nw6 nw10
      generalize h11.length = r13 at m12 n11 ⊢
      obtain ⟨b0, b1, b2, rfl⟩ : ∃ b0 b1 b2, bs = [b0, b1, b2] := by
        match bs, bl with
        | [b0, b1, b2], _ => exact ⟨b0, b1, b2, rfl⟩
      simp only [wS_nx, then_nx, mSeq_ap, wS_seq, List.set_cons_succ, List.set_cons_zero]
      -- asked
      refine wS.cut (fun ρ h13 => ∃ r14 : Nat, ρ = [some (.ref w), some (formD gl), some (.tup (hs.map hintD)), some (.ref r3), some (.ref r4), some bad, some (.ref r6), some form0D, some or, some wr, some (.ref r10), some (.int k), some (.int i), some (.ref r13), some (.ref r14), o15, none] ∧ h13[r14]? = some (.lst [.tup [.int 1, .int 12], formD gl, .tup (hs.map hintD)]) ∧ h13[r13]? = some (.lst [.bl b0, .bl b1, .bl b2]) ∧ ErrI w g (n + 10 + 20 * i + 3) r3 r6 r10 Ln Lg Lm wr h13 ∧ r13 ≠ r14 ∧ h12.length ≤ r14 ∧ Ext noS h12 h13) ?_ ?_
      · simp -implicitDefEqProofs [-List.append_assoc, -List.length_append, -List.cons_append]
        exact ⟨_, by simp, push_new, push_get m12, I12.keep (W12.ext .push) (Ext.of .push) nw3 nw6 nw10, by have := lt_of m12; omega, Nat.le_refl _, .push⟩
      rintro _ h13 ⟨r14, rfl, m14, m13, I13, ne, r14l, E13⟩
      have lw12 := lw_of W12
      have nw14 : ¬ Wl w g r14 := by rintro (z | z) <;> omega
      simp only [then_nx, mSeq_ap, wS_seq]
      -- never
      refine wS.cut (fun ρ h' => ∃ a0, ρ = [some (.ref w), some (formD gl), some (.tup (hs.map hintD)), some (.ref r3), some (.ref r4), some bad, some (.ref r6), some form0D, some or, some wr, some (.ref r10), some (.int k), some (.int i), some (.ref r13), some (.ref r14), o15, none] ∧ h'[r14]? = some (.lst [a0, formD gl, .tup (hs.map hintD)]) ∧ ((b0 = true → BadN h' a0) ∧ (b0 = false → a0 = .tup [.int 1, .int 12])) ∧ h'[r13]? = some (.lst [.bl b0, .bl b1, .bl b2]) ∧ ErrI w g (n + 10 + 20 * i + 4) r3 r6 r10 Ln Lg Lm wr h' ∧ Ext (Wl w g) h12 h') ?_ ?_
      · cases b0 with
        | true =>
          simp -implicitDefEqProofs [-List.append_assoc, -List.length_append, -List.cons_append, oGet_lst m13]
          refine wS.bind (on I13.W (by omega) I13.m3 n01 (by omega) nw3) ?_
          rintro d h15 ⟨md, W15, E15⟩
          have I15 := I13.keep W15 E15 nw3 nw6 nw10
          have m14' := E15.keep _ _ m14 nw14
          have m13' := E15.keep _ _ m13 n11
          have pu : oPut (.ref r14) (.int 0) d h15 = some (h15.set r14 (.lst [d, formD gl, .tup (hs.map hintD)])) := putL (k := 0) m14' (by simp)
          have K := Kp.set (ys := [d, formD gl, .tup (hs.map hintD)]) m14'
          simp -implicitDefEqProofs [-List.append_assoc, -List.length_append, -List.cons_append, pu]
          have n3 : r3 ≠ r14 := by have := lt_of I12.m3; omega
          have n6 : r6 ≠ r14 := by have := lt_of I12.m6; omega
          have n10 : r10 ≠ r14 := by have := lt_of I12.m10; omega
          exact ⟨d, rfl, set_get m14', ⟨fun _ => (I15.bn d md).keep K, fun z => by cases z⟩, set_ne m13' ne, I15.put K nw14 n3 n6 n10, ((E13.of).trans E15).new r14l⟩
        | false =>
          simp -implicitDefEqProofs [-List.append_assoc, -List.length_append, -List.cons_append, oGet_lst m13]
          exact ⟨_, rfl, m14, ⟨fun z => (by cases z), fun _ => rfl⟩, m13, I13.keep (I13.W.up (by omega)) .refl nw3 nw6 nw10, E13.of⟩
      rintro _ h16 ⟨a0, rfl, m14a, ab0, m13a, I16, E16⟩
      simp only [then_nx, mSeq_ap, wS_seq]
      -- goal
      refine wS.cut (fun ρ h' => ∃ a1, ρ = [some (.ref w), some (formD gl), some (.tup (hs.map hintD)), some (.ref r3), some (.ref r4), some bad, some (.ref r6), some form0D, some or, some wr, some (.ref r10), some (.int k), some (.int i), some (.ref r13), some (.ref r14), o15, none] ∧ h'[r14]? = some (.lst [a0, a1, .tup (hs.map hintD)]) ∧ ((b0 = true → BadN h' a0) ∧ (b0 = false → a0 = .tup [.int 1, .int 12])) ∧ ((b1 = true → BadG h' a1) ∧ (b1 = false → a1 = formD gl)) ∧ h'[r13]? = some (.lst [.bl b0, .bl b1, .bl b2]) ∧ ErrI w g (n + 10 + 20 * i + 5) r3 r6 r10 Ln Lg Lm wr h' ∧ Ext (Wl w g) h12 h') ?_ ?_
      · cases b1 with
        | true =>
          simp -implicitDefEqProofs [-List.append_assoc, -List.length_append, -List.cons_append, oGet_lst m13a]
          refine wS.bind (on I16.W (by omega) I16.m6 n06 (by omega) nw6) ?_
          rintro d h15 ⟨md, W15, E15⟩
          have I15 := I16.keep W15 E15 nw3 nw6 nw10
          have m14' := E15.keep _ _ m14a nw14
          have m13' := E15.keep _ _ m13a n11
          have pu : oPut (.ref r14) (.int 1) d h15 = some (h15.set r14 (.lst [a0, d, .tup (hs.map hintD)])) := putL (k := 1) m14' (by simp)
          have K := Kp.set (ys := [a0, d, .tup (hs.map hintD)]) m14'
          have K2 := (Kp.well I16.W W15 E15).trans K
          simp -implicitDefEqProofs [-List.append_assoc, -List.length_append, -List.cons_append, pu]
          have n3 : r3 ≠ r14 := by have := lt_of I12.m3; omega
          have n6 : r6 ≠ r14 := by have := lt_of I12.m6; omega
          have n10 : r10 ≠ r14 := by have := lt_of I12.m10; omega
          exact ⟨d, rfl, set_get m14', ⟨fun z => (ab0.1 z).keep K2, ab0.2⟩, ⟨fun _ => (I15.bg d md).keep K, fun z => by cases z⟩, set_ne m13' ne, I15.put K nw14 n3 n6 n10, (E16.trans E15).new r14l⟩
        | false =>
          simp -implicitDefEqProofs [-List.append_assoc, -List.length_append, -List.cons_append, oGet_lst m13a]
          exact ⟨_, rfl, m14a, ab0, ⟨fun z => (by cases z), fun _ => rfl⟩, m13a, I16.keep (I16.W.up (by omega)) .refl nw3 nw6 nw10, E16⟩
      rintro _ h17 ⟨a1, rfl, m14b, ac0, ac1, m13b, I17, E17⟩
      simp only [then_nx, mSeq_ap, wS_seq]
      -- hints
      refine wS.cut (fun ρ h' => ∃ a2, ρ = [some (.ref w), some (formD gl), some (.tup (hs.map hintD)), some (.ref r3), some (.ref r4), some bad, some (.ref r6), some form0D, some or, some wr, some (.ref r10), some (.int k), some (.int i), some (.ref r13), some (.ref r14), o15, none] ∧ h'[r14]? = some (.lst [a0, a1, a2]) ∧ ((b0 = true → BadN h' a0) ∧ (b0 = false → a0 = .tup [.int 1, .int 12])) ∧ ((b1 = true → BadG h' a1) ∧ (b1 = false → a1 = formD gl)) ∧ ((b2 = true → BadM h' a2) ∧ (b2 = false → a2 = .tup (hs.map hintD))) ∧ h'[r13]? = some (.lst [.bl b0, .bl b1, .bl b2]) ∧ ErrI w g (n + 10 + 20 * i + 6) r3 r6 r10 Ln Lg Lm wr h' ∧ Ext (Wl w g) h12 h') ?_ ?_
      · cases b2 with
        | true =>
          have kl : k ≤ hs.length := by omega
          have u1 : PI.cutD (hs.map hintD) none (some (k : Int)) = (hs.map hintD).take k := cutD_take (by simpa using kl)
          have u2 : PI.cutD (hs.map hintD) (some (k : Int)) none = (hs.map hintD).drop k := cutD_drop (by simpa using kl)
          have u3 : ∀ h, oAdd (.tup ((hs.map hintD).take k)) (.tup [wr]) h = some (.tup ((hs.map hintD).take k ++ [wr]), h) := fun h => oAdd_t (by simp; omega)
          have u4 : ∀ h, oAdd (.tup ((hs.map hintD).take k ++ [wr])) (.tup ((hs.map hintD).drop k)) h = some (.tup ((hs.map hintD).take k ++ [wr] ++ (hs.map hintD).drop k), h) := fun h => oAdd_t (by simp; omega)
          have ew : (hs.map hintD).take k ++ [wr] ++ (hs.map hintD).drop k = (hs.take k).map hintD ++ wr :: (hs.map hintD).drop k := by simp
          simp -implicitDefEqProofs [-List.append_assoc, -List.length_append, -List.cons_append, oGet_lst m13b, u1, u2, u3, u4]
          rw [ew]
          generalize hX : D.tup ((hs.take k).map hintD ++ wr :: (hs.map hintD).drop k) = X
          have bX : ∀ {h'}, Kp h17 h' → BadM h' X := fun {h'} K => .inr (.inr (.inr (.inr ⟨hs.take k, wr, (hs.map hintD).drop k, hX.symm, fun y hy => okh y (List.mem_of_mem_take hy), I17.bw.keep K⟩)))
          have mX : (h17 ++ [Ob.lst [X]])[h17.length]? = some (.lst [X]) := push_new
          have mu : oMulA (.ref h17.length) (.int 4) (h17 ++ [Ob.lst [X]]) = some (.ref (h17 ++ [Ob.lst [X]]).length, h17 ++ [Ob.lst [X]] ++ [.lst [X, X, X, X]]) := mulL (k := 4) mX (by simp) (by omega)
          have mm : (h17 ++ [Ob.lst [X]] ++ [Ob.lst [X, X, X, X]])[r10]? = some (.lst Lm) := push_get (push_get I17.m10)
          have lw17 := lw_of I17.W
          simp -implicitDefEqProofs [-List.append_assoc, -List.length_append, -List.cons_append, mu, mm, lm9]
          refine wS.bind (on (I17.W.ext (Ext.push.pushR.pushR)) (by omega) push_new (by simp) (by simp; omega) (by rintro (z | z) <;> simp at z <;> omega)) ?_
          rintro d h15 ⟨md, W15, E15⟩
          have E1715 : Ext (Wl w g) h17 h15 := (Ext.push.pushR.pushR).trans E15
          have I15 := I17.keep W15 E1715 nw3 nw6 nw10
          have K1 := Kp.well I17.W W15 E1715
          have m14' := E1715.keep _ _ m14b nw14
          have m13' := E1715.keep _ _ m13b n11
          have pu : oPut (.ref r14) (.int 2) d h15 = some (h15.set r14 (.lst [a0, a1, d])) := putL (k := 2) m14' (by simp)
          have K := Kp.set (ys := [a0, a1, d]) m14'
          have K2 := K1.trans K
          have bd15 : BadM h15 d := by
            rcases List.mem_append.mp md with md | md
            · exact I15.bm d md
            · simp at md; rw [md]; exact bX K1
          simp -implicitDefEqProofs [-List.append_assoc, -List.length_append, -List.cons_append, pu]
          have n3 : r3 ≠ r14 := by have := lt_of I12.m3; omega
          have n6 : r6 ≠ r14 := by have := lt_of I12.m6; omega
          have n10 : r10 ≠ r14 := by have := lt_of I12.m10; omega
          exact ⟨d, rfl, set_get m14', ⟨fun z => (ac0.1 z).keep K2, ac0.2⟩, ⟨fun z => (ac1.1 z).keep K2, ac1.2⟩, ⟨fun _ => bd15.keep K, fun z => by cases z⟩, set_ne m13' ne, I15.put K nw14 n3 n6 n10, (E17.trans E1715).new r14l⟩
        | false =>
          simp -implicitDefEqProofs [-List.append_assoc, -List.length_append, -List.cons_append, oGet_lst m13b]
          exact ⟨_, rfl, m14b, ac0, ac1, ⟨fun z => (by cases z), fun _ => rfl⟩, m13b, I17.keep (I17.W.up (by omega)) .refl nw3 nw6 nw10, E17⟩
      rintro _ h18 ⟨a2, rfl, m14c, ad0, ad1, ad2, m13c, I18, E18⟩
      simp only [then_nx, mSeq_ap, wS_seq]
      -- due
      refine wS.cut (fun ρ h' => ρ = [some (.ref w), some (formD gl), some (.tup (hs.map hintD)), some (.ref r3), some (.ref r4), some bad, some (.ref r6), some form0D, some or, some wr, some (.ref r10), some (.int k), some (.int i), some (.ref r13), some (.ref r14), some (.str (if b0 = true then "never" else if b1 = true then "goal" else if b2 = true then "hints" else "none")), none] ∧ Ext noS h18 h') ?_ ?_
      · have mm : ∀ l1 l2 : Ob, (h18 ++ [l1] ++ [l2])[r13]? = some (.lst [.bl b0, .bl b1, .bl b2]) := fun l1 l2 => push_get (push_get m13c)
        have ix : ∀ l1 l2 : Ob, lIndex (.ref (h18 ++ [l1] ++ [l2]).length) [.bl true] (h18 ++ [l1] ++ [l2] ++ [.lst [.bl b0, .bl b1, .bl b2, .bl true]]) = _ := fun l1 l2 => idx_bools push_new
        have mw : ∀ l1 l2 l3 : Ob, (h18 ++ [l1] ++ [l2] ++ [l3])[h18.length]? = some l1 := fun l1 l2 l3 => push_get (push_get push_new)
        simp -implicitDefEqProofs [-List.append_assoc, -List.length_append, -List.cons_append, mm, ix, oGet_lst (mw _ _ _)]
        cases b0 <;> cases b1 <;> cases b2 <;> simp -implicitDefEqProofs [-List.append_assoc, -List.length_append, -List.cons_append, oGet_lst (mw _ _ _)] <;> exact ⟨rfl, Ext.push.pushR.pushR⟩
      rintro _ h19 ⟨rfl, E19⟩
      have I19 := I18.keep (I18.W.ext E19) E19.of nw3 nw6 nw10
      have m19 := E19.get m14c
      have K19 := Kp.of E19
      have E1219 := E18.trans E19.of
      have fin : ∀ h20, Ext noS h19 h20 → IsWell h20 w g (n + 10 + 20 * i + 6) → ErrI w g (n + 10 + 20 * (i + 1)) r3 r6 r10 Ln Lg Lm wr h20 ∧ Ext (Wl w g) h h20 := fun h20 E20 W20 =>
        ⟨I19.keep (W20.up (by omega)) E20.of nw3 nw6 nw10, ((E11.trans E12).trans E1219).trans E20.of⟩
      simp only [then_nx]
      simp -implicitDefEqProofs [-List.append_assoc, -List.length_append, -List.cons_append, oGet_lst m19]
      cases b0 with
      | true =>
        have e1 := er1 (b := a1) (c := a2) (err_never (b := a1) (c := a2) (d := .non) (bad_never ((ad0.1 rfl).keep K19)))
        simp -implicitDefEqProofs [-List.append_assoc, -List.length_append, -List.cons_append, e1]
        exact ⟨⟨_, _, _, _, rfl⟩, fin h19 .refl I19.W⟩
      | false =>
        have e0 : F_need_never [a0] h19 = .ok .non h19 := by rw [ad0.2 rfl]; exact need_never_eq okN12
        cases b1 with
        | true =>
          have e1 := er2 (a := a0) (c := a2) (err_goal (c := a2) (d := .non) e0 (bad_goal ((ad1.1 rfl).keep K19)))
          simp -implicitDefEqProofs [-List.append_assoc, -List.length_append, -List.cons_append, e1]
          exact ⟨⟨_, _, _, _, rfl⟩, fin h19 .refl I19.W⟩
        | false =>
          have e01 : F_need_goal [a1] h19 = .ok .non h19 := by rw [ad1.2 rfl]; exact need_goal_eq okg
          cases b2 with
          | true =>
            have e1 := er3 (a := a0) (b := a1) (err_hints (d := .non) e0 e01 (bad_hints ((ad2.1 rfl).keep K19).bad))
            simp -implicitDefEqProofs [-List.append_assoc, -List.length_append, -List.cons_append, e1]
            exact ⟨⟨_, _, _, _, rfl⟩, fin h19 .refl I19.W⟩
          | false =>
            obtain ⟨_, h20, e20, b, rfl, _, E20⟩ := (is_shown_ok (h := h19) (ns := [1, 12]) (gl := gl) (hs := hs) (d := .non) okN12 okg okh (.other (t := "NoneType") rfl (by decide)) (by omega)).ex
            have q0 := ad0.2 rfl
            have q1 := ad1.2 rfl
            have q2 := ad2.2 rfl
            subst q0
            subst q1
            subst q2
            have e1 := er4 (a := .tup [.int 1, .int 12]) (b := formD gl) (c := .tup (hs.map hintD)) e20
            simp -implicitDefEqProofs [-List.append_assoc, -List.length_append, -List.cons_append, e1]
            exact ⟨⟨_, _, _, _, rfl⟩, fin h20 E20 (I19.W.ext E20)⟩
end
end K60
namespace K60
open PySem PySem.Spec L2 PI
open PyProof.Rows hiding St
section
variable {h h1 : Hh} {w g n r : Nat}
theorem oNe_bl {a b : Bool} : oNe (.bl a) (.bl b) h = some (.bl (!(a == b)), h) := rfl
theorem law_true (ns : List Int) (hl : ns.length ≤ 63) : ∃ h, F_law [.rol (ns.map D.int)] [] = .ok (.bl true) h := by
  have key : spec (F_law [.rol (ns.map D.int)] []) fun d _ => d = .bl true := by
    unfold F_law
    have we := fun {h : Hh} => well_ok (h := h) hl
    generalize F__law_well = gw at we
    have dr : ∀ {w g : Nat}, drawT F__law_draw w g := fun W m0 hn => draw_dec W m0 hn
    generalize F__law_draw = gd at dr
    have at_ := fun {h : Hh} {w g n : Nat} (W : IsWell h w g n) hn => atoms_ok W hn
    generalize F__law_atoms = ga at at_
    have md := fun {h : Hh} {w g n : Nat} {ns : List Int} {as : List Atm} {q : Nat} (W : IsWell h w g n) hn (e : h[q]? = some (.lst (as.map atomD))) q0 ha so al => made_ok (ns := ns) W hn e q0 ha so al
    generalize F__law_made = gm at md
    have sh := fun {h : Hh} {ns : List Int} {gl : Frm} {hs : List Hnt} {d : D} okn okg okh (T : ThD h d) hl => is_shown_ok (ns := ns) (gl := gl) (hs := hs) okn okg okh T hl
    generalize F_is_shown = gs at sh
    have sp := fun {h : Hh} {w g n : Nat} {ns : List Int} {as : List Atm} {gl : Frm} {hs : List Hnt} {s B : Int} {bs : List Int} {q : Nat} (W : IsWell h w g n) hn (e : h[q]? = some (.lst (as.map atomD))) q0 okn okg gm okh ll hl sb bb ha al hB => spoilt_ok (ns := ns) (gl := gl) (hs := hs) (s := s) (B := B) (bs := bs) W hn e q0 okn okg gm okh ll hl sb bb ha al hB
    generalize F__law_spoilt = gp at sp
    have ls := fun {h : Hh} {ns : List Int} {gl : Frm} {hs : List Hnt} {d : D} okg okh (T : ThD h d) hl => law_shows_ok (ns := ns) (gl := gl) (hs := hs) okg okh T hl
    generalize F__law_shows = gls at ls
    have lo := fun {h : Hh} {w g n : Nat} (W : IsWell h w g n) hn => long_ok W hn
    generalize F__law_long = glo at lo
    have er := fun {h : Hh} {w g n : Nat} {gl : Frm} {hs : List Hnt} (W : IsWell h w g n) hn okg okh hl => errors_ok (gl := gl) (hs := hs) W hn okg okh hl
    generalize F__law_errors_right = ge at er
    apply wO_fn
    simp -implicitDefEqProofs [-List.append_assoc, -List.length_append, -List.cons_append, m_law]
    refine wS.bind (we) ?_
    rintro _ h1 ⟨w, g, rfl, W1, E1⟩
    simp -implicitDefEqProofs [-List.append_assoc, -List.length_append, -List.cons_append, wipeR]
    have lw1 := lw_of W1
    have n1 : ¬ Wl w g h1.length := by rintro (z | z) <;> omega
    -- never
    refine wS.bind (spec.lc (R := fun d h' => d = .ref h1.length ∧ ∃ ms : List Int, h'[h1.length]? = some (.lst (ms.map D.int)) ∧ okN ms ∧ IsWell h' w g 12 ∧ Ext (Wl w g) h1 h') (fun i acc h' => ∃ ms : List Int, acc = ms.map D.int ∧ (∀ m ∈ ms, 1 ≤ m ∧ m ≤ i) ∧ ms.Pairwise (· < ·) ∧ ms.length ≤ i ∧ IsWell h' w g i ∧ Ext (Wl w g) h1 h') (lt_sl (by omega)) ⟨[], rfl, by simp, .nil, by simp, W1.ext .push, .push⟩ ?_ ?_) ?_
    · rintro acc h' ⟨ms, rfl, mb, mp, ml, W2, E2⟩ e2
      exact ⟨jRng_end, rfl, ms, e2, ⟨mb, mp, ml⟩, W2, E2⟩
    · rintro i acc h' hi ⟨ms, rfl, mb, mp, ml, W2, E2⟩ e2
      refine ⟨_, _, _, jRng_at hi, rfl, ?_⟩
      simp -implicitDefEqProofs [-List.append_assoc, -List.length_append, -List.cons_append]
      refine wO.bind (dr (many := 3) W2 (by decide) (by omega)) ?_
      rintro _ h3 ⟨x, rfl, xb, W3, E3⟩
      by_cases x0 : x = 0
      · simp -implicitDefEqProofs [-List.append_assoc, -List.length_append, -List.cons_append, x0]
        refine ⟨fun _ => ?_, fun z => by cases z⟩
        simp -implicitDefEqProofs [-List.append_assoc, -List.length_append, -List.cons_append]
        refine ⟨E3.keep _ _ e2 n1, ms ++ [1 + (i : Int)], by simp, ?_, ?_, by simp; omega, W3.put n1, (E2.trans E3).new (Nat.le_refl _)⟩
        · intro m hm
          rcases List.mem_append.mp hm with hm | hm
          · have := mb m hm; omega
          · simp at hm; omega
        · rw [List.pairwise_append]
          refine ⟨mp, List.pairwise_singleton _ _, fun a ha b hb => ?_⟩
          have := mb a ha
          simp at hb
          omega
      · have x0' : (x == 0) = false := by simp [x0]
        simp -implicitDefEqProofs [-List.append_assoc, -List.length_append, -List.cons_append, x0']
        exact ⟨fun z => (by cases z), fun _ => ⟨E3.keep _ _ e2 n1, ms, rfl, fun m hm => by have := mb m hm; omega, mp, by omega, W3, E2.trans E3⟩⟩
    rintro _ h2 ⟨rfl, ms, m2, okn, W2, E2⟩
    simp -implicitDefEqProofs [-List.append_assoc, -List.length_append, -List.cons_append, m2]
    refine wS.bind (at_ W2 (by omega)) ?_
    rintro _ h3 ⟨r, as, rfl, m3, oka, soa, al1, al9, r3l, W3, E3⟩
    have lw2 := lw_of W2
    have nr : ¬ Wl w g r := by rintro (z | z) <;> omega
    (try simp -implicitDefEqProofs [-List.append_assoc, -List.length_append, -List.cons_append])
    have ev : D.tup (ms.map D.int) = neverD ms := rfl
    rw [ev]
    refine wS.bind (md (ns := ms) W3 (by omega) m3 nr oka soa al9) ?_
    rintro _ h4 ⟨p, gl, hs, s, bs, rfl, m4, M, W4, E4⟩
    have m3' := E4.keep _ _ m3 nr
    simp -implicitDefEqProofs [-List.append_assoc, -List.length_append, -List.cons_append, gmSeq_lst m4]
    have okg80 : okF (10 ^ 80) gl := M.g.up (by omega)
    have okh80 : ∀ x ∈ hs, okH (10 ^ 80) x := fun x hx => ⟨(M.h x hx).1.up (by omega), (M.h x hx).2⟩
    have sb : 0 ≤ s ∧ s < 6 := ⟨M.f.s0, M.s6⟩
    have hl' := M.l
    have t0 := fun {h : Hh} => th_pair (h := h) (s := s) (by unfold bd; omega) (ent_ints M.bb)
    refine wS.bind (sh okn okg80 okh80 t0.1 (by omega)) ?_
    rintro _ h5 ⟨b, rfl, hb, E5⟩
    have shown : b = true := hb.mpr ⟨s, bs, M.f, M.e⟩
    subst shown
    have W5 := W4.ext E5
    have m5 := E5.get m3'
    simp -implicitDefEqProofs [-List.append_assoc, -List.length_append, -List.cons_append, oNotB]
    refine wS.loop (fun i ρ h' => ∃ o7 o8 o9 o10, ρ = [some (D.rol (List.map D.int ns)), some (.ref w), some (neverD ms), some (.ref r), some (formD gl), some (.tup (hs.map hintD)), some (.tup [.int s, .tup (bs.map D.int)]), o7, o8, o9, o10, none, none] ∧ IsWell h' w g (41000 + 2000 * i) ∧ Ext (Wl w g) h5 h') ⟨_, _, _, _, rfl, W5.up (by omega), .refl⟩ ?_ ?_
    · rintro _ h6 ⟨o7, o8, o9, o10, rfl, W6, E6⟩
      refine ⟨jRng_end, ?_⟩
      simp -implicitDefEqProofs [-List.append_assoc, -List.length_append, -List.cons_append]
      refine wS.bind (dr (many := 12) W6 (by decide) (by omega)) ?_
      rintro _ h7 ⟨u, rfl, ub, W7, E7⟩
      simp -implicitDefEqProofs [-List.append_assoc, -List.length_append, -List.cons_append]
      by_cases u5 : u = 5
      · subst u5
        simp -implicitDefEqProofs [-List.append_assoc, -List.length_append, -List.cons_append]
        refine wS.bind (lo W7 (by omega)) ?_
        rintro _ h8 ⟨rfl, W8, E8⟩
        simp -implicitDefEqProofs [-List.append_assoc, -List.length_append, -List.cons_append]
        exact rfl
      · simp -implicitDefEqProofs [-List.append_assoc, -List.length_append, -List.cons_append, u5]
        by_cases u3 : 3 < u
        · simp -implicitDefEqProofs [-List.append_assoc, -List.length_append, -List.cons_append, oGt, u3]
          exact rfl
        · simp -implicitDefEqProofs [-List.append_assoc, -List.length_append, -List.cons_append, oGt, u3]
          refine wS.bind (er W7 (by omega) okg80 okh80 hl') ?_
          rintro _ h8 ⟨rfl, W8, E8⟩
          simp -implicitDefEqProofs [-List.append_assoc, -List.length_append, -List.cons_append]
          exact rfl
    · rintro i _ h6 hi ⟨o7, o8, o9, o10, rfl, W6, E6⟩
      refine ⟨_, _, _, jRng_at hi, rfl, ?_⟩
      have m6 := E6.keep _ _ m5 nr
      simp -implicitDefEqProofs [-List.append_assoc, -List.length_append, -List.cons_append]
      refine wS.bind (sp W6 (by omega) m6 nr okn M.g M.gm M.h M.f.len (by omega) sb M.bb oka ⟨al1, al9⟩ (by decide)) ?_
      rintro _ h7 ⟨p1, ns1, gl1, hs1, th1, rfl, lp1, k7, S1, W7, E7⟩
      have m7 := E7.keep _ _ m6 nr
      simp only [wS_nx, then_nx, mSeq_ap, wS_seq]
      refine wS.cut (fun ρ h8 => ∃ (p2 : Nat) (ns2 : List Int) (gl2 : Frm) (hs2 : List Hnt) (th2 : D) (o9 : Option D), ρ = [some (D.rol (List.map D.int ns)), some (.ref w), some (neverD ms), some (.ref r), some (formD gl), some (.tup (hs.map hintD)), some (.tup [.int s, .tup (bs.map D.int)]), some (.int i), some (.ref p2), o9, o10, none, none] ∧ h8[p2]? = some (.lst [neverD ns2, formD gl2, .tup (hs2.map hintD), th2]) ∧ okN ns2 ∧ okF (10 ^ 80) gl2 ∧ (∀ x ∈ hs2, okH (10 ^ 80) x) ∧ hs2.length = hs.length ∧ (∀ h1, Ext (Wl w g) h8 h1 → ThD h1 th2) ∧ IsWell h8 w g (41000 + 2000 * (i + 1)) ∧ Ext (Wl w g) h5 h8) ?_ ?_
      · have okg1 : okF (10 ^ 80) gl1 := S1.g.up (by omega)
        have okh1 : ∀ x ∈ hs1, okH (10 ^ 80) x := fun x hx => ⟨(S1.ho x hx).1.up (by omega), (S1.ho x hx).2⟩
        by_cases i6 : 6 < i
        · have i6' : (6 : Int) < i := by omega
          simp -implicitDefEqProofs [-List.append_assoc, -List.length_append, -List.cons_append, oGt, i6', oGet_lst k7]
          refine wS.bind (sp W7 (by omega) m7 nr S1.n S1.g S1.gm S1.ho (M.f.len.trans S1.l.symm) (by rw [S1.l]; omega) sb M.bb oka ⟨al1, al9⟩ (by decide)) ?_
          rintro _ h8 ⟨p2, ns2, gl2, hs2, th2, rfl, lp2, k8, S2, W8, E8⟩
          have okg2 : okF (10 ^ 80) gl2 := S2.g.up (by omega)
          have okh2 : ∀ x ∈ hs2, okH (10 ^ 80) x := fun x hx => ⟨(S2.ho x hx).1.up (by omega), (S2.ho x hx).2⟩
          have np1 : ¬ Wl w g p1 := by have := lw_of W6; rintro (z | z) <;> omega
          have k7' := E8.keep _ _ k7 np1
          obtain ⟨c, ec, _⟩ := (S1.c _ E8).eq (t0 (h := h8)).2 (scal_tup _ _)
          simp -implicitDefEqProofs [-List.append_assoc, -List.length_append, -List.cons_append, oGet_lst k7', ec]
          cases c with
          | true =>
            simp -implicitDefEqProofs [-List.append_assoc, -List.length_append, -List.cons_append]
            exact ⟨p2, ns2, gl2, hs2, th2, _, rfl, k8, S2.n, okg2, okh2, S2.l.trans S1.l, S2.t, W8.up (by omega), (E6.trans E7).trans E8⟩
          | false =>
            simp -implicitDefEqProofs [-List.append_assoc, -List.length_append, -List.cons_append]
            exact ⟨p1, ns1, gl1, hs1, th1, _, rfl, k7', S1.n, okg1, okh1, S1.l, fun _ E => S1.t _ (E8.trans E), W8.up (by omega), (E6.trans E7).trans E8⟩
        · have i6' : ¬ (6 : Int) < i := by omega
          simp -implicitDefEqProofs [-List.append_assoc, -List.length_append, -List.cons_append, oGt, i6']
          exact ⟨p1, ns1, gl1, hs1, th1, _, rfl, k7, S1.n, okg1, okh1, S1.l, S1.t, W7.up (by omega), E6.trans E7⟩
      · rintro _ h8 ⟨p2, ns2, gl2, hs2, th2, o9', rfl, k8, okn2, okg2, okh2, l2, T2, W8, E8⟩
        simp -implicitDefEqProofs [-List.append_assoc, -List.length_append, -List.cons_append, oGet_lst k8]
        refine wS.bind (sh okn2 okg2 okh2 (T2 _ .refl) (by omega)) ?_
        rintro _ h9 ⟨b, rfl, hb, E9⟩
        have k9 := E9.get k8
        have tb : tyD h9 (D.bl b) = some "bool" := rfl
        have sbb : subT "bool" "bool" = true := by decide +kernel
        simp -implicitDefEqProofs [-List.append_assoc, -List.length_append, -List.cons_append, oGet_lst k9, tb, sbb]
        refine wS.bind (ls okg2 (fun x hx => (okh2 x hx).1) (T2 _ E9.of) (by omega)) ?_
        rintro _ h10 ⟨b', rfl, hb', E10⟩
        have bb' : b = b' := Bool.eq_iff_iff.mpr (hb.trans hb'.symm)
        subst bb'
        simp -implicitDefEqProofs [-List.append_assoc, -List.length_append, -List.cons_append, oNe_bl]
        exact ⟨_, _, _, _, rfl, (W8.ext E9).ext E10, (E8.trans E9.of).trans E10.of⟩
  obtain ⟨d, h, e, rfl⟩ := key.ex
  exact ⟨h, e⟩
end
end K60
namespace K60
open PySem PySem.Spec L2 PI
open PyProof.Rows hiding St
theorem all_mk {l : PySem.W.OpenLaw} {w : World} {K : PySem.W.Frag} {h : Heap} {mg : Str → Option Value} {fa aPaidError aBadNever aBadGoal aBadHints f_is_int f_within f_summed f_is_atom f_is_form f_is_floor f_is_origin f_is_hint f_need_never f_need_goal f_need_hints f_showing_fits f_shows f_is_shown f__law_well f__law_draw f__law_one f__law_is_int f__law_rest f__law_shows f__law_by f__law_atoms f__law_drawn_form f__law_origin f__law_sum_of f__law_made f__law_spoilt f__law_long f__law_error f__law_errors_right f_law : Addr} (X : K.In h) (G : h.Ns mainGlobals mg) (hfa : mg "law" = some (.ref fa))
    {t_LAST_VARIABLE : Tok}
    {t_LAST_NUMBER : Tok}
    {t_LAST_ROW : Tok}
    {t_SUMS : Tok}
    {t_LAST_CLAIM : Tok}
    {t_MOST_HINTS : Tok}
    {od_is_int an_is_int : Option Addr} {sl_is_int : Array (Option Value)} {oc_is_int kV_is_int dc_is_int pm_is_int cd_is_int ct_is_int : Value}
    {od_within an_within : Option Addr} {sl_within : Array (Option Value)} {oc_within kV_within dc_within pm_within cd_within ct_within : Value}
    {od_summed an_summed : Option Addr} {sl_summed : Array (Option Value)} {oc_summed kV_summed dc_summed pm_summed cd_summed ct_summed : Value}
    {od_is_atom an_is_atom : Option Addr} {sl_is_atom : Array (Option Value)} {oc_is_atom kV_is_atom dc_is_atom pm_is_atom cd_is_atom ct_is_atom : Value}
    {od_is_form an_is_form : Option Addr} {sl_is_form : Array (Option Value)} {oc_is_form kV_is_form dc_is_form pm_is_form cd_is_form ct_is_form : Value}
    {od_is_floor an_is_floor : Option Addr} {sl_is_floor : Array (Option Value)} {oc_is_floor kV_is_floor dc_is_floor pm_is_floor cd_is_floor ct_is_floor : Value}
    {od_is_origin an_is_origin : Option Addr} {sl_is_origin : Array (Option Value)} {oc_is_origin kV_is_origin dc_is_origin pm_is_origin cd_is_origin ct_is_origin : Value}
    {od_is_hint an_is_hint : Option Addr} {sl_is_hint : Array (Option Value)} {oc_is_hint kV_is_hint dc_is_hint pm_is_hint cd_is_hint ct_is_hint : Value}
    {od_need_never an_need_never : Option Addr} {sl_need_never : Array (Option Value)} {oc_need_never kV_need_never dc_need_never pm_need_never cd_need_never ct_need_never : Value}
    {od_need_goal an_need_goal : Option Addr} {sl_need_goal : Array (Option Value)} {oc_need_goal kV_need_goal dc_need_goal pm_need_goal cd_need_goal ct_need_goal : Value}
    {od_need_hints an_need_hints : Option Addr} {sl_need_hints : Array (Option Value)} {oc_need_hints kV_need_hints dc_need_hints pm_need_hints cd_need_hints ct_need_hints : Value}
    {od_showing_fits an_showing_fits : Option Addr} {sl_showing_fits : Array (Option Value)} {oc_showing_fits kV_showing_fits dc_showing_fits pm_showing_fits cd_showing_fits ct_showing_fits : Value}
    {od_shows an_shows : Option Addr} {sl_shows : Array (Option Value)} {oc_shows kV_shows dc_shows pm_shows cd_shows ct_shows : Value}
    {od_is_shown an_is_shown : Option Addr} {sl_is_shown : Array (Option Value)} {oc_is_shown kV_is_shown dc_is_shown pm_is_shown cd_is_shown ct_is_shown : Value}
    {od__law_well an__law_well : Option Addr} {sl__law_well : Array (Option Value)} {oc__law_well kV__law_well dc__law_well pm__law_well cd__law_well ct__law_well : Value}
    {od__law_draw an__law_draw : Option Addr} {sl__law_draw : Array (Option Value)} {oc__law_draw kV__law_draw dc__law_draw pm__law_draw cd__law_draw ct__law_draw : Value}
    {od__law_one an__law_one : Option Addr} {sl__law_one : Array (Option Value)} {oc__law_one kV__law_one dc__law_one pm__law_one cd__law_one ct__law_one : Value}
    {od__law_is_int an__law_is_int : Option Addr} {sl__law_is_int : Array (Option Value)} {oc__law_is_int kV__law_is_int dc__law_is_int pm__law_is_int cd__law_is_int ct__law_is_int : Value}
    {od__law_rest an__law_rest : Option Addr} {sl__law_rest : Array (Option Value)} {oc__law_rest kV__law_rest dc__law_rest pm__law_rest cd__law_rest ct__law_rest : Value}
    {od__law_shows an__law_shows : Option Addr} {sl__law_shows : Array (Option Value)} {oc__law_shows kV__law_shows dc__law_shows pm__law_shows cd__law_shows ct__law_shows : Value}
    {od__law_by an__law_by : Option Addr} {sl__law_by : Array (Option Value)} {oc__law_by kV__law_by dc__law_by pm__law_by cd__law_by ct__law_by : Value}
    {od__law_atoms an__law_atoms : Option Addr} {sl__law_atoms : Array (Option Value)} {oc__law_atoms kV__law_atoms dc__law_atoms pm__law_atoms cd__law_atoms ct__law_atoms : Value}
    {od__law_drawn_form an__law_drawn_form : Option Addr} {sl__law_drawn_form : Array (Option Value)} {oc__law_drawn_form kV__law_drawn_form dc__law_drawn_form pm__law_drawn_form cd__law_drawn_form ct__law_drawn_form : Value}
    {od__law_origin an__law_origin : Option Addr} {sl__law_origin : Array (Option Value)} {oc__law_origin kV__law_origin dc__law_origin pm__law_origin cd__law_origin ct__law_origin : Value}
    {od__law_sum_of an__law_sum_of : Option Addr} {sl__law_sum_of : Array (Option Value)} {oc__law_sum_of kV__law_sum_of dc__law_sum_of pm__law_sum_of cd__law_sum_of ct__law_sum_of : Value}
    {od__law_made an__law_made : Option Addr} {sl__law_made : Array (Option Value)} {oc__law_made kV__law_made dc__law_made pm__law_made cd__law_made ct__law_made : Value}
    {od__law_spoilt an__law_spoilt : Option Addr} {sl__law_spoilt : Array (Option Value)} {oc__law_spoilt kV__law_spoilt dc__law_spoilt pm__law_spoilt cd__law_spoilt ct__law_spoilt : Value}
    {od__law_long an__law_long : Option Addr} {sl__law_long : Array (Option Value)} {oc__law_long kV__law_long dc__law_long pm__law_long cd__law_long ct__law_long : Value}
    {od__law_error an__law_error : Option Addr} {sl__law_error : Array (Option Value)} {oc__law_error kV__law_error dc__law_error pm__law_error cd__law_error ct__law_error : Value}
    {od__law_errors_right an__law_errors_right : Option Addr} {sl__law_errors_right : Array (Option Value)} {oc__law_errors_right kV__law_errors_right dc__law_errors_right pm__law_errors_right cd__law_errors_right ct__law_errors_right : Value}
    {od_law an_law : Option Addr} {sl_law : Array (Option Value)} {oc_law kV_law dc_law pm_law cd_law ct_law : Value}
    (z_abs : PySem.W.nsIn K mainGlobals "abs" = some none)
    (z_all : PySem.W.nsIn K mainGlobals "all" = some none)
    (z_bool : PySem.W.nsIn K mainGlobals "bool" = some none)
    (z_int : PySem.W.nsIn K mainGlobals "int" = some none)
    (z_isinstance : PySem.W.nsIn K mainGlobals "isinstance" = some none)
    (z_len : PySem.W.nsIn K mainGlobals "len" = some none)
    (z_list : PySem.W.nsIn K mainGlobals "list" = some none)
    (z_min : PySem.W.nsIn K mainGlobals "min" = some none)
    (z_range : PySem.W.nsIn K mainGlobals "range" = some none)
    (z_sorted : PySem.W.nsIn K mainGlobals "sorted" = some none)
    (z_tuple : PySem.W.nsIn K mainGlobals "tuple" = some none)
    (z_zip : PySem.W.nsIn K mainGlobals "zip" = some none)
    (c_LAST_VARIABLE : PySem.W.nsIn K mainGlobals "LAST_VARIABLE" = some (some (.int 399 t_LAST_VARIABLE)))
    (c_LAST_NUMBER : PySem.W.nsIn K mainGlobals "LAST_NUMBER" = some (some (.int 12 t_LAST_NUMBER)))
    (c_LAST_ROW : PySem.W.nsIn K mainGlobals "LAST_ROW" = some (some (.int 239 t_LAST_ROW)))
    (c_SUMS : PySem.W.nsIn K mainGlobals "SUMS" = some (some (.int 6 t_SUMS)))
    (c_LAST_CLAIM : PySem.W.nsIn K mainGlobals "LAST_CLAIM" = some (some (.int 29 t_LAST_CLAIM)))
    (c_MOST_HINTS : PySem.W.nsIn K mainGlobals "MOST_HINTS" = some (some (.int 8000 t_MOST_HINTS)))
    (ea_PaidError : PySem.W.nsIn K mainGlobals "PaidError" = some (some (.ref aPaidError)))
    (ex_PaidError : PySem.W.excIn K aPaidError [.type "ValueError", .type "Exception", .type "BaseException", .type "object"] "ValueError.__new__" = true)
    (ek_PaidError : PySem.W.keepIn K (.ref aPaidError) = true)
    (eb_PaidError : PySem.W.subIn K (.ref aPaidError) (.type "BaseException") = some true)
    (et_PaidError : PySem.W.typeIn K (.ref aPaidError) = some (.type "type"))
    (ei_PaidError : PySem.W.isClsIn K aPaidError = true)
    (ed_PaidError : PySem.W.hasDictIn K aPaidError = true)
    (ea_BadNever : PySem.W.nsIn K mainGlobals "BadNever" = some (some (.ref aBadNever)))
    (ex_BadNever : PySem.W.excIn K aBadNever [.type "ValueError", .type "Exception", .type "BaseException", .type "object"] "ValueError.__new__" = true)
    (ek_BadNever : PySem.W.keepIn K (.ref aBadNever) = true)
    (eb_BadNever : PySem.W.subIn K (.ref aBadNever) (.type "BaseException") = some true)
    (et_BadNever : PySem.W.typeIn K (.ref aBadNever) = some (.type "type"))
    (ei_BadNever : PySem.W.isClsIn K aBadNever = true)
    (ed_BadNever : PySem.W.hasDictIn K aBadNever = true)
    (ea_BadGoal : PySem.W.nsIn K mainGlobals "BadGoal" = some (some (.ref aBadGoal)))
    (ex_BadGoal : PySem.W.excIn K aBadGoal [.type "ValueError", .type "Exception", .type "BaseException", .type "object"] "ValueError.__new__" = true)
    (ek_BadGoal : PySem.W.keepIn K (.ref aBadGoal) = true)
    (eb_BadGoal : PySem.W.subIn K (.ref aBadGoal) (.type "BaseException") = some true)
    (et_BadGoal : PySem.W.typeIn K (.ref aBadGoal) = some (.type "type"))
    (ei_BadGoal : PySem.W.isClsIn K aBadGoal = true)
    (ed_BadGoal : PySem.W.hasDictIn K aBadGoal = true)
    (ea_BadHints : PySem.W.nsIn K mainGlobals "BadHints" = some (some (.ref aBadHints)))
    (ex_BadHints : PySem.W.excIn K aBadHints [.type "ValueError", .type "Exception", .type "BaseException", .type "object"] "ValueError.__new__" = true)
    (ek_BadHints : PySem.W.keepIn K (.ref aBadHints) = true)
    (eb_BadHints : PySem.W.subIn K (.ref aBadHints) (.type "BaseException") = some true)
    (et_BadHints : PySem.W.typeIn K (.ref aBadHints) = some (.type "type"))
    (ei_BadHints : PySem.W.isClsIn K aBadHints = true)
    (ed_BadHints : PySem.W.hasDictIn K aBadHints = true)
    (s_BadNever_BadNever : PySem.W.subIn K (.ref aBadNever) (.ref aBadNever) = some true)
    (s_BadNever_BadGoal : PySem.W.subIn K (.ref aBadNever) (.ref aBadGoal) = some false)
    (s_BadNever_BadHints : PySem.W.subIn K (.ref aBadNever) (.ref aBadHints) = some false)
    (s_BadNever_PaidError : PySem.W.subIn K (.ref aBadNever) (.ref aPaidError) = some true)
    (s_BadGoal_BadNever : PySem.W.subIn K (.ref aBadGoal) (.ref aBadNever) = some false)
    (s_BadGoal_BadGoal : PySem.W.subIn K (.ref aBadGoal) (.ref aBadGoal) = some true)
    (s_BadGoal_BadHints : PySem.W.subIn K (.ref aBadGoal) (.ref aBadHints) = some false)
    (s_BadGoal_PaidError : PySem.W.subIn K (.ref aBadGoal) (.ref aPaidError) = some true)
    (s_BadHints_BadNever : PySem.W.subIn K (.ref aBadHints) (.ref aBadNever) = some false)
    (s_BadHints_BadGoal : PySem.W.subIn K (.ref aBadHints) (.ref aBadGoal) = some false)
    (s_BadHints_BadHints : PySem.W.subIn K (.ref aBadHints) (.ref aBadHints) = some true)
    (s_BadHints_PaidError : PySem.W.subIn K (.ref aBadHints) (.ref aPaidError) = some true)
    (a_is_int : PySem.W.nsIn K mainGlobals "is_int" = some (some (.ref f_is_int)))
    (l_is_int : K.lookup f_is_int = some ⟨oc_is_int, od_is_int, .func (PySem.W.fnOf "is_int" "is_int" (defArgs s_is_int) (defBody s_is_int) (defScope s_is_int) .none kV_is_int dc_is_int pm_is_int an_is_int cd_is_int ct_is_int), sl_is_int⟩)
    (c_is_int : PySem.W.codeIn K cd_is_int "is_int" = true)
    (k_is_int : PySem.W.keepIn K (.ref f_is_int) = true)
    (a_within : PySem.W.nsIn K mainGlobals "within" = some (some (.ref f_within)))
    (l_within : K.lookup f_within = some ⟨oc_within, od_within, .func (PySem.W.fnOf "within" "within" (defArgs s_within) (defBody s_within) (defScope s_within) .none kV_within dc_within pm_within an_within cd_within ct_within), sl_within⟩)
    (c_within : PySem.W.codeIn K cd_within "within" = true)
    (k_within : PySem.W.keepIn K (.ref f_within) = true)
    (a_summed : PySem.W.nsIn K mainGlobals "summed" = some (some (.ref f_summed)))
    (l_summed : K.lookup f_summed = some ⟨oc_summed, od_summed, .func (PySem.W.fnOf "summed" "summed" (defArgs s_summed) (defBody s_summed) (defScope s_summed) .none kV_summed dc_summed pm_summed an_summed cd_summed ct_summed), sl_summed⟩)
    (c_summed : PySem.W.codeIn K cd_summed "summed" = true)
    (k_summed : PySem.W.keepIn K (.ref f_summed) = true)
    (a_is_atom : PySem.W.nsIn K mainGlobals "is_atom" = some (some (.ref f_is_atom)))
    (l_is_atom : K.lookup f_is_atom = some ⟨oc_is_atom, od_is_atom, .func (PySem.W.fnOf "is_atom" "is_atom" (defArgs s_is_atom) (defBody s_is_atom) (defScope s_is_atom) .none kV_is_atom dc_is_atom pm_is_atom an_is_atom cd_is_atom ct_is_atom), sl_is_atom⟩)
    (c_is_atom : PySem.W.codeIn K cd_is_atom "is_atom" = true)
    (k_is_atom : PySem.W.keepIn K (.ref f_is_atom) = true)
    (a_is_form : PySem.W.nsIn K mainGlobals "is_form" = some (some (.ref f_is_form)))
    (l_is_form : K.lookup f_is_form = some ⟨oc_is_form, od_is_form, .func (PySem.W.fnOf "is_form" "is_form" (defArgs s_is_form) (defBody s_is_form) (defScope s_is_form) .none kV_is_form dc_is_form pm_is_form an_is_form cd_is_form ct_is_form), sl_is_form⟩)
    (c_is_form : PySem.W.codeIn K cd_is_form "is_form" = true)
    (k_is_form : PySem.W.keepIn K (.ref f_is_form) = true)
    (a_is_floor : PySem.W.nsIn K mainGlobals "is_floor" = some (some (.ref f_is_floor)))
    (l_is_floor : K.lookup f_is_floor = some ⟨oc_is_floor, od_is_floor, .func (PySem.W.fnOf "is_floor" "is_floor" (defArgs s_is_floor) (defBody s_is_floor) (defScope s_is_floor) .none kV_is_floor dc_is_floor pm_is_floor an_is_floor cd_is_floor ct_is_floor), sl_is_floor⟩)
    (c_is_floor : PySem.W.codeIn K cd_is_floor "is_floor" = true)
    (k_is_floor : PySem.W.keepIn K (.ref f_is_floor) = true)
    (a_is_origin : PySem.W.nsIn K mainGlobals "is_origin" = some (some (.ref f_is_origin)))
    (l_is_origin : K.lookup f_is_origin = some ⟨oc_is_origin, od_is_origin, .func (PySem.W.fnOf "is_origin" "is_origin" (defArgs s_is_origin) (defBody s_is_origin) (defScope s_is_origin) .none kV_is_origin dc_is_origin pm_is_origin an_is_origin cd_is_origin ct_is_origin), sl_is_origin⟩)
    (c_is_origin : PySem.W.codeIn K cd_is_origin "is_origin" = true)
    (k_is_origin : PySem.W.keepIn K (.ref f_is_origin) = true)
    (a_is_hint : PySem.W.nsIn K mainGlobals "is_hint" = some (some (.ref f_is_hint)))
    (l_is_hint : K.lookup f_is_hint = some ⟨oc_is_hint, od_is_hint, .func (PySem.W.fnOf "is_hint" "is_hint" (defArgs s_is_hint) (defBody s_is_hint) (defScope s_is_hint) .none kV_is_hint dc_is_hint pm_is_hint an_is_hint cd_is_hint ct_is_hint), sl_is_hint⟩)
    (c_is_hint : PySem.W.codeIn K cd_is_hint "is_hint" = true)
    (k_is_hint : PySem.W.keepIn K (.ref f_is_hint) = true)
    (a_need_never : PySem.W.nsIn K mainGlobals "need_never" = some (some (.ref f_need_never)))
    (l_need_never : K.lookup f_need_never = some ⟨oc_need_never, od_need_never, .func (PySem.W.fnOf "need_never" "need_never" (defArgs s_need_never) (defBody s_need_never) (defScope s_need_never) .none kV_need_never dc_need_never pm_need_never an_need_never cd_need_never ct_need_never), sl_need_never⟩)
    (c_need_never : PySem.W.codeIn K cd_need_never "need_never" = true)
    (k_need_never : PySem.W.keepIn K (.ref f_need_never) = true)
    (a_need_goal : PySem.W.nsIn K mainGlobals "need_goal" = some (some (.ref f_need_goal)))
    (l_need_goal : K.lookup f_need_goal = some ⟨oc_need_goal, od_need_goal, .func (PySem.W.fnOf "need_goal" "need_goal" (defArgs s_need_goal) (defBody s_need_goal) (defScope s_need_goal) .none kV_need_goal dc_need_goal pm_need_goal an_need_goal cd_need_goal ct_need_goal), sl_need_goal⟩)
    (c_need_goal : PySem.W.codeIn K cd_need_goal "need_goal" = true)
    (k_need_goal : PySem.W.keepIn K (.ref f_need_goal) = true)
    (a_need_hints : PySem.W.nsIn K mainGlobals "need_hints" = some (some (.ref f_need_hints)))
    (l_need_hints : K.lookup f_need_hints = some ⟨oc_need_hints, od_need_hints, .func (PySem.W.fnOf "need_hints" "need_hints" (defArgs s_need_hints) (defBody s_need_hints) (defScope s_need_hints) .none kV_need_hints dc_need_hints pm_need_hints an_need_hints cd_need_hints ct_need_hints), sl_need_hints⟩)
    (c_need_hints : PySem.W.codeIn K cd_need_hints "need_hints" = true)
    (k_need_hints : PySem.W.keepIn K (.ref f_need_hints) = true)
    (a_showing_fits : PySem.W.nsIn K mainGlobals "showing_fits" = some (some (.ref f_showing_fits)))
    (l_showing_fits : K.lookup f_showing_fits = some ⟨oc_showing_fits, od_showing_fits, .func (PySem.W.fnOf "showing_fits" "showing_fits" (defArgs s_showing_fits) (defBody s_showing_fits) (defScope s_showing_fits) .none kV_showing_fits dc_showing_fits pm_showing_fits an_showing_fits cd_showing_fits ct_showing_fits), sl_showing_fits⟩)
    (c_showing_fits : PySem.W.codeIn K cd_showing_fits "showing_fits" = true)
    (k_showing_fits : PySem.W.keepIn K (.ref f_showing_fits) = true)
    (a_shows : PySem.W.nsIn K mainGlobals "shows" = some (some (.ref f_shows)))
    (l_shows : K.lookup f_shows = some ⟨oc_shows, od_shows, .func (PySem.W.fnOf "shows" "shows" (defArgs s_shows) (defBody s_shows) (defScope s_shows) .none kV_shows dc_shows pm_shows an_shows cd_shows ct_shows), sl_shows⟩)
    (c_shows : PySem.W.codeIn K cd_shows "shows" = true)
    (k_shows : PySem.W.keepIn K (.ref f_shows) = true)
    (a_is_shown : PySem.W.nsIn K mainGlobals "is_shown" = some (some (.ref f_is_shown)))
    (l_is_shown : K.lookup f_is_shown = some ⟨oc_is_shown, od_is_shown, .func (PySem.W.fnOf "is_shown" "is_shown" (defArgs s_is_shown) (defBody s_is_shown) (defScope s_is_shown) .none kV_is_shown dc_is_shown pm_is_shown an_is_shown cd_is_shown ct_is_shown), sl_is_shown⟩)
    (c_is_shown : PySem.W.codeIn K cd_is_shown "is_shown" = true)
    (k_is_shown : PySem.W.keepIn K (.ref f_is_shown) = true)
    (a__law_well : PySem.W.nsIn K mainGlobals "_law_well" = some (some (.ref f__law_well)))
    (l__law_well : K.lookup f__law_well = some ⟨oc__law_well, od__law_well, .func (PySem.W.fnOf "_law_well" "_law_well" (defArgs s__law_well) (defBody s__law_well) (defScope s__law_well) .none kV__law_well dc__law_well pm__law_well an__law_well cd__law_well ct__law_well), sl__law_well⟩)
    (c__law_well : PySem.W.codeIn K cd__law_well "_law_well" = true)
    (k__law_well : PySem.W.keepIn K (.ref f__law_well) = true)
    (a__law_draw : PySem.W.nsIn K mainGlobals "_law_draw" = some (some (.ref f__law_draw)))
    (l__law_draw : K.lookup f__law_draw = some ⟨oc__law_draw, od__law_draw, .func (PySem.W.fnOf "_law_draw" "_law_draw" (defArgs s__law_draw) (defBody s__law_draw) (defScope s__law_draw) .none kV__law_draw dc__law_draw pm__law_draw an__law_draw cd__law_draw ct__law_draw), sl__law_draw⟩)
    (c__law_draw : PySem.W.codeIn K cd__law_draw "_law_draw" = true)
    (k__law_draw : PySem.W.keepIn K (.ref f__law_draw) = true)
    (a__law_one : PySem.W.nsIn K mainGlobals "_law_one" = some (some (.ref f__law_one)))
    (l__law_one : K.lookup f__law_one = some ⟨oc__law_one, od__law_one, .func (PySem.W.fnOf "_law_one" "_law_one" (defArgs s__law_one) (defBody s__law_one) (defScope s__law_one) .none kV__law_one dc__law_one pm__law_one an__law_one cd__law_one ct__law_one), sl__law_one⟩)
    (c__law_one : PySem.W.codeIn K cd__law_one "_law_one" = true)
    (k__law_one : PySem.W.keepIn K (.ref f__law_one) = true)
    (a__law_is_int : PySem.W.nsIn K mainGlobals "_law_is_int" = some (some (.ref f__law_is_int)))
    (l__law_is_int : K.lookup f__law_is_int = some ⟨oc__law_is_int, od__law_is_int, .func (PySem.W.fnOf "_law_is_int" "_law_is_int" (defArgs s__law_is_int) (defBody s__law_is_int) (defScope s__law_is_int) .none kV__law_is_int dc__law_is_int pm__law_is_int an__law_is_int cd__law_is_int ct__law_is_int), sl__law_is_int⟩)
    (c__law_is_int : PySem.W.codeIn K cd__law_is_int "_law_is_int" = true)
    (k__law_is_int : PySem.W.keepIn K (.ref f__law_is_int) = true)
    (a__law_rest : PySem.W.nsIn K mainGlobals "_law_rest" = some (some (.ref f__law_rest)))
    (l__law_rest : K.lookup f__law_rest = some ⟨oc__law_rest, od__law_rest, .func (PySem.W.fnOf "_law_rest" "_law_rest" (defArgs s__law_rest) (defBody s__law_rest) (defScope s__law_rest) .none kV__law_rest dc__law_rest pm__law_rest an__law_rest cd__law_rest ct__law_rest), sl__law_rest⟩)
    (c__law_rest : PySem.W.codeIn K cd__law_rest "_law_rest" = true)
    (k__law_rest : PySem.W.keepIn K (.ref f__law_rest) = true)
    (a__law_shows : PySem.W.nsIn K mainGlobals "_law_shows" = some (some (.ref f__law_shows)))
    (l__law_shows : K.lookup f__law_shows = some ⟨oc__law_shows, od__law_shows, .func (PySem.W.fnOf "_law_shows" "_law_shows" (defArgs s__law_shows) (defBody s__law_shows) (defScope s__law_shows) .none kV__law_shows dc__law_shows pm__law_shows an__law_shows cd__law_shows ct__law_shows), sl__law_shows⟩)
    (c__law_shows : PySem.W.codeIn K cd__law_shows "_law_shows" = true)
    (k__law_shows : PySem.W.keepIn K (.ref f__law_shows) = true)
    (a__law_by : PySem.W.nsIn K mainGlobals "_law_by" = some (some (.ref f__law_by)))
    (l__law_by : K.lookup f__law_by = some ⟨oc__law_by, od__law_by, .func (PySem.W.fnOf "_law_by" "_law_by" (defArgs s__law_by) (defBody s__law_by) (defScope s__law_by) .none kV__law_by dc__law_by pm__law_by an__law_by cd__law_by ct__law_by), sl__law_by⟩)
    (c__law_by : PySem.W.codeIn K cd__law_by "_law_by" = true)
    (k__law_by : PySem.W.keepIn K (.ref f__law_by) = true)
    (a__law_atoms : PySem.W.nsIn K mainGlobals "_law_atoms" = some (some (.ref f__law_atoms)))
    (l__law_atoms : K.lookup f__law_atoms = some ⟨oc__law_atoms, od__law_atoms, .func (PySem.W.fnOf "_law_atoms" "_law_atoms" (defArgs s__law_atoms) (defBody s__law_atoms) (defScope s__law_atoms) .none kV__law_atoms dc__law_atoms pm__law_atoms an__law_atoms cd__law_atoms ct__law_atoms), sl__law_atoms⟩)
    (c__law_atoms : PySem.W.codeIn K cd__law_atoms "_law_atoms" = true)
    (k__law_atoms : PySem.W.keepIn K (.ref f__law_atoms) = true)
    (a__law_drawn_form : PySem.W.nsIn K mainGlobals "_law_drawn_form" = some (some (.ref f__law_drawn_form)))
    (l__law_drawn_form : K.lookup f__law_drawn_form = some ⟨oc__law_drawn_form, od__law_drawn_form, .func (PySem.W.fnOf "_law_drawn_form" "_law_drawn_form" (defArgs s__law_drawn_form) (defBody s__law_drawn_form) (defScope s__law_drawn_form) .none kV__law_drawn_form dc__law_drawn_form pm__law_drawn_form an__law_drawn_form cd__law_drawn_form ct__law_drawn_form), sl__law_drawn_form⟩)
    (c__law_drawn_form : PySem.W.codeIn K cd__law_drawn_form "_law_drawn_form" = true)
    (k__law_drawn_form : PySem.W.keepIn K (.ref f__law_drawn_form) = true)
    (a__law_origin : PySem.W.nsIn K mainGlobals "_law_origin" = some (some (.ref f__law_origin)))
    (l__law_origin : K.lookup f__law_origin = some ⟨oc__law_origin, od__law_origin, .func (PySem.W.fnOf "_law_origin" "_law_origin" (defArgs s__law_origin) (defBody s__law_origin) (defScope s__law_origin) .none kV__law_origin dc__law_origin pm__law_origin an__law_origin cd__law_origin ct__law_origin), sl__law_origin⟩)
    (c__law_origin : PySem.W.codeIn K cd__law_origin "_law_origin" = true)
    (k__law_origin : PySem.W.keepIn K (.ref f__law_origin) = true)
    (a__law_sum_of : PySem.W.nsIn K mainGlobals "_law_sum_of" = some (some (.ref f__law_sum_of)))
    (l__law_sum_of : K.lookup f__law_sum_of = some ⟨oc__law_sum_of, od__law_sum_of, .func (PySem.W.fnOf "_law_sum_of" "_law_sum_of" (defArgs s__law_sum_of) (defBody s__law_sum_of) (defScope s__law_sum_of) .none kV__law_sum_of dc__law_sum_of pm__law_sum_of an__law_sum_of cd__law_sum_of ct__law_sum_of), sl__law_sum_of⟩)
    (c__law_sum_of : PySem.W.codeIn K cd__law_sum_of "_law_sum_of" = true)
    (k__law_sum_of : PySem.W.keepIn K (.ref f__law_sum_of) = true)
    (a__law_made : PySem.W.nsIn K mainGlobals "_law_made" = some (some (.ref f__law_made)))
    (l__law_made : K.lookup f__law_made = some ⟨oc__law_made, od__law_made, .func (PySem.W.fnOf "_law_made" "_law_made" (defArgs s__law_made) (defBody s__law_made) (defScope s__law_made) .none kV__law_made dc__law_made pm__law_made an__law_made cd__law_made ct__law_made), sl__law_made⟩)
    (c__law_made : PySem.W.codeIn K cd__law_made "_law_made" = true)
    (k__law_made : PySem.W.keepIn K (.ref f__law_made) = true)
    (a__law_spoilt : PySem.W.nsIn K mainGlobals "_law_spoilt" = some (some (.ref f__law_spoilt)))
    (l__law_spoilt : K.lookup f__law_spoilt = some ⟨oc__law_spoilt, od__law_spoilt, .func (PySem.W.fnOf "_law_spoilt" "_law_spoilt" (defArgs s__law_spoilt) (defBody s__law_spoilt) (defScope s__law_spoilt) .none kV__law_spoilt dc__law_spoilt pm__law_spoilt an__law_spoilt cd__law_spoilt ct__law_spoilt), sl__law_spoilt⟩)
    (c__law_spoilt : PySem.W.codeIn K cd__law_spoilt "_law_spoilt" = true)
    (k__law_spoilt : PySem.W.keepIn K (.ref f__law_spoilt) = true)
    (a__law_long : PySem.W.nsIn K mainGlobals "_law_long" = some (some (.ref f__law_long)))
    (l__law_long : K.lookup f__law_long = some ⟨oc__law_long, od__law_long, .func (PySem.W.fnOf "_law_long" "_law_long" (defArgs s__law_long) (defBody s__law_long) (defScope s__law_long) .none kV__law_long dc__law_long pm__law_long an__law_long cd__law_long ct__law_long), sl__law_long⟩)
    (c__law_long : PySem.W.codeIn K cd__law_long "_law_long" = true)
    (k__law_long : PySem.W.keepIn K (.ref f__law_long) = true)
    (a__law_error : PySem.W.nsIn K mainGlobals "_law_error" = some (some (.ref f__law_error)))
    (l__law_error : K.lookup f__law_error = some ⟨oc__law_error, od__law_error, .func (PySem.W.fnOf "_law_error" "_law_error" (defArgs s__law_error) (defBody s__law_error) (defScope s__law_error) .none kV__law_error dc__law_error pm__law_error an__law_error cd__law_error ct__law_error), sl__law_error⟩)
    (c__law_error : PySem.W.codeIn K cd__law_error "_law_error" = true)
    (k__law_error : PySem.W.keepIn K (.ref f__law_error) = true)
    (a__law_errors_right : PySem.W.nsIn K mainGlobals "_law_errors_right" = some (some (.ref f__law_errors_right)))
    (l__law_errors_right : K.lookup f__law_errors_right = some ⟨oc__law_errors_right, od__law_errors_right, .func (PySem.W.fnOf "_law_errors_right" "_law_errors_right" (defArgs s__law_errors_right) (defBody s__law_errors_right) (defScope s__law_errors_right) .none kV__law_errors_right dc__law_errors_right pm__law_errors_right an__law_errors_right cd__law_errors_right ct__law_errors_right), sl__law_errors_right⟩)
    (c__law_errors_right : PySem.W.codeIn K cd__law_errors_right "_law_errors_right" = true)
    (k__law_errors_right : PySem.W.keepIn K (.ref f__law_errors_right) = true)
    (a_law : PySem.W.nsIn K mainGlobals "law" = some (some (.ref f_law)))
    (l_law : K.lookup f_law = some ⟨oc_law, od_law, .func (PySem.W.fnOf "law" "law" (defArgs s_law) (defBody s_law) (defScope s_law) .none kV_law dc_law pm_law an_law cd_law ct_law), sl_law⟩)
    (c_law : PySem.W.codeIn K cd_law "law" = true)
    (k_law : PySem.W.keepIn K (.ref f_law) = true) :
    ∃ fd : FuncData, (∀ (s : Shared) (v : Value), BindsTo s fd ⟨[v], []⟩ [("script", v)]) ∧ ∀ base : Heap, K.In base → base.Ns mainGlobals mg → FnOk l.prog w K mg base (L2.CX l.prog w) 60 fa fd ["script"] (spLaw K) := by
  have e := hfa.symm.trans (PySem.W.mg_of X G a_law)
  cases e
  have sb_BadNever : ∀ z cz, ctb aPaidError aBadNever aBadGoal aBadHints z = some cz → PySem.W.exmOne K cz (.ref aBadNever) = some (sb z "BadNever") := by
    intro z cz h
    unfold ctb at h
    by_cases h_BadNever : z = "BadNever"
    · subst h_BadNever; rw [if_pos rfl] at h; cases h; exact (PySem.W.exm_ref eb_BadNever ed_BadNever et_BadNever s_BadNever_BadNever).trans (congrArg some (by decide))
    rw [if_neg h_BadNever] at h
    by_cases h_BadGoal : z = "BadGoal"
    · subst h_BadGoal; rw [if_pos rfl] at h; cases h; exact (PySem.W.exm_ref eb_BadNever ed_BadNever et_BadNever s_BadGoal_BadNever).trans (congrArg some (by decide))
    rw [if_neg h_BadGoal] at h
    by_cases h_BadHints : z = "BadHints"
    · subst h_BadHints; rw [if_pos rfl] at h; cases h; exact (PySem.W.exm_ref eb_BadNever ed_BadNever et_BadNever s_BadHints_BadNever).trans (congrArg some (by decide))
    rw [if_neg h_BadHints] at h
    cases h
  have sb_BadGoal : ∀ z cz, ctb aPaidError aBadNever aBadGoal aBadHints z = some cz → PySem.W.exmOne K cz (.ref aBadGoal) = some (sb z "BadGoal") := by
    intro z cz h
    unfold ctb at h
    by_cases h_BadNever : z = "BadNever"
    · subst h_BadNever; rw [if_pos rfl] at h; cases h; exact (PySem.W.exm_ref eb_BadGoal ed_BadGoal et_BadGoal s_BadNever_BadGoal).trans (congrArg some (by decide))
    rw [if_neg h_BadNever] at h
    by_cases h_BadGoal : z = "BadGoal"
    · subst h_BadGoal; rw [if_pos rfl] at h; cases h; exact (PySem.W.exm_ref eb_BadGoal ed_BadGoal et_BadGoal s_BadGoal_BadGoal).trans (congrArg some (by decide))
    rw [if_neg h_BadGoal] at h
    by_cases h_BadHints : z = "BadHints"
    · subst h_BadHints; rw [if_pos rfl] at h; cases h; exact (PySem.W.exm_ref eb_BadGoal ed_BadGoal et_BadGoal s_BadHints_BadGoal).trans (congrArg some (by decide))
    rw [if_neg h_BadHints] at h
    cases h
  have sb_BadHints : ∀ z cz, ctb aPaidError aBadNever aBadGoal aBadHints z = some cz → PySem.W.exmOne K cz (.ref aBadHints) = some (sb z "BadHints") := by
    intro z cz h
    unfold ctb at h
    by_cases h_BadNever : z = "BadNever"
    · subst h_BadNever; rw [if_pos rfl] at h; cases h; exact (PySem.W.exm_ref eb_BadHints ed_BadHints et_BadHints s_BadNever_BadHints).trans (congrArg some (by decide))
    rw [if_neg h_BadNever] at h
    by_cases h_BadGoal : z = "BadGoal"
    · subst h_BadGoal; rw [if_pos rfl] at h; cases h; exact (PySem.W.exm_ref eb_BadHints ed_BadHints et_BadHints s_BadGoal_BadHints).trans (congrArg some (by decide))
    rw [if_neg h_BadGoal] at h
    by_cases h_BadHints : z = "BadHints"
    · subst h_BadHints; rw [if_pos rfl] at h; cases h; exact (PySem.W.exm_ref eb_BadHints ed_BadHints et_BadHints s_BadHints_BadHints).trans (congrArg some (by decide))
    rw [if_neg h_BadHints] at h
    cases h
  have sb_PaidError : ∀ z cz, ctb aPaidError aBadNever aBadGoal aBadHints z = some cz → PySem.W.exmOne K cz (.ref aPaidError) = some (sb z "PaidError") := by
    intro z cz h
    unfold ctb at h
    by_cases h_BadNever : z = "BadNever"
    · subst h_BadNever; rw [if_pos rfl] at h; cases h; exact (PySem.W.exm_ref eb_PaidError ed_PaidError et_PaidError s_BadNever_PaidError).trans (congrArg some (by decide))
    rw [if_neg h_BadNever] at h
    by_cases h_BadGoal : z = "BadGoal"
    · subst h_BadGoal; rw [if_pos rfl] at h; cases h; exact (PySem.W.exm_ref eb_PaidError ed_PaidError et_PaidError s_BadGoal_PaidError).trans (congrArg some (by decide))
    rw [if_neg h_BadGoal] at h
    by_cases h_BadHints : z = "BadHints"
    · subst h_BadHints; rw [if_pos rfl] at h; cases h; exact (PySem.W.exm_ref eb_PaidError ed_PaidError et_PaidError s_BadHints_PaidError).trans (congrArg some (by decide))
    rw [if_neg h_BadHints] at h
    cases h
  have M : Md K mg aPaidError aBadNever aBadGoal aBadHints := {
      z_abs := PySem.W.mg_none_of X G z_abs
      z_all := PySem.W.mg_none_of X G z_all
      z_bool := PySem.W.mg_none_of X G z_bool
      z_int := PySem.W.mg_none_of X G z_int
      z_isinstance := PySem.W.mg_none_of X G z_isinstance
      z_len := PySem.W.mg_none_of X G z_len
      z_list := PySem.W.mg_none_of X G z_list
      z_min := PySem.W.mg_none_of X G z_min
      z_range := PySem.W.mg_none_of X G z_range
      z_sorted := PySem.W.mg_none_of X G z_sorted
      z_tuple := PySem.W.mg_none_of X G z_tuple
      z_zip := PySem.W.mg_none_of X G z_zip
      c_LAST_VARIABLE := coI_int (PySem.W.mg_of X G c_LAST_VARIABLE)
      c_LAST_NUMBER := coI_int (PySem.W.mg_of X G c_LAST_NUMBER)
      c_LAST_ROW := coI_int (PySem.W.mg_of X G c_LAST_ROW)
      c_SUMS := coI_int (PySem.W.mg_of X G c_SUMS)
      c_LAST_CLAIM := coI_int (PySem.W.mg_of X G c_LAST_CLAIM)
      c_MOST_HINTS := coI_int (PySem.W.mg_of X G c_MOST_HINTS)
      e_PaidError := ⟨PySem.W.mg_of X G ea_PaidError, ex_PaidError, ek_PaidError, eb_PaidError, et_PaidError, ei_PaidError⟩
      e_BadNever := ⟨PySem.W.mg_of X G ea_BadNever, ex_BadNever, ek_BadNever, eb_BadNever, et_BadNever, ei_BadNever⟩
      e_BadGoal := ⟨PySem.W.mg_of X G ea_BadGoal, ex_BadGoal, ek_BadGoal, eb_BadGoal, et_BadGoal, ei_BadGoal⟩
      e_BadHints := ⟨PySem.W.mg_of X G ea_BadHints, ex_BadHints, ek_BadHints, eb_BadHints, et_BadHints, ei_BadHints⟩
      sb_BadNever := sb_BadNever
      sb_BadGoal := sb_BadGoal
      sb_BadHints := sb_BadHints
      sb_PaidError := sb_PaidError }
  have T : Tx K mg aPaidError aBadNever aBadGoal aBadHints := {
      md := M
      d_is_int := defI_mk X G a_is_int l_is_int c_is_int k_is_int (fun _ _ _ _ _ _ us hl => match us, hl with | [_], _ => rfl) (by intro _ _ _ _ _ _ p hp; simp at hp)
      d_within := defI_mk X G a_within l_within c_within k_within (fun _ _ _ _ _ _ us hl => match us, hl with | [_, _, _], _ => rfl) (by intro _ _ _ _ _ _ p hp; simp at hp)
      d_summed := defI_mk X G a_summed l_summed c_summed k_summed (fun _ _ _ _ _ _ us hl => match us, hl with | [_, _], _ => rfl) (by intro _ _ _ _ _ _ p hp; simp at hp)
      d_is_atom := defI_mk X G a_is_atom l_is_atom c_is_atom k_is_atom (fun _ _ _ _ _ _ us hl => match us, hl with | [_], _ => rfl) (by intro _ _ _ _ _ _ p hp; simp at hp)
      d_is_form := defI_mk X G a_is_form l_is_form c_is_form k_is_form (fun _ _ _ _ _ _ us hl => match us, hl with | [_], _ => rfl) (by intro _ _ _ _ _ _ p hp; simp at hp)
      d_is_floor := defI_mk X G a_is_floor l_is_floor c_is_floor k_is_floor (fun _ _ _ _ _ _ us hl => match us, hl with | [_, _], _ => rfl) (by intro _ _ _ _ _ _ p hp; simp at hp)
      d_is_origin := defI_mk X G a_is_origin l_is_origin c_is_origin k_is_origin (fun _ _ _ _ _ _ us hl => match us, hl with | [_], _ => rfl) (by intro _ _ _ _ _ _ p hp; simp at hp)
      d_is_hint := defI_mk X G a_is_hint l_is_hint c_is_hint k_is_hint (fun _ _ _ _ _ _ us hl => match us, hl with | [_], _ => rfl) (by intro _ _ _ _ _ _ p hp; simp at hp)
      d_need_never := defI_mk X G a_need_never l_need_never c_need_never k_need_never (fun _ _ _ _ _ _ us hl => match us, hl with | [_], _ => rfl) (by intro _ _ _ _ _ _ p hp; simp at hp)
      d_need_goal := defI_mk X G a_need_goal l_need_goal c_need_goal k_need_goal (fun _ _ _ _ _ _ us hl => match us, hl with | [_], _ => rfl) (by intro _ _ _ _ _ _ p hp; simp at hp)
      d_need_hints := defI_mk X G a_need_hints l_need_hints c_need_hints k_need_hints (fun _ _ _ _ _ _ us hl => match us, hl with | [_], _ => rfl) (by intro _ _ _ _ _ _ p hp; simp at hp)
      d_showing_fits := defI_mk X G a_showing_fits l_showing_fits c_showing_fits k_showing_fits (fun _ _ _ _ _ _ us hl => match us, hl with | [_, _], _ => rfl) (by intro _ _ _ _ _ _ p hp; simp at hp)
      d_shows := defI_mk X G a_shows l_shows c_shows k_shows (fun _ _ _ _ _ _ us hl => match us, hl with | [_, _, _, _], _ => rfl) (by intro _ _ _ _ _ _ p hp; simp at hp)
      d_is_shown := defI_mk X G a_is_shown l_is_shown c_is_shown k_is_shown (fun _ _ _ _ _ _ us hl => match us, hl with | [_, _, _, _], _ => rfl) (by
          intro _ _ _ _ _ _ p hp
          simp only [List.mem_cons, List.not_mem_nil, or_false] at hp
          rcases hp with rfl
          · exact fun s ws hl => match ws, hl with | _ :: _ :: _ :: _ :: _, _ => .of_eq rfl)
      d__law_well := defI_mk X G a__law_well l__law_well c__law_well k__law_well (fun _ _ _ _ _ _ us hl => match us, hl with | [_], _ => rfl) (by intro _ _ _ _ _ _ p hp; simp at hp)
      d__law_draw := defI_mk X G a__law_draw l__law_draw c__law_draw k__law_draw (fun _ _ _ _ _ _ us hl => match us, hl with | [_, _], _ => rfl) (by intro _ _ _ _ _ _ p hp; simp at hp)
      d__law_one := defI_mk X G a__law_one l__law_one c__law_one k__law_one (fun _ _ _ _ _ _ us hl => match us, hl with | [_, _], _ => rfl) (by intro _ _ _ _ _ _ p hp; simp at hp)
      d__law_is_int := defI_mk X G a__law_is_int l__law_is_int c__law_is_int k__law_is_int (fun _ _ _ _ _ _ us hl => match us, hl with | [_], _ => rfl) (by intro _ _ _ _ _ _ p hp; simp at hp)
      d__law_rest := defI_mk X G a__law_rest l__law_rest c__law_rest k__law_rest (fun _ _ _ _ _ _ us hl => match us, hl with | [_, _, _, _], _ => rfl) (by intro _ _ _ _ _ _ p hp; simp at hp)
      d__law_shows := defI_mk X G a__law_shows l__law_shows c__law_shows k__law_shows (fun _ _ _ _ _ _ us hl => match us, hl with | [_, _, _, _], _ => rfl) (by intro _ _ _ _ _ _ p hp; simp at hp)
      d__law_by := defI_mk X G a__law_by l__law_by c__law_by k__law_by (fun _ _ _ _ _ _ us hl => match us, hl with | [_], _ => rfl) (by intro _ _ _ _ _ _ p hp; simp at hp)
      d__law_atoms := defI_mk X G a__law_atoms l__law_atoms c__law_atoms k__law_atoms (fun _ _ _ _ _ _ us hl => match us, hl with | [_], _ => rfl) (by intro _ _ _ _ _ _ p hp; simp at hp)
      d__law_drawn_form := defI_mk X G a__law_drawn_form l__law_drawn_form c__law_drawn_form k__law_drawn_form (fun _ _ _ _ _ _ us hl => match us, hl with | [_, _], _ => rfl) (by intro _ _ _ _ _ _ p hp; simp at hp)
      d__law_origin := defI_mk X G a__law_origin l__law_origin c__law_origin k__law_origin (fun _ _ _ _ _ _ us hl => match us, hl with | [_], _ => rfl) (by intro _ _ _ _ _ _ p hp; simp at hp)
      d__law_sum_of := defI_mk X G a__law_sum_of l__law_sum_of c__law_sum_of k__law_sum_of (fun _ _ _ _ _ _ us hl => match us, hl with | [_, _], _ => rfl) (by intro _ _ _ _ _ _ p hp; simp at hp)
      d__law_made := defI_mk X G a__law_made l__law_made c__law_made k__law_made (fun _ _ _ _ _ _ us hl => match us, hl with | [_, _, _], _ => rfl) (by intro _ _ _ _ _ _ p hp; simp at hp)
      d__law_spoilt := defI_mk X G a__law_spoilt l__law_spoilt c__law_spoilt k__law_spoilt (fun _ _ _ _ _ _ us hl => match us, hl with | [_, _, _, _, _, _], _ => rfl) (by intro _ _ _ _ _ _ p hp; simp at hp)
      d__law_long := defI_mk X G a__law_long l__law_long c__law_long k__law_long (fun _ _ _ _ _ _ us hl => match us, hl with | [_], _ => rfl) (by intro _ _ _ _ _ _ p hp; simp at hp)
      d__law_error := defI_mk X G a__law_error l__law_error c__law_error k__law_error (fun _ _ _ _ _ _ us hl => match us, hl with | [_, _, _], _ => rfl) (by intro _ _ _ _ _ _ p hp; simp at hp)
      d__law_errors_right := defI_mk X G a__law_errors_right l__law_errors_right c__law_errors_right k__law_errors_right (fun _ _ _ _ _ _ us hl => match us, hl with | [_, _, _], _ => rfl) (by intro _ _ _ _ _ _ p hp; simp at hp)
      d_law := defI_mk X G a_law l_law c_law k_law (fun _ _ _ _ _ _ us hl => match us, hl with | [_], _ => rfl) (by intro _ _ _ _ _ _ p hp; simp at hp) }
  exact ⟨_, fun s v => .of_eq rfl, fun base _ _ => (law_ok T (fun_mk (st := s_law) l_law c_law k_law)).imp (law_sp law_true)⟩
end K60
open PySem PySem.W PyProof.Rows
set_option maxRecDepth 100000 in
set_option maxHeartbeats 0 in
theorem PySem.Challenge.cw_cellcode_k60_showings_judged_holds : PySem.Challenge.rw_cellcode_k60_showings_judged.Holds := by
  w_on; o_law; k_head; (case hw => w_witness2)
  k_fill
  refine PI.walkM (l := PySem.Challenge.rw_cellcode_k60_showings_judged) (k := 60) rfl rfl ⟨rfl, by decide, by decide⟩ (fun w h Y => PySem.W.kIn_of Y) ?F
  case F =>
    intro w mg fa h KX G hmg
    refine' K60.all_mk KX G hmg ?z_abs ?z_all ?z_bool ?z_int ?z_isinstance ?z_len ?z_list ?z_min ?z_range ?z_sorted ?z_tuple ?z_zip ?c_LAST_VARIABLE ?c_LAST_NUMBER ?c_LAST_ROW ?c_SUMS ?c_LAST_CLAIM ?c_MOST_HINTS ?ea_PaidError ?ex_PaidError ?ek_PaidError ?eb_PaidError ?et_PaidError ?ei_PaidError ?ed_PaidError ?ea_BadNever ?ex_BadNever ?ek_BadNever ?eb_BadNever ?et_BadNever ?ei_BadNever ?ed_BadNever ?ea_BadGoal ?ex_BadGoal ?ek_BadGoal ?eb_BadGoal ?et_BadGoal ?ei_BadGoal ?ed_BadGoal ?ea_BadHints ?ex_BadHints ?ek_BadHints ?eb_BadHints ?et_BadHints ?ei_BadHints ?ed_BadHints ?s_BadNever_BadNever ?s_BadNever_BadGoal ?s_BadNever_BadHints ?s_BadNever_PaidError ?s_BadGoal_BadNever ?s_BadGoal_BadGoal ?s_BadGoal_BadHints ?s_BadGoal_PaidError ?s_BadHints_BadNever ?s_BadHints_BadGoal ?s_BadHints_BadHints ?s_BadHints_PaidError ?a_is_int ?l_is_int ?c_is_int ?k_is_int ?a_within ?l_within ?c_within ?k_within ?a_summed ?l_summed ?c_summed ?k_summed ?a_is_atom ?l_is_atom ?c_is_atom ?k_is_atom ?a_is_form ?l_is_form ?c_is_form ?k_is_form ?a_is_floor ?l_is_floor ?c_is_floor ?k_is_floor ?a_is_origin ?l_is_origin ?c_is_origin ?k_is_origin ?a_is_hint ?l_is_hint ?c_is_hint ?k_is_hint ?a_need_never ?l_need_never ?c_need_never ?k_need_never ?a_need_goal ?l_need_goal ?c_need_goal ?k_need_goal ?a_need_hints ?l_need_hints ?c_need_hints ?k_need_hints ?a_showing_fits ?l_showing_fits ?c_showing_fits ?k_showing_fits ?a_shows ?l_shows ?c_shows ?k_shows ?a_is_shown ?l_is_shown ?c_is_shown ?k_is_shown ?a__law_well ?l__law_well ?c__law_well ?k__law_well ?a__law_draw ?l__law_draw ?c__law_draw ?k__law_draw ?a__law_one ?l__law_one ?c__law_one ?k__law_one ?a__law_is_int ?l__law_is_int ?c__law_is_int ?k__law_is_int ?a__law_rest ?l__law_rest ?c__law_rest ?k__law_rest ?a__law_shows ?l__law_shows ?c__law_shows ?k__law_shows ?a__law_by ?l__law_by ?c__law_by ?k__law_by ?a__law_atoms ?l__law_atoms ?c__law_atoms ?k__law_atoms ?a__law_drawn_form ?l__law_drawn_form ?c__law_drawn_form ?k__law_drawn_form ?a__law_origin ?l__law_origin ?c__law_origin ?k__law_origin ?a__law_sum_of ?l__law_sum_of ?c__law_sum_of ?k__law_sum_of ?a__law_made ?l__law_made ?c__law_made ?k__law_made ?a__law_spoilt ?l__law_spoilt ?c__law_spoilt ?k__law_spoilt ?a__law_long ?l__law_long ?c__law_long ?k__law_long ?a__law_error ?l__law_error ?c__law_error ?k__law_error ?a__law_errors_right ?l__law_errors_right ?c__law_errors_right ?k__law_errors_right ?a_law ?l_law ?c_law ?k_law
    (case z_abs => k_is)
    (case z_all => k_is)
    (case z_bool => k_is)
    (case z_int => k_is)
    (case z_isinstance => k_is)
    (case z_len => k_is)
    (case z_list => k_is)
    (case z_min => k_is)
    (case z_range => k_is)
    (case z_sorted => k_is)
    (case z_tuple => k_is)
    (case z_zip => k_is)
    (case c_LAST_VARIABLE => k_is)
    (case c_LAST_NUMBER => k_is)
    (case c_LAST_ROW => k_is)
    (case c_SUMS => k_is)
    (case c_LAST_CLAIM => k_is)
    (case c_MOST_HINTS => k_is)
    (case ea_PaidError => k_is)
    (case ex_PaidError => k_exc)
    (case ek_PaidError => k_is)
    (case eb_PaidError => k_is)
    (case et_PaidError => k_is)
    (case ei_PaidError => k_is)
    (case ed_PaidError => k_is)
    (case ea_BadNever => k_is)
    (case ex_BadNever => k_exc)
    (case ek_BadNever => k_is)
    (case eb_BadNever => k_is)
    (case et_BadNever => k_is)
    (case ei_BadNever => k_is)
    (case ed_BadNever => k_is)
    (case ea_BadGoal => k_is)
    (case ex_BadGoal => k_exc)
    (case ek_BadGoal => k_is)
    (case eb_BadGoal => k_is)
    (case et_BadGoal => k_is)
    (case ei_BadGoal => k_is)
    (case ed_BadGoal => k_is)
    (case ea_BadHints => k_is)
    (case ex_BadHints => k_exc)
    (case ek_BadHints => k_is)
    (case eb_BadHints => k_is)
    (case et_BadHints => k_is)
    (case ei_BadHints => k_is)
    (case ed_BadHints => k_is)
    (case s_BadNever_BadNever => k_is)
    (case s_BadNever_BadGoal => k_is)
    (case s_BadNever_BadHints => k_is)
    (case s_BadNever_PaidError => k_is)
    (case s_BadGoal_BadNever => k_is)
    (case s_BadGoal_BadGoal => k_is)
    (case s_BadGoal_BadHints => k_is)
    (case s_BadGoal_PaidError => k_is)
    (case s_BadHints_BadNever => k_is)
    (case s_BadHints_BadGoal => k_is)
    (case s_BadHints_BadHints => k_is)
    (case s_BadHints_PaidError => k_is)
    (case a_is_int => k_is)
    (case l_is_int => k_is)
    (case c_is_int => k_is)
    (case k_is_int => k_is)
    (case a_within => k_is)
    (case l_within => k_is)
    (case c_within => k_is)
    (case k_within => k_is)
    (case a_summed => k_is)
    (case l_summed => k_is)
    (case c_summed => k_is)
    (case k_summed => k_is)
    (case a_is_atom => k_is)
    (case l_is_atom => k_is)
    (case c_is_atom => k_is)
    (case k_is_atom => k_is)
    (case a_is_form => k_is)
    (case l_is_form => k_is)
    (case c_is_form => k_is)
    (case k_is_form => k_is)
    (case a_is_floor => k_is)
    (case l_is_floor => k_is)
    (case c_is_floor => k_is)
    (case k_is_floor => k_is)
    (case a_is_origin => k_is)
    (case l_is_origin => k_is)
    (case c_is_origin => k_is)
    (case k_is_origin => k_is)
    (case a_is_hint => k_is)
    (case l_is_hint => k_is)
    (case c_is_hint => k_is)
    (case k_is_hint => k_is)
    (case a_need_never => k_is)
    (case l_need_never => k_is)
    (case c_need_never => k_is)
    (case k_need_never => k_is)
    (case a_need_goal => k_is)
    (case l_need_goal => k_is)
    (case c_need_goal => k_is)
    (case k_need_goal => k_is)
    (case a_need_hints => k_is)
    (case l_need_hints => k_is)
    (case c_need_hints => k_is)
    (case k_need_hints => k_is)
    (case a_showing_fits => k_is)
    (case l_showing_fits => k_is)
    (case c_showing_fits => k_is)
    (case k_showing_fits => k_is)
    (case a_shows => k_is)
    (case l_shows => k_is)
    (case c_shows => k_is)
    (case k_shows => k_is)
    (case a_is_shown => k_is)
    (case l_is_shown => k_is)
    (case c_is_shown => k_is)
    (case k_is_shown => k_is)
    (case a__law_well => k_is)
    (case l__law_well => k_is)
    (case c__law_well => k_is)
    (case k__law_well => k_is)
    (case a__law_draw => k_is)
    (case l__law_draw => k_is)
    (case c__law_draw => k_is)
    (case k__law_draw => k_is)
    (case a__law_one => k_is)
    (case l__law_one => k_is)
    (case c__law_one => k_is)
    (case k__law_one => k_is)
    (case a__law_is_int => k_is)
    (case l__law_is_int => k_is)
    (case c__law_is_int => k_is)
    (case k__law_is_int => k_is)
    (case a__law_rest => k_is)
    (case l__law_rest => k_is)
    (case c__law_rest => k_is)
    (case k__law_rest => k_is)
    (case a__law_shows => k_is)
    (case l__law_shows => k_is)
    (case c__law_shows => k_is)
    (case k__law_shows => k_is)
    (case a__law_by => k_is)
    (case l__law_by => k_is)
    (case c__law_by => k_is)
    (case k__law_by => k_is)
    (case a__law_atoms => k_is)
    (case l__law_atoms => k_is)
    (case c__law_atoms => k_is)
    (case k__law_atoms => k_is)
    (case a__law_drawn_form => k_is)
    (case l__law_drawn_form => k_is)
    (case c__law_drawn_form => k_is)
    (case k__law_drawn_form => k_is)
    (case a__law_origin => k_is)
    (case l__law_origin => k_is)
    (case c__law_origin => k_is)
    (case k__law_origin => k_is)
    (case a__law_sum_of => k_is)
    (case l__law_sum_of => k_is)
    (case c__law_sum_of => k_is)
    (case k__law_sum_of => k_is)
    (case a__law_made => k_is)
    (case l__law_made => k_is)
    (case c__law_made => k_is)
    (case k__law_made => k_is)
    (case a__law_spoilt => k_is)
    (case l__law_spoilt => k_is)
    (case c__law_spoilt => k_is)
    (case k__law_spoilt => k_is)
    (case a__law_long => k_is)
    (case l__law_long => k_is)
    (case c__law_long => k_is)
    (case k__law_long => k_is)
    (case a__law_error => k_is)
    (case l__law_error => k_is)
    (case c__law_error => k_is)
    (case k__law_error => k_is)
    (case a__law_errors_right => k_is)
    (case l__law_errors_right => k_is)
    (case c__law_errors_right => k_is)
    (case k__law_errors_right => k_is)
    (case a_law => k_is)
    (case l_law => k_is)
    (case c_law => k_is)
    (case k_law => k_is)
