import PyProof.Rows.All
import Wide.All
import OpenK.AllK
import Wide.FinOn
import HandS.ForMost
import HandS.ForExc
import HandS.TryMany
import HandS.Gcd
import HandS.Wide
import HandS.IsInst
import HandS.Flow
import HandS.TupAny
import HandS.ExcIs
import PySem.Challenge.RW_cellcode_k64_points_and_papers
import HandS.Zip
import HandS.Iter
import HandS.Deep
import HandS.Text
import HandS.Dict
import HandS.TupMul
import HandS.More
import HandS.SortInts
import HandS.DictTup
import KE.SortData
import KE.KDictSum
import KE.KDictCopyH
import HandS.ExcValue
import HandS.TupLe
import HandS.TryOnly
import PyProof.EnumMake
import KE.GoesMore
set_option Elab.async false
set_option linter.all false
set_option backward.match.sparseCases false
set_option maxRecDepth 100000
set_option maxHeartbeats 1000000
/-! A mirror of the language: values without addresses, a heap of one's own, and what it means that a reading is mirrored. -/
namespace PI
open PySem PySem.Spec L2
open PyProof.Rows hiding St

inductive D where
  | non | bl (b : Bool) | int (i : Int) | str (x : Str)
  | tup (xs : List D) | rot (xs : List D) | rol (xs : List D) | ref (i : Nat) | ex (a : Addr)
  deriving Inhabited

inductive Ob where
  | lst (xs : List D)
  | dct (kvs : List (Key × D))
  | dctT (kvs : List (List Key × D))
  /-- while it is walked -/
  | dlk (kvs : List (Key × D))
  | dlkT (kvs : List (List Key × D))
  deriving Inhabited
def Ob.lk : Ob → Bool
  | .dlk _ => true
  | .dlkT _ => true
  | _ => false

abbrev Hh := List Ob
abbrev Rho := List (Option D)
structure Exn where
  cls : Str
  fs : List (Str × D) := []

inductive Out (α : Type) where
  | ok (a : α) (h : Hh)
  | err (x : Exn) (h : Hh)
  | bad

inductive OutS where
  | nx (ρ : Rho) (h : Hh)
  | rt (d : D) (h : Hh)
  | bk (ρ : Rho) (h : Hh)
  | ct (ρ : Rho) (h : Hh)
  | er (x : Exn) (ρ : Rho) (h : Hh)
  | bad

abbrev ME := Rho → Hh → Out D
abbrev MA := Rho → Hh → Out (List D)
abbrev MT := Rho → Hh → Out Bool
abbrev MS := Rho → Hh → OutS
abbrev FnM := List D → Hh → Out D

/-- a list that is only read: locked, or of the written part -/
def RoL (K : PySem.W.Frag) (H : Hp) (a : Addr) (xs : List V) : Prop :=
  (∃ o, H a = some (.frz o (.lst xs))) ∨
    ∃ (o : Obj) (its : Array Value) (n : Nat), K.lookup a = some o ∧ o.cls = .type "list" ∧ o.dict = none ∧ o.data = .seq its n ∧ its.size ≤ sizeLine ∧ Vals xs its.toList

theorem RoL.sq {K : PySem.W.Frag} {H : Hp} {a : Addr} {xs : List V} (h : RoL K H a xs) : SqL K H a xs := by
  rcases h with ⟨o, h⟩ | h
  · exact .inl (.inr ⟨o, h⟩)
  · exact .inr h

mutual
def Den (K : PySem.W.Frag) (μ : List Addr) (H : Hp) : D → V → Prop
  | .non, v => v = .non
  | .bl b, v => v = .bl b
  | .int i, v => v = .int i
  | .str x, v => v = .str x
  | .tup ds, v => ∃ a vs, v = .ref a ∧ H a = some (.tup vs) ∧ Dens K μ H ds vs
  | .rot ds, v => ∃ a vs, v = .ref a ∧ SqT K H a vs ∧ Dens K μ H ds vs
  | .rol ds, v => ∃ a vs, v = .ref a ∧ RoL K H a vs ∧ Dens K μ H ds vs
  | .ref i, v => ∃ a, v = .ref a ∧ μ[i]? = some a
  | .ex a, v => v = .ref a
def Dens (K : PySem.W.Frag) (μ : List Addr) (H : Hp) : List D → List V → Prop
  | [], vs => vs = []
  | d :: ds, vs => ∃ v vr, vs = v :: vr ∧ Den K μ H d v ∧ Dens K μ H ds vr
end

structure Step (μ : List Addr) (H : Hp) (μ' : List Addr) (H' : Hp) : Prop where
  ext : ∃ l, μ' = μ ++ l
  tup : ∀ a xs, H a = some (.tup xs) → H' a = some (.tup xs)
  frz : ∀ a o u, H a = some (.frz o u) → H' a = some (.frz o u)
  xd : ∀ a fs, H a = some (.xd fs) → H' a = some (.xd fs)

section
variable {K : PySem.W.Frag} {μ μ' μ1 μ2 : List Addr} {H H' H1 H2 : Hp}
theorem Step.refl : Step μ H μ H := ⟨⟨[], by simp⟩, fun _ _ h => h, fun _ _ _ h => h, fun _ _ h => h⟩
theorem Step.trans (a : Step μ H μ1 H1) (b : Step μ1 H1 μ2 H2) : Step μ H μ2 H2 := by
  obtain ⟨l, rfl⟩ := a.ext
  obtain ⟨m, rfl⟩ := b.ext
  exact ⟨⟨l ++ m, by simp⟩, fun x y h => b.tup _ _ (a.tup x y h), fun x o u h => b.frz _ _ _ (a.frz x o u h), fun x y h => b.xd _ _ (a.xd x y h)⟩
theorem Step.get (a : Step μ H μ1 H1) {i : Nat} {p : Addr} (h : μ[i]? = some p) : μ1[i]? = some p := by
  obtain ⟨l, rfl⟩ := a.ext
  have hi : i < μ.length := (List.getElem?_eq_some_iff.mp h).1
  rw [List.getElem?_append_left hi]
  exact h
theorem Step.new {p : Addr} {o : HO} (h : H p = none) : Step μ H μ (upd H p o) :=
  ⟨⟨[], by simp⟩, fun a xs e => by rw [upd_ne (ne_of_none e h)]; exact e, fun a o u e => by rw [upd_ne (ne_of_none e h)]; exact e, fun a xs e => by rw [upd_ne (ne_of_none e h)]; exact e⟩
theorem Step.newT {p : Addr} {o : HO} (h : H p = none) : Step μ H (μ ++ [p]) (upd H p o) :=
  ⟨⟨[p], rfl⟩, fun a xs e => by rw [upd_ne (ne_of_none e h)]; exact e, fun a o u e => by rw [upd_ne (ne_of_none e h)]; exact e, fun a xs e => by rw [upd_ne (ne_of_none e h)]; exact e⟩
theorem Step.set {p : Addr} {o u : HO} (h : H p = some o) (hl : ∀ xs, o ≠ .tup xs) (hf : ∀ x y, o ≠ .frz x y) (hx : ∀ fs, o ≠ .xd fs) : Step μ H μ (upd H p u) :=
  ⟨⟨[], by simp⟩, fun a xs e => by rw [upd_ne (ne_of e h (fun z => hl _ z.symm))]; exact e, fun a x y e => by rw [upd_ne (ne_of e h (fun z => hf _ _ z.symm))]; exact e, fun a xs e => by rw [upd_ne (ne_of e h (fun z => hx _ z.symm))]; exact e⟩
theorem Step.sqT (s : Step μ H μ1 H1) {a : Addr} {xs : List V} (h : SqT K H a xs) : SqT K H1 a xs := by
  rcases h with (h | ⟨o, h⟩) | h
  · exact .inl (.inl (s.tup _ _ h))
  · exact .inl (.inr ⟨o, s.frz _ _ _ h⟩)
  · exact .inr h
theorem Step.roL (s : Step μ H μ1 H1) {a : Addr} {xs : List V} (h : RoL K H a xs) : RoL K H1 a xs := by
  rcases h with ⟨o, h⟩ | h
  · exact .inl ⟨o, s.frz _ _ _ h⟩
  · exact .inr h
mutual
theorem Den.mono (s : Step μ H μ1 H1) : ∀ {d : D} {v : V}, Den K μ H d v → Den K μ1 H1 d v
  | .non, _, h => h
  | .bl _, _, h => h
  | .int _, _, h => h
  | .str _, _, h => h
  | .tup ds, _, h => by
    obtain ⟨a, vs, e, q, r⟩ := h
    exact ⟨a, vs, e, s.tup _ _ q, Dens.mono s r⟩
  | .rot ds, _, h => by
    obtain ⟨a, vs, e, q, r⟩ := h
    exact ⟨a, vs, e, s.sqT q, Dens.mono s r⟩
  | .rol ds, _, h => by
    obtain ⟨a, vs, e, q, r⟩ := h
    exact ⟨a, vs, e, s.roL q, Dens.mono s r⟩
  | .ref i, _, h => by
    obtain ⟨a, e, q⟩ := h
    exact ⟨a, e, s.get q⟩
  | .ex _, _, h => h
theorem Dens.mono (s : Step μ H μ1 H1) : ∀ {ds : List D} {vs : List V}, Dens K μ H ds vs → Dens K μ1 H1 ds vs
  | [], _, h => h
  | d :: ds, _, h => by
    obtain ⟨v, vr, e, q, r⟩ := h
    exact ⟨v, vr, e, Den.mono s q, Dens.mono s r⟩
end
theorem Dens.length : ∀ {ds : List D} {vs : List V}, Dens K μ H ds vs → vs.length = ds.length
  | [], _, h => by
    have h : _ = [] := h
    rw [h]; rfl
  | d :: ds, _, h => by
    obtain ⟨v, vr, rfl, q, r⟩ := h
    simp [Dens.length r]
theorem Dens.get : ∀ {ds : List D} {vs : List V} {i : Nat} {d : D}, Dens K μ H ds vs → ds[i]? = some d → ∃ v, vs[i]? = some v ∧ Den K μ H d v
  | [], _, _, _, _, e => by simp at e
  | d :: ds, _, 0, x, h, e => by
    obtain ⟨v, vr, rfl, q, r⟩ := h
    simp at e
    subst e
    exact ⟨v, rfl, q⟩
  | d :: ds, _, i + 1, x, h, e => by
    obtain ⟨v, vr, rfl, q, r⟩ := h
    obtain ⟨w, e1, e2⟩ := Dens.get r (i := i) (by simpa using e)
    exact ⟨w, by simpa using e1, e2⟩
theorem Dens.append : ∀ {ds es : List D} {vs ws : List V}, Dens K μ H ds vs → Dens K μ H es ws → Dens K μ H (ds ++ es) (vs ++ ws)
  | [], _, _, _, h, g => by
    have h : _ = [] := h
    rw [h]; exact g
  | d :: ds, _, _, _, h, g => by
    obtain ⟨v, vr, rfl, q, r⟩ := h
    exact ⟨v, _, rfl, q, Dens.append r g⟩
theorem Dens.set {x : D} {v : V} (hx : Den K μ H x v) : ∀ {ds : List D} {vs : List V} (i : Nat), Dens K μ H ds vs → Dens K μ H (ds.set i x) (vs.set i v)
  | [], _, _, h => by
    have h : _ = [] := h
    rw [h]; rfl
  | d :: ds, _, 0, h => by
    obtain ⟨w, vr, rfl, q, r⟩ := h
    exact ⟨v, vr, rfl, hx, r⟩
  | d :: ds, _, i + 1, h => by
    obtain ⟨w, vr, rfl, q, r⟩ := h
    exact ⟨w, _, rfl, q, Dens.set hx i r⟩
theorem Dens.take : ∀ {ds : List D} {vs : List V} (n : Nat), Dens K μ H ds vs → Dens K μ H (ds.take n) (vs.take n)
  | _, _, 0, _ => by simp [Dens]
  | [], _, n + 1, h => by
    have h : _ = [] := h
    rw [h]; rfl
  | d :: ds, _, n + 1, h => by
    obtain ⟨v, vr, rfl, q, r⟩ := h
    exact ⟨v, _, rfl, q, Dens.take n r⟩
theorem Dens.drop : ∀ {ds : List D} {vs : List V} (n : Nat), Dens K μ H ds vs → Dens K μ H (ds.drop n) (vs.drop n)
  | _, _, 0, h => by simpa using h
  | [], _, n + 1, h => by
    have h : _ = [] := h
    rw [h]; rfl
  | d :: ds, _, n + 1, h => by
    obtain ⟨v, vr, rfl, q, r⟩ := h
    exact Dens.drop n r
theorem Dens.ints : ∀ ns : List Int, Dens K μ H (ns.map D.int) (ns.map V.int)
  | [] => rfl
  | n :: ns => ⟨_, _, rfl, rfl, Dens.ints ns⟩
end

/-- an own object as it stands at a -/
def OR (K : PySem.W.Frag) (μ : List Addr) (H : Hp) (a : Addr) : Ob → Prop
  | .lst ds => ∃ vs, H a = some (.lst vs) ∧ Dens K μ H ds vs
  | .dct kvs => ∃ kws, H a = some (.dK kws) ∧ kws.map (·.1) = kvs.map (·.1) ∧ Dens K μ H (kvs.map (·.2)) (kws.map (·.2))
  | .dctT kvs => ∃ kws, H a = some (.dT kws) ∧ kws.map (·.1) = kvs.map (·.1) ∧ Dens K μ H (kvs.map (·.2)) (kws.map (·.2))
  | .dlk kvs => ∃ o kws, H a = some (.frz o (.dK kws)) ∧ kws.map (·.1) = kvs.map (·.1) ∧ Dens K μ H (kvs.map (·.2)) (kws.map (·.2))
  | .dlkT kvs => ∃ o kws, H a = some (.frz o (.dT kws)) ∧ kws.map (·.1) = kvs.map (·.1) ∧ Dens K μ H (kvs.map (·.2)) (kws.map (·.2))

structure RelH (K : PySem.W.Frag) (μ : List Addr) (H : Hp) (h : Hh) : Prop where
  len : μ.length = h.length
  dis : ∀ (i j : Nat) (a : Addr), μ[i]? = some a → μ[j]? = some a → i = j
  obj : ∀ (i : Nat) (o : Ob), h[i]? = some o → ∃ a, μ[i]? = some a ∧ OR K μ H a o

structure RelS (K : PySem.W.Frag) (μ : List Addr) (H : Hp) (ρ : Rho) (σ : L2.St) : Prop where
  len : ρ.length = σ.length
  get : ∀ (i : Nat) (d : D), ρ[i]? = some (some d) → ∃ v, σ[i]? = some (some v) ∧ Den K μ H d v

section
variable {K : PySem.W.Frag} {μ μ' μ1 μ2 : List Addr} {H H' H1 H2 : Hp} {h h' : Hh} {ρ : Rho} {σ : L2.St}
theorem OR.some {a : Addr} {o : Ob} (x : OR K μ H a o) : ∃ u, H a = some u ∧ (o.lk = false → (∀ xs, u ≠ .tup xs) ∧ (∀ p q, u ≠ .frz p q) ∧ (∀ fs, u ≠ .xd fs)) := by
  cases o with
  | lst ds => obtain ⟨vs, e, _⟩ := x; exact ⟨_, e, fun _ => ⟨fun _ z => (by cases z), fun _ _ z => (by cases z), fun _ z => (by cases z)⟩⟩
  | dct ds => obtain ⟨vs, e, _⟩ := x; exact ⟨_, e, fun _ => ⟨fun _ z => (by cases z), fun _ _ z => (by cases z), fun _ z => (by cases z)⟩⟩
  | dctT ds => obtain ⟨vs, e, _⟩ := x; exact ⟨_, e, fun _ => ⟨fun _ z => (by cases z), fun _ _ z => (by cases z), fun _ z => (by cases z)⟩⟩
  | dlk ds => obtain ⟨o, vs, e, _⟩ := x; exact ⟨_, e, fun z => by cases z⟩
  | dlkT ds => obtain ⟨o, vs, e, _⟩ := x; exact ⟨_, e, fun z => by cases z⟩
/-- an object that stands as it stood -/
theorem OR.mono {a : Addr} {o : Ob} (s : Step μ H μ1 H1) (e : H1 a = H a) (x : OR K μ H a o) : OR K μ1 H1 a o := by
  cases o with
  | lst ds => obtain ⟨vs, e1, d⟩ := x; exact ⟨vs, e.trans e1, d.mono s⟩
  | dct ds => obtain ⟨vs, e1, e2, d⟩ := x; exact ⟨vs, e.trans e1, e2, d.mono s⟩
  | dctT ds => obtain ⟨vs, e1, e2, d⟩ := x; exact ⟨vs, e.trans e1, e2, d.mono s⟩
  | dlk ds => obtain ⟨o, vs, e1, e2, d⟩ := x; exact ⟨o, vs, e.trans e1, e2, d.mono s⟩
  | dlkT ds => obtain ⟨o, vs, e1, e2, d⟩ := x; exact ⟨o, vs, e.trans e1, e2, d.mono s⟩
theorem RelS.mono (s : Step μ H μ1 H1) (r : RelS K μ H ρ σ) : RelS K μ1 H1 ρ σ :=
  ⟨r.len, fun i d e => let ⟨v, h1, h2⟩ := r.get i d e; ⟨v, h1, h2.mono s⟩⟩
theorem RelS.set {i : Nat} {d : D} {v : V} (r : RelS K μ H ρ σ) (hd : Den K μ H d v) : RelS K μ H (ρ.set i (some d)) (σ.set i (some v)) := by
  refine ⟨by simp [r.len], fun j e hj => ?_⟩
  by_cases hij : i = j
  · subst hij
    have hl : i < ρ.length := by
      by_cases hl : i < ρ.length
      · exact hl
      · rw [List.getElem?_eq_none (by simp; omega)] at hj
        cases hj
    rw [List.getElem?_set_self hl] at hj
    cases hj
    exact ⟨v, by rw [List.getElem?_set_self (by rw [← r.len]; exact hl)], hd⟩
  · rw [List.getElem?_set_ne hij] at hj
    obtain ⟨w, h1, h2⟩ := r.get j e hj
    exact ⟨w, by rw [List.getElem?_set_ne hij]; exact h1, h2⟩
theorem RelS.clear {i : Nat} (r : RelS K μ H ρ σ) : RelS K μ H (ρ.set i none) (σ.set i none) := by
  refine ⟨by simp [r.len], fun j e hj => ?_⟩
  by_cases hij : i = j
  · subst hij
    by_cases hl : i < ρ.length
    · rw [List.getElem?_set_self hl] at hj; cases hj
    · rw [List.getElem?_eq_none (by simp; omega)] at hj; cases hj
  · rw [List.getElem?_set_ne hij] at hj
    obtain ⟨w, h1, h2⟩ := r.get j e hj
    exact ⟨w, by rw [List.getElem?_set_ne hij]; exact h1, h2⟩
theorem RelS.wipe (r : RelS K μ H ρ σ) {i : Nat} {x : Option V} : RelS K μ H (ρ.set i none) (σ.set i x) := by
  refine ⟨by simp [r.len], fun j e hj => ?_⟩
  by_cases hij : i = j
  · subst hij
    by_cases hl : i < ρ.length
    · rw [List.getElem?_set_self hl] at hj; cases hj
    · rw [List.getElem?_eq_none (by simp; omega)] at hj; cases hj
  · rw [List.getElem?_set_ne hij] at hj
    obtain ⟨w, h1, h2⟩ := r.get j e hj
    exact ⟨w, by rw [List.getElem?_set_ne hij]; exact h1, h2⟩
theorem RelH.notin (r : RelH K μ H h) {p : Addr} (hp : H p = none) (i : Nat) : μ[i]? ≠ some p := by
  intro e
  have hi : i < h.length := by rw [← r.len]; exact (List.getElem?_eq_some_iff.mp e).1
  obtain ⟨a, e1, x⟩ := r.obj i h[i] (List.getElem?_eq_getElem hi)
  rw [e] at e1
  cases e1
  obtain ⟨u, e2, _⟩ := x.some
  rw [hp] at e2
  cases e2
/-- a new thing that is not tracked by us -/
theorem RelH.new (r : RelH K μ H h) {p : Addr} {o : HO} (hp : H p = none) : RelH K μ (upd H p o) h :=
  ⟨r.len, r.dis, fun i o' e => by
    obtain ⟨a, e1, x⟩ := r.obj i o' e
    refine ⟨a, e1, x.mono (Step.new hp) ?_⟩
    rw [upd_ne (fun z => r.notin hp i (by rw [e1, z]))]⟩
/-- a new object of our heap -/
theorem RelH.push (r : RelH K μ H h) {p : Addr} {o : HO} {ob : Ob} (hp : H p = none) (new : OR K (μ ++ [p]) (upd H p o) p ob) : RelH K (μ ++ [p]) (upd H p o) (h ++ [ob]) := by
  refine ⟨by simp [r.len], fun i j a e1 e2 => ?_, fun i o' e => ?_⟩
  · by_cases h1 : i < μ.length
    · rw [List.getElem?_append_left h1] at e1
      by_cases h2 : j < μ.length
      · rw [List.getElem?_append_left h2] at e2
        exact r.dis i j a e1 e2
      · rw [List.getElem?_append_right (by omega)] at e2
        have : a = p := by
          cases q : j - μ.length with
          | zero => rw [q] at e2; simpa using e2.symm
          | succ n => rw [q] at e2; simp at e2
        subst this
        exact absurd e1 (r.notin hp i)
    · rw [List.getElem?_append_right (by omega)] at e1
      have ea : a = p := by
        cases q : i - μ.length with
        | zero => rw [q] at e1; simpa using e1.symm
        | succ n => rw [q] at e1; simp at e1
      subst ea
      by_cases h2 : j < μ.length
      · rw [List.getElem?_append_left h2] at e2
        exact absurd e2 (r.notin hp j)
      · have l1 : i < (μ ++ [a]).length := by
          by_cases z : i < (μ ++ [a]).length
          · exact z
          · have : i - μ.length ≥ 1 := by simp at z; omega
            rw [List.getElem?_eq_none (by simpa using this)] at e1
            cases e1
        have l2 : j < (μ ++ [a]).length := (List.getElem?_eq_some_iff.mp e2).1
        simp at l1 l2
        omega
  · by_cases h1 : i < h.length
    · rw [List.getElem?_append_left h1] at e
      obtain ⟨a, e1, x⟩ := r.obj i o' e
      refine ⟨a, (Step.newT (o := o) hp).get e1, x.mono (Step.newT hp) ?_⟩
      rw [upd_ne (fun z => r.notin hp i (by rw [e1, z]))]
    · rw [List.getElem?_append_right (by omega)] at e
      have hq : i - h.length = 0 := by
        cases q : i - h.length with
        | zero => rfl
        | succ n => rw [q] at e; simp at e
      rw [hq] at e
      have eo : ob = o' := by simpa using e
      subst eo
      have ei : i = μ.length := by rw [r.len]; omega
      subst ei
      exact ⟨p, by simp, new⟩
/-- an object of our heap changes -/
theorem RelH.put (r : RelH K μ H h) {i : Nat} {p : Addr} {o : HO} {ob ob0 : Ob} (hi : h[i]? = some ob0) (hp : μ[i]? = some p) (new : OR K μ (upd H p o) p ob) (hl : ob0.lk = false := by rfl) : RelH K μ (upd H p o) (h.set i ob) := by
  obtain ⟨a, ea, x⟩ := r.obj i ob0 hi
  rw [hp] at ea
  cases ea
  obtain ⟨u, eu, nn⟩ := x.some
  obtain ⟨n1, n2, n3⟩ := nn hl
  have st : Step μ H μ (upd H p o) := Step.set eu n1 n2 n3
  refine ⟨by simp [r.len], r.dis, fun j o' e => ?_⟩
  by_cases hij : i = j
  · subst hij
    rw [List.getElem?_set_self (List.getElem?_eq_some_iff.mp hi).1] at e
    cases e
    exact ⟨p, hp, new⟩
  · rw [List.getElem?_set_ne hij] at e
    obtain ⟨b, e1, y⟩ := r.obj j o' e
    refine ⟨b, e1, y.mono st ?_⟩
    rw [upd_ne (fun z => hij (r.dis i j p hp (by rw [e1, z])))]
/-- objects behind may be forgotten -/
theorem Den.cut : True := trivial
end
end PI
/-! What it means that a reading is mirrored; expressions. -/
namespace PI
open PySem PySem.Spec L2
open PyProof.Rows hiding St

def Out.bind {α β : Type} (o : Out α) (f : α → Hh → Out β) : Out β := match o with
  | .ok a h => f a h
  | .err x h => .err x h
  | .bad => .bad
def Out.ofO {α : Type} : Option (α × Hh) → Out α
  | some (a, h) => .ok a h
  | none => .bad
@[simp] theorem Out.bind_ok {α β : Type} {a : α} {h : Hh} {f : α → Hh → Out β} : (Out.ok a h).bind f = f a h := rfl
@[simp] theorem Out.bind_err {α β : Type} {x : Exn} {h : Hh} {f : α → Hh → Out β} : (Out.err x h : Out α).bind f = .err x h := rfl
@[simp] theorem Out.bind_bad {α β : Type} {f : α → Hh → Out β} : (Out.bad : Out α).bind f = .bad := rfl
@[simp] theorem Out.ofO_some {α : Type} {a : α} {h : Hh} : Out.ofO (some (a, h)) = .ok a h := rfl
@[simp] theorem Out.ofO_none {α : Type} : (Out.ofO none : Out α) = .bad := rfl

abbrev Ctb := Str → Option Value
/-- how an exception of ours looks -/
def ExcR (K : PySem.W.Frag) (ct : Ctb) (μ : List Addr) (H : Hp) (x : Exn) (cls : Value) (d : Option Addr) : Prop :=
  ct x.cls = some cls ∧ ((x.fs = [] ∧ d = none) ∨ (x.fs ≠ [] ∧ ∃ dd ws, d = some dd ∧ H dd = some (.xd ws) ∧ ws.map (·.1) = x.fs.map (·.1) ∧ Dens K μ H (x.fs.map (·.2)) (ws.map (·.2))))

section
variable (K : PySem.W.Frag) (ct : Ctb) (W : WX) (σ : L2.St)
def PO {α : Type} (μ : List Addr) (H : Hp) (R : α → Hh → List Addr → Hp → Prop) : Out α → Prop
  | .ok a h' => ∀ μ' H', Step μ H μ' H' → RelH K μ' H' h' → R a h' μ' H'
  | .err x h' => ∀ μ' H' cls d, Step μ H μ' H' → RelH K μ' H' h' → ExcR K ct μ' H' x cls d → W cls d σ H'
  | .bad => False
def POo {α : Type} (μ : List Addr) (H : Hp) (R : α → Hh → List Addr → Hp → Prop) : Option (α × Hh) → Prop
  | some (a, h') => ∀ μ' H', Step μ H μ' H' → RelH K μ' H' h' → R a h' μ' H'
  | none => False
end
section
variable {K : PySem.W.Frag} {ct : Ctb} {W : WX} {σ : L2.St} {μ μ1 : List Addr} {H H1 : Hp} {α β : Type} {R R' : α → Hh → List Addr → Hp → Prop}
theorem PO.step (s : Step μ H μ1 H1) {o : Out α} (p : PO K ct W σ μ H R o) : PO K ct W σ μ1 H1 R o := by
  cases o with
  | ok a h => exact fun μ' H' s' r => p μ' H' (s.trans s') r
  | err x h => exact fun μ' H' c d s' r e => p μ' H' c d (s.trans s') r e
  | bad => exact p
theorem PO.mono {o : Out α} (p : PO K ct W σ μ H R o) (i : ∀ a h' μ' H', Step μ H μ' H' → RelH K μ' H' h' → R a h' μ' H' → R' a h' μ' H') : PO K ct W σ μ H R' o := by
  cases o with
  | ok a h => exact fun μ' H' s' r => i a h μ' H' s' r (p μ' H' s' r)
  | err x h => exact p
  | bad => exact p
theorem PO.bind {o : Out α} {f : α → Hh → Out β} {R : β → Hh → List Addr → Hp → Prop} (p : PO K ct W σ μ H R (o.bind f)) :
    PO K ct W σ μ H (fun a h1 μ1 H1 => PO K ct W σ μ1 H1 R (f a h1)) o := by
  cases o with
  | ok a h => exact fun μ' H' s' r => PO.step s' (show PO K ct W σ μ H R (f a h) from p)
  | err x h => exact p
  | bad => exact p
theorem PO.ofO {o : Option (α × Hh)} (p : PO K ct W σ μ H R (Out.ofO o)) : POo K μ H R o := by
  cases o with
  | none => exact p
  | some a => obtain ⟨a, h⟩ := a; exact p
theorem POo.mono {o : Option (α × Hh)} (p : POo K μ H R o) (i : ∀ a h' μ' H', Step μ H μ' H' → RelH K μ' H' h' → R a h' μ' H' → R' a h' μ' H') : POo K μ H R' o := by
  cases o with
  | none => exact p
  | some a => obtain ⟨a, h⟩ := a; exact fun μ' H' s r => i _ _ _ _ s r (p μ' H' s r)
end

/-! ### mirrored readings -/
section
variable (K : PySem.W.Frag) (ct : Ctb) (W : WX)
def rdE (m : ME) : TE := fun σ H Q => ∃ μ ρ h, RelS K μ H ρ σ ∧ RelH K μ H h ∧ PO K ct W σ μ H (fun d _ μ' H' => ∀ v, Den K μ' H' d v → Q v H') (m ρ h)
def rdA (m : MA) : TA := fun σ H Q => ∃ μ ρ h, RelS K μ H ρ σ ∧ RelH K μ H h ∧ PO K ct W σ μ H (fun d _ μ' H' => ∀ v, Dens K μ' H' d v → Q v H') (m ρ h)
def rdT (m : MT) : TT := fun σ H Q => ∃ μ ρ h, RelS K μ H ρ σ ∧ RelH K μ H h ∧ PO K ct W σ μ H (fun b _ _ H' => Q b H') (m ρ h)
def rdS (m : MS) : TS := fun D σ H => ∃ μ ρ h, RelS K μ H ρ σ ∧ RelH K μ H h ∧ match m ρ h with
  | .nx ρ' h' => ∀ μ' H' σ', Step μ H μ' H' → RelH K μ' H' h' → RelS K μ' H' ρ' σ' → D.nx σ' H'
  | .bk ρ' h' => ∀ μ' H' σ', Step μ H μ' H' → RelH K μ' H' h' → RelS K μ' H' ρ' σ' → D.bk σ' H'
  | .ct ρ' h' => ∀ μ' H' σ', Step μ H μ' H' → RelH K μ' H' h' → RelS K μ' H' ρ' σ' → D.ct σ' H'
  | .rt d h' => ∀ μ' H' v, Step μ H μ' H' → RelH K μ' H' h' → Den K μ' H' d v → D.rt v H'
  | .er x ρ' h' => ∀ μ' H' σ' cls d, Step μ H μ' H' → RelH K μ' H' h' → RelS K μ' H' ρ' σ' → ExcR K ct μ' H' x cls d → W cls d σ' H'
  | .bad => False
/-- values in, one value out -/
def r1 (g : D → Hh → Option (D × Hh)) : V → Hp → VK → Prop := fun x H Q => ∃ μ h a, Den K μ H a x ∧ RelH K μ H h ∧ POo K μ H (fun d _ μ' H' => ∀ v, Den K μ' H' d v → Q v H') (g a h)
def r2 (g : D → D → Hh → Option (D × Hh)) : R2 := fun x y H Q => ∃ μ h a b, Den K μ H a x ∧ Den K μ H b y ∧ RelH K μ H h ∧ POo K μ H (fun d _ μ' H' => ∀ v, Den K μ' H' d v → Q v H') (g a b h)
def rN (g : List D → Hh → Option (D × Hh)) : List V → Hp → VK → Prop := fun xs H Q => ∃ μ h as, Dens K μ H as xs ∧ RelH K μ H h ∧ POo K μ H (fun d _ μ' H' => ∀ v, Den K μ' H' d v → Q v H') (g as h)
end
abbrev SE (X : Cx) (ct : Ctb) (W : WX) (e : Expr) (m : ME) : Prop := PE X e (rdE X.K ct W m)
abbrev SA (X : Cx) (ct : Ctb) (W : WX) (es : List Expr) (m : MA) : Prop := PA X es (rdA X.K ct W m)
abbrev ST (X : Cx) (ct : Ctb) (W : WX) (e : Expr) (m : MT) : Prop := PT X e (rdT X.K ct W m)
abbrev SS (X : Cx) (ct : Ctb) (W : WX) (s : Stmt) (m : MS) : Prop := PS X s (rdS X.K ct W m)
abbrev SSs (X : Cx) (ct : Ctb) (W : WX) (s : List Stmt) (m : MS) : Prop := PSs X s (rdS X.K ct W m)

section
variable {X : Cx} {ct : Ctb} {W : WX}
theorem _root_.L2.PE.imp {e : Expr} {t t' : TE} (h : PE X e t) (i : ∀ σ H Q, t' σ H Q → t σ H Q) : PE X e t' := ⟨fun pins s σ H Q I q => h.run pins s σ H Q I (i σ H Q q)⟩
theorem _root_.L2.PA.imp {e : List Expr} {t t' : TA} (h : PA X e t) (i : ∀ σ H Q, t' σ H Q → t σ H Q) : PA X e t' := ⟨fun pos pins s σ H Q I q => h.run pos pins s σ H Q I (i σ H Q q)⟩
theorem _root_.L2.PT.imp {e : Expr} {t t' : TT} (h : PT X e t) (i : ∀ σ H Q, t' σ H Q → t σ H Q) : PT X e t' := ⟨fun pins s σ H Q I q => h.run pins s σ H Q I (i σ H Q q)⟩
theorem _root_.L2.PS.imp {e : Stmt} {t t' : TS} (h : PS X e t) (i : ∀ D σ H, t' D σ H → t D σ H) : PS X e t' := ⟨fun pins s σ H D I q => h.run pins s σ H D I (i D σ H q)⟩
theorem _root_.L2.PSs.imp {e : List Stmt} {t t' : TS} (h : PSs X e t) (i : ∀ D σ H, t' D σ H → t D σ H) : PSs X e t' := ⟨fun pins s σ H D I q => h.run pins s σ H D I (i D σ H q)⟩

/-- the first part of a computation, then the rest -/
theorem rdE.go {K : PySem.W.Frag} {ma : ME} {β : Type} {f : D → Hh → Out β} {σ : L2.St} {H : Hp} {ρ : Rho} {h : Hh} {μ : List Addr} {R : β → Hh → List Addr → Hp → Prop} (rs : RelS K μ H ρ σ) (rh : RelH K μ H h) (p : PO K ct W σ μ H R ((ma ρ h).bind f))
    {Q : VK} (k : ∀ d h1 μ1 H1 v, Step μ H μ1 H1 → RelS K μ1 H1 ρ σ → RelH K μ1 H1 h1 → Den K μ1 H1 d v → PO K ct W σ μ1 H1 R (f d h1) → Q v H1) : rdE K ct W ma σ H Q :=
  ⟨μ, ρ, h, rs, rh, p.bind.mono fun d h1 μ1 H1 s r q v dv => k d h1 μ1 H1 v s (rs.mono s) r dv q⟩
theorem rdA.go {K : PySem.W.Frag} {ma : MA} {β : Type} {f : List D → Hh → Out β} {σ : L2.St} {H : Hp} {ρ : Rho} {h : Hh} {μ : List Addr} {R : β → Hh → List Addr → Hp → Prop} (rs : RelS K μ H ρ σ) (rh : RelH K μ H h) (p : PO K ct W σ μ H R ((ma ρ h).bind f))
    {Q : List V → Hp → Prop} (k : ∀ d h1 μ1 H1 v, Step μ H μ1 H1 → RelS K μ1 H1 ρ σ → RelH K μ1 H1 h1 → Dens K μ1 H1 d v → PO K ct W σ μ1 H1 R (f d h1) → Q v H1) : rdA K ct W ma σ H Q :=
  ⟨μ, ρ, h, rs, rh, p.bind.mono fun d h1 μ1 H1 s r q v dv => k d h1 μ1 H1 v s (rs.mono s) r dv q⟩
theorem rdT.go {K : PySem.W.Frag} {ma : MT} {β : Type} {f : Bool → Hh → Out β} {σ : L2.St} {H : Hp} {ρ : Rho} {h : Hh} {μ : List Addr} {R : β → Hh → List Addr → Hp → Prop} (rs : RelS K μ H ρ σ) (rh : RelH K μ H h) (p : PO K ct W σ μ H R ((ma ρ h).bind f))
    {Q : Bool → Hp → Prop} (k : ∀ d h1 μ1 H1, Step μ H μ1 H1 → RelS K μ1 H1 ρ σ → RelH K μ1 H1 h1 → PO K ct W σ μ1 H1 R (f d h1) → Q d H1) : rdT K ct W ma σ H Q :=
  ⟨μ, ρ, h, rs, rh, p.bind.mono fun d h1 μ1 H1 s r q => k d h1 μ1 H1 s (rs.mono s) r q⟩
/-- an end -/
theorem PO.at {K : PySem.W.Frag} {σ : L2.St} {α : Type} {μ : List Addr} {H : Hp} {R : α → Hh → List Addr → Hp → Prop} {a : α} {h : Hh} (rh : RelH K μ H h) (p : PO K ct W σ μ H R (.ok a h)) : R a h μ H := p μ H Step.refl rh

/-! ### names and constants -/
def mC (d : D) : ME := fun _ h => .ok d h
def mVar (i : Nat) : ME := fun ρ h => match ρ[i]? with
  | some (some d) => .ok d h
  | _ => .bad
theorem se_var (i : Nat) {x : Str} {pos : Pos} (hN : X.N[i]? = some x := by rfl) (hv : Vis X.env.scope x := by first | exact Or.inl rfl | exact Or.inr (Or.inl rfl) | exact Or.inr (Or.inr rfl)) (hd : (x == ("__debug__" : Str)) = false := by decide)
    (hcd : (x == ("__classdict__" : Str)) = false := by decide) : SE X ct W (.Name x pos) (mVar i) :=
  (pe_var hN hv hd hcd).imp fun σ H Q ⟨μ, ρ, h, rs, rh, p⟩ => by
    unfold mVar at p
    split at p
    · rename_i d e
      obtain ⟨v, e1, dv⟩ := rs.get i d e
      exact ⟨v, e1, p.at rh v dv⟩
    · exact p.elim
theorem se_c {e : Expr} {v : V} {d : D} (h : PE X e (tC v)) (hd : ∀ μ H, Den X.K μ H d v) : SE X ct W e (mC d) :=
  h.imp fun σ H Q ⟨μ, ρ, h, rs, rh, p⟩ => p.at rh v (hd μ H)
theorem se_int {i j pos} : SE X ct W (.Constant (.int i) j pos) (mC (.int i)) := se_c pe_int fun _ _ => rfl
theorem se_bl {i j pos} : SE X ct W (.Constant (.bool i) j pos) (mC (.bl i)) := se_c pe_bl fun _ _ => rfl
theorem se_non {j pos} : SE X ct W (.Constant .none j pos) (mC .non) := se_c pe_non fun _ _ => rfl
theorem se_str {i j pos} : SE X ct W (.Constant (.str i) j pos) (mC (.str i)) := se_c pe_str fun _ _ => rfl
/-- a module's constant -/
theorem se_glob {x : Str} {pos : Pos} {u : Value} {v : V} {d : D} (hg : Gl X x) (hm : X.mg x = some u) (r : RelV v u) (hd : ∀ μ H, Den X.K μ H d v) (hdb : (x == ("__debug__" : Str)) = false := by decide) : SE X ct W (.Name x pos) (mC d) :=
  se_c (pe_glob hg hm r hdb) hd

/-! ### argument lists -/
def mNil : MA := fun _ h => .ok [] h
def mCons (m : ME) (r : MA) : MA := fun ρ h => (m ρ h).bind fun d h1 => (r ρ h1).bind fun ds h2 => .ok (d :: ds) h2
theorem sa_nil : SA X ct W [] mNil := L2.PA.imp pa_nil fun σ H Q ⟨μ, ρ, h, rs, rh, p⟩ => p.at rh [] rfl
theorem sa_cons {e : Expr} {es : List Expr} {m : ME} {r : MA} (ha : SE X ct W e m) (hr : SA X ct W es r) (hs : starEach (e :: es) X.env = (false, eval e X.env) :: starEach es X.env := by rfl) : SA X ct W (e :: es) (mCons m r) :=
  L2.PA.imp (pa_cons ha hr hs) fun σ H Q ⟨μ, ρ, h, rs, rh, p⟩ => rdE.go rs rh p fun d h1 μ1 H1 v s1 rs1 rh1 dv p1 => rdA.go rs1 rh1 p1 fun ds h2 μ2 H2 vs s2 rs2 rh2 dvs p2 =>
    p2.at rh2 (v :: vs) ⟨v, vs, rfl, dv.mono s2, dvs⟩
/-! ### operators by values -/
def mOp (g : D → D → Hh → Option (D × Hh)) (ma mb : ME) : ME := fun ρ h => (ma ρ h).bind fun a h1 => (mb ρ h1).bind fun b h2 => Out.ofO (g a b h2)
def mUn (g : D → Hh → Option (D × Hh)) (ma : ME) : ME := fun ρ h => (ma ρ h).bind fun a h1 => Out.ofO (g a h1)
theorem op_go {g : D → D → Hh → Option (D × Hh)} {ma mb : ME} (σ : L2.St) (H : Hp) (Q : VK) (q : rdE X.K ct W (mOp g ma mb) σ H Q) : tOp (r2 X.K g) (rdE X.K ct W ma) (rdE X.K ct W mb) σ H Q := by
  obtain ⟨μ, ρ, h, rs, rh, p⟩ := q
  exact rdE.go rs rh p fun a h1 μ1 H1 v s1 rs1 rh1 da p1 => rdE.go rs1 rh1 p1 fun b h2 μ2 H2 w s2 rs2 rh2 db p2 => ⟨μ2, h2, a, b, da.mono s2, db, rh2, p2.ofO⟩
theorem un_go {g : D → Hh → Option (D × Hh)} {ma : ME} (σ : L2.St) (H : Hp) (Q : VK) (q : rdE X.K ct W (mUn g ma) σ H Q) : tUn (r1 X.K g) (rdE X.K ct W ma) σ H Q := by
  obtain ⟨μ, ρ, h, rs, rh, p⟩ := q
  exact rdE.go rs rh p fun a h1 μ1 H1 v s1 rs1 rh1 da p1 => ⟨μ1, h1, a, da, rh1, p1.ofO⟩
theorem se_op {a b : Expr} {op : Operator} {pos : Pos} {g : D → D → Hh → Option (D × Hh)} {ma mb : ME} (ho : OpR X (binaryOp op) (r2 X.K g)) (ha : SE X ct W a ma) (hb : SE X ct W b mb) : SE X ct W (.BinOp a op b pos) (mOp g ma mb) :=
  (pe_op ho ha hb).imp op_go
theorem se_un {a : Expr} {op : UnaryOp} {pos : Pos} {g : D → Hh → Option (D × Hh)} {ma : ME} (ho : UnR X (unaryOp op) (r1 X.K g)) (ha : SE X ct W a ma) : SE X ct W (.UnaryOp op a pos) (mUn g ma) :=
  (pe_un ho ha).imp un_go
theorem se_cmp {a b : Expr} {op : CmpOp} {pos : Pos} {g : D → D → Hh → Option (D × Hh)} {ma mb : ME} (ho : OpR X (compareOp op) (r2 X.K g)) (ha : SE X ct W a ma) (hb : SE X ct W b mb) (hm : behindInMarks op b = false) : SE X ct W (.Compare a [op] [b] pos) (mOp g ma mb) :=
  (pe_cmpR ho ha hb hm).imp op_go
theorem se_ix {a b : Expr} {pos : Pos} {g : D → D → Hh → Option (D × Hh)} {ma mb : ME} (ho : IxR X (r2 X.K g)) (ha : SE X ct W a ma) (hb : SE X ct W b mb) (hs : PlainIx b) : SE X ct W (.Subscript a b pos) (mOp g ma mb) :=
  (pe_ix ho ha hb hs).imp op_go
/-- a built-in by its name -/
def mB (g : List D → Hh → Option (D × Hh)) (ma : MA) : ME := fun ρ h => (ma ρ h).bind fun as h1 => Out.ofO (g as h1)
theorem b_go {g : List D → Hh → Option (D × Hh)} {ma : MA} (σ : L2.St) (H : Hp) (Q : VK) (q : rdE X.K ct W (mB g ma) σ H Q) : tCB (rN X.K g) (rdA X.K ct W ma) σ H Q := by
  obtain ⟨μ, ρ, h, rs, rh, p⟩ := q
  exact rdA.go rs rh p fun as h1 μ1 H1 v s1 rs1 rh1 da p1 => ⟨μ1, h1, as, da, rh1, p1.ofO⟩
theorem se_callB {id : String} {x : Str} {e : Expr} {es : List Expr} {p pos : Pos} {g : List D → Hh → Option (D × Hh)} {ma : MA} (hc : CallR X (.builtin id) (rN X.K g)) (hg : Gl X x) (hm : X.mg x = none) (hv : bootBuiltins x = some (.builtin id)) (ha : SA X ct W (e :: es) ma) (hn : x ≠ "__name__" := by decide) (hdb : (x == ("__debug__" : Str)) = false := by decide)
    (he : starEach (e :: es) X.env = (false, eval e X.env) :: starEach es X.env := by rfl) (hpl : (backTo pos (starEach es X.env)).any (·.1) = false := by rfl) : SE X ct W (.Call (.Name x p) (e :: es) [] pos) (mB g ma) :=
  (pe_callB hc hg hm hv ha hn hdb he hpl).imp b_go
theorem se_callTy {id : String} {x : Str} {e : Expr} {es : List Expr} {p pos : Pos} {g : List D → Hh → Option (D × Hh)} {ma : MA} (hc : CallR X (.type id) (rN X.K g)) (hg : Gl X x) (hm : X.mg x = none) (hv : bootBuiltins x = some (.type id)) (ha : SA X ct W (e :: es) ma) (hn : x ≠ "__name__" := by decide) (hdb : (x == ("__debug__" : Str)) = false := by decide)
    (he : starEach (e :: es) X.env = (false, eval e X.env) :: starEach es X.env := by rfl) (hpl : (backTo pos (starEach es X.env)).any (·.1) = false := by rfl) : SE X ct W (.Call (.Name x p) (e :: es) [] pos) (mB g ma) :=
  (pe_callTy hc hg hm hv ha hn hdb he hpl).imp b_go
theorem se_callFun {id : String} {x : Str} {e : Expr} {es : List Expr} {p pos : Pos} {g : List D → Hh → Option (D × Hh)} {ma : MA} (hc : CallR X (.builtin id) (rN X.K g)) (hg : Gl X x) (hm : X.mg x = some (.builtin id)) (ha : SA X ct W (e :: es) ma) (hdb : (x == ("__debug__" : Str)) = false := by decide)
    (he : starEach (e :: es) X.env = (false, eval e X.env) :: starEach es X.env := by rfl) (hpl : (backTo pos (starEach es X.env)).any (·.1) = false := by rfl) : SE X ct W (.Call (.Name x p) (e :: es) [] pos) (mB g ma) :=
  (pe_callBfun hc hg hm ha hdb he hpl).imp b_go
/-- a method of a built-in type -/
def mM (g : D → List D → Hh → Option (D × Hh)) (mo : ME) (ma : MA) : ME := fun ρ h => (mo ρ h).bind fun o h1 => (ma ρ h1).bind fun as h2 => Out.ofO (g o as h2)

/-! ### displays -/
def mTup (ma : MA) : ME := fun ρ h => (ma ρ h).bind fun as h1 => if as.length ≤ sizeLine then .ok (.tup as) h1 else .bad
def mLst (ma : MA) : ME := fun ρ h => (ma ρ h).bind fun as h1 => if as.length ≤ sizeLine then .ok (.ref h1.length) (h1 ++ [.lst as]) else .bad
def mDnew : ME := fun _ h => .ok (.ref h.length) (h ++ [.dct []])
theorem new_lst {K : PySem.W.Frag} {μ : List Addr} {H : Hp} {h : Hh} {as : List D} {vs : List V} (rh : RelH K μ H h) (dv : Dens K μ H as vs) {p : Addr} (hp : H p = none) :
    Step μ H (μ ++ [p]) (upd H p (.lst vs)) ∧ RelH K (μ ++ [p]) (upd H p (.lst vs)) (h ++ [.lst as]) ∧ Den K (μ ++ [p]) (upd H p (.lst vs)) (.ref h.length) (.ref p) := by
  have s : Step μ H (μ ++ [p]) (upd H p (.lst vs)) := Step.newT hp
  exact ⟨s, rh.push hp ⟨vs, upd_same, dv.mono s⟩, p, rfl, by rw [← rh.len]; simp⟩
theorem new_tup {K : PySem.W.Frag} {μ : List Addr} {H : Hp} {h : Hh} {as : List D} {vs : List V} (rh : RelH K μ H h) (dv : Dens K μ H as vs) {p : Addr} (hp : H p = none) :
    Step μ H μ (upd H p (.tup vs)) ∧ RelH K μ (upd H p (.tup vs)) h ∧ Den K μ (upd H p (.tup vs)) (.tup as) (.ref p) := by
  have s : Step μ H μ (upd H p (.tup vs)) := Step.new hp
  exact ⟨s, rh.new hp, p, vs, rfl, upd_same, dv.mono s⟩
theorem se_tup {es : List Expr} {k : Nat} {pos : Pos} {ma : MA} (ha : SA X ct W es ma) : SE X ct W (.Tuple es k pos) (mTup ma) :=
  (pe_tup ha).imp fun σ H Q ⟨μ, ρ, h, rs, rh, p⟩ => rdA.go rs rh p fun as h1 μ1 H1 vs s1 rs1 rh1 dv p1 => by
    split at p1
    · rename_i hl
      refine ⟨by rw [dv.length]; exact hl, fun q hq => ?_⟩
      obtain ⟨s, r, d⟩ := new_tup rh1 dv hq
      exact p1 _ _ s r _ d
    · exact p1.elim
theorem se_lst {es : List Expr} {pos : Pos} {ma : MA} (ha : SA X ct W es ma) : SE X ct W (.List es pos) (mLst ma) :=
  (pe_lst ha).imp fun σ H Q ⟨μ, ρ, h, rs, rh, p⟩ => rdA.go rs rh p fun as h1 μ1 H1 vs s1 rs1 rh1 dv p1 => by
    split at p1
    · rename_i hl
      refine ⟨by rw [dv.length]; exact hl, fun q hq => ?_⟩
      obtain ⟨s, r, d⟩ := new_lst rh1 dv hq
      exact p1 _ _ s r _ d
    · exact p1.elim
theorem se_dnew {pos : Pos} : SE X ct W (.Dict [] [] pos) mDnew :=
  pe_dnewK.imp fun σ H Q ⟨μ, ρ, h, rs, rh, p⟩ q hq => by
    have s : Step μ H (μ ++ [q]) (upd H q (.dK [])) := Step.newT hq
    exact p _ _ s (rh.push hq ⟨[], upd_same, rfl, rfl⟩) _ ⟨q, rfl, by rw [← rh.len]; simp⟩

/-! ### tests, truth -/
def mTest (m : ME) : MT := fun ρ h => (m ρ h).bind fun d h1 => match d with
  | .bl b => .ok b h1
  | _ => .bad
theorem test_go {m : ME} (σ : L2.St) (H : Hp) (Q : Bool → Hp → Prop) (q : rdT X.K ct W (mTest m) σ H Q) : tTest (rdE X.K ct W m) σ H Q := by
  obtain ⟨μ, ρ, h, rs, rh, p⟩ := q
  refine rdE.go rs rh p fun d h1 μ1 H1 v s1 rs1 rh1 dv p1 => ?_
  split at p1
  · exact ⟨_, dv, p1.at rh1⟩
  · exact p1.elim
theorem st_cmp {a b : Expr} {op : CmpOp} {pos : Pos} {g : D → D → Hh → Option (D × Hh)} {ma mb : ME} (ho : OpR X (compareOp op) (r2 X.K g)) (ha : SE X ct W a ma) (hb : SE X ct W b mb) (hm : behindInMarks op b = false) : ST X ct W (.Compare a [op] [b] pos) (mTest (mOp g ma mb)) :=
  (pt_cmpR ho ha hb hm).imp fun σ H Q q => by
    obtain ⟨μ, ρ, h, rs, rh, p⟩ := test_go σ H Q q
    exact op_go σ H _ ⟨μ, ρ, h, rs, rh, p⟩
/-- an expression that gives True or False -/
theorem st_val {e : Expr} {m : ME} (he : SE X ct W e m) (h : ∀ {t : TE}, PE X e t → PT X e (tB t) := by exact fun h => pt_val h) : ST X ct W e (mTest m) :=
  (h he).imp fun σ H Q q => test_go σ H Q q
def mAnd (a b : MT) : MT := fun ρ h => (a ρ h).bind fun c h1 => if c = true then b ρ h1 else .ok false h1
def mOr (a b : MT) : MT := fun ρ h => (a ρ h).bind fun c h1 => if c = true then .ok true h1 else b ρ h1
def mNot (a : MT) : MT := fun ρ h => (a ρ h).bind fun c h1 => .ok (!c) h1
abbrev SW (X : Cx) (ct : Ctb) (W : WX) (e : Expr) (m : MT) : Prop := PW X e (rdT X.K ct W m)
theorem _root_.L2.PW.imp {e : Expr} {t t' : TT} (h : PW X e t) (i : ∀ σ H Q, t' σ H Q → t σ H Q) : PW X e t' := ⟨fun whole pins s σ H Q I q => h.run whole pins s σ H Q I (i σ H Q q)⟩
theorem sw_and1 {a : Expr} {m : MT} {pos : Pos} (h : ST X ct W a m) : SW X ct W (.BoolOp .And [a] pos) m := pw_and1 h
theorem sw_or1 {a : Expr} {m : MT} {pos : Pos} (h : ST X ct W a m) : SW X ct W (.BoolOp .Or [a] pos) m := pw_or1 h
theorem sw_and {a b : Expr} {rest : List Expr} {ma mb : MT} {pos : Pos} (ha : ST X ct W a ma) (hb : SW X ct W (.BoolOp .And (b :: rest) pos) mb) : SW X ct W (.BoolOp .And (a :: b :: rest) pos) (mAnd ma mb) :=
  (pw_and ha hb).imp fun σ H Q ⟨μ, ρ, h, rs, rh, p⟩ => rdT.go rs rh p fun c h1 μ1 H1 s1 rs1 rh1 p1 => by
    cases c with
    | true => exact ⟨μ1, ρ, h1, rs1, rh1, p1⟩
    | false => exact p1.at rh1
theorem sw_or {a b : Expr} {rest : List Expr} {ma mb : MT} {pos : Pos} (ha : ST X ct W a ma) (hb : SW X ct W (.BoolOp .Or (b :: rest) pos) mb) : SW X ct W (.BoolOp .Or (a :: b :: rest) pos) (mOr ma mb) :=
  (pw_or ha hb).imp fun σ H Q ⟨μ, ρ, h, rs, rh, p⟩ => rdT.go rs rh p fun c h1 μ1 H1 s1 rs1 rh1 p1 => by
    cases c with
    | true => exact p1.at rh1
    | false => exact ⟨μ1, ρ, h1, rs1, rh1, p1⟩
theorem st_w {e : Expr} {m : MT} (h : SW X ct W e m) : ST X ct W e m := PW.pt h
theorem st_not {a : Expr} {m : MT} {pos : Pos} (h : ST X ct W a m) : ST X ct W (.UnaryOp .Not a pos) (mNot m) :=
  (pt_not h).imp fun σ H Q ⟨μ, ρ, h, rs, rh, p⟩ => rdT.go rs rh p fun c h1 μ1 H1 s1 rs1 rh1 p1 => p1.at rh1
/-- and, or, not as values, all but the last True or False -/
def mAndV (a b : ME) : ME := fun ρ h => (mTest a ρ h).bind fun c h1 => if c = true then b ρ h1 else .ok (.bl false) h1
def mOrV (a b : ME) : ME := fun ρ h => (mTest a ρ h).bind fun c h1 => if c = true then .ok (.bl true) h1 else b ρ h1
def mNotV (a : ME) : ME := fun ρ h => (mTest a ρ h).bind fun c h1 => .ok (.bl (!c)) h1
theorem bool_go {K : PySem.W.Frag} {ma : ME} {β : Type} {f : Bool → Hh → Out β} {σ : L2.St} {H : Hp} {ρ : Rho} {h : Hh} {μ : List Addr} {R : β → Hh → List Addr → Hp → Prop} (rs : RelS K μ H ρ σ) (rh : RelH K μ H h) (p : PO K ct W σ μ H R ((mTest ma ρ h).bind f))
    {Q : VK} (k : ∀ c h1 μ1 H1, Step μ H μ1 H1 → RelS K μ1 H1 ρ σ → RelH K μ1 H1 h1 → PO K ct W σ μ1 H1 R (f c h1) → Q (.bl c) H1) : rdE K ct W ma σ H Q := by
  have p' : PO K ct W σ μ H R ((ma ρ h).bind fun d h1 => (match d with | .bl b => Out.ok b h1 | _ => .bad : Out Bool).bind f) := by
    unfold mTest at p
    cases e : ma ρ h with
    | ok d h1 => rw [e] at p; exact p
    | err x h1 => rw [e] at p; exact p
    | bad => rw [e] at p; exact p
  refine rdE.go rs rh p' fun d h1 μ1 H1 v s1 rs1 rh1 dv p1 => ?_
  cases d with
  | bl b =>
    have dv : v = .bl b := dv
    subst dv
    exact k b h1 μ1 H1 s1 rs1 rh1 p1
  | _ => exact p1.elim
theorem se_and1 {a : Expr} {m : ME} {op : BoolOp} {pos : Pos} (h : SE X ct W a m) : SE X ct W (.BoolOp op [a] pos) m := pe_one h
theorem se_and {a b : Expr} {rest : List Expr} {ma mb : ME} {pos : Pos} (ha : SE X ct W a ma) (hb : SE X ct W (.BoolOp .And (b :: rest) pos) mb) : SE X ct W (.BoolOp .And (a :: b :: rest) pos) (mAndV ma mb) :=
  (pe_and ha hb).imp fun σ H Q ⟨μ, ρ, h, rs, rh, p⟩ => bool_go rs rh p fun c h1 μ1 H1 s1 rs1 rh1 p1 => ⟨c, rfl, by
    cases c with
    | true => exact ⟨μ1, ρ, h1, rs1, rh1, p1⟩
    | false => exact p1.at rh1 _ rfl⟩
theorem se_or {a b : Expr} {rest : List Expr} {ma mb : ME} {pos : Pos} (ha : SE X ct W a ma) (hb : SE X ct W (.BoolOp .Or (b :: rest) pos) mb) : SE X ct W (.BoolOp .Or (a :: b :: rest) pos) (mOrV ma mb) :=
  (pe_or ha hb).imp fun σ H Q ⟨μ, ρ, h, rs, rh, p⟩ => bool_go rs rh p fun c h1 μ1 H1 s1 rs1 rh1 p1 => ⟨c, rfl, by
    cases c with
    | true => exact p1.at rh1 _ rfl
    | false => exact ⟨μ1, ρ, h1, rs1, rh1, p1⟩⟩
theorem se_not {a : Expr} {m : ME} {pos : Pos} (h : SE X ct W a m) : SE X ct W (.UnaryOp .Not a pos) (mNotV m) :=
  (pe_not h).imp fun σ H Q ⟨μ, ρ, h, rs, rh, p⟩ => bool_go rs rh p fun c h1 μ1 H1 s1 rs1 rh1 p1 => ⟨c, rfl, p1.at rh1 _ rfl⟩
def mIf (t : MT) (a b : ME) : ME := fun ρ h => (t ρ h).bind fun c h1 => if c = true then a ρ h1 else b ρ h1
theorem se_if {t a b : Expr} {mt : MT} {ma mb : ME} {pos : Pos} (ht : ST X ct W t mt) (ha : SE X ct W a ma) (hb : SE X ct W b mb) : SE X ct W (.IfExp t a b pos) (mIf mt ma mb) :=
  (pe_ifExp ht ha hb).imp fun σ H Q ⟨μ, ρ, h, rs, rh, p⟩ => rdT.go rs rh p fun c h1 μ1 H1 s1 rs1 rh1 p1 => by
    cases c with
    | true => exact ⟨μ1, ρ, h1, rs1, rh1, p1⟩
    | false => exact ⟨μ1, ρ, h1, rs1, rh1, p1⟩
/-- a < b < c -/
def mChain (g g' : D → D → Hh → Option (D × Hh)) (ma mb mc : ME) : ME := fun ρ h => (ma ρ h).bind fun a h1 => (mb ρ h1).bind fun b h2 => (Out.ofO (g a b h2)).bind fun r h3 => match r with
  | .bl true => (mc ρ h3).bind fun c h4 => Out.ofO (g' b c h4)
  | .bl false => .ok (.bl false) h3
  | _ => .bad
theorem chain_go {g g' : D → D → Hh → Option (D × Hh)} {ma mb mc : ME} (σ : L2.St) (H : Hp) (Q : VK) (q : rdE X.K ct W (mChain g g' ma mb mc) σ H Q) : tChain (r2 X.K g) (r2 X.K g') (rdE X.K ct W ma) (rdE X.K ct W mb) (rdE X.K ct W mc) σ H Q := by
  obtain ⟨μ, ρ, h, rs, rh, p⟩ := q
  refine rdE.go rs rh p fun a h1 μ1 H1 v s1 rs1 rh1 da p1 => rdE.go rs1 rh1 p1 fun b h2 μ2 H2 w s2 rs2 rh2 db p2 => ⟨μ2, h2, a, b, da.mono s2, db, rh2, p2.bind.ofO.mono fun r h3 μ3 H3 s3 rh3 p3 z dz => ?_⟩
  have rs3 := rs2.mono s3
  split at p3
  · refine ⟨true, dz, ?_⟩
    rw [if_pos rfl]
    exact rdE.go rs3 rh3 p3 fun c h4 μ4 H4 w4 s4 rs4 rh4 dc p4 => ⟨μ4, h4, b, c, (db.mono s3).mono s4, dc, rh4, p4.ofO⟩
  · refine ⟨false, dz, ?_⟩
    rw [if_neg Bool.false_ne_true]
    exact p3.at rh3 _ rfl
  · exact p3.elim
theorem se_chain {a b c : Expr} {op op' : CmpOp} {pos : Pos} {g g' : D → D → Hh → Option (D × Hh)} {ma mb mc : ME} (ho : OpR X (compareOp op) (r2 X.K g)) (ho' : OpR X (compareOp op') (r2 X.K g')) (ha : SE X ct W a ma) (hb : SE X ct W b mb) (hc : SE X ct W c mc) (hm : lastMarks [op, op'] [b, c] = false := by rfl) :
    SE X ct W (.Compare a [op, op'] [b, c] pos) (mChain g g' ma mb mc) := (pe_chain ho ho' ha hb hc hm).imp chain_go
theorem st_chain {a b c : Expr} {op op' : CmpOp} {pos : Pos} {g g' : D → D → Hh → Option (D × Hh)} {ma mb mc : ME} (ho : OpR X (compareOp op) (r2 X.K g)) (ho' : OpR X (compareOp op') (r2 X.K g')) (ha : SE X ct W a ma) (hb : SE X ct W b mb) (hc : SE X ct W c mc) (hm : lastMarks [op, op'] [b, c] = false := by rfl) :
    ST X ct W (.Compare a [op, op'] [b, c] pos) (mTest (mChain g g' ma mb mc)) := (pt_chain ho ho' ha hb hc hm).imp fun σ H Q q => by
    obtain ⟨μ, ρ, h, rs, rh, p⟩ := test_go σ H Q q
    exact chain_go σ H _ ⟨μ, ρ, h, rs, rh, p⟩
end
end PI
/-! Statements, loops, calls of defs, exceptions. -/
namespace PI
open PySem PySem.Spec L2
open PyProof.Rows hiding St

/-- what follows a statement's mirror -/
def PSt (K : PySem.W.Frag) (ct : Ctb) (W : WX) (μ : List Addr) (H : Hp) (D : Ends) : OutS → Prop
  | .nx ρ' h' => ∀ μ' H' σ', Step μ H μ' H' → RelH K μ' H' h' → RelS K μ' H' ρ' σ' → D.nx σ' H'
  | .bk ρ' h' => ∀ μ' H' σ', Step μ H μ' H' → RelH K μ' H' h' → RelS K μ' H' ρ' σ' → D.bk σ' H'
  | .ct ρ' h' => ∀ μ' H' σ', Step μ H μ' H' → RelH K μ' H' h' → RelS K μ' H' ρ' σ' → D.ct σ' H'
  | .rt d h' => ∀ μ' H' v, Step μ H μ' H' → RelH K μ' H' h' → Den K μ' H' d v → D.rt v H'
  | .er x ρ' h' => ∀ μ' H' σ' cls d, Step μ H μ' H' → RelH K μ' H' h' → RelS K μ' H' ρ' σ' → ExcR K ct μ' H' x cls d → W cls d σ' H'
  | .bad => False
section
variable {K : PySem.W.Frag} {ct : Ctb} {W : WX} {μ μ1 : List Addr} {H H1 : Hp} {D D' : Ends} {o : OutS}
theorem PSt.step (s : Step μ H μ1 H1) (p : PSt K ct W μ H D o) : PSt K ct W μ1 H1 D o := by
  cases o with
  | nx ρ h => exact fun μ' H' σ' s' => p μ' H' σ' (s.trans s')
  | bk ρ h => exact fun μ' H' σ' s' => p μ' H' σ' (s.trans s')
  | ct ρ h => exact fun μ' H' σ' s' => p μ' H' σ' (s.trans s')
  | rt d h => exact fun μ' H' σ' s' => p μ' H' σ' (s.trans s')
  | er x ρ h => exact fun μ' H' σ' c d s' => p μ' H' σ' c d (s.trans s')
  | bad => exact p
theorem rdS_def {m : MS} {σ : L2.St} : rdS K ct W m D σ H ↔ ∃ μ ρ h, RelS K μ H ρ σ ∧ RelH K μ H h ∧ PSt K ct W μ H D (m ρ h) := by
  unfold rdS PSt
  exact Iff.rfl
end
def Out.bindS {α : Type} (o : Out α) (ρ : Rho) (f : α → Hh → OutS) : OutS := match o with
  | .ok a h => f a h
  | .err x h => .er x ρ h
  | .bad => .bad
def OutS.seq (o : OutS) (f : Rho → Hh → OutS) : OutS := match o with
  | .nx ρ h => f ρ h
  | o => o
@[simp] theorem Out.bindS_ok {α : Type} {a : α} {h : Hh} {ρ : Rho} {f : α → Hh → OutS} : (Out.ok a h).bindS ρ f = f a h := rfl
@[simp] theorem Out.bindS_err {α : Type} {x : Exn} {h : Hh} {ρ : Rho} {f : α → Hh → OutS} : (Out.err x h : Out α).bindS ρ f = .er x ρ h := rfl
@[simp] theorem Out.bindS_bad {α : Type} {ρ : Rho} {f : α → Hh → OutS} : (Out.bad : Out α).bindS ρ f = .bad := rfl
@[simp] theorem OutS.seq_nx {ρ : Rho} {h : Hh} {f : Rho → Hh → OutS} : (OutS.nx ρ h).seq f = f ρ h := rfl
@[simp] theorem OutS.seq_rt {d : D} {h : Hh} {f : Rho → Hh → OutS} : (OutS.rt d h).seq f = .rt d h := rfl
@[simp] theorem OutS.seq_bk {ρ : Rho} {h : Hh} {f : Rho → Hh → OutS} : (OutS.bk ρ h).seq f = .bk ρ h := rfl
@[simp] theorem OutS.seq_ct {ρ : Rho} {h : Hh} {f : Rho → Hh → OutS} : (OutS.ct ρ h).seq f = .ct ρ h := rfl
@[simp] theorem OutS.seq_er {x : Exn} {ρ : Rho} {h : Hh} {f : Rho → Hh → OutS} : (OutS.er x ρ h).seq f = .er x ρ h := rfl
@[simp] theorem OutS.seq_bad {f : Rho → Hh → OutS} : (OutS.bad).seq f = .bad := rfl

section
variable {X : Cx} {ct : Ctb} {W : WX}
theorem PSt.bindS {K : PySem.W.Frag} {α : Type} {o : Out α} {ρ : Rho} {f : α → Hh → OutS} {μ : List Addr} {H : Hp} {D : Ends} {σ : L2.St} (rs : RelS K μ H ρ σ) (p : PSt K ct W μ H D (o.bindS ρ f)) :
    PO K ct W σ μ H (fun a h1 μ1 H1 => PSt K ct W μ1 H1 D (f a h1)) o := by
  cases o with
  | ok a h => exact fun μ' H' s' r => PSt.step s' (show PSt K ct W μ H D (f a h) from p)
  | err x h => exact fun μ' H' c d s r e => p μ' H' σ c d s r (rs.mono s) e
  | bad => exact p
theorem rdE.goS {K : PySem.W.Frag} {ma : ME} {f : D → Hh → OutS} {σ : L2.St} {H : Hp} {ρ : Rho} {h : Hh} {μ : List Addr} {D : Ends} (rs : RelS K μ H ρ σ) (rh : RelH K μ H h) (p : PSt K ct W μ H D ((ma ρ h).bindS ρ f))
    {Q : VK} (k : ∀ d h1 μ1 H1 v, Step μ H μ1 H1 → RelS K μ1 H1 ρ σ → RelH K μ1 H1 h1 → Den K μ1 H1 d v → PSt K ct W μ1 H1 D (f d h1) → Q v H1) : rdE K ct W ma σ H Q :=
  ⟨μ, ρ, h, rs, rh, (PSt.bindS rs p).mono fun d h1 μ1 H1 s r q v dv => k d h1 μ1 H1 v s (rs.mono s) r dv q⟩
theorem rdA.goS {K : PySem.W.Frag} {ma : MA} {f : List D → Hh → OutS} {σ : L2.St} {H : Hp} {ρ : Rho} {h : Hh} {μ : List Addr} {D : Ends} (rs : RelS K μ H ρ σ) (rh : RelH K μ H h) (p : PSt K ct W μ H D ((ma ρ h).bindS ρ f))
    {Q : List V → Hp → Prop} (k : ∀ d h1 μ1 H1 v, Step μ H μ1 H1 → RelS K μ1 H1 ρ σ → RelH K μ1 H1 h1 → Dens K μ1 H1 d v → PSt K ct W μ1 H1 D (f d h1) → Q v H1) : rdA K ct W ma σ H Q :=
  ⟨μ, ρ, h, rs, rh, (PSt.bindS rs p).mono fun d h1 μ1 H1 s r q v dv => k d h1 μ1 H1 v s (rs.mono s) r dv q⟩
theorem rdT.goS {K : PySem.W.Frag} {ma : MT} {f : Bool → Hh → OutS} {σ : L2.St} {H : Hp} {ρ : Rho} {h : Hh} {μ : List Addr} {D : Ends} (rs : RelS K μ H ρ σ) (rh : RelH K μ H h) (p : PSt K ct W μ H D ((ma ρ h).bindS ρ f))
    {Q : Bool → Hp → Prop} (k : ∀ d h1 μ1 H1, Step μ H μ1 H1 → RelS K μ1 H1 ρ σ → RelH K μ1 H1 h1 → PSt K ct W μ1 H1 D (f d h1) → Q d H1) : rdT K ct W ma σ H Q :=
  ⟨μ, ρ, h, rs, rh, (PSt.bindS rs p).mono fun d h1 μ1 H1 s r q => k d h1 μ1 H1 s (rs.mono s) r q⟩

/-! ### blocks -/
def mNx : MS := fun ρ h => .nx ρ h
def mSeq (a b : MS) : MS := fun ρ h => (a ρ h).seq b
theorem sss_nil : SSs X ct W [] mNx := ⟨fun pins s σ H D I ⟨μ, ρ, h, rs, rh, p⟩ => wpAny_execs_nil ⟨σ, H, I, p μ H σ Step.refl rh rs⟩⟩
theorem seq_go {K : PySem.W.Frag} {a b : MS} {D : Ends} {σ : L2.St} {H : Hp} (q : rdS K ct W (mSeq a b) D σ H) : rdS K ct W a { D with nx := rdS K ct W b D } σ H := by
  obtain ⟨μ, ρ, h, rs, rh, p⟩ := q
  refine ⟨μ, ρ, h, rs, rh, ?_⟩
  have p : PSt K ct W μ H D ((a ρ h).seq b) := p
  cases e : a ρ h with
  | nx ρ' h' =>
    rw [e] at p
    exact fun μ' H' σ' s r rs' => ⟨μ', ρ', h', rs', r, PSt.step s p⟩
  | bk ρ' h' => rw [e] at p; exact p
  | ct ρ' h' => rw [e] at p; exact p
  | rt d h' => rw [e] at p; exact p
  | er x ρ' h' => rw [e] at p; exact p
  | bad => rw [e] at p; exact p
theorem sss_cons {s : Stmt} {r : List Stmt} {a b : MS} (h1 : SS X ct W s a) (h2 : SSs X ct W r b) : SSs X ct W (s :: r) (mSeq a b) :=
  L2.PSs.imp (pss_cons h1 h2) fun D σ H q => seq_go q
theorem sss_one {s : Stmt} {a : MS} (h1 : SS X ct W s a) : SSs X ct W [s] a :=
  L2.PSs.imp (pss_one h1) fun D σ H q => q
theorem ss_pass {pos : Pos} : SS X ct W (.Pass pos) mNx := ps_pass.imp fun D σ H ⟨μ, ρ, h, rs, rh, p⟩ => p μ H σ Step.refl rh rs
theorem ss_break {pos : Pos} : SS X ct W (.Break pos) (fun ρ h => .bk ρ h) := ps_break.imp fun D σ H ⟨μ, ρ, h, rs, rh, p⟩ => p μ H σ Step.refl rh rs
theorem ss_continue {pos : Pos} : SS X ct W (.Continue pos) (fun ρ h => .ct ρ h) := ps_continue.imp fun D σ H ⟨μ, ρ, h, rs, rh, p⟩ => p μ H σ Step.refl rh rs
def mRet (m : ME) : MS := fun ρ h => (m ρ h).bindS ρ fun d h1 => .rt d h1
theorem ss_ret {e : Expr} {m : ME} {pos : Pos} (he : SE X ct W e m) : SS X ct W (.Return (some e) pos) (mRet m) :=
  (ps_ret he).imp fun D σ H ⟨μ, ρ, h, rs, rh, p⟩ => rdE.goS rs rh p fun d h1 μ1 H1 v s1 rs1 rh1 dv p1 => p1 μ1 H1 v Step.refl rh1 dv
def mRetN : MS := fun _ h => .rt .non h
theorem ss_retN {pos : Pos} : SS X ct W (.Return none pos) mRetN := ps_retN.imp fun D σ H ⟨μ, ρ, h, rs, rh, p⟩ => p μ H .non Step.refl rh rfl
def mDrop (m : ME) : MS := fun ρ h => (m ρ h).bindS ρ fun _ h1 => .nx ρ h1
theorem ss_expr {e : Expr} {m : ME} {pos : Pos} (he : SE X ct W e m) (hs : swapsWith e none pos.line X.env = pure false := by rfl) : SS X ct W (.Expr e pos) (mDrop m) :=
  (ps_expr he hs).imp fun D σ H ⟨μ, ρ, h, rs, rh, p⟩ => rdE.goS rs rh p fun d h1 μ1 H1 v s1 rs1 rh1 dv p1 => p1 μ1 H1 σ Step.refl rh1 rs1
def mIfS (t : MT) (a b : MS) : MS := fun ρ h => (t ρ h).bindS ρ fun c h1 => if c = true then a ρ h1 else b ρ h1
theorem ss_if {t : Expr} {a b : List Stmt} {mt : MT} {ma mb : MS} {pos : Pos} (ht : ST X ct W t mt) (ha : SSs X ct W a ma) (hb : SSs X ct W b mb) : SS X ct W (.If t a b pos) (mIfS mt ma mb) :=
  (ps_if ht ha hb).imp fun D σ H ⟨μ, ρ, h, rs, rh, p⟩ => rdT.goS rs rh p fun c h1 μ1 H1 s1 rs1 rh1 p1 => by
    cases c with
    | true => exact ⟨μ1, ρ, h1, rs1, rh1, p1⟩
    | false => exact ⟨μ1, ρ, h1, rs1, rh1, p1⟩

/-! ### targets: a value stored -/
abbrev MG := D → Rho → Hh → Option (Rho × Hh)
def rdG (K : PySem.W.Frag) (m : MG) : TG := fun v σ H Q => ∃ μ ρ h d, RelS K μ H ρ σ ∧ RelH K μ H h ∧ Den K μ H d v ∧ match m d ρ h with
  | some (ρ', h') => ∀ μ' H' σ', Step μ H μ' H' → RelH K μ' H' h' → RelS K μ' H' ρ' σ' → Q σ' H'
  | none => False
abbrev MGs := List D → Rho → Hh → Option (Rho × Hh)
def rdGs (K : PySem.W.Frag) (m : MGs) : TGs := fun vs σ H Q => ∃ μ ρ h ds, RelS K μ H ρ σ ∧ RelH K μ H h ∧ Dens K μ H ds vs ∧ match m ds ρ h with
  | some (ρ', h') => ∀ μ' H' σ', Step μ H μ' H' → RelH K μ' H' h' → RelS K μ' H' ρ' σ' → Q σ' H'
  | none => False
abbrev SG (X : Cx) (tg : Expr) (m : MG) : Prop := PG X tg (rdG X.K m)
abbrev SGs (X : Cx) (tg : List Expr) (m : MGs) : Prop := PGs X tg (rdGs X.K m)
theorem _root_.L2.PG.imp {e : Expr} {t t' : TG} (h : PG X e t) (i : ∀ v σ H Q, t' v σ H Q → t v σ H Q) : PG X e t' := ⟨fun pins s σ H v u Q I r q => h.run pins s σ H v u Q I r (i v σ H Q q)⟩
theorem _root_.L2.PGs.imp {e : List Expr} {t t' : TGs} (h : PGs X e t) (i : ∀ v σ H Q, t' v σ H Q → t v σ H Q) : PGs X e t' := ⟨fun pins s σ H v u Q I r q => h.run pins s σ H v u Q I r (i v σ H Q q)⟩
def gmName (i : Nat) : MG := fun d ρ h => some (ρ.set i (some d), h)
theorem sg_name {i : Nat} {x : Str} {pos : Pos} (hN : X.N.Nodup) (hi : X.N[i]? = some x) (hx : Loc X.env.scope x) (hf : X.fn x = true ∨ X.env.scope.names.lookup x = some .local := by first | exact .inl rfl | exact .inr rfl | assumption) : SG X (.Name x pos) (gmName i) :=
  (pg_name hN hi hx hf).imp fun v σ H Q ⟨μ, ρ, h, d, rs, rh, dv, p⟩ => p μ H _ Step.refl rh (rs.set dv)
def gmNil : MGs := fun ds ρ h => match ds with
  | [] => some (ρ, h)
  | _ => none
def gmCons (a : MG) (b : MGs) : MGs := fun ds ρ h => match ds with
  | d :: r => (a d ρ h).bind fun p => b r p.1 p.2
  | [] => none
theorem sgs_nil : SGs X [] gmNil := pgs_nil.imp fun vs σ H Q ⟨μ, ρ, h, ds, rs, rh, dv, p⟩ => by
  cases ds with
  | nil =>
    have dv : vs = [] := dv
    exact ⟨dv, p μ H σ Step.refl rh rs⟩
  | cons d r => exact p.elim
theorem sgs_cons {e : Expr} {es : List Expr} {a : MG} {b : MGs} (h1 : SG X e a) (h2 : SGs X es b) (hs : (assignEach (e :: es) X.env).map (·.2) = assign e X.env :: (assignEach es X.env).map (·.2) := by rfl) : SGs X (e :: es) (gmCons a b) :=
  (pgs_cons h1 h2 hs).imp fun vs σ H Q ⟨μ, ρ, h, ds, rs, rh, dv, p⟩ => by
    cases ds with
    | nil => exact p.elim
    | cons d r =>
      obtain ⟨v, vr, e, q1, q2⟩ := dv
      refine ⟨v, vr, e, μ, ρ, h, d, rs, rh, q1, ?_⟩
      have p : (match (a d ρ h).bind fun p => b r p.1 p.2 with
        | some (ρ', h') => ∀ μ' H' σ', Step μ H μ' H' → RelH X.K μ' H' h' → RelS X.K μ' H' ρ' σ' → Q σ' H'
        | none => False) := p
      cases ea : a d ρ h with
      | none => rw [ea] at p; exact p.elim
      | some z =>
        obtain ⟨ρ1, h1⟩ := z
        rw [ea] at p
        intro μ1 H1 σ1 s1 rh1 rs1
        refine ⟨μ1, ρ1, h1, r, rs1, rh1, q2.mono s1, ?_⟩
        have p : (match b r ρ1 h1 with
          | some (ρ', h') => ∀ μ' H' σ', Step μ H μ' H' → RelH X.K μ' H' h' → RelS X.K μ' H' ρ' σ' → Q σ' H'
          | none => False) := p
        cases eb : b r ρ1 h1 with
        | none => rw [eb] at p; exact p.elim
        | some z =>
          obtain ⟨ρ2, h2⟩ := z
          rw [eb] at p
          exact fun μ2 H2 σ2 s2 => p μ2 H2 σ2 (s1.trans s2)
/-- a, b, .. = a tuple -/
def gmTup (n : Nat) (m : MGs) : MG := fun d ρ h => match d with
  | .tup ds => if ds.length = n then m ds ρ h else none
  | _ => none
theorem sg_tup {es : List Expr} {k : Nat} {m : MGs} {n : Nat} {pos : Pos} (hc : X.calm = true) (h : SGs X es m)
    (hn : (assignEach es X.env).length = n := by rfl) (hst : (assignEach es X.env).findIdx? (·.1) = none := by rfl) : SG X (.Tuple es k pos) (gmTup n m) :=
  (pg_tup hc h hn hst).imp fun v σ H Q ⟨μ, ρ, h, d, rs, rh, dv, p⟩ => by
    cases d with
    | tup ds =>
      obtain ⟨a, vs, e, q, r⟩ := dv
      by_cases hl : ds.length = n
      · have p : (match (if ds.length = n then m ds ρ h else none) with
          | some (ρ', h') => ∀ μ' H' σ', Step μ H μ' H' → RelH X.K μ' H' h' → RelS X.K μ' H' ρ' σ' → Q σ' H'
          | none => False) := p
        rw [if_pos hl] at p
        exact ⟨a, vs, e, SqT.of q, by rw [r.length]; exact hl, μ, ρ, h, ds, rs, rh, r, p⟩
      · have p : (match (if ds.length = n then m ds ρ h else none) with
          | some (ρ', h') => ∀ μ' H' σ', Step μ H μ' H' → RelH X.K μ' H' h' → RelS X.K μ' H' ρ' σ' → Q σ' H'
          | none => False) := p
        rw [if_neg hl] at p
        exact p.elim
    | _ => exact p.elim
/-- target = value -/
def mAsg (m : ME) (g : MG) : MS := fun ρ h => (m ρ h).bindS ρ fun d h1 => match g d ρ h1 with
  | some (ρ', h') => .nx ρ' h'
  | none => .bad
theorem asg_go {m : ME} {g : MG} {D : Ends} {σ : L2.St} {H : Hp} (q : rdS X.K ct W (mAsg m g) D σ H) : tAsg (rdE X.K ct W m) (rdG X.K g) D σ H := by
  obtain ⟨μ, ρ, h, rs, rh, p⟩ := q
  refine rdE.goS rs rh p fun d h1 μ1 H1 v s1 rs1 rh1 dv p1 => ⟨μ1, ρ, h1, d, rs1, rh1, dv, ?_⟩
  cases e : g d ρ h1 with
  | none =>
    have p1 : PSt X.K ct W μ1 H1 D (match g d ρ h1 with | some (ρ', h') => .nx ρ' h' | none => .bad) := p1
    rw [e] at p1
    exact p1.elim
  | some z =>
    have p1 : PSt X.K ct W μ1 H1 D (match g d ρ h1 with | some (ρ', h') => .nx ρ' h' | none => .bad) := p1
    rw [e] at p1
    exact p1
theorem ss_asg {tg e : Expr} {m : ME} {g : MG} {pos : Pos} (he : SE X ct W e m) (hg : SG X tg g) (hs : swapsWithSole [tg] e pos.line X.env = pure false := by rfl) (hw : swappedStores [tg] e X.env = pure none := by rfl)
    (h1 : (assignEach [tg] X.env).map (·.2) = [assign tg X.env] := by rfl) : SS X ct W (.Assign [tg] e pos) (mAsg m g) :=
  (ps_asg he hg hs hw h1).imp fun D σ H q => asg_go q
def mSet (i : Nat) (m : ME) : MS := fun ρ h => (m ρ h).bindS ρ fun d h1 => .nx (ρ.set i (some d)) h1
theorem ss_set {i : Nat} {x : Str} {e : Expr} {m : ME} {pos pos' : Pos} (hN : X.N.Nodup) (hi : X.N[i]? = some x) (hx : Loc X.env.scope x) (he : SE X ct W e m) (hs : swapsWith e (some (.Name x pos')) pos.line X.env = pure false := by rfl) (hf : X.fn x = true ∨ X.env.scope.names.lookup x = some .local := by first | exact .inl rfl | exact .inr rfl | assumption) :
    SS X ct W (.Assign [.Name x pos'] e pos) (mSet i m) :=
  (ps_set hN hi hx he hs hf).imp fun D σ H ⟨μ, ρ, h, rs, rh, p⟩ => rdE.goS rs rh p fun d h1 μ1 H1 v s1 rs1 rh1 dv p1 => p1 μ1 H1 _ Step.refl rh1 (rs1.set dv)
/-- a, b = x, y -/
def mPar (i j : Nat) (ma : MA) : MS := fun ρ h => (ma ρ h).bindS ρ fun ds h1 => match ds with
  | [d, e] => .nx ((ρ.set i (some d)).set j (some e)) h1
  | _ => .bad
theorem ss_par {i j : Nat} {x y : Str} {a b : Expr} {ma : MA} {px py pt pos : Pos} {kt k2 pt2} (hc : X.calm = true) (hN : X.N.Nodup) (hi : X.N[i]? = some x) (hj : X.N[j]? = some y) (hij : i ≠ j)
    (hx : X.env.scope.names.lookup x = some .local) (hy : X.env.scope.names.lookup y = some .local) (ha : SA X ct W [a, b] ma)
    (hw : swappedStores [.Tuple [.Name x px, .Name y py] kt pt] (.Tuple [a, b] k2 pt2) X.env = pure (some [x, y]))
    (hs : swapsWithSole [.Tuple [.Name x px, .Name y py] kt pt] (.Tuple [a, b] k2 pt2) pos.line X.env = pure false := by rfl) :
    SS X ct W (.Assign [.Tuple [.Name x px, .Name y py] kt pt] (.Tuple [a, b] k2 pt2) pos) (mPar i j ma) :=
  (ps_par hc hN hi hj hij hx hy ha hw hs).imp fun D σ H ⟨μ, ρ, h, rs, rh, p⟩ => rdA.goS rs rh p fun ds h1 μ1 H1 vs s1 rs1 rh1 dv p1 => by
    split at p1
    · obtain ⟨v, vr, rfl, q1, w, wr, rfl, q2, q3⟩ := dv
      have q3 : wr = [] := q3
      subst q3
      exact ⟨v, w, rfl, p1 μ1 H1 _ Step.refl rh1 ((rs1.set q1).set q2)⟩
    · exact p1.elim
/-- name op= e -/
def mAug (i : Nat) (g : D → D → Hh → Option (D × Hh)) (m : ME) : MS := fun ρ h => match ρ[i]? with
  | some (some x) => (m ρ h).bindS ρ fun y h1 => (Out.ofO (g x y h1)).bindS ρ fun z h2 => .nx (ρ.set i (some z)) h2
  | _ => .bad
theorem ss_aug {i : Nat} {x : Str} {e : Expr} {m : ME} {op : Operator} {g : D → D → Hh → Option (D × Hh)} {pos pos' : Pos} (hN : X.N.Nodup) (hi : X.N[i]? = some x) (hx : Loc X.env.scope x) (he : SE X ct W e m) (ho : PIp X op (r2 X.K g)) (hf : X.fn x = true ∨ X.env.scope.names.lookup x = some .local := by first | exact .inl rfl | exact .inr rfl | assumption) :
    SS X ct W (.AugAssign (.Name x pos') op e pos) (mAug i g m) :=
  (ps_aug hN hi hx he ho hf).imp fun D σ H ⟨μ, ρ, h, rs, rh, p⟩ => by
    have p : PSt X.K ct W μ H D (mAug i g m ρ h) := p
    unfold mAug at p
    split at p
    · rename_i d ed
      obtain ⟨v, e1, dv⟩ := rs.get i d ed
      exact ⟨v, e1, rdE.goS rs rh p fun y h1 μ1 H1 w s1 rs1 rh1 dy p1 => ⟨μ1, h1, d, y, dv.mono s1, dy, rh1, (PSt.bindS (W := W) rs1 p1).ofO.mono fun z h2 μ2 H2 s2 rh2 p2 u du => p2 μ2 H2 _ Step.refl rh2 ((rs1.mono s2).set du)⟩⟩
    · exact p.elim

/-! ### while -/
def whileL (c : MT) (b : MS) : Nat → MS
  | 0, _, _ => .bad
  | n + 1, ρ, h => (c ρ h).bindS ρ fun t h1 => if t = true then
      match b ρ h1 with
      | .nx ρ' h' => whileL c b n ρ' h'
      | .ct ρ' h' => whileL c b n ρ' h'
      | .bk ρ' h' => .nx ρ' h'
      | .rt d h' => .rt d h'
      | .er x ρ' h' => .er x ρ' h'
      | .bad => .bad
    else .nx ρ h1
theorem ss_while {c : Expr} {body : List Stmt} {pos : Pos} {mc : MT} {mb : MS} (n : Rho → Hh → Nat) (hp : PassesOwn (model X.prog X.w) X.A X.env X.xe) (hc : ST X ct W c mc) (hb : SSs X ct W body mb) :
    SS X ct W (.While c body [] pos) (fun ρ h => whileL mc mb (n ρ h) ρ h) :=
  (ps_while hp hc hb).imp fun D σ H ⟨μ, ρ, h, rs, rh, p⟩ => by
    have p : PSt X.K ct W μ H D (whileL mc mb (n ρ h) ρ h) := p
    refine ⟨fun m σ' H' => ∃ μ' ρ' h', RelS X.K μ' H' ρ' σ' ∧ RelH X.K μ' H' h' ∧ PSt X.K ct W μ' H' D (whileL mc mb m ρ' h'), ⟨n ρ h, μ, ρ, h, rs, rh, p⟩, ?_⟩
    rintro m σ' H' ⟨μ', ρ', h', rs', rh', p'⟩
    cases m with
    | zero => exact p'.elim
    | succ m =>
      refine rdT.goS rs' rh' p' fun t h1 μ1 H1 s1 rs1 rh1 p1 => ?_
      cases t with
      | false =>
        rw [if_neg Bool.false_ne_true]
        rw [if_neg Bool.false_ne_true] at p1
        exact p1 μ1 H1 _ Step.refl rh1 rs1
      | true =>
        rw [if_pos rfl]
        rw [if_pos rfl] at p1
        refine ⟨fun σ2 H2 => ∃ μ2 ρ2 h2, RelS X.K μ2 H2 ρ2 σ2 ∧ RelH X.K μ2 H2 h2 ∧ PSt X.K ct W μ2 H2 D (whileL mc mb m ρ2 h2), fun σ2 H2 w2 => ⟨m, Nat.lt_succ_self _, w2⟩, μ1, ρ', h1, rs1, rh1, ?_⟩
        cases e : mb ρ' h1 with
        | nx ρ2 h2 => rw [e] at p1; exact fun μ2 H2 σ2 s2 rh2 rs2 => ⟨μ2, ρ2, h2, rs2, rh2, PSt.step s2 p1⟩
        | ct ρ2 h2 => rw [e] at p1; exact fun μ2 H2 σ2 s2 rh2 rs2 => ⟨μ2, ρ2, h2, rs2, rh2, PSt.step s2 p1⟩
        | bk ρ2 h2 => rw [e] at p1; exact p1
        | rt d h2 => rw [e] at p1; exact p1
        | er x ρ2 h2 => rw [e] at p1; exact p1
        | bad => rw [e] at p1; exact p1

/-! ### for -/
/-- what a walked thing gives, turn by turn: the item, or the end, from the heap as it stands -/
structure MIt where
  /-- none: it can't be told; some none: the end; some (some d): an item -/
  at_ : Nat → Hh → Option (Option D)
  /-- at most so many turns -/
  most : Nat
abbrev MI := Rho → Hh → Out MIt
/-- the mirror J of an iterator It -/
structure ItR (K : PySem.W.Frag) (μ : List Addr) (H : Hp) (J : It) (j : MIt) : Prop where
  stop : ∀ i μ' H' h', Step μ H μ' H' → RelH K μ' H' h' → j.at_ i h' = some none → J.stop i H'
  go : ∀ i μ' H' h' d, Step μ H μ' H' → RelH K μ' H' h' → j.at_ i h' = some (some d) → J.go i H' ∧ ∀ x H'', J.yld i H' x H'' → Step μ' H' μ' H'' ∧ RelH K μ' H'' h' ∧ Den K μ' H'' d x
def rdI (K : PySem.W.Frag) (ct : Ctb) (W : WX) (m : MI) : TI := fun σ H R => ∃ μ ρ h, RelS K μ H ρ σ ∧ RelH K μ H h ∧ PO K ct W σ μ H (fun j _ μ' H' => ∀ J, ItR K μ' H' J j → R J H') (m ρ h)
abbrev SI (X : Cx) (ct : Ctb) (W : WX) (tg iter : Expr) (m : MI) : Prop := PI X tg iter (rdI X.K ct W m)
theorem _root_.L2.PI.imp {tg e : Expr} {t t' : TI} (h : L2.PI X tg e t) (i : ∀ σ H R, t' σ H R → t σ H R) : L2.PI X tg e t' := ⟨fun pins s σ H R I q => h.run pins s σ H R I (i σ H R q)⟩
def forL (j : MIt) (g : MG) (b : MS) : Nat → Nat → MS
  | 0, i, ρ, h => match j.at_ i h with
    | some none => .nx ρ h
    | _ => .bad
  | n + 1, i, ρ, h => match j.at_ i h with
    | some none => .nx ρ h
    | some (some d) => match g d ρ h with
      | none => .bad
      | some (ρ1, h1) => match b ρ1 h1 with
        | .nx ρ' h' => forL j g b n (i + 1) ρ' h'
        | .ct ρ' h' => forL j g b n (i + 1) ρ' h'
        | .bk ρ' h' => .nx ρ' h'
        | .rt d h' => .rt d h'
        | .er x ρ' h' => .er x ρ' h'
        | .bad => .bad
    | none => .bad
def mFor (m : MI) (g : MG) (b : MS) : MS := fun ρ h => (m ρ h).bindS ρ fun j h1 => forL j g b j.most 0 ρ h1
theorem ss_for {tg iter : Expr} {body : List Stmt} {pos : Pos} {m : MI} {g : MG} {b : MS} (hp : PassesOwn (model X.prog X.w) X.A X.env X.xe) (hc : X.calm = true) (hi : L2.PI X tg iter (rdI X.K ct W m)) (hg : SG X tg g) (hb : SSs X ct W body b)
    (hs : ∀ x, foldedSetIterable iter X.env x = pure x := by intro _; rfl) : SS X ct W (.For tg iter body [] pos) (mFor m g b) :=
  (ps_for hp hc hi hg hb hs).imp fun D σ H ⟨μ, ρ, h, rs, rh, p⟩ => by
    refine ⟨μ, ρ, h, rs, rh, (PSt.bindS (W := W) rs p).mono fun j h1 μ1 H1 s1 rh1 p1 J ij => ?_⟩
    have rs1 := rs.mono s1
    refine ⟨fun i m σ' H' => ∃ μ' ρ' h', Step μ1 H1 μ' H' ∧ RelS X.K μ' H' ρ' σ' ∧ RelH X.K μ' H' h' ∧ PSt X.K ct W μ' H' D (forL j g b m i ρ' h'), ⟨j.most, μ1, ρ, h1, Step.refl, rs1, rh1, p1⟩, ?_⟩
    rintro i m σ' H' ⟨μ', ρ', h', st, rs', rh', p'⟩
    have stop : j.at_ i h' = some none → PSt X.K ct W μ' H' D (.nx ρ' h') → (J.stop i H' ∧ D.nx σ' H') := fun e q => ⟨ij.stop i μ' H' h' st rh' e, q μ' H' σ' Step.refl rh' rs'⟩
    cases m with
    | zero =>
      unfold forL at p'
      split at p'
      · rename_i e
        exact .inl (stop e p')
      · exact p'.elim
    | succ m =>
      unfold forL at p'
      split at p'
      · rename_i e
        exact .inl (stop e p')
      · rename_i d e
        obtain ⟨go, yl⟩ := ij.go i μ' H' h' d st rh' e
        refine .inr ⟨go, fun σ2 H2 => ∃ μ2 ρ2 h2, Step μ1 H1 μ2 H2 ∧ RelS X.K μ2 H2 ρ2 σ2 ∧ RelH X.K μ2 H2 h2 ∧ PSt X.K ct W μ2 H2 D (forL j g b m (i + 1) ρ2 h2), fun σ2 H2 w2 => ⟨m, Nat.lt_succ_self _, w2⟩, fun x H'' y => ?_⟩
        obtain ⟨st2, rh2, dx⟩ := yl x H'' y
        refine ⟨μ', ρ', h', d, rs'.mono st2, rh2, dx, ?_⟩
        cases eg : g d ρ' h' with
        | none => rw [eg] at p'; exact p'.elim
        | some z =>
          obtain ⟨ρ3, h3⟩ := z
          rw [eg] at p'
          intro μ3 H3 σ3 st3 rh3 rs3
          have st4 := (st.trans st2).trans st3
          have p' : PSt X.K ct W μ' H' D (match b ρ3 h3 with
            | .nx ρ' h' => forL j g b m (i + 1) ρ' h'
            | .ct ρ' h' => forL j g b m (i + 1) ρ' h'
            | .bk ρ' h' => .nx ρ' h'
            | .rt d h' => .rt d h'
            | .er x ρ' h' => .er x ρ' h'
            | .bad => .bad) := p'
          have p' := PSt.step (st2.trans st3) p'
          refine ⟨μ3, ρ3, h3, rs3, rh3, ?_⟩
          cases e : b ρ3 h3 with
          | nx ρ2 h2 => rw [e] at p'; exact fun μ2 H2 σ2 s2 rh2 rs2 => ⟨μ2, ρ2, h2, st4.trans s2, rs2, rh2, PSt.step s2 p'⟩
          | ct ρ2 h2 => rw [e] at p'; exact fun μ2 H2 σ2 s2 rh2 rs2 => ⟨μ2, ρ2, h2, st4.trans s2, rs2, rh2, PSt.step s2 p'⟩
          | bk ρ2 h2 => rw [e] at p'; exact p'
          | rt d h2 => rw [e] at p'; exact p'
          | er x ρ2 h2 => rw [e] at p'; exact p'
          | bad => rw [e] at p'; exact p'
      · exact p'.elim
end
end PI
/-! Defs, calls, exceptions. -/
namespace PI
open PySem PySem.Spec L2
open PyProof.Rows hiding St

/-- what a def gives, by its mirror f -/
def spM (K : PySem.W.Frag) (ct : Ctb) (n : Nat) (f : FnM) : Sp := fun vs H Q E => ∃ μ h ds, ds.length = n ∧ Dens K μ H ds vs ∧ RelH K μ H h ∧ PO K ct (fun c d _ H' => E c d H') [] μ H (fun d _ μ' H' => ∀ v, Den K μ' H' d v → Q v H') (f ds h)
def OutS.out : OutS → Out D
  | .nx _ h => .ok .non h
  | .rt d h => .ok d h
  | .er x _ h => .err x h
  | _ => .bad
@[simp] theorem OutS.out_nx {ρ : Rho} {h : Hh} : (OutS.nx ρ h).out = .ok .non h := rfl
@[simp] theorem OutS.out_rt {d : D} {h : Hh} : (OutS.rt d h).out = .ok d h := rfl
@[simp] theorem OutS.out_er {x : Exn} {ρ : Rho} {h : Hh} : (OutS.er x ρ h).out = .err x h := rfl
/-- the mirror of a def with N names -/
def mFn (N : Nat) (b : MS) : FnM := fun ds h => (b (ds.map some ++ List.replicate (N - ds.length) none) h).out
theorem PO.wish {K : PySem.W.Frag} {ct : Ctb} {W W' : WX} {σ σ' : L2.St} {α : Type} {μ : List Addr} {H : Hp} {R : α → Hh → List Addr → Hp → Prop} {o : Out α} (p : PO K ct W σ μ H R o) (i : ∀ c d H', W c d σ H' → W' c d σ' H') : PO K ct W' σ' μ H R o := by
  cases o with
  | ok a h => exact p
  | err x h => exact fun μ' H' c d s r e => i _ _ _ (p μ' H' c d s r e)
  | bad => exact p
theorem starts {K : PySem.W.Frag} {μ : List Addr} {H : Hp} {ds : List D} {vs : List V} (N : List Str) (dv : Dens K μ H ds vs) : RelS K μ H (ds.map some ++ List.replicate (N.length - ds.length) none) (L2.start N vs) := by
  have hl := dv.length
  refine ⟨by unfold L2.start; simp [hl], fun i d e => ?_⟩
  by_cases hi : i < ds.length
  · rw [List.getElem?_append_left (by simpa using hi), List.getElem?_map] at e
    cases q : ds[i]? with
    | none => rw [q] at e; cases e
    | some d' =>
      rw [q] at e
      cases e
      obtain ⟨v, e1, e2⟩ := dv.get q
      refine ⟨v, ?_, e2⟩
      unfold L2.start
      rw [List.getElem?_append_left (by simp; omega), List.getElem?_map, e1]
      rfl
  · rw [List.getElem?_append_right (by simp; omega), List.getElem?_replicate] at e
    split at e <;> cases e
section
variable {P : Program} {w : World} {K : PySem.W.Frag} {mg : Str → Option Value} {base : Heap} {ct : Ctb}
/-- THE RULE for a def -/
theorem fn_ok {x qual : Str} {st : Stmt} {f : Addr} {fd : FuncData} {N ps : List Str} {k : Nat} {b : MS} (F : Fun K x qual st f fd) (S : FnScope N ps (defScope st))
    (hbody : ∀ (cdv : Value) (A : Around) (outer : List Env) (s : Shared) (H : Hp) (E : XK), Room k (A.deeper (envOfC qual (defScope st) s.heap.objs.size f cdv)) →
      Takes (cxOf (L2.CX P w) P w K mg base N qual (defScope st) f cdv A outer s H E) (fun c d _ H' => E c d H') →
      PassesOwn (model P w) (cxOf (L2.CX P w) P w K mg base N qual (defScope st) f cdv A outer s H E).A (cxOf (L2.CX P w) P w K mg base N qual (defScope st) f cdv A outer s H E).env (cxOf (L2.CX P w) P w K mg base N qual (defScope st) f cdv A outer s H E).xe →
      SSs (cxOf (L2.CX P w) P w K mg base N qual (defScope st) f cdv A outer s H E) ct (fun c d _ H' => E c d H') (defBody st) b) : FnOk P w K mg base (L2.CX P w) (k + 1) f fd ps (spM K ct ps.length (mFn N.length b)) := by
  refine F.okX S (fun vs H Q E h => ?_) (fun cdv A outer s H vs Q E hr h => ⟨_, hbody cdv A outer s H E hr (takes_of rfl rfl rfl rfl) (passes_of rfl), ?_⟩)
  · obtain ⟨μ, h, ds, e, dv, _⟩ := h
    rw [dv.length, e]
  · obtain ⟨μ, h, ds, e, dv, rh, p⟩ := h
    refine ⟨μ, _, h, starts N dv, rh, ?_⟩
    have p : PO K ct (fun c d _ H' => E c d H') [] μ H (fun d _ μ' H' => ∀ v, Den K μ' H' d v → Q v H') (b (ds.map some ++ List.replicate (N.length - ds.length) none) h).out := p
    cases eb : b (ds.map some ++ List.replicate (N.length - ds.length) none) h with
    | nx ρ h' => rw [eb] at p; exact fun μ' H' σ' s r _ => p μ' H' s r .non rfl
    | rt d h' => rw [eb] at p; exact fun μ' H' v s r dv => p μ' H' s r v dv
    | er x ρ h' => rw [eb] at p; exact fun μ' H' σ' c d s r _ e => p μ' H' c d s r e
    | bk ρ h' => rw [eb] at p; exact p.elim
    | ct ρ h' => rw [eb] at p; exact p.elim
    | bad => rw [eb] at p; exact p.elim
/-- another mirror that says less -/
theorem fn_imp {f : Addr} {fd : FuncData} {ps : List Str} {k n : Nat} {g g' : FnM} (F : FnOk P w K mg base (L2.CX P w) k f fd ps (spM K ct n g))
    (i : ∀ ds h μ H vs R, ds.length = n → Dens K μ H ds vs → RelH K μ H h → ∀ W, PO K ct W [] μ H R (g' ds h) → PO K ct W [] μ H R (g ds h)) : FnOk P w K mg base (L2.CX P w) k f fd ps (spM K ct n g') :=
  F.imp fun vs H Q E ⟨μ, h, ds, e, dv, rh, p⟩ => ⟨μ, h, ds, e, dv, rh, i ds h μ H vs _ e dv rh _ p⟩
end

/-! ### calls -/
section
variable {X : Cx} {ct : Ctb} {W : WX}
def mCall (n : Nat) (f : FnM) (ma : MA) : ME := fun ρ h => (ma ρ h).bind fun ds h1 => if ds.length = n then f ds h1 else .bad
theorem call_go {n : Nat} {f : FnM} {ma : MA} (σ : L2.St) (H : Hp) (Q : VK) (q : rdE X.K ct W (mCall n f ma) σ H Q) : tCallS (spM X.K ct n f) (WE W) (rdA X.K ct W ma) σ H Q := by
  obtain ⟨μ, ρ, h, rs, rh, p⟩ := q
  refine rdA.go rs rh p fun ds h1 μ1 H1 vs s1 rs1 rh1 dv p1 => ?_
  by_cases hl : ds.length = n
  · rw [if_pos hl] at p1
    exact ⟨μ1, h1, ds, hl, dv, rh1, p1.wish fun _ _ _ z => z⟩
  · rw [if_neg hl] at p1
    exact p1.elim
theorem se_call {k n : Nat} {fa : Addr} {fd : FuncData} {ps : List Str} {f : FnM} {x : Str} {p pos : Pos} {e : Expr} {es : List Expr} {ma : MA} (F : FnOk X.prog X.w X.K X.mg X.base (L2.CX X.prog X.w) k fa fd ps (spM X.K ct n f)) (hr : Room k X.A) (hg : Gl X x) (hm : X.mg x = some (.ref fa)) (hk : PySem.W.keepIn X.K (.ref fa) = true) (hb : Binds X.K fd ps []) (tk : Takes X W)
    (ha : SA X ct W (e :: es) ma) (hdb : (x == ("__debug__" : Str)) = false := by decide) (he : starEach (e :: es) X.env = (false, eval e X.env) :: starEach es X.env := by rfl) (hpl : (backTo pos (starEach es X.env)).any (·.1) = false := by rfl) :
    SE X ct W (.Call (.Name x p) (e :: es) [] pos) (mCall n f ma) :=
  (pe_callS F hr hg hm hk hb (fun σ => passAt tk σ) ha hdb he hpl).imp call_go
/-- keyword arguments alone: g puts them into the parameters' order -/
abbrev SK (X : Cx) (ct : Ctb) (W : WX) (kws : List Keyword) (m : MA) : Prop := PK X kws (rdA X.K ct W m)
theorem sk_nil : SK X ct W [] mNil := ⟨fun _ _ _ _ _ _ I ⟨μ, ρ, h, rs, rh, p⟩ => pk_nil.run default _ _ _ _ _ I (p.at rh [] rfl)⟩
theorem sk_cons {nm : Option Str} {e : Expr} {kpos : Pos} {kws : List Keyword} {m : ME} {r : MA} (ha : SE X ct W e m) (hr : SK X ct W kws r) : SK X ct W (⟨nm, e, kpos⟩ :: kws) (mCons m r) :=
  ⟨fun pos pins s σ H Q I ⟨μ, ρ, h, rs, rh, p⟩ => (pk_cons ha hr).run pos pins s σ H Q I (rdE.go rs rh p fun d h1 μ1 H1 v s1 rs1 rh1 dv p1 => rdA.go rs1 rh1 p1 fun ds h2 μ2 H2 vs s2 rs2 rh2 dvs p2 =>
    p2.at rh2 (v :: vs) ⟨v, vs, rfl, dv.mono s2, dvs⟩)⟩
/-- the places of the keywords' values among the parameters -/
def perm {α : Type} (pl : List Nat) (xs : List α) : List α := pl.filterMap fun i => xs[i]?
theorem Vals.perm {xs : List V} {us : List Value} (r : Vals xs us) : ∀ pl : List Nat, Vals (perm pl xs) (perm pl us)
  | [] => .nil
  | i :: pl => by
    have t := Vals.perm r pl
    unfold PI.perm at *
    cases e : xs[i]? with
    | none =>
      have e2 := Vals.none_of r e
      rw [List.filterMap_cons_none e, List.filterMap_cons_none e2]
      exact t
    | some x =>
      obtain ⟨u, e2, q⟩ := Vals.get r e
      rw [List.filterMap_cons_some e, List.filterMap_cons_some e2]
      exact .cons q t
theorem Dens.perm {K : PySem.W.Frag} {μ : List Addr} {H : Hp} {ds : List D} {vs : List V} (r : Dens K μ H ds vs) : ∀ pl : List Nat, Dens K μ H (perm pl ds) (perm pl vs)
  | [] => rfl
  | i :: pl => by
    have t := Dens.perm r pl
    unfold PI.perm at *
    cases e : ds[i]? with
    | none =>
      have e2 : vs[i]? = none := by
        rw [List.getElem?_eq_none_iff] at e ⊢
        rw [r.length]; exact e
      rw [List.filterMap_cons_none e, List.filterMap_cons_none e2]
      exact t
    | some x =>
      obtain ⟨u, e2, q⟩ := r.get e
      rw [List.filterMap_cons_some e, List.filterMap_cons_some e2]
      exact ⟨_, _, rfl, q, t⟩
def mCallK (n : Nat) (pl : List Nat) (f : FnM) (mk : MA) : ME := fun ρ h => (mk ρ h).bind fun ds h1 => if (perm pl ds).length = n then f (perm pl ds) h1 else .bad
/-- f(a=x, b=y): no positional argument -/
theorem se_callK {k n : Nat} {pl : List Nat} {fa : Addr} {fd : FuncData} {ps ks : List Str} {f : FnM} {x : Str} {p pos : Pos} {kws : List Keyword} {mk : MA} (F : FnOk X.prog X.w X.K X.mg X.base (L2.CX X.prog X.w) k fa fd ps (spM X.K ct n f)) (hr : Room k X.A) (hg : Gl X x) (hm : X.mg x = some (.ref fa)) (hk : PySem.W.keepIn X.K (.ref fa) = true)
    (hb : ∀ (s : Shared) (ws : List Value), (perm pl ws).length = ps.length → BindsTo s fd ⟨[], ks.zip ws⟩ (ps.zip (perm pl ws))) (tk : Takes X W)
    (hkw : SK X ct W kws mk) (hall : (backToKw pos (keywordEach kws X.env)).all (·.1.isSome) = true := by rfl) (hks : (backToKw pos (keywordEach kws X.env)).filterMap (·.1) = ks := by rfl)
    (hdb : (x == ("__debug__" : Str)) = false := by decide)
    (hpl : ((backTo pos (starEach [] X.env)).any (·.1) || (backToKw pos (keywordEach kws X.env)).any (·.1.isNone)) = false := by rfl) :
    SE X ct W (.Call (.Name x p) [] kws pos) (mCallK n pl f mk) := by
  refine ⟨fun pins s σ H Q I q => ?_⟩
  obtain ⟨μ, ρ, h, rs, rh, po⟩ := q
  refine wpAny_Call_Name_kw (ld_glob I hg hm ?_ hdb)
  refine PySem.W.callWith_KW0 (h₀ := X.base) I.ok.mod.kin hk hall ?_ hpl
  refine thn (hkw.run pos pins s σ H (fun zs H1 => ∃ μ1 h1 ds, Dens X.K μ1 H1 ds zs ∧ RelH X.K μ1 H1 h1 ∧ PO X.K ct W σ μ1 H1 (fun d _ μ' H' => ∀ v, Den X.K μ' H' d v → Q v H') (if (perm pl ds).length = n then f (perm pl ds) h1 else .bad)) I
    (rdA.go rs rh po fun ds h1 μ1 H1 vs s1 rs1 rh1 dv p1 => ⟨μ1, h1, ds, dv, rh1, p1⟩)) fun ws s2 h2 => ?_
  obtain ⟨zs, H1, I1, rz, μ1, h1, ds, dv, rh1, p1⟩ := h2
  refine ⟨I1.kIn, ?_⟩
  rw [hks]
  by_cases hl : (perm pl ds).length = n
  · rw [if_pos hl] at p1
    have rp := Vals.perm rz pl
    have dp := Dens.perm dv pl
    have sp : spM X.K ct n f (perm pl zs) H1 Q (WE W σ) := ⟨μ1, h1, perm pl ds, hl, dp, rh1, p1.wish fun _ _ _ z => z⟩
    have hlen : (perm pl ws).length = ps.length := by rw [← rp.length]; exact F.len _ _ _ _ sp
    show wpAny _ _ (call (.ref fa) ([] ++ []) (ks.zip ws)) _ _ s2
    refine wpAny_call (codeAny_mono (F.run X.A X.stack s2 H1 ⟨[], ks.zip ws⟩ (perm pl ws) (perm pl zs) Q (WE W σ) hr I1.env0 (hb s2 ws hlen) rp sp) fun r s' hq => ?_)
    cases r with
    | error e => exact passAt tk σ pins H1 s2 e s' I1 hq
    | ok fl =>
      cases fl with
      | ret u => exact I1.after hq
      | next => exact False.elim hq
      | brk => exact False.elim hq
      | cont => exact False.elim hq
  · rw [if_neg hl] at p1
    exact p1.elim

/-- a def as its callers see it -/
structure FnI (P : Program) (w : World) (K : PySem.W.Frag) (mg : Str → Option Value) (base : Heap) (ct : Ctb) (k : Nat) (x : Str) (ps : List Str) (f : FnM) : Prop where
  ex : ∃ fa fd, mg x = some (.ref fa) ∧ PySem.W.keepIn K (.ref fa) = true ∧ Binds K fd ps [] ∧ FnOk P w K mg base (L2.CX P w) k fa fd ps (spM K ct ps.length f)
theorem se_callI {k n : Nat} {ps : List Str} {f : FnM} {x : Str} {p pos : Pos} {e : Expr} {es : List Expr} {ma : MA} (F : FnI X.prog X.w X.K X.mg X.base ct k x ps f) (hn : ps.length = n) (hr : Room k X.A) (hg : Gl X x) (tk : Takes X W)
    (ha : SA X ct W (e :: es) ma) (hdb : (x == ("__debug__" : Str)) = false := by decide) (he : starEach (e :: es) X.env = (false, eval e X.env) :: starEach es X.env := by rfl) (hpl : (backTo pos (starEach es X.env)).any (·.1) = false := by rfl) :
    SE X ct W (.Call (.Name x p) (e :: es) [] pos) (mCall n f ma) := by
  obtain ⟨fa, fd, hm, hk, hb, hF⟩ := F.ex
  subst hn
  exact se_call hF hr hg hm hk hb tk ha hdb he hpl
/-- keyword arguments bind so -/
def KwB (fd : FuncData) (ps ks : List Str) (pl : List Nat) : Prop := ∀ (s : Shared) (ws : List Value), (perm pl ws).length = ps.length → BindsTo s fd ⟨[], ks.zip ws⟩ (ps.zip (perm pl ws))
structure FnK (P : Program) (w : World) (K : PySem.W.Frag) (mg : Str → Option Value) (base : Heap) (ct : Ctb) (k : Nat) (x : Str) (ps ks : List Str) (pl : List Nat) (f : FnM) : Prop where
  ex : ∃ fa fd, mg x = some (.ref fa) ∧ PySem.W.keepIn K (.ref fa) = true ∧ KwB fd ps ks pl ∧ FnOk P w K mg base (L2.CX P w) k fa fd ps (spM K ct ps.length f)
theorem se_callKI {k n : Nat} {pl : List Nat} {ps ks : List Str} {f : FnM} {x : Str} {p pos : Pos} {kws : List Keyword} {mk : MA} (F : FnK X.prog X.w X.K X.mg X.base ct k x ps ks pl f) (hn : ps.length = n) (hr : Room k X.A) (hg : Gl X x) (tk : Takes X W)
    (hkw : SK X ct W kws mk) (hall : (backToKw pos (keywordEach kws X.env)).all (·.1.isSome) = true := by rfl) (hks : (backToKw pos (keywordEach kws X.env)).filterMap (·.1) = ks := by rfl)
    (hdb : (x == ("__debug__" : Str)) = false := by decide)
    (hpl : ((backTo pos (starEach [] X.env)).any (·.1) || (backToKw pos (keywordEach kws X.env)).any (·.1.isNone)) = false := by rfl) :
    SE X ct W (.Call (.Name x p) [] kws pos) (mCallK n pl f mk) := by
  obtain ⟨fa, fd, hm, hk, hb, hF⟩ := F.ex
  subst hn
  exact se_callK hF hr hg hm hk hb tk hkw hall hks hdb hpl
/-- an own exception class without an __init__ -/
structure ExcI (K : PySem.W.Frag) (mg : Str → Option Value) (x : Str) (C : Addr) : Prop where
  g : mg x = some (.ref C)
  x : PySem.W.excIn K C [.type "ValueError", .type "Exception", .type "BaseException", .type "object"] "ValueError.__new__" = true
  k : PySem.W.keepIn K (.ref C) = true
  b : PySem.W.subIn K (.ref C) (.type "BaseException") = some true
  t : PySem.W.typeIn K (.ref C) = some (.type "type")
  i : PySem.W.isClsIn K C = true
/-! ### raise, try -/
def mRaise (c : Str) : MS := fun ρ h => .er ⟨c, []⟩ ρ h
/-- raise C('..'), C an own class without an __init__ -/
theorem ss_raise {C : Addr} {bmB : List Value} {B newId initId : String} {x m cn : Str} {j : Nat} {p p2 pos pos2 : Pos} (hc : X.calm = true) (tk : Takes X W) (hct : ct cn = some (.ref C)) (F : ExcBaseFacts B newId initId bmB) (q : PySem.W.excIn X.K C bmB newId = true) (gC : X.mg x = some (.ref C)) (kC : PySem.W.keepIn X.K (.ref C) = true) (r : Raises X (.ref C)) (hg : Gl X x)
    (hdb : (x == ("__debug__" : Str)) = false := by decide) : SS X ct W (.Raise (some (.Call (.Name x p) [.Constant (.str m) j p2] [] pos)) none pos2) (mRaise cn) :=
  (ps_raise hc tk (pmk_own F q gC kC r hg hdb)).imp fun D σ H ⟨μ, ρ, h, rs, rh, po⟩ => po μ H σ (.ref C) none Step.refl rh rs ⟨hct, .inl ⟨rfl, rfl⟩⟩
/-- raise C('..') -/
theorem ss_raiseI {C : Addr} {x m : Str} {j : Nat} {p p2 pos pos2 : Pos} (hc : X.calm = true) (tk : Takes X W) (T : ExcI X.K X.mg x C) (hct : ct x = some (.ref C)) (hg : Gl X x) (hdb : (x == ("__debug__" : Str)) = false := by decide) :
    SS X ct W (.Raise (some (.Call (.Name x p) [.Constant (.str m) j p2] [] pos)) none pos2) (mRaise x) :=
  ss_raise hc tk hct PySem.F.excBase_ValueError T.x T.g T.k (raises_own T.b T.t) hg hdb
end
end PI
/-! Operations by values. -/
namespace PI
open PySem PySem.Spec L2
open PyProof.Rows hiding St

abbrev G1 := D → Hh → Option (D × Hh)
abbrev G2 := D → D → Hh → Option (D × Hh)
abbrev GN := List D → Hh → Option (D × Hh)
section
variable {K : PySem.W.Frag} {μ : List Addr} {H : Hp} {h : Hh} {Q : VK}
/-- an end that makes nothing -/
theorem POo.fin {d : D} (rh : RelH K μ H h) (p : POo K μ H (fun d _ μ' H' => ∀ v, Den K μ' H' d v → Q v H') (some (d, h))) {v : V} (dv : Den K μ H d v) : Q v H := p μ H Step.refl rh v dv
theorem POo.finL {as : List D} {vs : List V} (rh : RelH K μ H h) (dv : Dens K μ H as vs) (p : POo K μ H (fun d _ μ' H' => ∀ v, Den K μ' H' d v → Q v H') (some (.ref h.length, h ++ [.lst as]))) (q : Addr) (hq : H q = none) : Q (.ref q) (upd H q (.lst vs)) := by
  obtain ⟨s, r, d⟩ := new_lst rh dv hq
  exact p _ _ s r _ d
theorem POo.finT {as : List D} {vs : List V} (rh : RelH K μ H h) (dv : Dens K μ H as vs) (p : POo K μ H (fun d _ μ' H' => ∀ v, Den K μ' H' d v → Q v H') (some (.tup as, h))) (q : Addr) (hq : H q = none) : Q (.ref q) (upd H q (.tup vs)) := by
  obtain ⟨s, r, d⟩ := new_tup rh dv hq
  exact p _ _ s r _ d
theorem den_lst {i : Nat} {v : V} {xs : List D} (rh : RelH K μ H h) (dv : Den K μ H (.ref i) v) (hi : h[i]? = some (.lst xs)) : ∃ a vs, v = .ref a ∧ μ[i]? = some a ∧ H a = some (.lst vs) ∧ Dens K μ H xs vs := by
  obtain ⟨a, e, ha⟩ := dv
  obtain ⟨b, hb, vs, hv, d⟩ := rh.obj i _ hi
  rw [ha] at hb
  cases hb
  exact ⟨a, vs, e, ha, hv, d⟩
theorem Den.to_int {i : Int} {v : V} (h : Den K μ H (.int i) v) : v = .int i := h
theorem Den.to_str {i : Str} {v : V} (h : Den K μ H (.str i) v) : v = .str i := h
theorem Den.to_bl {i : Bool} {v : V} (h : Den K μ H (.bl i) v) : v = .bl i := h
theorem Den.to_non {v : V} (h : Den K μ H .non v) : v = .non := h
end

/-! ### numbers -/
def mulOk (i j : Int) : Bool := decide ((-(2 ^ 64) < i ∧ i < 2 ^ 64) ∨ (-(2 ^ 64) < j ∧ j < 2 ^ 64)) || decide (i.natAbs.log2 + j.natAbs.log2 < 1000000)
def divOk (j : Int) : Bool := decide (0 < j) && (decide (j < 1073741824) || decide (j.natAbs.log2 < 9000))
def powOk (i j : Int) : Bool := decide (0 ≤ j ∧ j ≤ 1000000 ∧ i.natAbs < 2 ^ 64)
theorem mulOk_l {i j : Int} (h : -(2 ^ 64) < i ∧ i < 2 ^ 64) : mulOk i j = true := by unfold mulOk; rw [decide_eq_true (.inl h)]; rfl
theorem mulOk_r {i j : Int} (h : -(2 ^ 64) < j ∧ j < 2 ^ 64) : mulOk i j = true := by unfold mulOk; rw [decide_eq_true (.inr h)]; rfl
theorem mulOk_w {i j : Int} (h : i.natAbs.log2 + j.natAbs.log2 < 1000000) : mulOk i j = true := by unfold mulOk; rw [decide_eq_true h, Bool.or_true]
theorem divOk_n {j : Int} (h : 0 < j) (h2 : j < 1073741824) : divOk j = true := by unfold divOk; rw [decide_eq_true h, decide_eq_true h2]; rfl
theorem divOk_w {j : Int} (h : 0 < j) (h2 : j.natAbs.log2 < 9000) : divOk j = true := by unfold divOk; rw [decide_eq_true h, decide_eq_true h2, Bool.or_true]; rfl
def oAdd : G2
  | .int i, .int j, h => some (.int (i + j), h)
  | .str x, .str y, h => if x.length + y.length ≤ sizeLine then some (.str (x ++ y), h) else none
  | .tup xs, .tup ys, h => if xs.length + ys.length ≤ sizeLine then some (.tup (xs ++ ys), h) else none
  | .ref a, .ref b, h => match h[a]?, h[b]? with
    | some (.lst xs), some (.lst ys) => if xs.length + ys.length ≤ sizeLine then some (.ref h.length, h ++ [.lst (xs ++ ys)]) else none
    | _, _ => none
  | _, _, _ => none
def oSub : G2
  | .int i, .int j, h => some (.int (i - j), h)
  | _, _, _ => none
def oMul : G2
  | .int i, .int j, h => if mulOk i j = true then some (.int (i * j), h) else none
  | .ref a, .int k, h => match h[a]? with
    | some (.lst xs) => if -(2 ^ 63) ≤ k ∧ k < 2 ^ 63 ∧ xs.length * k.toNat ≤ sizeLine then some (.ref h.length, h ++ [.lst (List.replicate k.toNat xs).flatten]) else none
    | _ => none
  | _, _, _ => none
def oFdiv : G2
  | .int i, .int j, h => if divOk j = true then some (.int (i / j), h) else none
  | _, _, _ => none
def oMod : G2
  | .int i, .int j, h => if 0 < j then some (.int (i % j), h) else none
  | _, _, _ => none
def oPow : G2
  | .int i, .int j, h => if powOk i j = true then some (.int (i ^ j.toNat), h) else none
  | _, _, _ => none
def oNeg : G1
  | .int i, h => some (.int (-i), h)
  | _, _ => none
theorem Dens.rep {K : PySem.W.Frag} {μ : List Addr} {H : Hp} {ds : List D} {vs : List V} (d : Dens K μ H ds vs) : ∀ n, Dens K μ H (List.replicate n ds).flatten (List.replicate n vs).flatten
  | 0 => rfl
  | n + 1 => by
    rw [List.replicate_succ, List.replicate_succ, List.flatten_cons, List.flatten_cons]
    exact d.append (Dens.rep d n)
theorem Dens.nil_iff {K : PySem.W.Frag} {μ : List Addr} {H : Hp} {ds : List D} {vs : List V} (d : Dens K μ H ds vs) : vs = [] ↔ ds = [] := by
  have := d.length
  constructor
  · rintro rfl; exact List.eq_nil_of_length_eq_zero (by simpa using this.symm)
  · rintro rfl; exact List.eq_nil_of_length_eq_zero (by simpa using this)
section
variable {X : Cx}
theorem op_addM : OpR X (binaryOp .Add) (r2 X.K oAdd) := by
  intro pins s σ H x y v u Q I rx ry ⟨μ, h, a, b, da, db, rh, p⟩
  unfold oAdd at p
  split at p
  · exact op_add pins s σ H x y v u Q I rx ry ⟨_, _, da, db, p.fin rh rfl⟩
  · split at p
    · rename_i hl
      exact op_add_str pins s σ H x y v u Q I rx ry ⟨_, _, da, db, hl, p.fin rh rfl⟩
    · exact p.elim
  · split at p
    · rename_i xs ys hl
      obtain ⟨a1, vs, rfl, q1, d1⟩ := da
      obtain ⟨a2, ws, rfl, q2, d2⟩ := db
      refine op_catA pins s σ H _ _ v u Q I rx ry ⟨a1, a2, vs, ws, rfl, rfl, SqT.of q1, SqT.of q2, by rw [d1.length, d2.length]; exact hl, fun e => ?_, fun e1 e2 => ?_, fun e1 e2 q hq => p.finT rh (d1.append d2) q hq⟩
      · have e := d1.nil_iff.mp e
        subst e
        exact p.fin rh ⟨a2, ws, rfl, q2, d2⟩
      · have e2 := d2.nil_iff.mp e2
        subst e2
        rw [List.append_nil] at p
        exact p.fin rh ⟨a1, vs, rfl, q1, d1⟩
    · exact p.elim
  · split at p
    · rename_i e1 e2
      split at p
      · rename_i hl
        obtain ⟨a1, vs, rfl, _, q1, d1⟩ := den_lst rh da e1
        obtain ⟨a2, ws, rfl, _, q2, d2⟩ := den_lst rh db e2
        exact op_cat pins s σ H _ _ v u Q I rx ry ⟨a1, a2, vs, ws, rfl, rfl, q1, q2, by rw [d1.length, d2.length]; exact hl, fun q hq => p.finL rh (d1.append d2) q hq⟩
      · exact p.elim
    · exact p.elim
  · exact p.elim
theorem op_subM : OpR X (binaryOp .Sub) (r2 X.K oSub) := by
  intro pins s σ H x y v u Q I rx ry ⟨μ, h, a, b, da, db, rh, p⟩
  unfold oSub at p
  split at p
  · exact op_sub pins s σ H x y v u Q I rx ry ⟨_, _, da, db, p.fin rh rfl⟩
  · exact p.elim
theorem op_mulM : OpR X (binaryOp .Mult) (r2 X.K oMul) := by
  intro pins s σ H x y v u Q I rx ry ⟨μ, h, a, b, da, db, rh, p⟩
  unfold oMul at p
  split at p
  · split at p
    · rename_i i j hm
      unfold mulOk at hm
      rcases Bool.or_eq_true_iff.mp hm with hm | hm
      · have hq := of_decide_eq_true hm
        exact op_mul pins s σ H x y v u Q I rx ry ⟨_, _, da, db, hq, p.fin rh rfl⟩
      · have hq := of_decide_eq_true hm
        exact op_mulW pins s σ H x y v u Q I rx ry ⟨_, _, da, db, hq, p.fin rh rfl⟩
    · exact p.elim
  · split at p
    · rename_i e1
      split at p
      · rename_i hl
        obtain ⟨a1, vs, rfl, _, q1, d1⟩ := den_lst rh da e1
        exact op_rep pins s σ H _ _ v u Q I rx ry ⟨a1, _, vs, rfl, db, q1, hl.1, hl.2.1, by rw [d1.length]; exact hl.2.2, fun q hq => p.finL rh (d1.rep _) q hq⟩
      · exact p.elim
    · exact p.elim
  · exact p.elim
theorem op_fdivM : OpR X (binaryOp .FloorDiv) (r2 X.K oFdiv) := by
  intro pins s σ H x y v u Q I rx ry ⟨μ, h, a, b, da, db, rh, p⟩
  unfold oFdiv at p
  split at p
  · split at p
    · rename_i i j hm
      unfold divOk at hm
      obtain ⟨h0, hm⟩ := Bool.and_eq_true_iff.mp hm
      rcases Bool.or_eq_true_iff.mp hm with hm | hm
      · exact op_fdiv pins s σ H x y v u Q I rx ry ⟨_, _, da, db, ⟨of_decide_eq_true h0, of_decide_eq_true hm⟩, p.fin rh rfl⟩
      · exact op_fdivW pins s σ H x y v u Q I rx ry ⟨_, _, da, db, ⟨of_decide_eq_true h0, of_decide_eq_true hm⟩, p.fin rh rfl⟩
    · exact p.elim
  · exact p.elim
theorem op_modM : OpR X (binaryOp .Mod) (r2 X.K oMod) := by
  intro pins s σ H x y v u Q I rx ry ⟨μ, h, a, b, da, db, rh, p⟩
  unfold oMod at p
  split at p
  · split at p
    · rename_i hm
      exact op_mod pins s σ H x y v u Q I rx ry ⟨_, _, da, db, hm, p.fin rh rfl⟩
    · exact p.elim
  · exact p.elim
theorem op_powM : OpR X (binaryOp .Pow) (r2 X.K oPow) := by
  intro pins s σ H x y v u Q I rx ry ⟨μ, h, a, b, da, db, rh, p⟩
  unfold oPow at p
  split at p
  · split at p
    · rename_i hm
      unfold powOk at hm
      have hq := of_decide_eq_true hm
      exact op_pow pins s σ H x y v u Q I rx ry ⟨_, _, da, db, hq, p.fin rh rfl⟩
    · exact p.elim
  · exact p.elim
theorem un_negM : UnR X (unaryOp .USub) (r1 X.K oNeg) := by
  intro pins s σ H x v Q I rx ⟨μ, h, a, da, rh, p⟩
  unfold oNeg at p
  split at p
  · exact un_neg pins s σ H x v Q I rx ⟨_, da, p.fin rh rfl⟩
  · exact p.elim
def oIAdd : G2
  | .int i, .int j, h => some (.int (i + j), h)
  | .str x, .str y, h => if x.length + y.length ≤ sizeLine then some (.str (x ++ y), h) else none
  | _, _, _ => none
theorem ip_addM : PIp X .Add (r2 X.K oIAdd) := by
  intro pins s σ H x y v u Q I rx ry ⟨μ, h, a, b, da, db, rh, p⟩
  unfold oIAdd at p
  split at p
  · exact ip_add pins s σ H x y v u Q I rx ry ⟨_, _, da, db, p.fin rh rfl⟩
  · split at p
    · rename_i hl
      exact iop_add_str pins s σ H x y v u Q I rx ry ⟨_, _, da, db, hl, p.fin rh rfl⟩
    · exact p.elim
  · exact p.elim
theorem ip_subM : PIp X .Sub (r2 X.K oSub) := by
  intro pins s σ H x y v u Q I rx ry ⟨μ, h, a, b, da, db, rh, p⟩
  unfold oSub at p
  split at p
  · exact ip_sub pins s σ H x y v u Q I rx ry ⟨_, _, da, db, p.fin rh rfl⟩
  · exact p.elim

/-! ### comparisons -/
def oCmp (r : Int → Int → Bool) : G2
  | .int i, .int j, h => some (.bl (r i j), h)
  | _, _, _ => none
abbrev oLt : G2 := oCmp fun i j => decide (i < j)
abbrev oLe : G2 := oCmp fun i j => decide (i ≤ j)
abbrev oGt : G2 := oCmp fun i j => decide (j < i)
abbrev oGe : G2 := oCmp fun i j => decide (j ≤ i)
theorem op_cmpM {op : CmpOp} {r : Int → Int → Bool} (ho : OpR X (compareOp op) (rI0 fun i j => .bl (r i j))) : OpR X (compareOp op) (r2 X.K (oCmp r)) := by
  intro pins s σ H x y v u Q I rx ry ⟨μ, h, a, b, da, db, rh, p⟩
  unfold oCmp at p
  split at p
  · exact ho pins s σ H x y v u Q I rx ry ⟨_, _, da, db, p.fin rh rfl⟩
  · exact p.elim
theorem op_ltM : OpR X (compareOp .Lt) (r2 X.K oLt) := op_cmpM op_lt
theorem op_leM : OpR X (compareOp .LtE) (r2 X.K oLe) := op_cmpM op_le
theorem op_gtM : OpR X (compareOp .Gt) (r2 X.K oGt) := op_cmpM op_gt
theorem op_geM : OpR X (compareOp .GtE) (r2 X.K oGe) := op_cmpM op_ge
mutual
def toPy (h : Hh) : Nat → D → Option PyData
  | _, .non => some .none
  | _, .bl b => some (.bool b)
  | _, .int i => some (.int i)
  | _, .str x => some (.str x)
  | 0, _ => none
  | n + 1, .tup xs => (toPys h n xs).map .tuple
  | n + 1, .rot xs => (toPys h n xs).map .tuple
  | n + 1, .rol xs => (toPys h n xs).map .list
  | n + 1, .ref i => match h[i]? with
    | some (.lst xs) => (toPys h n xs).map .list
    | _ => none
  | _, .ex _ => none
termination_by n d => (n, 0)
def toPys (h : Hh) : Nat → List D → Option (List PyData)
  | _, [] => some []
  | n, d :: ds => match toPy h n d, toPys h n ds with
    | some e, some es => some (e :: es)
    | _, _ => none
termination_by n ds => (n, ds.length + 1)
end
def scalD : D → D → Option Bool
  | .int i, .int j => some (i == j)
  | .str x, .str y => some (x == y)
  | .bl a, .bl b => some (a == b)
  | .non, .non => some true
  | .non, .int _ => some false | .int _, .non => some false | .non, .bl _ => some false | .bl _, .non => some false | .non, .str _ => some false | .str _, .non => some false
  | .int _, .str _ => some false | .str _, .int _ => some false | .bl _, .str _ => some false | .str _, .bl _ => some false
  | _, _ => none
def oEqB (a b : D) (h : Hh) : Option Bool := match scalD a b with
  | some c => some c
  | none => match toPy h 64 a, toPy h 64 b with
    | some d, some e => if SeqAt.shaped d && SeqAt.shaped e then some (PyData.eqv d e) else none
    | _, _ => none
def oEq : G2 := fun a b h => (oEqB a b h).map fun c => (.bl c, h)
def oNe : G2 := fun a b h => (oEqB a b h).map fun c => (.bl (!c), h)
mutual
theorem toPy_dp {K : PySem.W.Frag} {μ : List Addr} {H : Hp} {h : Hh} (rh : RelH K μ H h) : ∀ (n : Nat) (d : D) (v : V) (e : PyData), toPy h n d = some e → Den K μ H d v → Dp K H v e
  | n, .non, _, _, e, dv => by
    unfold toPy at e; cases e; cases dv.to_non; exact .non
  | n, .bl b, _, _, e, dv => by
    unfold toPy at e; cases e; cases dv.to_bl; exact .bl b
  | n, .int b, _, _, e, dv => by
    unfold toPy at e; cases e; cases dv.to_int; exact .int b
  | n, .str b, _, _, e, dv => by
    unfold toPy at e; cases e; cases dv.to_str; exact .str b
  | 0, .tup xs, _, _, e, dv => by unfold toPy at e; cases e
  | 0, .rot xs, _, _, e, dv => by unfold toPy at e; cases e
  | 0, .rol xs, _, _, e, dv => by unfold toPy at e; cases e
  | 0, .ref xs, _, _, e, dv => by unfold toPy at e; cases e
  | 0, .ex xs, _, _, e, dv => by unfold toPy at e; cases e
  | n + 1, .ex xs, _, _, e, dv => by unfold toPy at e; cases e
  | n + 1, .tup xs, _, _, e, dv => by
    unfold toPy at e
    cases q : toPys h n xs with
    | none => rw [q] at e; cases e
    | some es =>
      rw [q] at e
      cases e
      obtain ⟨a, vs, rfl, h1, h2⟩ := dv
      exact .tup (SqT.of h1) (toPys_dp rh n xs vs es q h2)
  | n + 1, .rot xs, _, _, e, dv => by
    unfold toPy at e
    cases q : toPys h n xs with
    | none => rw [q] at e; cases e
    | some es =>
      rw [q] at e
      cases e
      obtain ⟨a, vs, rfl, h1, h2⟩ := dv
      exact .tup h1 (toPys_dp rh n xs vs es q h2)
  | n + 1, .rol xs, _, _, e, dv => by
    unfold toPy at e
    cases q : toPys h n xs with
    | none => rw [q] at e; cases e
    | some es =>
      rw [q] at e
      cases e
      obtain ⟨a, vs, rfl, h1, h2⟩ := dv
      exact .lst h1.sq (toPys_dp rh n xs vs es q h2)
  | n + 1, .ref i, _, _, e, dv => by
    unfold toPy at e
    split at e
    · rename_i xs hi
      obtain ⟨a, vs, rfl, _, h1, h2⟩ := den_lst rh dv hi
      cases q : toPys h n xs with
      | none => rw [q] at e; cases e
      | some es =>
        rw [q] at e
        cases e
        exact .lst (SqL.of h1) (toPys_dp rh n xs vs es q h2)
    · cases e
termination_by n d => (n, 0)
theorem toPys_dp {K : PySem.W.Frag} {μ : List Addr} {H : Hp} {h : Hh} (rh : RelH K μ H h) : ∀ (n : Nat) (ds : List D) (vs : List V) (es : List PyData), toPys h n ds = some es → Dens K μ H ds vs → DpAll K H vs es
  | n, [], _, _, e, dv => by
    unfold toPys at e
    cases e
    have dv : _ = [] := dv
    rw [dv]
    exact .nil
  | n, d :: ds, _, _, e, dv => by
    unfold toPys at e
    obtain ⟨v, vr, rfl, h1, h2⟩ := dv
    cases q1 : toPy h n d with
    | none => rw [q1] at e; cases e
    | some e1 =>
      cases q2 : toPys h n ds with
      | none => rw [q1, q2] at e; cases e
      | some e2 =>
        rw [q1, q2] at e
        cases e
        exact .cons (toPy_dp rh n d v e1 q1 h1) (toPys_dp rh n ds vr e2 q2 h2)
termination_by n ds => (n, ds.length + 1)
end
theorem scal_ok {K : PySem.W.Frag} {μ : List Addr} {H : Hp} {a b : D} {x y : V} {c : Bool} (e : scalD a b = some c) (da : Den K μ H a x) (db : Den K μ H b y) : scal x y = true ∧ decide (x = y) = c := by
  unfold scalD at e
  split at e <;> first
    | (cases e; cases da.to_int; cases db.to_int; refine ⟨rfl, ?_⟩; exact dec_int)
    | (cases e; cases da.to_str; cases db.to_str; refine ⟨rfl, ?_⟩; rw [Bool.eq_iff_iff]; simp)
    | (cases e; cases da.to_bl; cases db.to_bl; refine ⟨rfl, ?_⟩; rw [Bool.eq_iff_iff]; simp)
    | (cases e; cases da; cases db; exact ⟨rfl, rfl⟩)
    | cases e
theorem op_eqM (hu : X.A.units + 64 < cLine) : OpR X (compareOp .Eq) (r2 X.K oEq) := by
  intro pins s σ H x y v u Q I rx ry ⟨μ, h, a, b, da, db, rh, p⟩
  unfold oEq oEqB at p
  split at p
  · rename_i c e
    obtain ⟨h1, h2⟩ := scal_ok e da db
    exact op_eq pins s σ H x y v u Q I rx ry ⟨h1, by rw [h2]; exact p.fin rh rfl⟩
  · split at p
    · rename_i d e ed ee
      split at p
      · rename_i hs
        obtain ⟨s1, s2⟩ := Bool.and_eq_true_iff.mp hs
        exact op_eqD hu pins s σ H x y v u Q I rx ry ⟨d, e, toPy_dp rh _ _ _ _ ed da, toPy_dp rh _ _ _ _ ee db, s1, s2, p.fin rh rfl⟩
      · exact p.elim
    · exact p.elim
theorem op_neM (hu : X.A.units + 64 < cLine) : OpR X (compareOp .NotEq) (r2 X.K oNe) := by
  intro pins s σ H x y v u Q I rx ry ⟨μ, h, a, b, da, db, rh, p⟩
  unfold oNe oEqB at p
  split at p
  · rename_i c e
    obtain ⟨h1, h2⟩ := scal_ok e da db
    exact op_ne pins s σ H x y v u Q I rx ry ⟨h1, by rw [h2]; exact p.fin rh rfl⟩
  · split at p
    · rename_i d e ed ee
      split at p
      · rename_i hs
        obtain ⟨s1, s2⟩ := Bool.and_eq_true_iff.mp hs
        exact op_neD hu pins s σ H x y v u Q I rx ry ⟨d, e, toPy_dp rh _ _ _ _ ed da, toPy_dp rh _ _ _ _ ee db, s1, s2, p.fin rh rfl⟩
      · exact p.elim
    · exact p.elim
def isNon : D → Bool
  | .non => true
  | _ => false
theorem isNon_ok {K : PySem.W.Frag} {μ : List Addr} {H : Hp} {a : D} {x : V} (d : Den K μ H a x) : decide (x = .non) = isNon a := by
  cases a with
  | non => cases d.to_non; rfl
  | bl b => cases d.to_bl; rfl
  | int b => cases d.to_int; rfl
  | str b => cases d.to_str; rfl
  | tup b => obtain ⟨_, _, rfl, _⟩ := d; rfl
  | rot b => obtain ⟨_, _, rfl, _⟩ := d; rfl
  | rol b => obtain ⟨_, _, rfl, _⟩ := d; rfl
  | ref b => obtain ⟨_, rfl, _⟩ := d; rfl
  | ex b => have d : x = .ref b := d; subst d; rfl
/-- a is None -/
def oIsN : G2
  | a, .non, h => some (.bl (isNon a), h)
  | _, _, _ => none
def oNotN : G2
  | a, .non, h => some (.bl (!isNon a), h)
  | _, _, _ => none
theorem op_isM : OpR X (compareOp .Is) (r2 X.K oIsN) := by
  intro pins s σ H x y v u Q I rx ry ⟨μ, h, a, b, da, db, rh, p⟩
  unfold oIsN at p
  split at p
  · exact op_isN pins s σ H x y v u Q I rx ry ⟨db, by rw [isNon_ok da]; exact p.fin rh rfl⟩
  · exact p.elim
theorem op_notM : OpR X (compareOp .IsNot) (r2 X.K oNotN) := by
  intro pins s σ H x y v u Q I rx ry ⟨μ, h, a, b, da, db, rh, p⟩
  unfold oNotN at p
  split at p
  · exact op_notN pins s σ H x y v u Q I rx ry ⟨db, by rw [isNon_ok da]; exact p.fin rh rfl⟩
  · exact p.elim

/-! ### subscripts -/
def oIx : G2
  | .tup xs, .int i, h => (atI xs i).map fun d => (d, h)
  | .rot xs, .int i, h => (atI xs i).map fun d => (d, h)
  | .rol xs, .int i, h => (atI xs i).map fun d => (d, h)
  | .str z, .int i, h => if z.length ≤ sizeLine then (atI z.cps.toList i).map fun c => (.str ⟨#[c]⟩, h) else none
  | .ref a, .int i, h => match h[a]? with
    | some (.lst xs) => (atI xs i).map fun d => (d, h)
    | _ => none
  | _, _, _ => none
theorem Dens.atI {K : PySem.W.Frag} {μ : List Addr} {H : Hp} {ds : List D} {vs : List V} {i : Int} {d : D} (r : Dens K μ H ds vs) (e : L2.atI ds i = some d) : ∃ v, L2.atI vs i = some v ∧ Den K μ H d v := by
  unfold L2.atI at e ⊢
  rw [r.length]
  cases q : ixN ds.length i with
  | none => rw [q] at e; cases e
  | some j =>
    rw [q] at e
    exact r.get e
theorem ix_M : IxR X (r2 X.K oIx) := by
  intro value slice pins s σ H x y v u Q I rx ry ⟨μ, h, a, b, da, db, rh, p⟩ hs
  unfold oIx at p
  split at p
  · cases e : atI _ _ with
    | none => rw [e] at p; exact p.elim
    | some d =>
      rw [e] at p
      obtain ⟨a1, vs, rfl, q1, d1⟩ := da
      obtain ⟨w, e1, dw⟩ := d1.atI e
      exact ix_tup value slice pins s σ H _ _ v u Q I rx ry ⟨a1, vs, _, w, rfl, db, SqT.of q1, e1, p.fin rh dw⟩ hs
  · cases e : atI _ _ with
    | none => rw [e] at p; exact p.elim
    | some d =>
      rw [e] at p
      obtain ⟨a1, vs, rfl, q1, d1⟩ := da
      obtain ⟨w, e1, dw⟩ := d1.atI e
      exact ix_tup value slice pins s σ H _ _ v u Q I rx ry ⟨a1, vs, _, w, rfl, db, q1, e1, p.fin rh dw⟩ hs
  · cases e : atI _ _ with
    | none => rw [e] at p; exact p.elim
    | some d =>
      rw [e] at p
      obtain ⟨a1, vs, rfl, q1, d1⟩ := da
      obtain ⟨w, e1, dw⟩ := d1.atI e
      exact ix_list value slice pins s σ H _ _ v u Q I rx ry ⟨a1, vs, _, w, rfl, db, q1.sq, e1, p.fin rh dw⟩ hs
  · split at p
    · rename_i hl
      cases e : atI _ _ with
      | none => rw [e] at p; exact p.elim
      | some d =>
        rw [e] at p
        exact ix_str value slice pins s σ H _ _ v u Q I rx ry ⟨_, _, d, da, db, hl, e, p.fin rh rfl⟩ hs
    · exact p.elim
  · split at p
    · rename_i hi
      cases e : atI _ _ with
      | none => rw [e] at p; exact p.elim
      | some d =>
        rw [e] at p
        obtain ⟨a1, vs, rfl, _, q1, d1⟩ := den_lst rh da hi
        obtain ⟨w, e1, dw⟩ := d1.atI e
        exact ix_list value slice pins s σ H _ _ v u Q I rx ry ⟨a1, vs, _, w, rfl, db, SqL.of q1, e1, p.fin rh dw⟩ hs
    · exact p.elim
  · exact p.elim
/-- the store xs[i] = v -/
def oSet : D → D → D → Hh → Option Hh
  | .ref a, .int k, v, h => match h[a]? with
    | some (.lst xs) => (ixN xs.length k).map fun j => h.set a (.lst (xs.set j v))
    | _ => none
  | _, _, _, _ => none
def rset (K : PySem.W.Frag) (g : D → D → D → Hh → Option Hh) : TSet := fun o i v H Q => ∃ μ h a b c, Den K μ H a o ∧ Den K μ H b i ∧ Den K μ H c v ∧ RelH K μ H h ∧ match g a b c h with
  | some h' => ∀ μ' H', Step μ H μ' H' → RelH K μ' H' h' → Q H'
  | none => False
theorem put_lst {K : PySem.W.Frag} {μ : List Addr} {H : Hp} {h : Hh} {i : Nat} {a : Addr} {xs ys : List D} {vs ws : List V} (rh : RelH K μ H h) (hi : h[i]? = some (.lst xs)) (ha : μ[i]? = some a) (hv : H a = some (.lst vs)) (dw : Dens K μ H ys ws) :
    Step μ H μ (upd H a (.lst ws)) ∧ RelH K μ (upd H a (.lst ws)) (h.set i (.lst ys)) := by
  have s : Step μ H μ (upd H a (.lst ws)) := Step.set hv (fun _ z => by cases z) (fun _ _ z => by cases z) (fun _ z => by cases z)
  exact ⟨s, rh.put hi ha ⟨ws, upd_same, dw.mono s⟩⟩
theorem set_M : PSet X (rset X.K oSet) := by
  intro pins s σ H o i v ov iv u Q I ro ri rv ⟨μ, h, a, b, c, da, db, dc, rh, p⟩
  unfold oSet at p
  cases a with
  | ref a1 =>
    cases b with
    | int k1 =>
      cases e1 : h[a1]? with
      | none => simp only [e1] at p
      | some ob =>
        cases ob with
        | lst xs =>
          cases e2 : ixN xs.length k1 with
          | none => simp only [e1, e2, Option.map_none] at p
          | some j =>
            simp only [e1, e2, Option.map_some] at p
            obtain ⟨a2, vs, rfl, ha, hv, d1⟩ := den_lst rh da e1
            obtain ⟨st, r⟩ := put_lst rh e1 ha hv (Dens.set dc j d1)
            exact set_list pins s σ H _ _ _ ov iv u Q I ro ri rv ⟨a2, vs, k1, j, rfl, db, hv, by rw [d1.length]; exact e2, p _ _ st r⟩
        | dct xs => simp only [e1] at p
        | dctT xs => simp only [e1] at p
        | dlk xs => simp only [e1] at p
        | dlkT xs => simp only [e1] at p
    | _ => exact p.elim
  | _ => exact p.elim
end
end PI
/-! Built-in functions, methods, iterators. -/
namespace PI
open PySem PySem.Spec L2
open PyProof.Rows hiding St

/-! ### the type of a thing -/
def tyD (h : Hh) : D → Option String
  | .non => some "NoneType"
  | .bl _ => some "bool"
  | .int _ => some "int"
  | .str _ => some "str"
  | .tup _ => some "tuple"
  | .rot _ => some "tuple"
  | .rol _ => some "list"
  | .ref i => match h[i]? with
    | some (.lst _) => some "list"
    | some (.dct _) => some "dict"
    | some (.dctT _) => some "dict"
    | _ => none
  | .ex _ => none
theorem tyD_ok {K : PySem.W.Frag} {μ : List Addr} {H : Hp} {h : Hh} (rh : RelH K μ H h) : ∀ {d : D} {v : V} {t : String}, tyD h d = some t → Den K μ H d v → TyX K H v (.type t)
  | .non, _, _, e, dv => by cases e; cases dv.to_non; exact .base .non
  | .bl b, _, _, e, dv => by cases e; cases dv.to_bl; exact .base (.bl b)
  | .int b, _, _, e, dv => by cases e; cases dv.to_int; exact .base (.int b)
  | .str b, _, _, e, dv => by cases e; cases dv.to_str; exact .base (.str b)
  | .tup xs, _, _, e, dv => by
    cases e
    obtain ⟨a, vs, rfl, q, _⟩ := dv
    exact .base (.tup q)
  | .rot xs, _, _, e, dv => by
    cases e
    obtain ⟨a, vs, rfl, q, _⟩ := dv
    rcases q with (q | ⟨o, q⟩) | ⟨o, its, n, q1, q2, _⟩
    · exact .base (.tup q)
    · exact .fTuple q
    · exact .kTuple q1 q2
  | .rol xs, _, _, e, dv => by
    cases e
    obtain ⟨a, vs, rfl, q, _⟩ := dv
    rcases q with ⟨o, q⟩ | ⟨o, its, n, q1, q2, _⟩
    · exact .base (.frz q)
    · exact .kList q1 q2
  | .ref i, _, _, e, dv => by
    have e : (match h[i]? with
      | some (.lst _) => some "list"
      | some (.dct _) => some "dict"
      | some (.dctT _) => some "dict"
      | _ => none) = some _ := e
    obtain ⟨a, rfl, ha⟩ := dv
    split at e
    · rename_i xs hi
      cases e
      obtain ⟨b, hb, vs, hv, _⟩ := rh.obj i _ hi
      rw [ha] at hb; cases hb
      exact .base (.lst hv)
    · rename_i xs hi
      cases e
      obtain ⟨b, hb, vs, hv, _⟩ := rh.obj i _ hi
      rw [ha] at hb; cases hb
      exact .base (.dK hv)
    · rename_i xs hi
      cases e
      obtain ⟨b, hb, vs, hv, _⟩ := rh.obj i _ hi
      rw [ha] at hb; cases hb
      exact .base (.dT hv)
    · cases e
  | .ex _, _, _, e, _ => by cases e
def subT (t T : String) : Bool := t == T || (t == "bool" && T == "int")
theorem subT_ok {K : PySem.W.Frag} {t T : String} (ht : t ∈ ["NoneType", "bool", "int", "str", "tuple", "list", "dict"]) (hT : T ∈ ["int", "bool", "str", "tuple", "list", "dict"]) : PySem.W.kitOne K (.type t) (.type T) = some (subT t T) := by
  simp only [List.mem_cons, List.not_mem_nil, or_false] at ht hT
  rcases ht with rfl | rfl | rfl | rfl | rfl | rfl | rfl <;> rcases hT with rfl | rfl | rfl | rfl | rfl | rfl <;> exact kit_ty (by decide +kernel)
theorem tyD_mem {h : Hh} {d : D} {t : String} (e : tyD h d = some t) : t ∈ ["NoneType", "bool", "int", "str", "tuple", "list", "dict"] := by
  unfold tyD at e
  repeat' split at e
  all_goals first | (cases e; simp) | cases e
/-- isinstance(x, T) -/
def mIsi (T : String) (m : ME) : ME := fun ρ h => (m ρ h).bind fun d h1 => match tyD h1 d with
  | some t => .ok (.bl (subT t T)) h1
  | none => .bad
section
variable {X : Cx} {ct : Ctb} {W : WX}
theorem se_isi {e : Expr} {T : String} {x : Str} {p p2 pos : Pos} {m : ME} (hT : T ∈ ["int", "bool", "str", "tuple", "list", "dict"]) (hg : Gl X "isinstance") (hm : X.mg "isinstance" = none) (hgx : Gl X x) (hmx : X.mg x = none) (hv : bootBuiltins x = some (.type T)) (ha : SE X ct W e m) (hnx : x ≠ "__name__" := by decide) (hdx : (x == ("__debug__" : Str)) = false := by decide)
    (hs2 : starEach [.Name x p2] X.env = (false, eval (.Name x p2) X.env) :: starEach [] X.env := by rfl) (he : starEach [e, .Name x p2] X.env = (false, eval e X.env) :: starEach [.Name x p2] X.env := by rfl) (hpl : (backTo pos (starEach [.Name x p2] X.env)).any (·.1) = false := by rfl) :
    SE X ct W (.Call (.Name "isinstance" p) [e, .Name x p2] [] pos) (mIsi T m) :=
  (pe_callB call_isi hg hm PyProof.Rows.boot_isinstance (pa_cons ha (pa_cons (pe_bltn (v := .ty T) hgx hmx hv rfl hnx hdx) pa_nil hs2) he) (by decide) (by decide) he hpl).imp fun σ H Q ⟨μ, ρ, h, rs, rh, po⟩ => rdE.go rs rh po fun d h1 μ1 H1 v s1 rs1 rh1 dv p1 => by
    split at p1
    · rename_i t et
      exact ⟨v, .ty T, .type t, .type T, subT t T, rfl, .ty T, tyD_ok rh1 et dv, subT_ok (tyD_mem et) hT, p1.at rh1 _ rfl⟩
    · exact p1.elim
end

/-! ### built-ins by values -/
def lenD (h : Hh) : D → Option Nat
  | .str x => if x.length ≤ sizeLine then some x.length else none
  | .tup xs => some xs.length
  | .rot xs => some xs.length
  | .rol xs => some xs.length
  | .ref i => match h[i]? with
    | some (.lst xs) => some xs.length
    | _ => none
  | _ => none
def bLen : GN
  | [d], h => match lenD h d with
    | some n => some (.int (n : Int), h)
    | none => none
  | _, _ => none
def bAbs : GN
  | [.int i], h => some (.int (if i < 0 then -i else i), h)
  | _, _ => none
def bInt : GN
  | [.int i], h => some (.int i, h)
  | [.bl b], h => some (.int (if b then 1 else 0), h)
  | _, _ => none
def bGcd : GN
  | [.int a, .int b], h => some (.int ((Nat.gcd a.natAbs b.natAbs : Nat) : Int), h)
  | _, _ => none
def bMax2 : GN
  | [.int i, .int j], h => some (.int (if j > i then j else i), h)
  | _, _ => none
def bMin2 : GN
  | [.int i, .int j], h => some (.int (if j < i then j else i), h)
  | _, _ => none
/-- list(x) -/
def bList : GN
  | [.tup xs], h => some (.ref h.length, h ++ [.lst xs])
  | [.rot xs], h => some (.ref h.length, h ++ [.lst xs])
  | [.rol xs], h => some (.ref h.length, h ++ [.lst xs])
  | [.ref i], h => match h[i]? with
    | some (.lst xs) => some (.ref h.length, h ++ [.lst xs])
    | _ => none
  | _, _ => none
/-- tuple(x) -/
def bTuple : GN
  | [.tup xs], h => some (.tup xs, h)
  | [.rot xs], h => some (.rot xs, h)
  | [.rol xs], h => some (.tup xs, h)
  | [.ref i], h => match h[i]? with
    | some (.lst xs) => some (.tup xs, h)
    | _ => none
  | _, _ => none
theorem dens1 {K : PySem.W.Frag} {μ : List Addr} {H : Hp} {d : D} {vs : List V} (h : Dens K μ H [d] vs) : ∃ v, vs = [v] ∧ Den K μ H d v := by
  obtain ⟨v, vr, e, q, r⟩ := h
  have r : vr = [] := r
  subst r
  exact ⟨v, e, q⟩
theorem dens2 {K : PySem.W.Frag} {μ : List Addr} {H : Hp} {d e : D} {vs : List V} (h : Dens K μ H [d, e] vs) : ∃ v w, vs = [v, w] ∧ Den K μ H d v ∧ Den K μ H e w := by
  obtain ⟨v, vr, e, q, r⟩ := h
  obtain ⟨w, ew, z⟩ := dens1 r
  subst ew
  exact ⟨v, w, e, q, z⟩
section
variable {X : Cx}
theorem cr_len : CallR X (.builtin "len") (rN X.K bLen) := by
  intro pins s σ H xs us Q I r ⟨μ, h, as, da, rh, p⟩
  unfold bLen at p
  split at p
  · split at p
    · rename_i d n e
      obtain ⟨v, rfl, dv⟩ := dens1 da
      refine call_len pins s σ H _ us Q I r ⟨v, n, rfl, ?_, p.fin rh rfl⟩
      unfold lenD at e
      split at e
      · split at e
        · rename_i hl
          cases e
          cases dv.to_str
          exact ⟨hl, rfl⟩
        · cases e
      · cases e
        obtain ⟨a, vs, rfl, q, dd⟩ := dv
        exact .inr ⟨vs, SqT.of q, by rw [dd.length]⟩
      · cases e
        obtain ⟨a, vs, rfl, q, dd⟩ := dv
        exact .inr ⟨vs, q, by rw [dd.length]⟩
      · cases e
        obtain ⟨a, vs, rfl, q, dd⟩ := dv
        exact .inl ⟨vs, q.sq, by rw [dd.length]⟩
      · split at e
        · rename_i hi
          cases e
          obtain ⟨a, vs, rfl, _, q, dd⟩ := den_lst rh dv hi
          exact .inl ⟨vs, SqL.of q, by rw [dd.length]⟩
        · cases e
      · cases e
    · exact p.elim
  · exact p.elim
theorem cr_abs : CallR X (.builtin "abs") (rN X.K bAbs) := by
  intro pins s σ H xs us Q I r ⟨μ, h, as, da, rh, p⟩
  unfold bAbs at p
  split at p
  · obtain ⟨v, rfl, dv⟩ := dens1 da
    cases dv.to_int
    exact call_abs pins s σ H _ us Q I r ⟨_, rfl, p.fin rh rfl⟩
  · exact p.elim
theorem cr_int : CallR X (.type "int") (rN X.K bInt) := by
  intro pins s σ H xs us Q I r ⟨μ, h, as, da, rh, p⟩
  unfold bInt at p
  split at p
  · obtain ⟨v, rfl, dv⟩ := dens1 da
    cases dv.to_int
    exact call_int1 pins s σ H _ us Q I r (.inl ⟨_, rfl, p.fin rh rfl⟩)
  · obtain ⟨v, rfl, dv⟩ := dens1 da
    cases dv.to_bl
    exact call_int1 pins s σ H _ us Q I r (.inr ⟨_, rfl, p.fin rh rfl⟩)
  · exact p.elim
theorem cr_gcdM : CallR X (.builtin "math.gcd") (rN X.K bGcd) := by
  intro pins s σ H xs us Q I r ⟨μ, h, as, da, rh, p⟩
  unfold bGcd at p
  split at p
  · obtain ⟨v, w, rfl, dv, dw⟩ := dens2 da
    cases dv.to_int
    cases dw.to_int
    exact cr_gcd pins s σ H _ us Q I r ⟨_, _, rfl, p.fin rh rfl⟩
  · exact p.elim
theorem cr_max2 (hc : X.calm = true) : CallR X (.builtin "max") (rN X.K bMax2) := by
  intro pins s σ H xs us Q I r ⟨μ, h, as, da, rh, p⟩
  unfold bMax2 at p
  split at p
  · obtain ⟨v, w, rfl, dv, dw⟩ := dens2 da
    cases dv.to_int
    cases dw.to_int
    exact call_max2 hc pins s σ H _ us Q I r ⟨_, _, rfl, p.fin rh rfl⟩
  · exact p.elim
theorem cr_min2 (hc : X.calm = true) : CallR X (.builtin "min") (rN X.K bMin2) := by
  intro pins s σ H xs us Q I r ⟨μ, h, as, da, rh, p⟩
  unfold bMin2 at p
  split at p
  · obtain ⟨v, w, rfl, dv, dw⟩ := dens2 da
    cases dv.to_int
    cases dw.to_int
    exact call_min2 hc pins s σ H _ us Q I r ⟨_, _, rfl, p.fin rh rfl⟩
  · exact p.elim
theorem cr_list : CallR X (.type "list") (rN X.K bList) := by
  intro pins s σ H xs us Q I r ⟨μ, h, as, da, rh, p⟩
  unfold bList at p
  split at p
  · obtain ⟨v, rfl, a, vs, rfl, q, dd⟩ := dens1 da
    exact call_list_of pins s σ H _ us Q I r ⟨a, vs, rfl, .inr (SqT.of q), fun l hl => p.finL rh dd l hl⟩
  · obtain ⟨v, rfl, a, vs, rfl, q, dd⟩ := dens1 da
    exact call_list_of pins s σ H _ us Q I r ⟨a, vs, rfl, .inr q, fun l hl => p.finL rh dd l hl⟩
  · obtain ⟨v, rfl, a, vs, rfl, q, dd⟩ := dens1 da
    exact call_list_of pins s σ H _ us Q I r ⟨a, vs, rfl, .inl q.sq, fun l hl => p.finL rh dd l hl⟩
  · split at p
    · rename_i hi
      obtain ⟨v, rfl, dv⟩ := dens1 da
      obtain ⟨a, vs, rfl, _, q, dd⟩ := den_lst rh dv hi
      exact call_list_of pins s σ H _ us Q I r ⟨a, vs, rfl, .inl (SqL.of q), fun l hl => p.finL rh dd l hl⟩
    · exact p.elim
  · exact p.elim
theorem cr_tuple : CallR X (.type "tuple") (rN X.K bTuple) := by
  intro pins s σ H xs us Q I r ⟨μ, h, as, da, rh, p⟩
  unfold bTuple at p
  split at p
  · obtain ⟨v, rfl, a, vs, rfl, q, dd⟩ := dens1 da
    exact call_tuple_of pins s σ H _ us Q I r ⟨a, vs, rfl, .inr ⟨SqT.of q, p.fin rh ⟨a, vs, rfl, q, dd⟩⟩⟩
  · obtain ⟨v, rfl, a, vs, rfl, q, dd⟩ := dens1 da
    exact call_tuple_of pins s σ H _ us Q I r ⟨a, vs, rfl, .inr ⟨q, p.fin rh ⟨a, vs, rfl, q, dd⟩⟩⟩
  · obtain ⟨v, rfl, a, vs, rfl, q, dd⟩ := dens1 da
    exact call_tuple_of pins s σ H _ us Q I r ⟨a, vs, rfl, .inl ⟨q.sq, fun l hl => p.finT rh dd l hl⟩⟩
  · split at p
    · rename_i hi
      obtain ⟨v, rfl, dv⟩ := dens1 da
      obtain ⟨a, vs, rfl, _, q, dd⟩ := den_lst rh dv hi
      exact call_tuple_of pins s σ H _ us Q I r ⟨a, vs, rfl, .inl ⟨SqL.of q, fun l hl => p.finT rh dd l hl⟩⟩
    · exact p.elim
  · exact p.elim
end

/-! ### list.append, and items changed by an operator -/
def mMset (g : D → List D → Hh → Option (D × Hh)) (mo : ME) (ma : MA) : ME := fun ρ h => (mo ρ h).bind fun o h1 => match o with
  | .ref i => match h1[i]? with
    | some (.lst _) => (ma ρ h1).bind fun as h2 => Out.ofO (g o as h2)
    | _ => .bad
  | _ => .bad
def lAppend : D → List D → Hh → Option (D × Hh)
  | .ref i, [d], h => match h[i]? with
    | some (.lst xs) => if xs.length < sizeLine then some (.non, h.set i (.lst (xs ++ [d]))) else none
    | _ => none
  | _, _, _ => none
section
variable {X : Cx} {ct : Ctb} {W : WX}
def rM (K : PySem.W.Frag) (g : D → List D → Hh → Option (D × Hh)) : V → List V → Hp → VK → Prop := fun x xs H Q => ∃ μ h a as, Den K μ H a x ∧ Dens K μ H as xs ∧ RelH K μ H h ∧ POo K μ H (fun d _ μ' H' => ∀ v, Den K μ' H' d v → Q v H') (g a as h)
theorem mt_appendM : MtM X "list.append" (rM X.K lAppend) := by
  intro pins s σ H x xs v us Q I rx rv ⟨μ, h, a, as, da, das, rh, p⟩
  unfold lAppend at p
  split at p
  · split at p
    · rename_i hi
      split at p
      · rename_i hl
        obtain ⟨b, vs, rfl, ha, hv, dd⟩ := den_lst rh da hi
        obtain ⟨w, rfl, dw⟩ := dens1 das
        obtain ⟨st, r⟩ := put_lst rh hi ha hv (dd.append das)
        exact mt_append pins s σ H _ _ v us Q I rx rv ⟨b, vs, w, rfl, rfl, hv, by rw [dd.length]; exact hl, p _ _ st r _ rfl⟩
      · exact p.elim
    · exact p.elim
  · exact p.elim
/-- a method of a list -/
theorem se_lm {o e : Expr} {es : List Expr} {name : Str} {id : String} {apos cpos : Pos} {g : D → List D → Hh → Option (D × Hh)} {mo : ME} {ma : MA} (slot : Slot "list" name id) (hty : typeOf (.builtin id) = pure (.type "method_descriptor")) (hm : MtR X id (rM X.K g)) (ho : SE X ct W o mo) (ha : SA X ct W (e :: es) ma)
    (hbase : attributeBase o name X.env (eval o X.env) = eval o X.env := by rfl)
    (hfew : ((backTo cpos (starEach (e :: es) X.env)).all (fun x => !x.1) && (backToKw cpos (keywordEach [] X.env)).all (fun x => x.1.isSome) && decide ((e :: es).length + ([] : List Keyword).length + (if ([] : List Keyword).isEmpty then 0 else 1) < 30)) = true := by rfl)
    (he : starEach (e :: es) X.env = (false, eval e X.env) :: starEach es X.env := by rfl) (hpl : (backTo cpos (starEach es X.env)).any (·.1) = false := by rfl) (hline : (apos.endLine == cpos.line) = true := by rfl) :
    SE X ct W (.Call (.Attribute o name apos) (e :: es) [] cpos) (mMset g mo ma) := by
  refine L2.PE.imp (pe_bm PySem.F.plainAttrs_list slot hty hm ho ha hbase hfew hline he hpl) fun σ H Q ⟨μ, ρ, h, rs, rh, p⟩ => rdE.go rs rh p fun d h1 μ1 H1 v s1 rs1 rh1 dv p1 => ?_
  split at p1
  · rename_i i
    split at p1
    · rename_i xs hi
      obtain ⟨a, vs, rfl, ha, hv, dd⟩ := den_lst rh1 dv hi
      exact ⟨.inl ⟨rfl, vs, SqL.of hv⟩, rdA.go rs1 rh1 p1 fun as h2 μ2 H2 ws s2 rs2 rh2 das p2 => ⟨μ2, h2, .ref i, as, dv.mono s2, das, rh2, p2.ofO⟩⟩
    · exact p1.elim
  · exact p1.elim
/-- xs[i], a list, 0 ≤ i -/
def oIxL : G2
  | .ref a, .int i, h => match h[a]? with
    | some (.lst xs) => if 0 ≤ i ∧ i < 2 ^ 63 then (xs[i.toNat]?).map fun d => (d, h) else none
    | _ => none
  | _, _, _ => none
theorem get_M : PGet X (r2 X.K oIxL) := by
  intro pins s σ H o i ov iv Q I ro ri ⟨μ, h, a, b, da, db, rh, p⟩
  cases a with
  | ref a1 =>
    cases b with
    | int k =>
      cases hi : h[a1]? with
      | none => simp only [oIxL, hi] at p; exact p.elim
      | some ob =>
        cases ob with
        | lst xs =>
          by_cases h0 : 0 ≤ k ∧ k < 2 ^ 63
          · cases e : xs[k.toNat]? with
            | none => simp only [oIxL, hi, if_pos h0, e, Option.map_none] at p; exact p.elim
            | some d =>
              simp only [oIxL, hi, if_pos h0, e, Option.map_some] at p
              obtain ⟨a2, vs, rfl, _, hv, dd⟩ := den_lst rh da hi
              cases ro
              cases db.to_int
              obtain ⟨t, rfl⟩ := ri
              obtain ⟨its, r, pl, hz⟩ := I.list (SqL.of hv)
              obtain ⟨w, ew, dw⟩ := dd.get e
              obtain ⟨u, eu, ru⟩ := r.get ew
              exact wpAny_getItem_list pl.isList h0.1 h0.2 (by simpa using eu) ⟨w, H, I, ru, p.fin rh dw⟩
          · simp only [oIxL, hi, if_neg h0] at p; exact p.elim
        | dct xs => simp only [oIxL, hi] at p; exact p.elim
        | dctT xs => simp only [oIxL, hi] at p; exact p.elim
        | dlk xs => simp only [oIxL, hi] at p; exact p.elim
        | dlkT xs => simp only [oIxL, hi] at p; exact p.elim
    | _ => exact p.elim
  | _ => exact p.elim
/-- o[i] = e -/
def gmSub (g : D → D → D → Hh → Option Hh) (mo mi : ME) : MG := fun d ρ h => match mo ρ h with
  | .ok o h1 => match mi ρ h1 with
    | .ok i h2 => (g o i d h2).map fun h3 => (ρ, h3)
    | _ => none
  | _ => none
theorem sg_sub {o i : Expr} {mo mi : ME} {pos : Pos} {g : D → D → D → Hh → Option Hh} (ho : SE X ct W o mo) (hi : SE X ct W i mi) (hs : PSet X (rset X.K g))
    (ha : ∀ v, assign (.Subscript o i pos) X.env v = (do
      let ov ← holding [v] (eval o X.env)
      let iv ← holding [v, ov] (eval i X.env)
      standAt pos
      holding [v, ov, iv] (setItem ov iv v)
      release [v, ov, iv] []) := by intro _; rfl) : SG X (.Subscript o i pos) (gmSub g mo mi) :=
  (pg_sub ho hi hs ha).imp fun v σ H Q ⟨μ, ρ, h, d, rs, rh, dv, p⟩ => by
    cases e1 : mo ρ h with
    | ok od h1 =>
      cases e2 : mi ρ h1 with
      | ok idd h2 =>
        cases e3 : g od idd d h2 with
        | some h3 =>
          have hg : gmSub g mo mi d ρ h = some (ρ, h3) := by unfold gmSub; simp only [e1, e2, e3, Option.map_some]
          rw [hg] at p
          refine ⟨μ, ρ, h, rs, rh, ?_⟩
          rw [e1]
          intro μ1 H1 s1 rh1 x dx
          refine ⟨μ1, ρ, h1, rs.mono s1, rh1, ?_⟩
          rw [e2]
          intro μ2 H2 s2 rh2 y dy
          refine ⟨μ2, h2, od, idd, d, dx.mono s2, dy, (dv.mono s1).mono s2, rh2, ?_⟩
          rw [e3]
          intro μ3 H3 s3 rh3
          exact p μ3 H3 σ ((s1.trans s2).trans s3) rh3 (((rs.mono s1).mono s2).mono s3)
        | none =>
          have hg : gmSub g mo mi d ρ h = none := by unfold gmSub; simp only [e1, e2, e3, Option.map_none]
          rw [hg] at p
          exact p.elim
      | err x h2 =>
        have hg : gmSub g mo mi d ρ h = none := by unfold gmSub; simp only [e1, e2]
        rw [hg] at p
        exact p.elim
      | bad =>
        have hg : gmSub g mo mi d ρ h = none := by unfold gmSub; simp only [e1, e2]
        rw [hg] at p
        exact p.elim
    | err x h2 =>
      have hg : gmSub g mo mi d ρ h = none := by unfold gmSub; simp only [e1]
      rw [hg] at p
      exact p.elim
    | bad =>
      have hg : gmSub g mo mi d ρ h = none := by unfold gmSub; simp only [e1]
      rw [hg] at p
      exact p.elim
/-- o[i] op= e -/
def mAugS (g : G2) (gi : G2) (gs : D → D → D → Hh → Option Hh) (mo mi me : ME) : MS := fun ρ h => (mo ρ h).bindS ρ fun o h1 => (mi ρ h1).bindS ρ fun i h2 => (Out.ofO (g o i h2)).bindS ρ fun x h3 => (me ρ h3).bindS ρ fun y h4 => (Out.ofO (gi x y h4)).bindS ρ fun z h5 => match gs o i z h5 with
  | some h6 => .nx ρ h6
  | none => .bad
theorem ss_augS {o i e : Expr} {mo mi me : ME} {g gi : G2} {gs : D → D → D → Hh → Option Hh} {op : Operator} {tpos pos : Pos} (ho : SE X ct W o mo) (hi : SE X ct W i mi) (hg : PGet X (r2 X.K g)) (he : SE X ct W e me) (hp : PIp X op (r2 X.K gi)) (hs : PSet X (rset X.K gs))
    (ha : ∀ ov iv new, augStore i ov iv new = (do holding [new, ov, iv] (setItem ov iv new); release [new, ov, iv] []; pure .next) := by intros; rfl) : SS X ct W (.AugAssign (.Subscript o i tpos) op e pos) (mAugS g gi gs mo mi me) :=
  (ps_augS ho hi hg he hp hs ha).imp fun D σ H ⟨μ, ρ, h, rs, rh, p⟩ => rdE.goS rs rh p fun od h1 μ1 H1 ov s1 rs1 rh1 do1 p1 => rdE.goS rs1 rh1 p1 fun id1 h2 μ2 H2 iv s2 rs2 rh2 di1 p2 =>
    ⟨μ2, h2, od, id1, do1.mono s2, di1, rh2, (PSt.bindS (W := W) rs2 p2).ofO.mono fun x h3 μ3 H3 s3 rh3 p3 xv dx => rdE.goS (rs2.mono s3) rh3 p3 fun y h4 μ4 H4 yv s4 rs4 rh4 dy p4 =>
      ⟨μ4, h4, x, y, dx.mono s4, dy, rh4, (PSt.bindS (W := W) rs4 p4).ofO.mono fun z h5 μ5 H5 s5 rh5 p5 zv dz => ⟨μ5, h5, od, id1, z, (((do1.mono s2).mono s3).mono s4).mono s5, ((di1.mono s3).mono s4).mono s5, dz, rh5, by
        split at p5
        · rename_i h6 e6
          try rw [e6]
          exact fun μ6 H6 s6 rh6 => p5 μ6 H6 σ s6 rh6 ((rs4.mono s5).mono s6)
        · exact p5.elim⟩⟩⟩
end

/-! ### iterators -/
section
variable {X : Cx} {ct : Ctb} {W : WX} {tg : Expr}
/-- over a tuple, a list that is only read, or a list of ours -/
def jSeq (xs : List D) : MIt := ⟨fun i _ => some xs[i]?, xs.length⟩
def jRef (a : Nat) (n : Nat) : MIt := ⟨fun i h => match h[a]? with
  | some (.lst xs) => some xs[i]?
  | _ => none, n⟩
def jRng (lo : Int) (n : Nat) : MIt := ⟨fun i _ => some (if i < n then some (.int (lo + i)) else none), n⟩
def iterD : D → Hh → Option MIt
  | .tup xs, _ => some (jSeq xs)
  | .rot xs, _ => some (jSeq xs)
  | _, _ => none
def iterL : D → Hh → Option MIt
  | .rol xs, _ => some (jSeq xs)
  | .ref a, h => match h[a]? with
    | some (.lst xs) => some (jRef a xs.length)
    | _ => none
  | _, _ => none
def miOf (f : D → Hh → Option MIt) (m : ME) : MI := fun ρ h => (m ρ h).bind fun d h1 => match f d h1 with
  | some j => .ok j h1
  | none => .bad
theorem itr_tup {K : PySem.W.Frag} {μ : List Addr} {H : Hp} {a : Addr} {xs : List D} {vs : List V} (q : SqT K H a vs) (d : Dens K μ H xs vs) : ItR K μ H (Itt K a) (jSeq xs) where
  stop := fun i μ' H' h' s rh e => ⟨vs, s.sqT q, by
    have e : xs[i]? = none := Option.some.inj e
    rw [d.length]
    exact List.getElem?_eq_none_iff.mp e⟩
  go := fun i μ' H' h' x s rh e => by
    have e : xs[i]? = some x := Option.some.inj e
    obtain ⟨v, e1, dv⟩ := d.get e
    refine ⟨⟨vs, v, s.sqT q, e1⟩, fun y H'' hy => ?_⟩
    obtain ⟨rfl, hy⟩ := hy
    have ey := hy vs (s.sqT q)
    rw [e1] at ey
    cases ey
    exact ⟨Step.refl, rh, dv.mono s⟩
theorem itr_rol {K : PySem.W.Frag} {μ : List Addr} {H : Hp} {a : Addr} {xs : List D} {vs : List V} (q : RoL K H a vs) (d : Dens K μ H xs vs) : ItR K μ H (Itl K a) (jSeq xs) where
  stop := fun i μ' H' h' s rh e => ⟨vs, (s.roL q).sq, by
    have e : xs[i]? = none := Option.some.inj e
    rw [d.length]
    exact List.getElem?_eq_none_iff.mp e⟩
  go := fun i μ' H' h' x s rh e => by
    have e : xs[i]? = some x := Option.some.inj e
    obtain ⟨v, e1, dv⟩ := d.get e
    refine ⟨⟨vs, v, (s.roL q).sq, e1⟩, fun y H'' hy => ?_⟩
    obtain ⟨rfl, hy⟩ := hy
    have ey := hy vs (s.roL q).sq
    rw [e1] at ey
    cases ey
    exact ⟨Step.refl, rh, dv.mono s⟩
theorem itr_ref {K : PySem.W.Frag} {μ : List Addr} {H : Hp} {a : Nat} {p : Addr} {n : Nat} (hp : μ[a]? = some p) : ItR K μ H (Itl K p) (jRef a n) where
  stop := fun i μ' H' h' s rh e => by
    have e : (match h'[a]? with | some (.lst xs) => some xs[i]? | _ => none) = some none := e
    split at e
    · rename_i xs hi
      obtain ⟨b, hb, vs, hv, d⟩ := rh.obj a _ hi
      rw [s.get hp] at hb
      cases hb
      exact ⟨vs, SqL.of hv, by rw [d.length]; exact List.getElem?_eq_none_iff.mp (Option.some.inj e)⟩
    · cases e
  go := fun i μ' H' h' x s rh e => by
    have e : (match h'[a]? with | some (.lst xs) => some xs[i]? | _ => none) = some (some x) := e
    split at e
    · rename_i xs hi
      obtain ⟨b, hb, vs, hv, d⟩ := rh.obj a _ hi
      rw [s.get hp] at hb
      cases hb
      obtain ⟨v, e1, dv⟩ := d.get (Option.some.inj e)
      refine ⟨⟨vs, v, SqL.of hv, e1⟩, fun y H'' hy => ?_⟩
      obtain ⟨rfl, hy⟩ := hy
      have ey := hy vs (SqL.of hv)
      rw [e1] at ey
      cases ey
      exact ⟨Step.refl, rh, dv⟩
    · cases e
theorem itr_rng {K : PySem.W.Frag} {μ : List Addr} {H : Hp} {lo : Int} {n : Nat} : ItR K μ H (Itr lo n) (jRng lo n) where
  stop := fun i μ' H' h' s rh e => by
    have e : (if i < n then some (D.int (lo + i)) else none) = none := Option.some.inj e
    split at e
    · cases e
    · rename_i h
      exact Nat.le_of_not_lt h
  go := fun i μ' H' h' x s rh e => by
    have e : (if i < n then some (D.int (lo + i)) else none) = some x := Option.some.inj e
    split at e
    · rename_i h
      cases e
      refine ⟨h, fun y H'' hy => ?_⟩
      obtain ⟨rfl, rfl⟩ := hy
      exact ⟨Step.refl, rh, rfl⟩
    · cases e
theorem si_tup {e : Expr} {m : ME} (he : SE X ct W e m) : L2.PI X tg e (rdI X.K ct W (miOf iterD m)) :=
  (pi_tup he).imp fun σ H R ⟨μ, ρ, h, rs, rh, p⟩ => rdE.go rs rh p fun d h1 μ1 H1 v s1 rs1 rh1 dv p1 => by
    split at p1
    · rename_i j ej
      unfold iterD at ej
      split at ej
      · cases ej
        obtain ⟨a, vs, rfl, q, dd⟩ := dv
        exact ⟨a, rfl, ⟨vs, SqT.of q⟩, p1.at rh1 _ (itr_tup (SqT.of q) dd)⟩
      · cases ej
        obtain ⟨a, vs, rfl, q, dd⟩ := dv
        exact ⟨a, rfl, ⟨vs, q⟩, p1.at rh1 _ (itr_tup q dd)⟩
      · cases ej
    · exact p1.elim
theorem si_list {e : Expr} {m : ME} (he : SE X ct W e m) : L2.PI X tg e (rdI X.K ct W (miOf iterL m)) :=
  (pi_list he).imp fun σ H R ⟨μ, ρ, h, rs, rh, p⟩ => rdE.go rs rh p fun d h1 μ1 H1 v s1 rs1 rh1 dv p1 => by
    split at p1
    · rename_i j ej
      unfold iterL at ej
      split at ej
      · cases ej
        obtain ⟨a, vs, rfl, q, dd⟩ := dv
        exact ⟨a, rfl, ⟨vs, q.sq⟩, p1.at rh1 _ (itr_rol q dd)⟩
      · split at ej
        · rename_i hi
          cases ej
          obtain ⟨a, vs, rfl, ha, hv, dd⟩ := den_lst rh1 dv hi
          exact ⟨a, rfl, ⟨vs, SqL.of hv⟩, p1.at rh1 _ (itr_ref ha)⟩
        · cases ej
      · cases ej
    · exact p1.elim
def miRng1 (m : ME) : MI := fun ρ h => (m ρ h).bind fun d h1 => match d with
  | .int n => if -(2 ^ 62) ≤ n ∧ n < 2 ^ 62 then .ok (jRng 0 n.toNat) h1 else .bad
  | _ => .bad
def miRng2 (m m' : ME) : MI := fun ρ h => (m ρ h).bind fun d h1 => (m' ρ h1).bind fun e h2 => match d, e with
  | .int i, .int j => if -(2 ^ 62) ≤ i ∧ i < 2 ^ 62 ∧ -(2 ^ 62) ≤ j ∧ j < 2 ^ 62 then .ok (jRng i (j - i).toNat) h2 else .bad
  | _, _ => .bad
theorem si_rng1 {a : Expr} {m : ME} {p pos : Pos} (hg : Gl X "range") (hm : X.mg "range" = none) (ha : SE X ct W a m) (hs : starEach [a] X.env = [(false, eval a X.env)] := by rfl) :
    L2.PI X tg (.Call (.Name "range" p) [a] [] pos) (rdI X.K ct W (miRng1 m)) :=
  (pi_range1 hg hm (pa_cons ha pa_nil hs) hs).imp fun σ H R ⟨μ, ρ, h, rs, rh, p⟩ => rdE.go rs rh p fun d h1 μ1 H1 v s1 rs1 rh1 dv p1 => by
    split at p1
    · split at p1
      · rename_i hn
        cases dv.to_int
        exact ⟨_, rfl, hn.1, hn.2, p1.at rh1 _ itr_rng⟩
      · exact p1.elim
    · exact p1.elim
theorem si_rng2 {a b : Expr} {m m' : ME} {p pos : Pos} (hg : Gl X "range") (hm : X.mg "range" = none) (ha : SE X ct W a m) (hb : SE X ct W b m') (hs : starEach [a, b] X.env = [(false, eval a X.env), (false, eval b X.env)] := by rfl) (hs2 : starEach [b] X.env = [(false, eval b X.env)] := by rfl) :
    L2.PI X tg (.Call (.Name "range" p) [a, b] [] pos) (rdI X.K ct W (miRng2 m m')) :=
  (pi_range2 hg hm (pa_cons ha (pa_cons hb pa_nil hs2) (by rw [hs, hs2])) hs hs2).imp fun σ H R ⟨μ, ρ, h, rs, rh, p⟩ => rdE.go rs rh p fun d h1 μ1 H1 v s1 rs1 rh1 dv p1 => rdE.go rs1 rh1 p1 fun e h2 μ2 H2 w s2 rs2 rh2 dw p2 => by
    split at p2
    · split at p2
      · rename_i hn
        cases dv.to_int
        cases dw.to_int
        exact ⟨_, _, rfl, hn, p2.at rh2 _ itr_rng⟩
      · exact p2.elim
    · exact p2.elim
end
/-- the int in a slot -/
def slotInt (i : Nat) (ρ : Rho) : Int := match ρ.getD i none with
  | some (.int b) => b
  | _ => 0
end PI
/-! try with several clauses, with or without a name. -/
namespace PI
open PySem PySem.Spec L2
open PyProof.Rows hiding St

abbrev W0 : WX := fun _ _ _ _ => False
abbrev Hd := Str × Option Nat × (Addr → Exn → MS)
/-- one value for all -/
noncomputable def uni (f : Addr → OutS) : OutS := open Classical in if ∀ a, f a = f 0 then f 0 else .bad
theorem uni_eq {f : Addr → OutS} {o : OutS} (h : ∀ a, f a = o) : uni f = o := by
  unfold uni
  rw [if_pos (fun a => by rw [h a, h 0])]
  exact h 0
theorem uni_pst {K : PySem.W.Frag} {ct : Ctb} {W : WX} {μ : List Addr} {H : Hp} {D : Ends} {f : Addr → OutS} (p : PSt K ct W μ H D (uni f)) (a : Addr) : PSt K ct W μ H D (f a) := by
  unfold uni at p
  split at p
  · rename_i h
    rw [h a]
    exact p
  · exact p.elim
/-- the exception's name goes behind the suite -/
def unName (i : Nat) : OutS → OutS
  | .nx ρ h => .nx (ρ.set i none) h
  | .bk ρ h => .bk (ρ.set i none) h
  | .ct ρ h => .ct (ρ.set i none) h
  | .rt d h => .rt d h
  | _ => .bad
/-- a suite that raises is not mirrored -/
def noEr : OutS → OutS
  | .er _ _ _ => .bad
  | o => o
noncomputable def clauses (sb : Str → Str → Bool) (x : Exn) (ρ : Rho) (h : Hh) : List Hd → OutS
  | [] => .er x ρ h
  | (c, none, ms) :: r => if sb x.cls c = true then uni fun a => noEr (ms a x ρ h) else clauses sb x ρ h r
  | (c, some i, ms) :: r => if sb x.cls c = true then uni fun a => unName i (ms a x (ρ.set i (some (.ex a))) h) else clauses sb x ρ h r
noncomputable def mTry (sb : Str → Str → Bool) (b : MS) (hs : List Hd) : MS := fun ρ h => match b ρ h with
  | .er x ρ' h' => clauses sb x ρ' h' hs
  | o => o
inductive HdsM (X : Cx) (ct : Ctb) (sb : Str → Str → Bool) : List ExceptHandler → List Hd → Prop
  | nil : HdsM X ct sb [] []
  | plain {x : Str} {c : Value} {ms : Addr → Exn → MS} {b₀ : Stmt} {suite : List Stmt} {np pos' : Pos} {hds : List ExceptHandler} {l : List Hd} (hc : Names X x c) (hsb : ∀ z cz, ct z = some cz → PySem.W.exmOne X.K cz c = some (sb z x))
      (hsu : ∀ (a : Addr) (oe : Obj) (cls : Value) (d : Option Addr) (pn : List (Addr × Obj)) (e : Exn), Zc cls d oe → (∃ vs, oe.data = .fields vs) → ct e.cls = some cls → (e.fs = [] → d = none) → SSs (X.suite a ((a, oe) :: pn)) ct W0 (b₀ :: suite) (ms a e)) (r : HdsM X ct sb hds l) :
      HdsM X ct sb (.ExceptHandler (some (.Name x np)) none (b₀ :: suite) pos' :: hds) ((x, none, ms) :: l)
  | named {x n : Str} {i : Nat} {c : Value} {ms : Addr → Exn → MS} {b₀ : Stmt} {suite : List Stmt} {np pos' : Pos} {hds : List ExceptHandler} {l : List Hd} (hi : X.N[i]? = some n) (hln : X.env.kindOf n = some .local) (hc : Names X x c) (hsb : ∀ z cz, ct z = some cz → PySem.W.exmOne X.K cz c = some (sb z x))
      (hsu : ∀ (a : Addr) (oe : Obj) (cls : Value) (d : Option Addr) (pn : List (Addr × Obj)) (e : Exn), Zc cls d oe → (∃ vs, oe.data = .fields vs) → ct e.cls = some cls → (e.fs = [] → d = none) → SSs (X.suite a ((a, oe) :: pn)) ct W0 (b₀ :: suite) (ms a e)) (r : HdsM X ct sb hds l) :
      HdsM X ct sb (.ExceptHandler (some (.Name x np)) (some n) (b₀ :: suite) pos' :: hds) ((x, some i, ms) :: l)
section
variable {X : Cx} {ct : Ctb} {W : WX}
/-- what the clauses wish of an exception of the body -/
noncomputable def wishC (K : PySem.W.Frag) (ct : Ctb) (sb : Str → Str → Bool) (W : WX) (D : Ends) (hs : List Hd) : WX := fun cls d σ H => ∃ μ ρ h x, RelS K μ H ρ σ ∧ RelH K μ H h ∧ ExcR K ct μ H x cls d ∧ PSt K ct W μ H D (clauses sb x ρ h hs)
theorem ss_try {body : List Stmt} {h₀ : ExceptHandler} {hds : List ExceptHandler} {pos : Pos} {mb : MS} {l : List Hd} {sb : Str → Str → Bool}
    (hs : X.stack = X.env :: X.outer) (hf : X.env.frame = some X.env.locals) (hN : X.N.Nodup) (tk : Takes X W)
    (hb : ∀ (W : WX) (pn : List (Addr × Obj)) (xe : Value → Shared → Prop), Takes (X.tr pn xe) W → PassesOwn (model X.prog X.w) X.A X.env xe → SSs (X.tr pn xe) ct W body mb)
    (hh : HdsM X ct sb (h₀ :: hds) l) : SS X ct W (.Try body (h₀ :: hds) [] [] pos) (mTry sb mb l) := by
  refine ⟨fun pins s σ H D I hq => ?_⟩
  have ok := I.ok
  have frames : X.A.frames = some (X.env :: X.outer) := by rw [ok.frames, hs]
  refine wpAny_Try_except ?_
  obtain ⟨μ, ρ, h, rs, rh, p⟩ := hq
  have p : PSt X.K ct W μ H D (match mb ρ h with | .er x ρ' h' => clauses sb x ρ' h' l | o => o) := p
  have start : rdS X.K ct (wishC X.K ct sb W D l) mb D σ H := by
    refine ⟨μ, ρ, h, rs, rh, ?_⟩
    cases e : mb ρ h with
    | nx ρ' h' => rw [e] at p; exact p
    | bk ρ' h' => rw [e] at p; exact p
    | ct ρ' h' => rw [e] at p; exact p
    | rt d h' => rw [e] at p; exact p
    | bad => rw [e] at p; exact p
    | er x ρ' h' =>
      rw [e] at p
      exact fun μ' H' σ' cls d s r rs' ex => ⟨μ', ρ', h', x, rs', r, ex, PSt.step s p⟩
  refine wpAny_mono ((hb (wishC X.K ct sb W D l) (X.pn ++ pins)
    (fun e t1 => wpAny (model X.prog X.w) X.A (noteFrame e X.env) (fun _ t2 => wpAny (model X.prog X.w) X.A (setFlight e none) (fun _ t3 => wpAny (model X.prog X.w) X.A (handleBy e X.env (h₀ :: hds)) (SP X pins D) X.xe t3) X.xe t2) X.xe t1)
    (fun u t xx => ?_) PassesOwn.looking).run [] s σ H D (I.toTry _) start) (fun f t hsp => ?_) (fun e t he => he)
  · obtain ⟨ea, B, sB, pinsB, σB, HB, cls, d, rfl, JT, hnb, upB, skyB, hna, hos, hag, wish⟩ := xx
    have JB : Inv X pins σB HB sB := JT.ofTry ok
    have skyE : Sky B (X.env :: X.outer) ea (Zc cls d) X.env.locals t.heap := by rw [← hs]; exact skyB
    show wpAny (model X.prog X.w) X.A (noteFrame (.ref ea) X.env) _ _ _
    refine Sky.land Zc.steady frames hf skyE fun hp3 fly3 ups3 => ?_
    have J3 : Inv X pins σB HB { t with heap := hp3 } := JB.landed hnb fly3.1 (upB.trans ups3) hos hag
    obtain ⟨o3, v3, ho3, hz3, hd3⟩ := fly3.there
    have notOne : ∀ {g : Heap} {o : Obj} {vs : Array Value}, g.FunFrames B (X.env :: X.outer) → g.get? ea = some o → o.data = .fields vs → ea ∉ frs (X.env :: X.outer) := fun {g o vs} ff eo ed hm => by
      obtain ⟨_, o2, eo2, hnf⟩ := ff.mem hm
      rw [eo] at eo2
      cases eo2
      exact hnf _ ed
    have outF := notOne fly3.2.2.1 ho3 hd3
    have outL : ea ≠ X.env.locals := fun z => outF (List.mem_filterMap.mpr ⟨X.env, List.mem_cons_self, by rw [hf, z]⟩)
    have outO : ea ∉ X.fs := fun hm => by
      obtain ⟨en, hen, qn⟩ := List.mem_filterMap.mp hm
      exact outF (List.mem_filterMap.mpr ⟨en, List.mem_cons_of_mem _ hen, qn⟩)
    have S3 := J3.suite ho3 hd3 hna outL outO
    obtain ⟨μ2, ρ2, h2, x, rs2, rh2, ex, p2⟩ := wish
    have ectx : ct x.cls = some cls := ex.1
    have enone : x.fs = [] → d = none := fun z => by
      rcases ex.2 with q | q
      · exact q.2
      · exact absurd z q.1
    have go : ∀ {hds' : List ExceptHandler} {l' : List Hd}, HdsM X ct sb hds' l' → PSt X.K ct W μ2 HB D (clauses sb x ρ2 h2 l') →
        wpAny (model X.prog X.w) X.A (handleBy (.ref ea) X.env hds') (SP X pins D) X.xe { t with heap := hp3 } := by
      intro hds' l' hk
      induction hk with
      | nil =>
        intro q
        have out : W cls d σB HB := q μ2 HB σB cls d Step.refl rh2 rs2 ex
        refine wpAny_handleBy_nil ?_
        obtain ⟨k1, k2, k3, oe, vs, T, oT, ts', he, hz, hd, h1, hr⟩ := id fly3
        unfold PySem.passOn
        refine wpAny_bind (wpAny_field he hd h1 ?_)
        rw [if_neg (show ¬ ((Value.ref T == Value.none) = true) from by simp)]
        have fin : wpAny (model X.prog X.w) X.A (setFlight (.ref ea) X.env.frame) (fun _ t4 => wpAny (model X.prog X.w) X.A (throw (.ref ea) : Sem Flow) (SP X pins D) X.xe t4) X.xe { t with heap := hp3 } := by
          rw [hf]
          refine HandSPX.setFlight_upZ fly3 fun h4 hh4 up4 => wpAny_throw (tk _ _ ?_)
          exact ⟨ea, B, sB, pins, σB, HB, cls, d, rfl, JB, hnb, (upB.trans ups3).trans up4, .inr (.inr (by rw [hs]; exact hh4)), hna, hos, hag, out⟩
        first
          | exact wpAny_bind (wpAny_pure (wpAny_bind fin))
          | exact wpAny_bind fin
      | @plain xn c ms b₀ suite np pos' hds2 l2 hc hsb hsu r ih =>
        intro q
        have hb1 := hsb _ _ ectx
        refine wpAny_handleBy_cons (codeAny_handlers_test ?_) (by intro z; cases z)
        have LT : PySem.W.Looks (model X.prog X.w) hp3 (typeOf (.ref ea)) cls := fun A Q E s k q => wpAny_typeOf_ref (k _ _ ho3) (by rw [hz3.1]; exact q)
        have LM := PySem.W.exm_one (M := model X.prog X.w) (J3.kIn) LT hb1
        have test : ∀ {Q : Value → Shared → Prop} {E : Value → Shared → Prop}, Q c { t with heap := hp3 } → wpAny (model X.prog X.w) (X.A.mark (some (.ref ea))) (eval (.Name xn np) X.env) Q E { t with heap := hp3 } := fun {Q E} z => by
          obtain ⟨hg, hdbg, hm | ⟨hm, hv, hnn⟩⟩ := hc
          · exact ld_glob (X := X.suite ea ((ea, o3) :: (X.pn ++ pins))) S3 hg hm z hdbg
          · exact ld_blt (X := X.suite ea ((ea, o3) :: (X.pn ++ pins))) S3 hg hm hv z hnn hdbg
        refine test (LM.here ?_)
        have q : PSt X.K ct W μ2 HB D (if sb x.cls xn = true then uni fun a => noEr (ms a x ρ2 h2) else clauses sb x ρ2 h2 l2) := q
        cases eb : sb x.cls xn with
        | true =>
          rw [eb, if_pos rfl] at q
          have q := uni_pst q ea
          refine codeAny_handlers_suite ?_
          refine HandSPX.lands_againZ fly3 fun h4 fl4 up4 => ?_
          have J4 : Inv X pins σB HB { t with heap := h4 } := JB.landed hnb fl4.1 ((upB.trans ups3).trans up4) hos hag
          obtain ⟨oe4, vs4, he4, hz4, hd4⟩ := fl4.there
          have S4 := J4.suite he4 hd4 hna outL outO
          have rd : rdS X.K ct W0 (ms ea x) D σB HB := by
            refine ⟨μ2, ρ2, h2, rs2, rh2, ?_⟩
            cases em : ms ea x ρ2 h2 with
            | er x' ρ' h' => rw [em] at q; exact q.elim
            | nx ρ' h' => rw [em] at q; exact q
            | bk ρ' h' => rw [em] at q; exact q
            | ct ρ' h' => rw [em] at q; exact q
            | rt d h' => rw [em] at q; exact q
            | bad => rw [em] at q; exact q
          refine wpAny_mono ((hsu ea oe4 cls d (X.pn ++ pins) x hz4 ⟨_, hd4⟩ ectx enone).run [] _ _ HB _ S4 rd) (fun f t6 hsp => ?_) (fun _ _ z => False.elim z)
          cases f with
          | next =>
            obtain ⟨σ6, H6, S6, q6⟩ := hsp
            exact ⟨_, _, S6.unsuite ok, q6⟩
          | brk =>
            obtain ⟨σ6, H6, S6, q6⟩ := hsp
            exact ⟨_, _, S6.unsuite ok, q6⟩
          | cont =>
            obtain ⟨σ6, H6, S6, q6⟩ := hsp
            exact ⟨_, _, S6.unsuite ok, q6⟩
          | ret u =>
            obtain ⟨v6, σ6, H6, S6, r6, q6⟩ := hsp
            exact ⟨_, _, _, S6.unsuite ok, r6, q6⟩
        | false =>
          rw [eb, if_neg Bool.false_ne_true] at q
          show wpAny _ X.A (handleBy (.ref ea) X.env hds2) _ _ _
          exact ih q
      | @named xn n i c ms b₀ suite np pos' hds2 l2 hi hln hc hsb hsu r ih =>
        intro q
        have hloc : Loc X.env.scope n := .inl hln
        have hb1 := hsb _ _ ectx
        refine wpAny_handleBy_cons (codeAny_handlers_test ?_) (by intro z; cases z)
        have LT : PySem.W.Looks (model X.prog X.w) hp3 (typeOf (.ref ea)) cls := fun A Q E s k q => wpAny_typeOf_ref (k _ _ ho3) (by rw [hz3.1]; exact q)
        have LM := PySem.W.exm_one (M := model X.prog X.w) (J3.kIn) LT hb1
        have test : ∀ {Q : Value → Shared → Prop} {E : Value → Shared → Prop}, Q c { t with heap := hp3 } → wpAny (model X.prog X.w) (X.A.mark (some (.ref ea))) (eval (.Name xn np) X.env) Q E { t with heap := hp3 } := fun {Q E} z => by
          obtain ⟨hg, hdbg, hm | ⟨hm, hv, hnn⟩⟩ := hc
          · exact ld_glob (X := X.suite ea ((ea, o3) :: (X.pn ++ pins))) S3 hg hm z hdbg
          · exact ld_blt (X := X.suite ea ((ea, o3) :: (X.pn ++ pins))) S3 hg hm hv z hnn hdbg
        refine test (LM.here ?_)
        have q : PSt X.K ct W μ2 HB D (if sb x.cls xn = true then uni fun a => unName i (ms a x (ρ2.set i (some (.ex a))) h2) else clauses sb x ρ2 h2 l2) := q
        cases eb : sb x.cls xn with
        | true =>
          rw [eb, if_pos rfl] at q
          have q := uni_pst q ea
          refine codeAny_handlers_suite_as ?_
          refine HandSPX.lands_againZ fly3 fun h4 fl4 up4 => ?_
          have J4 : Inv X pins σB HB { t with heap := h4 } := JB.landed hnb fl4.1 ((upB.trans ups3).trans up4) hos hag
          obtain ⟨oe4, vs4, he4, hz4, hd4⟩ := fl4.there
          have S4 := J4.suite he4 hd4 hna outL outO
          refine store_ok (X := X.suite ea ((ea, oe4) :: (X.pn ++ pins))) (v := .ref ea) S4 hN hi hloc rfl (fun s5 S5 => ?_) (.inr hln)
          have rd : rdS X.K ct W0 (ms ea x) { nx := fun σ' H' => D.nx (σ'.set i none) H', rt := D.rt, bk := fun σ' H' => D.bk (σ'.set i none) H', ct := fun σ' H' => D.ct (σ'.set i none) H' } (σB.set i (some (.ref ea))) HB := by
            refine ⟨μ2, ρ2.set i (some (.ex ea)), h2, rs2.set rfl, rh2, ?_⟩
            cases em : ms ea x (ρ2.set i (some (.ex ea))) h2 with
            | er x' ρ' h' => rw [em] at q; exact q.elim
            | nx ρ' h' => rw [em] at q; exact fun μ' H' σ' s r rs' => q μ' H' (σ'.set i none) s r rs'.clear
            | bk ρ' h' => rw [em] at q; exact fun μ' H' σ' s r rs' => q μ' H' (σ'.set i none) s r rs'.clear
            | ct ρ' h' => rw [em] at q; exact fun μ' H' σ' s r rs' => q μ' H' (σ'.set i none) s r rs'.clear
            | rt d h' => rw [em] at q; exact q
            | bad => rw [em] at q; exact q
          refine wpAny_mono ((hsu ea oe4 cls d (X.pn ++ pins) x hz4 ⟨_, hd4⟩ ectx enone).run [] s5 _ HB _ S5 rd) (fun f t6 hsp => ?_) (fun _ _ z => False.elim z)
          have end_ : ∀ {σ6 : L2.St} {H6 : Hp} {Q : Shared → Prop}, Inv (X.suite ea ((ea, oe4) :: (X.pn ++ pins))) [] σ6 H6 t6 → (∀ t7, Inv X pins (σ6.set i none) H6 t7 → Q t7) →
              wpAny (model X.prog X.w) X.A (do bindName X.env n .none; unbindBehindTheSuite X.env n pos') (fun _ t7 => Q t7) X.xe t6 := fun {σ6 H6 Q} S6 hq => gone_ok (S6.unsuite ok) hN hi hln hq
          cases f with
          | next =>
            obtain ⟨σ6, H6, S6, q6⟩ := hsp
            exact end_ S6 fun t7 J7 => ⟨_, _, J7, q6⟩
          | brk =>
            obtain ⟨σ6, H6, S6, q6⟩ := hsp
            exact end_ S6 fun t7 J7 => ⟨_, _, J7, q6⟩
          | cont =>
            obtain ⟨σ6, H6, S6, q6⟩ := hsp
            exact end_ S6 fun t7 J7 => ⟨_, _, J7, q6⟩
          | ret u =>
            obtain ⟨v6, σ6, H6, S6, r6, q6⟩ := hsp
            exact end_ S6 fun t7 J7 => ⟨_, _, _, J7, r6, q6⟩
        | false =>
          rw [eb, if_neg Bool.false_ne_true] at q
          show wpAny _ X.A (handleBy (.ref ea) X.env hds2) _ _ _
          exact ih q
    exact go hh p2
  · cases f with
    | next =>
      obtain ⟨σ', H', J', q⟩ := hsp
      exact wpAny_execs_nil ⟨σ', H', J'.ofTry ok, q⟩
    | brk =>
      obtain ⟨σ', H', J', q⟩ := hsp
      exact ⟨σ', H', J'.ofTry ok, q⟩
    | cont =>
      obtain ⟨σ', H', J', q⟩ := hsp
      exact ⟨σ', H', J'.ofTry ok, q⟩
    | ret u =>
      obtain ⟨v, σ', H', J', r, q⟩ := hsp
      exact ⟨v, σ', H', J'.ofTry ok, r, q⟩
/-- isinstance(e, T), e the exception that the suite holds -/
def mIsE (i : Nat) (a : Addr) (e : Exn) (b : Bool) : ME := fun ρ h => match ρ[i]? with
  | some (some (.ex a')) => if a' = a ∧ e.fs = [] then .ok (.bl b) h else .bad
  | _ => .bad
theorem se_isE {a : Addr} {oe : Obj} {cls : Value} {d : Option Addr} {pn : List (Addr × Obj)} {e : Exn} {i : Nat} {x n : Str} {p p1 p2 pos : Pos} {c : V} {cv : Value} {isb : Str → Bool} (hz : Zc cls d oe) (hf : ∃ vs, oe.data = .fields vs) (hcl : ct e.cls = some cls) (hd : e.fs = [] → d = none)
    (hX : ∀ k v, ct k = some v → ∃ C, v = .ref C ∧ ExcC X.K C ∧ PySem.W.kitOne X.K (.ref C) cv = some (isb k)) (hN : X.N[i]? = some n) (hv : Vis X.env.scope n) (hg : Gl X "isinstance") (hm : X.mg "isinstance" = none)
    (hc : PE (X.suite a ((a, oe) :: pn)) (.Name x p2) (tC c)) (hcv : ∀ u, RelV c u → u = cv) (hnd : (n == ("__debug__" : Str)) = false := by decide) (hncd : (n == ("__classdict__" : Str)) = false := by decide)
    (hs2 : starEach [.Name x p2] X.env = (false, eval (.Name x p2) X.env) :: starEach [] X.env := by rfl) (he : starEach [.Name n p1, .Name x p2] X.env = (false, eval (.Name n p1) X.env) :: starEach [.Name x p2] X.env := by rfl) (hpl : (backTo pos (starEach [.Name x p2] X.env)).any (·.1) = false := by rfl) :
    SE (X.suite a ((a, oe) :: pn)) ct W0 (.Call (.Name "isinstance" p) [.Name n p1, .Name x p2] [] pos) (mIsE i a e (isb e.cls)) := by
  obtain ⟨C, rfl, hC, hk⟩ := hX _ _ hcl
  refine ⟨fun pins s σ H Q I ⟨μ, ρ, h, rs, rh, po⟩ => ?_⟩
  unfold mIsE at po
  split at po
  · rename_i a' ea
    split at po
    · rename_i hh
      obtain ⟨rfl, hfs⟩ := hh
      have hd := hd hfs
      subst hd
      obtain ⟨v, hv1, hv2⟩ := rs.get i _ ea
      have hv2 : v = .ref a' := hv2
      subst hv2
      exact (pe_callB (X := X.suite a' ((a', oe) :: pn)) (call_isE (X := X) hC hz hf) hg hm PyProof.Rows.boot_isinstance (pa_cons (pe_var (i := i) hN hv hnd hncd) (pa_cons hc pa_nil hs2) he) (by decide) (by decide) he hpl).run pins s σ H Q I
        ⟨_, hv1, c, cv, isb e.cls, rfl, hcv, hk, po.at rh _ rfl⟩
    · exact po.elim
  · exact po.elim
end
end PI
/-! The end: what the top has written, the law's own promise. -/
namespace PI
open PySem PySem.Spec L2
open PyProof.Rows hiding St

/-- a def as the top has written it -/
structure DefI (K : PySem.W.Frag) (mg : Str → Option Value) (x : Str) (st : Stmt) (ps : List Str) (kws : List (List Str × List Nat)) : Prop where
  ex : ∃ fa fd, Fun K x x st fa fd ∧ mg x = some (.ref fa) ∧ Binds K fd ps [] ∧ ∀ p ∈ kws, KwB fd ps p.1 p.2
theorem defI_mk {K : PySem.W.Frag} {h : Heap} {mg : Str → Option Value} {x : Str} {st : Stmt} {ps : List Str} {kws : List (List Str × List Nat)} {f : Addr} {oc : Value} {od an : Option Addr} {osl : Array (Option Value)} {kV doc pm cdv ct : Value} (X : K.In h) (G : h.Ns mainGlobals mg)
    (a : PySem.W.nsIn K mainGlobals x = some (some (.ref f))) (l : K.lookup f = some ⟨oc, od, .func (PySem.W.fnOf x x (defArgs st) (defBody st) (defScope st) .none kV doc pm an cdv ct), osl⟩)
    (c : PySem.W.codeIn K cdv x = true) (k : PySem.W.keepIn K (.ref f) = true)
    (hb : ∀ (kV doc pm : Value) (an : Option Addr) (cdv ct : Value) (us : List Value), us.length = ps.length → bindArgs (PySem.W.fnOf x x (defArgs st) (defBody st) (defScope st) .none kV doc pm an cdv ct) ⟨us, []⟩ = pure (ps.zip us))
    (hk : ∀ (kV doc pm : Value) (an : Option Addr) (cdv ct : Value), ∀ p ∈ kws, KwB (PySem.W.fnOf x x (defArgs st) (defBody st) (defScope st) .none kV doc pm an cdv ct) ps p.1 p.2) : DefI K mg x st ps kws := by
  have F := fun_mk (st := st) l c k
  exact ⟨f, _, F, PySem.W.mg_of X G a, F.binds hb, hk _ _ _ _ _ _⟩
section
variable {P : Program} {w : World} {K : PySem.W.Frag} {mg : Str → Option Value} {base : Heap} {ct : Ctb}
theorem FnI.mono {j k : Nat} {x : Str} {ps : List Str} {f : FnM} (F : FnI P w K mg base ct j x ps f) (h : j ≤ k) : FnI P w K mg base ct k x ps f := by
  obtain ⟨fa, fd, a, b, c, d⟩ := F.ex
  exact ⟨fa, fd, a, b, c, d.mono h⟩
theorem FnK.mono {j k : Nat} {x : Str} {ps ks : List Str} {pl : List Nat} {f : FnM} (F : FnK P w K mg base ct j x ps ks pl f) (h : j ≤ k) : FnK P w K mg base ct k x ps ks pl f := by
  obtain ⟨fa, fd, a, b, c, d⟩ := F.ex
  exact ⟨fa, fd, a, b, c, d.mono h⟩
/-- a def's mirror, from its body's -/
theorem DefI.fn {k : Nat} {x : Str} {st : Stmt} {ps : List Str} {kws : List (List Str × List Nat)} {f : FnM} (D : DefI K mg x st ps kws) (h : ∀ {fa fd}, Fun K x x st fa fd → FnOk P w K mg base (L2.CX P w) k fa fd ps (spM K ct ps.length f)) : FnI P w K mg base ct k x ps f := by
  obtain ⟨fa, fd, F, m, b, _⟩ := D.ex
  exact ⟨fa, fd, m, F.kp, b, h F⟩
theorem DefI.kw {k : Nat} {x : Str} {st : Stmt} {ps : List Str} {kws : List (List Str × List Nat)} {f : FnM} (D : DefI K mg x st ps kws) {ks : List Str} {pl : List Nat} (hp : (ks, pl) ∈ kws) (h : ∀ {fa fd}, Fun K x x st fa fd → FnOk P w K mg base (L2.CX P w) k fa fd ps (spM K ct ps.length f)) : FnK P w K mg base ct k x ps ks pl f := by
  obtain ⟨fa, fd, F, m, _, b⟩ := D.ex
  exact ⟨fa, fd, m, F.kp, b _ hp, h F⟩
/-- a closed thing: its own addresses lie below n -/
def D.lt (n : Nat) : D → Bool
  | .ref i => decide (i < n)
  | .tup xs => D.ltS n xs
  | .rot xs => D.ltS n xs
  | .rol xs => D.ltS n xs
  | _ => true
where D.ltS (n : Nat) : List D → Bool
  | [] => true
  | d :: ds => D.lt n d && D.ltS n ds
end
/-- what the row asks of the law -/
def spLaw (K : PySem.W.Frag) : Sp := fun vs H Q _ => ∃ (a : Addr) (ns : List Int), vs = [.ref a] ∧ Only H ∧ SqL K H a (ns.map V.int) ∧ ns.length ≤ 63 ∧ ∀ H', Q (.bl true) H'
theorem law_sp {K : PySem.W.Frag} {ct : Ctb} {f : FnM} (hf : ∀ ns : List Int, ns.length ≤ 63 → ∃ h, f [.rol (ns.map D.int)] [] = .ok (.bl true) h) (vs : List V) (H : Hp) (Q : VK) (E : XK) (q : spLaw K vs H Q E) : spM K ct 1 f vs H Q E := by
  obtain ⟨a, ns, rfl, hO, hS, hl, hq⟩ := q
  obtain ⟨h', e⟩ := hf ns hl
  have ro : RoL K H a (ns.map V.int) := by
    rcases hS with (hS | ⟨o, hS⟩) | hS
    · rcases hO a with z | ⟨o, xs, z⟩
      · rw [hS] at z; cases z
      · rw [hS] at z; cases z
    · exact .inl ⟨o, hS⟩
    · exact .inr hS
  refine ⟨[], [], [.rol (ns.map D.int)], rfl, ⟨_, _, rfl, ⟨a, _, rfl, ro, Dens.ints ns⟩, rfl⟩, ⟨rfl, fun i j a e => by simp at e, fun i o e => by simp at e⟩, ?_⟩
  rw [e]
  intro μ' H' s r v dv
  have dv : v = .bl true := dv
  rw [dv]
  exact hq H'
theorem walkM {l : PySem.W.OpenLaw} {k : Nat} {q : Program} {loose : List Str} {XP : (Str → Option Value) → Heap → Prop} {YP : World → Heap → Prop} {d : DefRec} {K : Params → PySem.W.Frag} (hn : l.most = some 63) (hdf : d.params.defaults = []) (hr : Room k callerA)
    (hY : ∀ (w : World) (h : Heap), YP w h → (K w.params).In h)
    (F : ∀ (w : World) (mg : Str → Option Value) (fa : Addr) (h : Heap), (K w.params).In h → h.Ns mainGlobals mg → mg d.name = some (.ref fa) →
      ∃ fd : FuncData, (∀ (s : Shared) (u : Value), BindsTo s fd ⟨[u], []⟩ [("script", u)]) ∧ ∀ base : Heap, (K w.params).In base → base.Ns mainGlobals mg → FnOk l.prog w (K w.params) mg base (L2.CX l.prog w) k fa fd ["script"] (spLaw (K w.params))) :
    PySem.W.WalkO q loose XP YP l.row.toRowW d [] (fun f vs => PySem.call f vs) :=
  L2.walk_of (n := 63) (k := k) (x := "script") (CX := fun w => L2.CX l.prog w) (sp := fun w => spLaw (K w.params)) hn (by decide) hdf hr hY F (fun _ _ a ns hl hO hS => ⟨a, ns, rfl, hO, hS, hl, fun _ => rfl⟩)
    fun _ _ _ _ _ z => by obtain ⟨_, _, _, _, _, _, _, _, _, _, _, _, z⟩ := z; exact z
/-- facts of own exception classes -/
theorem kit_ref {K : PySem.W.Frag} {R C : Addr} {b : Bool} (hd : PySem.W.hasDictIn K C = true) (t : PySem.W.typeIn K (.ref C) = some (.type "type")) (s : PySem.W.subIn K (.ref R) (.ref C) = some b) (e : R = C → b = true) : PySem.W.kitOne K (.ref R) (.ref C) = some b := by
  obtain ⟨cd, hc, _⟩ := PySem.W.any_some hd
  unfold PySem.W.kitOne
  split
  · rename_i h
    have : R = C := Value.ref.inj (beq_iff_eq.mp h)
    rw [e this]
  · unfold PySem.W.kitCls
    have e2 : ((PySem.W.clsIn K C).isSome && PySem.W.typeIn K (.ref C) == some (.type "type")) = true := by rw [hc, t] <;> rfl
    dsimp only
    rw [if_pos e2]
    exact s
theorem kit_tyE {K : PySem.W.Frag} {R : Addr} {T : String} {b : Bool} (m : PySem.W.kitMeta T = true) (s : PySem.W.subIn K (.ref R) (.type T) = some b) : PySem.W.kitOne K (.ref R) (.type T) = some b := by
  unfold PySem.W.kitOne
  split
  · rename_i h
    have : Value.ref R = .type T := beq_iff_eq.mp h
    cases this
  · unfold PySem.W.kitCls
    dsimp only
    rw [if_pos m]
    exact s
end PI
/-! How a mirror is reckoned: its parts as equations. -/
namespace PI
open PySem PySem.Spec L2
open PyProof.Rows hiding St
section
variable {ρ : Rho} {h : Hh} {d e : D} {a b c : ME} {s t u : MT} {x y z : MS} {m : MA} {i j : Int} {n : Nat} {g g' : G2} {k : G1} {w w' : Str}
@[simp] theorem mC_ap : mC d ρ h = .ok d h := rfl
@[simp] theorem mVar_0 : mVar 0 (some d :: ρ) h = .ok d h := rfl
@[simp] theorem mVar_s {o : Option D} : mVar (n + 1) (o :: ρ) h = mVar n ρ h := rfl
@[simp] theorem mNil_ap : mNil ρ h = .ok [] h := rfl
@[simp] theorem mCons_ap : mCons a m ρ h = (a ρ h).bind fun d h1 => (m ρ h1).bind fun ds h2 => .ok (d :: ds) h2 := rfl
@[simp] theorem mOp_ap : mOp g a b ρ h = (a ρ h).bind fun a h1 => (b ρ h1).bind fun b h2 => Out.ofO (g a b h2) := rfl
@[simp] theorem mUn_ap : mUn k a ρ h = (a ρ h).bind fun a h1 => Out.ofO (k a h1) := rfl
@[simp] theorem mB_ap {g : GN} : mB g m ρ h = (m ρ h).bind fun as h1 => Out.ofO (g as h1) := rfl
@[simp] theorem mTup_ap : mTup m ρ h = (m ρ h).bind fun as h1 => if as.length ≤ sizeLine then .ok (.tup as) h1 else .bad := rfl
@[simp] theorem mLst_ap : mLst m ρ h = (m ρ h).bind fun as h1 => if as.length ≤ sizeLine then .ok (.ref h1.length) (h1 ++ [.lst as]) else .bad := rfl
@[simp] theorem mDnew_ap : mDnew ρ h = .ok (.ref h.length) (h ++ [.dct []]) := rfl
@[simp] theorem mTest_ap : mTest a ρ h = (a ρ h).bind fun d h1 => match d with
  | .bl b => .ok b h1
  | _ => .bad := rfl
@[simp] theorem mAnd_ap : mAnd s t ρ h = (s ρ h).bind fun c h1 => if c = true then t ρ h1 else .ok false h1 := rfl
@[simp] theorem mOr_ap : mOr s t ρ h = (s ρ h).bind fun c h1 => if c = true then .ok true h1 else t ρ h1 := rfl
@[simp] theorem mNot_ap : mNot s ρ h = (s ρ h).bind fun c h1 => .ok (!c) h1 := rfl
@[simp] theorem mAndV_ap : mAndV a b ρ h = (mTest a ρ h).bind fun c h1 => if c = true then b ρ h1 else .ok (.bl false) h1 := rfl
@[simp] theorem mOrV_ap : mOrV a b ρ h = (mTest a ρ h).bind fun c h1 => if c = true then .ok (.bl true) h1 else b ρ h1 := rfl
@[simp] theorem mNotV_ap : mNotV a ρ h = (mTest a ρ h).bind fun c h1 => .ok (.bl (!c)) h1 := rfl
@[simp] theorem mIf_ap : mIf s a b ρ h = (s ρ h).bind fun c h1 => if c = true then a ρ h1 else b ρ h1 := rfl
@[simp] theorem mChain_ap : mChain g g' a b c ρ h = (a ρ h).bind fun a h1 => (b ρ h1).bind fun b h2 => (Out.ofO (g a b h2)).bind fun r h3 => match r with
  | .bl true => (c ρ h3).bind fun c h4 => Out.ofO (g' b c h4)
  | .bl false => .ok (.bl false) h3
  | _ => .bad := rfl
@[simp] theorem mCall_ap {f : FnM} : mCall n f m ρ h = (m ρ h).bind fun ds h1 => if ds.length = n then f ds h1 else .bad := rfl
@[simp] theorem mCallK_ap {f : FnM} {pl : List Nat} : mCallK n pl f m ρ h = (m ρ h).bind fun ds h1 => if (perm pl ds).length = n then f (perm pl ds) h1 else .bad := rfl
@[simp] theorem mIsi_ap {T : String} : mIsi T a ρ h = (a ρ h).bind fun d h1 => match tyD h1 d with
  | some t => .ok (.bl (subT t T)) h1
  | none => .bad := rfl
@[simp] theorem mMset_ap {l : D → List D → Hh → Option (D × Hh)} : mMset l a m ρ h = (a ρ h).bind fun o h1 => match o with
  | .ref i => match h1[i]? with
    | some (.lst _) => (m ρ h1).bind fun as h2 => Out.ofO (l o as h2)
    | _ => .bad
  | _ => .bad := rfl
@[simp] theorem mNx_ap : mNx ρ h = .nx ρ h := rfl
@[simp] theorem mSeq_ap : mSeq x y ρ h = (x ρ h).seq y := rfl
@[simp] theorem mRet_ap : mRet a ρ h = (a ρ h).bindS ρ fun d h1 => .rt d h1 := rfl
@[simp] theorem mRetN_ap : mRetN ρ h = .rt .non h := rfl
@[simp] theorem mDrop_ap : mDrop a ρ h = (a ρ h).bindS ρ fun _ h1 => .nx ρ h1 := rfl
@[simp] theorem mIfS_ap : mIfS s x y ρ h = (s ρ h).bindS ρ fun c h1 => if c = true then x ρ h1 else y ρ h1 := rfl
@[simp] theorem mSet_ap : mSet n a ρ h = (a ρ h).bindS ρ fun d h1 => .nx (ρ.set n (some d)) h1 := rfl
@[simp] theorem mAsg_ap {g : MG} : mAsg a g ρ h = (a ρ h).bindS ρ fun d h1 => match g d ρ h1 with
  | some (ρ', h') => .nx ρ' h'
  | none => .bad := rfl
@[simp] theorem mPar_ap {i j : Nat} : mPar i j m ρ h = (m ρ h).bindS ρ fun ds h1 => match ds with
  | [d, e] => .nx ((ρ.set i (some d)).set j (some e)) h1
  | _ => .bad := rfl
@[simp] theorem mAug_ap : mAug n g a ρ h = match ρ[n]? with
  | some (some x) => (a ρ h).bindS ρ fun y h1 => (Out.ofO (g x y h1)).bindS ρ fun z h2 => .nx (ρ.set n (some z)) h2
  | _ => .bad := rfl
@[simp] theorem mAugS_ap {gs : D → D → D → Hh → Option Hh} : mAugS g g' gs a b c ρ h = (a ρ h).bindS ρ fun o h1 => (b ρ h1).bindS ρ fun i h2 => (Out.ofO (g o i h2)).bindS ρ fun x h3 => (c ρ h3).bindS ρ fun y h4 => (Out.ofO (g' x y h4)).bindS ρ fun z h5 => match gs o i z h5 with
  | some h6 => .nx ρ h6
  | none => .bad := rfl
@[simp] theorem mRaise_ap {q : Str} : mRaise q ρ h = .er ⟨q, []⟩ ρ h := rfl
@[simp] theorem mFor_ap {mi : MI} {g : MG} : mFor mi g x ρ h = (mi ρ h).bindS ρ fun j h1 => forL j g x j.most 0 ρ h1 := rfl
@[simp] theorem gmName_ap : gmName n d ρ h = some (ρ.set n (some d), h) := rfl
@[simp] theorem gmTup_ap {g : MGs} {ds : List D} : gmTup n g (.tup ds) ρ h = if ds.length = n then g ds ρ h else none := rfl
@[simp] theorem gmNil_ap : gmNil [] ρ h = some (ρ, h) := rfl
@[simp] theorem gmCons_ap {p : MG} {q : MGs} {ds : List D} : gmCons p q (d :: ds) ρ h = (p d ρ h).bind fun r => q ds r.1 r.2 := rfl
@[simp] theorem gmSub_ap {gs : D → D → D → Hh → Option Hh} : gmSub gs a b d ρ h = match a ρ h with
  | .ok o h1 => match b ρ h1 with
    | .ok i h2 => (gs o i d h2).map fun h3 => (ρ, h3)
    | _ => none
  | _ => none := rfl
@[simp] theorem oAdd_int : oAdd (.int i) (.int j) h = some (.int (i + j), h) := rfl
@[simp] theorem oIAdd_int : oIAdd (.int i) (.int j) h = some (.int (i + j), h) := rfl
@[simp] theorem oSub_int : oSub (.int i) (.int j) h = some (.int (i - j), h) := rfl
@[simp] theorem oMul_int : oMul (.int i) (.int j) h = if mulOk i j = true then some (.int (i * j), h) else none := rfl
@[simp] theorem oFdiv_int : oFdiv (.int i) (.int j) h = if divOk j = true then some (.int (i / j), h) else none := rfl
@[simp] theorem oMod_int : oMod (.int i) (.int j) h = if 0 < j then some (.int (i % j), h) else none := rfl
@[simp] theorem oPow_int : oPow (.int i) (.int j) h = if powOk i j = true then some (.int (i ^ j.toNat), h) else none := rfl
@[simp] theorem oNeg_int : oNeg (.int i) h = some (.int (-i), h) := rfl
@[simp] theorem oCmp_int {r : Int → Int → Bool} : oCmp r (.int i) (.int j) h = some (.bl (r i j), h) := rfl
@[simp] theorem oEq_int : oEq (.int i) (.int j) h = some (.bl (i == j), h) := rfl
@[simp] theorem oNe_int : oNe (.int i) (.int j) h = some (.bl (!(i == j)), h) := rfl
@[simp] theorem oEq_str : oEq (.str w) (.str w') h = some (.bl (w == w'), h) := rfl
@[simp] theorem oNe_str : oNe (.str w) (.str w') h = some (.bl (!(w == w')), h) := rfl
@[simp] theorem oIsN_ap : oIsN d .non h = some (.bl (isNon d), h) := rfl
@[simp] theorem oNotN_ap : oNotN d .non h = some (.bl (!isNon d), h) := rfl
@[simp] theorem oIx_tup {xs : List D} : oIx (.tup xs) (.int i) h = (atI xs i).map fun d => (d, h) := rfl
@[simp] theorem oIx_rol {xs : List D} : oIx (.rol xs) (.int i) h = (atI xs i).map fun d => (d, h) := rfl
@[simp] theorem oIx_ref : oIx (.ref n) (.int i) h = match h[n]? with
  | some (.lst xs) => (atI xs i).map fun d => (d, h)
  | _ => none := rfl
@[simp] theorem oIxL_ref : oIxL (.ref n) (.int i) h = match h[n]? with
  | some (.lst xs) => if 0 ≤ i ∧ i < 2 ^ 63 then (xs[i.toNat]?).map fun d => (d, h) else none
  | _ => none := rfl
@[simp] theorem oSet_ref : oSet (.ref n) (.int i) d h = match h[n]? with
  | some (.lst xs) => (ixN xs.length i).map fun j => h.set n (.lst (xs.set j d))
  | _ => none := rfl
@[simp] theorem bLen_tup {xs : List D} : bLen [.tup xs] h = some (.int xs.length, h) := rfl
@[simp] theorem bLen_rol {xs : List D} : bLen [.rol xs] h = some (.int xs.length, h) := rfl
theorem bLen_ref {xs : List D} (e : h[n]? = some (.lst xs)) : bLen [.ref n] h = some (.int xs.length, h) := by
  simp [bLen, lenD, e]
@[simp] theorem bAbs_int : bAbs [.int i] h = some (.int (if i < 0 then -i else i), h) := rfl
@[simp] theorem bInt_int : bInt [.int i] h = some (.int i, h) := rfl
@[simp] theorem bInt_bl {b : Bool} : bInt [.bl b] h = some (.int (if b then 1 else 0), h) := rfl
@[simp] theorem bGcd_int : bGcd [.int i, .int j] h = some (.int ((Nat.gcd i.natAbs j.natAbs : Nat) : Int), h) := rfl
@[simp] theorem bMax2_int : bMax2 [.int i, .int j] h = some (.int (if j > i then j else i), h) := rfl
@[simp] theorem bMin2_int : bMin2 [.int i, .int j] h = some (.int (if j < i then j else i), h) := rfl
@[simp] theorem bList_tup {xs : List D} : bList [.tup xs] h = some (.ref h.length, h ++ [.lst xs]) := rfl
@[simp] theorem bList_rol {xs : List D} : bList [.rol xs] h = some (.ref h.length, h ++ [.lst xs]) := rfl
@[simp] theorem bTuple_tup {xs : List D} : bTuple [.tup xs] h = some (.tup xs, h) := rfl
@[simp] theorem atI_0 {α : Type} {p : α} {xs : List α} : atI (p :: xs) 0 = some p := by simp [atI, ixN]
@[simp] theorem atI_1 {α : Type} {p q : α} {xs : List α} : atI (p :: q :: xs) 1 = some q := by
  have e : atI (p :: q :: xs) ((1 : Nat) : Int) = some q := atI_nat rfl
  exact e
@[simp] theorem atI_2 {α : Type} {p q r : α} {xs : List α} : atI (p :: q :: r :: xs) 2 = some r := by
  have e : atI (p :: q :: r :: xs) ((2 : Nat) : Int) = some r := atI_nat rfl
  exact e
@[simp] theorem atI_3 {α : Type} {p q r s : α} {xs : List α} : atI (p :: q :: r :: s :: xs) 3 = some s := by
  have e : atI (p :: q :: r :: s :: xs) ((3 : Nat) : Int) = some s := atI_nat rfl
  exact e
theorem mFn_ap {N : Nat} {b : MS} {ds : List D} {ρ : Rho} (e : ds.map some ++ List.replicate (N - ds.length) none = ρ) : mFn N b ds h = (b ρ h).out := by
  unfold mFn
  rw [e]
@[simp] theorem size_le {n : Nat} (h : n ≤ 1000) : n ≤ sizeLine := Nat.le_trans h (by decide)
end
end PI
namespace PI
open PySem PySem.Spec L2
/-- a loop that runs through -/
theorem forL_nx {j : MIt} {g : MG} {b : MS} {n : Nat} (P : Nat → Rho → Hh → Prop)
    (hit : ∀ i ρ h, i < n → P i ρ h → ∃ d ρ1 h1 ρ' h', j.at_ i h = some (some d) ∧ g d ρ h = some (ρ1, h1) ∧ (b ρ1 h1 = .nx ρ' h' ∨ b ρ1 h1 = .ct ρ' h') ∧ P (i + 1) ρ' h')
    (hend : ∀ ρ h, P n ρ h → j.at_ n h = some none) : ∀ m i ρ h, i + m = n → P i ρ h → ∃ ρ' h', forL j g b m i ρ h = .nx ρ' h' ∧ P n ρ' h'
  | 0, i, ρ, h, e, p => by
    have e : i = n := by omega
    subst e
    refine ⟨ρ, h, ?_, p⟩
    unfold forL
    rw [hend ρ h p]
  | m + 1, i, ρ, h, e, p => by
    obtain ⟨d, ρ1, h1, ρ', h', e1, e2, e3, p'⟩ := hit i ρ h (by omega) p
    obtain ⟨ρ2, h2, e4, p2⟩ := forL_nx P hit hend m (i + 1) ρ' h' (by omega) p'
    refine ⟨ρ2, h2, ?_, p2⟩
    unfold forL
    rw [e1]
    simp only [e2]
    rcases e3 with e3 | e3 <;> rw [e3] <;> exact e4
@[simp] theorem jRng_most {lo : Int} {n : Nat} : (jRng lo n).most = n := rfl
@[simp] theorem jRef_most {a n : Nat} : (jRef a n).most = n := rfl
@[simp] theorem jSeq_most {xs : List D} : (jSeq xs).most = xs.length := rfl
theorem jRng_at {lo : Int} {n i : Nat} {h : Hh} (hi : i < n) : (jRng lo n).at_ i h = some (some (.int (lo + i))) := by simp [jRng, hi]
theorem jRng_end {lo : Int} {n : Nat} {h : Hh} : (jRng lo n).at_ n h = some none := by simp [jRng]
end PI
namespace PI
open PySem PySem.Spec L2
section
variable {h g : Hh} {n a b : Nat}
@[simp] theorem bLen_refM : bLen [.ref n] h = match h[n]? with
  | some (.lst xs) => some (.int xs.length, h)
  | _ => none := by
  cases e : h[n]? with
  | none => simp [bLen, lenD, e]
  | some o => cases o <;> simp [bLen, lenD, e]
@[simp] theorem bList_refM : bList [.ref n] h = match h[n]? with
  | some (.lst xs) => some (.ref h.length, h ++ [.lst xs])
  | _ => none := rfl
@[simp] theorem bTuple_refM : bTuple [.ref n] h = match h[n]? with
  | some (.lst xs) => some (.tup xs, h)
  | _ => none := rfl
@[simp] theorem oAdd_ref : oAdd (.ref a) (.ref b) h = match h[a]?, h[b]? with
  | some (.lst xs), some (.lst ys) => if xs.length + ys.length ≤ sizeLine then some (.ref h.length, h ++ [.lst (xs ++ ys)]) else none
  | _, _ => none := rfl
@[simp] theorem getApp {k : Nat} : (h ++ g)[h.length + k]? = g[k]? := by
  rw [List.getElem?_append_right (by omega)]
  congr 1
  omega
@[simp] theorem getApp0 : (h ++ g)[h.length]? = g[0]? := getApp (k := 0)
end
theorem atI_some {α : Type} {L : List α} {r : Int} (h0 : 0 ≤ r) (h1 : r < L.length) : ∃ d, atI L r = some d ∧ d ∈ L := by
  obtain ⟨j, rfl⟩ : ∃ j : Nat, r = j := ⟨r.toNat, by omega⟩
  have hl : j < L.length := by omega
  exact ⟨L[j], atI_nat (List.getElem?_eq_getElem hl), List.getElem_mem hl⟩
end PI
namespace PI
open PySem PySem.Spec L2
theorem for_nx {j : MIt} {g : MG} {b : MS} {ρ : Rho} {h : Hh} (n : Nat) (P : Nat → Rho → Hh → Prop) (init : P 0 ρ h) (hend : ∀ ρ h, P n ρ h → j.at_ n h = some none)
    (hit : ∀ i ρ h, i < n → P i ρ h → ∃ d ρ1 h1 ρ' h', j.at_ i h = some (some d) ∧ g d ρ h = some (ρ1, h1) ∧ (b ρ1 h1 = .nx ρ' h' ∨ b ρ1 h1 = .ct ρ' h') ∧ P (i + 1) ρ' h') :
    ∃ ρ' h', forL j g b n 0 ρ h = .nx ρ' h' ∧ P n ρ' h' := forL_nx P hit hend n 0 ρ h (by omega) init
end PI
/-! Comprehensions. -/
namespace PI
open PySem PySem.Spec L2
open PyProof.Rows hiding St
/-! ### targets of a block's own names -/
def wipeR (ρ : Rho) : List Nat → Rho
  | [] => ρ
  | v :: vs => (wipeR ρ vs).set v none
theorem wipe_rel {K : PySem.W.Frag} {μ : List Addr} {H : Hp} {ρ : Rho} {σ : L2.St} (r : RelS K μ H ρ σ) : ∀ vs, RelS K μ H (wipeR ρ vs) (L2.wipe σ vs)
  | [] => r
  | v :: vs => (wipe_rel r vs).clear
theorem wipe_setc {σ : L2.St} {i : Nat} {x : Option V} : ∀ vs : List Nat, i ∉ vs → L2.wipe (σ.set i x) vs = (L2.wipe σ vs).set i x
  | [], _ => rfl
  | v :: vs, h => by
    unfold L2.wipe
    rw [wipe_setc vs (fun z => h (List.mem_cons_of_mem _ z)), List.set_comm _ _ (fun z => h (by rw [z]; exact List.mem_cons_self))]
theorem wipe_in {σ : L2.St} {i : Nat} {x : Option V} : ∀ vs : List Nat, i ∈ vs → L2.wipe (σ.set i x) vs = L2.wipe σ vs
  | v :: vs, h => by
    unfold L2.wipe
    by_cases hi : i ∈ vs
    · rw [wipe_in vs hi]
    · have e : i = v := by
        rcases List.mem_cons.mp h with h | h
        · exact h
        · exact absurd h hi
      rw [wipe_setc vs hi, e, List.set_set]
theorem wipe_out {σ : L2.St} : ∀ vs us : List Nat, (∀ v ∈ vs, v ∈ us) → L2.wipe (L2.wipe σ vs) us = L2.wipe σ us
  | [], us, _ => rfl
  | v :: vs, us, h => by
    show L2.wipe ((L2.wipe σ vs).set v none) us = _
    rw [wipe_in us (h v List.mem_cons_self)]
    exact wipe_out vs us fun x hx => h x (List.mem_cons_of_mem _ hx)
def rdGv (K : PySem.W.Frag) (vs : List Nat) (m : MG) : TG := fun v σ H Q => ∃ μ ρ h d, RelS K μ H ρ σ ∧ RelH K μ H h ∧ Den K μ H d v ∧ match m d ρ h with
  | some (ρ', h') => ∀ μ' H' σ', Step μ H μ' H' → RelH K μ' H' h' → RelS K μ' H' ρ' σ' → L2.wipe σ' vs = L2.wipe σ vs → Q σ' H'
  | none => False
def rdGvs (K : PySem.W.Frag) (vs : List Nat) (m : MGs) : TGs := fun xs σ H Q => ∃ μ ρ h ds, RelS K μ H ρ σ ∧ RelH K μ H h ∧ Dens K μ H ds xs ∧ match m ds ρ h with
  | some (ρ', h') => ∀ μ' H' σ', Step μ H μ' H' → RelH K μ' H' h' → RelS K μ' H' ρ' σ' → L2.wipe σ' vs = L2.wipe σ vs → Q σ' H'
  | none => False
section
variable {X : Cx} {ct : Ctb} {W : WX} {vs : List Nat}
theorem sgv_name {i : Nat} {x : Str} {pos : Pos} (hN : X.N.Nodup) (hi : X.N[i]? = some x) (hx : Loc X.env.scope x) (hv : i ∈ vs) (hf : X.fn x = true ∨ X.env.scope.names.lookup x = some .local := by first | exact .inl rfl | exact .inr rfl | assumption) : PG X (.Name x pos) (rdGv X.K vs (gmName i)) :=
  (pg_name hN hi hx hf).imp fun v σ H Q ⟨μ, ρ, h, d, rs, rh, dv, p⟩ => p μ H _ Step.refl rh (rs.set dv) (wipe_in vs hv)
theorem sgvs_nil : PGs X [] (rdGvs X.K vs gmNil) := pgs_nil.imp fun xs σ H Q ⟨μ, ρ, h, ds, rs, rh, dv, p⟩ => by
  unfold gmNil at p
  cases ds with
  | nil => exact ⟨dv, p μ H σ Step.refl rh rs rfl⟩
  | cons d ds => exact p.elim
theorem sgvs_cons {t : Expr} {ts : List Expr} {a : MG} {b : MGs} (ha : PG X t (rdGv X.K vs a)) (hb : PGs X ts (rdGvs X.K vs b)) (hs : (assignEach (t :: ts) X.env).map (·.2) = assign t X.env :: (assignEach ts X.env).map (·.2) := by rfl) : PGs X (t :: ts) (rdGvs X.K vs (gmCons a b)) :=
  (pgs_cons ha hb hs).imp fun xs σ H Q ⟨μ, ρ, h, ds, rs, rh, dv, p⟩ => by
    unfold gmCons at p
    cases ds with
    | nil => exact p.elim
    | cons d ds =>
      obtain ⟨v, vr, rfl, dv, dr⟩ := dv
      dsimp only at p
      refine ⟨v, vr, rfl, μ, ρ, h, d, rs, rh, dv, ?_⟩
      cases e : a d ρ h with
      | none => rw [e] at p; exact p.elim
      | some r =>
        obtain ⟨ρ1, h1⟩ := r
        rw [e] at p
        intro μ1 H1 σ1 s1 rh1 rs1 w1
        refine ⟨μ1, ρ1, h1, ds, rs1, rh1, dr.mono s1, ?_⟩
        have p : match b ds ρ1 h1 with
          | some (ρ', h') => ∀ μ' H' σ', Step μ H μ' H' → RelH X.K μ' H' h' → RelS X.K μ' H' ρ' σ' → L2.wipe σ' vs = L2.wipe σ vs → Q σ' H'
          | none => False := p
        cases e2 : b ds ρ1 h1 with
        | none => rw [e2] at p; exact p.elim
        | some r2 =>
          obtain ⟨ρ2, h2⟩ := r2
          rw [e2] at p
          exact fun μ2 H2 σ2 s2 rh2 rs2 w2 => p μ2 H2 σ2 (s1.trans s2) rh2 rs2 (w2.trans w1)
theorem sgv_tup {es : List Expr} {k : Nat} {m : MGs} {n : Nat} {pos : Pos} (hc : X.calm = true) (h : PGs X es (rdGvs X.K vs m))
    (hn : (assignEach es X.env).length = n := by rfl) (hst : (assignEach es X.env).findIdx? (·.1) = none := by rfl) : PG X (.Tuple es k pos) (rdGv X.K vs (gmTup n m)) :=
  (pg_tup hc h hn hst).imp fun v σ H Q ⟨μ, ρ, h, d, rs, rh, dv, p⟩ => by
    unfold gmTup at p
    cases d with
    | tup ds =>
      obtain ⟨a, xs, e, q, r⟩ := dv
      dsimp only at p
      by_cases hl : ds.length = n
      · rw [if_pos hl] at p
        exact ⟨a, xs, e, SqT.of q, by rw [r.length]; exact hl, μ, ρ, h, ds, rs, rh, r, p⟩
      · rw [if_neg hl] at p
        exact p.elim
    | _ => exact p.elim
end
/-! ### list comprehensions -/
def lcL (j : MIt) (g : MG) (t : MT) (e : ME) (k : Nat) (ρ : Rho) : Nat → Nat → Hh → Option Hh
  | 0, i, h => match j.at_ i h with
    | some none => some h
    | _ => none
  | n + 1, i, h => match j.at_ i h with
    | some none => some h
    | some (some d) => match g d ρ h with
      | none => none
      | some (ρ1, h1) => match t ρ1 h1 with
        | .ok true h2 => match e ρ1 h2 with
          | .ok y h3 => match h3[k]? with
            | some (.lst acc) => if acc.length < sizeLine then lcL j g t e k ρ n (i + 1) (h3.set k (.lst (acc ++ [y]))) else none
            | _ => none
          | _ => none
        | .ok false h2 => lcL j g t e k ρ n (i + 1) h2
        | _ => none
    | none => none
def mLc (m : MI) (g : MG) (t : MT) (e : ME) (vs : List Nat) : ME := fun ρ h => (m ρ h).bind fun j h1 => match lcL j g t e h1.length (wipeR ρ vs) j.most 0 (h1 ++ [.lst []]) with
  | some h2 => .ok (.ref h1.length) h2
  | none => .bad
abbrev WN : WX := fun _ _ _ _ => False
def mYes : MT := fun _ h => .ok true h
section
variable {X : Cx} {ct : Ctb} {W : WX}
abbrev STs (X : Cx) (ct : Ctb) (W : WX) (es : List Expr) (m : MT) : Prop := PTs X es (rdT X.K ct W m)
theorem _root_.L2.PTs.imp {es : List Expr} {t t' : TT} (h : PTs X es t) (i : ∀ σ H Q, t' σ H Q → t σ H Q) : PTs X es t' := ⟨fun pins s σ H Q I q => h.run pins s σ H Q I (i σ H Q q)⟩
theorem sts_nil : STs X ct W [] mYes := pts_nil.imp fun σ H Q ⟨μ, ρ, h, rs, rh, p⟩ => p.at rh
theorem sts_one {e : Expr} {m : MT} (h : ST X ct W e m) : STs X ct W [e] m := pts_one h
theorem lc_go {elt tg iter : Expr} {wi : MI} {vs : List Nat} {g : MG} {t : MT} {e : ME} {σ : L2.St} {H : Hp} {K : PySem.W.Frag} {Q : VK} (hq : rdE K ct W (mLc wi g t e vs) σ H Q) : tLc (rdI K ct W wi) (rdGv K vs g) (rdT K ct WN t) (rdE K ct WN e) vs σ H Q := by
  obtain ⟨μ, ρ, h, rs, rh, p⟩ := hq
  refine ⟨μ, ρ, h, rs, rh, (PO.bind p).mono fun j h1 μ1 H1 s1 rh1 p1 J ij D hD => ?_⟩
  have rs1 := rs.mono s1
  have st2 : Step μ1 H1 (μ1 ++ [D]) (upd H1 D (.lst [])) := Step.newT hD
  have rh2 : RelH K (μ1 ++ [D]) (upd H1 D (.lst [])) (h1 ++ [.lst []]) := rh1.push hD ⟨[], upd_same, rfl⟩
  have hk : (μ1 ++ [D])[h1.length]? = some D := by rw [← rh1.len]; simp
  generalize hk0 : h1.length = k at *
  generalize hρ : wipeR ρ vs = ρ0 at *
  have rs2 : RelS K (μ1 ++ [D]) (upd H1 D (.lst [])) ρ0 (L2.wipe σ vs) := by rw [← hρ]; exact wipe_rel (rs1.mono st2) vs
  refine ⟨fun i m H' => ∃ μ' h' hf, Step (μ1 ++ [D]) (upd H1 D (.lst [])) μ' H' ∧ RelH K μ' H' h' ∧ lcL j g t e k ρ0 m i h' = some hf ∧ ∀ μ'' H'', Step μ' H' μ'' H'' → RelH K μ'' H'' hf → Q (.ref D) H'', ⟨j.most, ?_⟩, ?_⟩
  · cases eL : lcL j g t e k ρ0 j.most 0 (h1 ++ [.lst []]) with
    | none => rw [eL] at p1; exact p1.elim
    | some hf =>
      rw [eL] at p1
      exact ⟨_, _, hf, Step.refl, rh2, eL, fun μ'' H'' s'' r'' => p1 μ'' H'' (st2.trans s'') r'' _ ⟨D, rfl, s''.get hk⟩⟩
  · rintro i m H' ⟨μ', h', hf, st', rh', eL, fin⟩
    have stop : j.at_ i h' = some none → hf = h' → (J.stop i H' ∧ Q (.ref D) H') := fun e1 e2 => ⟨ij.stop i μ' H' h' (st2.trans st') rh' e1, fin μ' H' Step.refl (e2 ▸ rh')⟩
    cases m with
    | zero =>
      unfold lcL at eL
      split at eL
      · rename_i e1
        exact .inl (stop e1 (Option.some.inj eL).symm)
      · cases eL
    | succ m =>
      unfold lcL at eL
      split at eL
      · rename_i e1
        exact .inl (stop e1 (Option.some.inj eL).symm)
      · rename_i d e1
        obtain ⟨go, yl⟩ := ij.go i μ' H' h' d (st2.trans st') rh' e1
        refine .inr ⟨go, fun H2 => ∃ μ2 h2 hf, Step (μ1 ++ [D]) (upd H1 D (.lst [])) μ2 H2 ∧ RelH K μ2 H2 h2 ∧ lcL j g t e k ρ0 m (i + 1) h2 = some hf ∧ ∀ μ'' H'', Step μ2 H2 μ'' H'' → RelH K μ'' H'' hf → Q (.ref D) H'', fun H2 w2 => ⟨m, Nat.lt_succ_self _, w2⟩, fun x H'' y => ?_⟩
        obtain ⟨st3, rh3, dx⟩ := yl x H'' y
        refine ⟨μ', ρ0, h', d, (rs2.mono st').mono st3, rh3, dx, ?_⟩
        cases eg : g d ρ0 h' with
        | none => rw [eg] at eL; cases eL
        | some z =>
          obtain ⟨ρ3, h3⟩ := z
          rw [eg] at eL
          intro μ4 H4 σ4 st4 rh4 rs4 w4
          refine ⟨w4.trans (wipe_out vs vs fun _ z => z), μ4, ρ3, h3, rs4, rh4, ?_⟩
          dsimp only at eL
          cases et : t ρ3 h3 with
          | err x h4 => rw [et] at eL; cases eL
          | bad => rw [et] at eL; cases eL
          | ok b h4 =>
            rw [et] at eL
            intro μ5 H5 st5 rh5
            cases b with
            | false =>
              simp only [Bool.false_eq_true, if_false]
              exact ⟨μ5, h4, hf, ((st'.trans st3).trans st4).trans st5, rh5, eL, fun μ'' H'' s'' => fin μ'' H'' (((st3.trans st4).trans st5).trans s'')⟩
            | true =>
              simp only [if_true]
              refine ⟨μ5, ρ3, h4, rs4.mono st5, rh5, ?_⟩
              dsimp only at eL
              cases ee : e ρ3 h4 with
              | err x h5 => rw [ee] at eL; cases eL
              | bad => rw [ee] at eL; cases eL
              | ok y h5 =>
                rw [ee] at eL
                intro μ6 H6 st6 rh6 v dv
                dsimp only at eL
                have st36 := ((st3.trans st4).trans st5).trans st6
                split at eL
                · rename_i acc hacc
                  split at eL
                  · rename_i hl
                    have hD6 : μ6[k]? = some D := (st'.trans st36).get hk
                    obtain ⟨a, ea, vacc, hv, dacc⟩ := rh6.obj k _ hacc
                    rw [hD6] at ea
                    cases ea
                    obtain ⟨sp, rp⟩ := put_lst rh6 hacc hD6 hv (dacc.append (ds := acc) (es := [y]) (ws := [v]) ⟨v, [], rfl, dv, rfl⟩)
                    exact ⟨vacc, hv, by rw [dacc.length]; exact hl, μ6, _, hf, (st'.trans st36).trans sp, rp, eL, fun μ'' H'' s'' => fin μ'' H'' ((st36.trans sp).trans s'')⟩
                  · cases eL
                · cases eL
      · cases eL
theorem se_lc {elt tg iter : Expr} {ifs : List Expr} {scope : Scope} (own : List (Str × Nat)) {pos : Pos} {wi : MI} {g : MG} {t : MT} {e : ME} (hc : X.calm = true) (hN : X.N.Nodup) (hi : L2.PI X tg iter (rdI X.K ct W wi)) (ok : BlkOk X.N X.env.scope scope own)
    (hg : ∀ (s : Shared) (H : Hp) (C : Addr) (cl : List (Str × Addr)) (fp : List Addr), PG (X.blk s H scope (compEnvC scope cl C X.env) fp) tg (rdGv X.K (own.map (·.2)) g))
    (ht : ∀ (s : Shared) (H : Hp) (C : Addr) (cl : List (Str × Addr)) (fp : List Addr), STs (X.blk s H scope (compEnvC scope cl C X.env) fp) ct WN ifs t)
    (he : ∀ (s : Shared) (H : Hp) (C : Addr) (cl : List (Str × Addr)) (fp : List Addr), SE (X.blk s H scope (compEnvC scope cl C X.env) fp) ct WN elt e) (hs : ∀ x, foldedSetIterable iter X.env x = pure x := by intro _; rfl) :
    SE X ct W (.ListComp elt [⟨tg, iter, ifs, 0⟩] scope pos) (mLc wi g t e (own.map (·.2))) :=
  L2.PE.imp (pe_lc hc hN hi ok hg ht he hs) fun σ H Q q => lc_go (elt := elt) (tg := tg) (iter := iter) q
theorem ss_setLc {i : Nat} {y : Str} {py : Pos} {elt tg iter : Expr} {ifs : List Expr} {scope : Scope} (own : List (Str × Nat)) {pos spos : Pos} {wi : MI} {g : MG} {t : MT} {e : ME} (hc : X.calm = true) (hN : X.N.Nodup) (hy : X.N[i]? = some y) (hyl : X.env.scope.names.lookup y = some .local)
    (hsw : swapsWith (.ListComp elt [⟨tg, iter, ifs, 0⟩] scope pos) (some (.Name y py)) spos.line X.env = pure true) (hi : L2.PI X tg iter (rdI X.K ct W wi)) (ok : BlkOk X.N X.env.scope scope own)
    (hg : ∀ (s : Shared) (H : Hp) (C : Addr) (cl : List (Str × Addr)) (fp : List Addr), PG (X.blk s H scope (compEnvC scope cl C X.env) fp) tg (rdGv X.K (own.map (·.2)) g))
    (ht : ∀ (s : Shared) (H : Hp) (C : Addr) (cl : List (Str × Addr)) (fp : List Addr), STs (X.blk s H scope (compEnvC scope cl C X.env) fp) ct WN ifs t)
    (he : ∀ (s : Shared) (H : Hp) (C : Addr) (cl : List (Str × Addr)) (fp : List Addr), SE (X.blk s H scope (compEnvC scope cl C X.env) fp) ct WN elt e) (hs : ∀ x, foldedSetIterable iter X.env x = pure x := by intro _; rfl) :
    SS X ct W (.Assign [.Name y py] (.ListComp elt [⟨tg, iter, ifs, 0⟩] scope pos) spos) (mSet i (mLc wi g t e (own.map (·.2)))) :=
  (ps_setLc hc hN hy hyl hsw hi ok hg ht he hs).imp fun D σ H ⟨μ, ρ, h, rs, rh, p⟩ => by
    refine lc_go (ct := ct) (W := W) (elt := elt) (tg := tg) (iter := iter) (t := t) (e := e) ?_
    exact rdE.goS rs rh p fun d h1 μ1 H1 v s1 rs1 rh1 dv p1 => p1 μ1 H1 _ Step.refl rh1 (rs1.set dv)
end
end PI
/-! More walks: any sequence or text, zip, enumerate. -/
namespace PI
open PySem PySem.Spec L2
open PyProof.Rows hiding St
/-- the item of a sequence at a place -/
def srcAt (d : D) (i : Nat) (h : Hh) : Option (Option D) := match d with
  | .tup xs => some xs[i]?
  | .rot xs => some xs[i]?
  | .rol xs => some xs[i]?
  | .ref a => match h[a]? with
    | some (.lst xs) => some xs[i]?
    | _ => none
  | _ => none
def srcLen (d : D) (h : Hh) : Nat := match d with
  | .tup xs => xs.length
  | .rot xs => xs.length
  | .rol xs => xs.length
  | .ref a => match h[a]? with
    | some (.lst xs) => xs.length
    | _ => 0
  | _ => 0
def isLs (d : D) (h : Hh) : Bool := match d with
  | .rol _ => true
  | .ref a => match h[a]? with
    | some (.lst _) => true
    | _ => false
  | _ => false
def isTs (d : D) : Bool := match d with
  | .tup _ => true
  | .rot _ => true
  | _ => false
section
variable {K : PySem.W.Frag} {μ : List Addr} {H : Hp} {h : Hh} {a : Addr} {d : D} {v : V}
def Src (K : PySem.W.Frag) (S : Hp → List V → Prop) (μ : List Addr) (H : Hp) (d : D) : Prop := ∀ μ' H' h', Step μ H μ' H' → RelH K μ' H' h' → ∀ i o, srcAt d i h' = some o → match o with
  | some x => ∃ xs w, S H' xs ∧ xs[i]? = some w ∧ Den K μ' H' x w
  | none => ∃ xs, S H' xs ∧ xs.length ≤ i
theorem src_of {S : Hp → List V → Prop} {xs : List D} {vs : List V} (hs : ∀ μ' H', Step μ H μ' H' → S H' vs) (dd : Dens K μ H xs vs) (e : ∀ i h', srcAt d i h' = some xs[i]?) : Src K S μ H d := by
  intro μ' H' h' st rh i o eo
  rw [e] at eo
  cases eo
  have dd' := dd.mono st
  cases ex : xs[i]? with
  | none => exact ⟨vs, hs _ _ st, by rw [dd.length]; exact List.getElem?_eq_none_iff.mp ex⟩
  | some x =>
    obtain ⟨w, e1, dw⟩ := dd'.get ex
    exact ⟨vs, w, hs _ _ st, e1, dw⟩
theorem src_ts (ht : isTs d = true) (dv : Den K μ H d v) : ∃ a vs, v = .ref a ∧ SqT K H a vs ∧ Src K (fun H' => SqT K H' a) μ H d := by
  cases d with
  | tup xs =>
    obtain ⟨a, vs, rfl, q, dd⟩ := dv
    exact ⟨a, vs, rfl, SqT.of q, src_of (fun μ' H' st => st.sqT (SqT.of q)) dd fun _ _ => rfl⟩
  | rot xs =>
    obtain ⟨a, vs, rfl, q, dd⟩ := dv
    exact ⟨a, vs, rfl, q, src_of (fun μ' H' st => st.sqT q) dd fun _ _ => rfl⟩
  | _ => cases ht
theorem src_ls (rh : RelH K μ H h) (ht : isLs d h = true) (dv : Den K μ H d v) : ∃ a vs, v = .ref a ∧ SqL K H a vs ∧ Src K (fun H' => SqL K H' a) μ H d := by
  unfold isLs at ht
  split at ht
  · obtain ⟨a, vs, rfl, q, dd⟩ := dv
    exact ⟨a, vs, rfl, q.sq, src_of (fun μ' H' st => (st.roL q).sq) dd fun _ _ => rfl⟩
  · rename_i i
    split at ht
    · rename_i xs hi
      obtain ⟨a, vs, rfl, ha, q, dd⟩ := den_lst rh dv hi
      refine ⟨a, vs, rfl, SqL.of q, fun μ' H' h' st rh' j o eo => ?_⟩
      have eo : (match h'[i]? with | some (.lst xs) => some xs[j]? | _ => none) = some o := eo
      split at eo
      · rename_i ys hi'
        cases eo
        obtain ⟨b, hb, ws, hw, dw⟩ := rh'.obj i _ hi'
        rw [st.get ha] at hb
        cases hb
        cases ey : ys[j]? with
        | none => exact ⟨ws, SqL.of hw, by rw [dw.length]; exact List.getElem?_eq_none_iff.mp ey⟩
        | some x =>
          obtain ⟨w, e1, d1⟩ := dw.get ey
          exact ⟨ws, w, SqL.of hw, e1, d1⟩
      · cases eo
    · cases ht
  · cases ht
/-- a sequence, by its items -/
def jSrc (d : D) (n : Nat) : MIt := ⟨fun i h => srcAt d i h, n⟩
theorem itr_srcT {n : Nat} (s : Src K (fun H' => SqT K H' a) μ H d) : ItR K μ H (Itt K a) (jSrc d n) where
  stop := fun i μ' H' h' st rh e => s μ' H' h' st rh i none e
  go := fun i μ' H' h' x st rh e => by
    obtain ⟨xs, w, q, e1, dw⟩ := s μ' H' h' st rh i (some x) e
    refine ⟨⟨xs, w, q, e1⟩, fun y H'' hy => ?_⟩
    obtain ⟨rfl, hy⟩ := hy
    have ey := hy xs q
    rw [e1] at ey
    cases ey
    exact ⟨Step.refl, rh, dw⟩
theorem itr_srcL {n : Nat} (s : Src K (fun H' => SqL K H' a) μ H d) : ItR K μ H (Itl K a) (jSrc d n) where
  stop := fun i μ' H' h' st rh e => s μ' H' h' st rh i none e
  go := fun i μ' H' h' x st rh e => by
    obtain ⟨xs, w, q, e1, dw⟩ := s μ' H' h' st rh i (some x) e
    refine ⟨⟨xs, w, q, e1⟩, fun y H'' hy => ?_⟩
    obtain ⟨rfl, hy⟩ := hy
    have ey := hy xs q
    rw [e1] at ey
    cases ey
    exact ⟨Step.refl, rh, dw⟩
/-- both, item by item -/
def jZip (d e : D) (n : Nat) : MIt := ⟨fun i h => match srcAt d i h, srcAt e i h with
  | some (some x), some (some y) => some (some (.tup [x, y]))
  | some none, some _ => some none
  | some _, some none => some none
  | _, _ => none, n⟩
theorem zip_at {e : D} {i : Nat} {n : Nat} {o : Option D} (q : (jZip d e n).at_ i h = some o) : (∃ x y, srcAt d i h = some (some x) ∧ srcAt e i h = some (some y) ∧ o = some (.tup [x, y])) ∨ (o = none ∧ ∃ p r, srcAt d i h = some p ∧ srcAt e i h = some r ∧ (p = none ∨ r = none)) := by
  unfold jZip at q
  dsimp only at q
  split at q
  · rename_i x y e1 e2; exact .inl ⟨x, y, e1, e2, (Option.some.inj q).symm⟩
  · rename_i p e1 e2; exact .inr ⟨(Option.some.inj q).symm, none, p, e1, e2, .inl rfl⟩
  · rename_i p _ e1 e2; exact .inr ⟨(Option.some.inj q).symm, p, none, e1, e2, .inr rfl⟩
  · cases q
theorem itr_zip {S T : Hp → List V → Prop} {J : It} {e : D} {n : Nat} (s : Src K S μ H d) (t : Src K T μ H e)
    (hgo : J.go = fun i H => ∃ (xs ys : List V) (x y : V), S H xs ∧ T H ys ∧ xs[i]? = some x ∧ ys[i]? = some y)
    (hy : J.yld = fun i H v H' => ∃ p x y, v = .ref p ∧ H p = none ∧ H' = upd H p (.tup [x, y]) ∧ (∀ xs, S H xs → xs[i]? = some x) ∧ ∀ ys, T H ys → ys[i]? = some y)
    (hst : J.stop = fun i H => ∃ xs ys : List V, S H xs ∧ T H ys ∧ (xs.length ≤ i ∨ ys.length ≤ i)) : ItR K μ H J (jZip d e n) where
  stop := fun i μ' H' h' st rh q => by
    rw [hst]
    rcases zip_at q with ⟨_, _, _, _, z⟩ | ⟨_, p, r, e1, e2, z⟩
    · cases z
    · have s1 := s μ' H' h' st rh i p e1
      have t1 := t μ' H' h' st rh i r e2
      cases p with
      | none =>
        obtain ⟨xs, q1, l1⟩ := s1
        cases r with
        | none => obtain ⟨ys, q2, l2⟩ := t1; exact ⟨xs, ys, q1, q2, .inl l1⟩
        | some y => obtain ⟨ys, w, q2, _⟩ := t1; exact ⟨xs, ys, q1, q2, .inl l1⟩
      | some x =>
        obtain ⟨xs, w, q1, _⟩ := s1
        cases r with
        | none => obtain ⟨ys, q2, l2⟩ := t1; exact ⟨xs, ys, q1, q2, .inr l2⟩
        | some y => rcases z with z | z <;> cases z
  go := fun i μ' H' h' x st rh q => by
    rcases zip_at q with ⟨x1, y1, e1, e2, z⟩ | ⟨z, _⟩
    · cases z
      obtain ⟨xs, w1, q1, f1, d1⟩ := s μ' H' h' st rh i _ e1
      obtain ⟨ys, w2, q2, f2, d2⟩ := t μ' H' h' st rh i _ e2
      rw [hgo, hy]
      refine ⟨⟨xs, ys, w1, w2, q1, q2, f1, f2⟩, fun v H'' yy => ?_⟩
      obtain ⟨p, x, y, rfl, hp, rfl, g1, g2⟩ := yy
      have k1 := g1 xs q1
      have k2 := g2 ys q2
      rw [f1] at k1
      rw [f2] at k2
      cases k1
      cases k2
      have sn : Step μ' H' μ' (upd H' p (.tup [w1, w2])) := Step.new hp
      exact ⟨sn, rh.new hp, p, [w1, w2], rfl, upd_same, w1, [w2], rfl, d1.mono sn, w2, [], rfl, d2.mono sn, rfl⟩
    · cases z
/-- with its number -/
def jEnum (d : D) (n : Nat) : MIt := ⟨fun i h => (srcAt d i h).map fun o => o.map fun x => .tup [.int (i : Nat), x], n⟩
theorem itr_enum {n : Nat} (s : Src K (fun H' => SqL K H' a) μ H d) : ItR K μ H (Ite K a) (jEnum d n) where
  stop := fun i μ' H' h' st rh q => by
    have q : (srcAt d i h').map (fun o => o.map fun x => D.tup [.int (i : Nat), x]) = some none := q
    cases e : srcAt d i h' with
    | none => rw [e] at q; cases q
    | some o =>
      rw [e] at q
      cases o with
      | some x => cases q
      | none => exact s μ' H' h' st rh i none e
  go := fun i μ' H' h' x st rh q => by
    have q : (srcAt d i h').map (fun o => o.map fun x => D.tup [.int (i : Nat), x]) = some (some x) := q
    cases e : srcAt d i h' with
    | none => rw [e] at q; cases q
    | some o =>
      rw [e] at q
      cases o with
      | none => cases q
      | some x0 =>
        cases q
        obtain ⟨xs, w, q1, f1, d1⟩ := s μ' H' h' st rh i _ e
        refine ⟨⟨xs, w, q1, f1⟩, fun v H'' yy => ?_⟩
        obtain ⟨p, y, rfl, hp, rfl, g1⟩ := yy
        have k1 := g1 xs q1
        rw [f1] at k1
        cases k1
        have sn : Step μ' H' μ' (upd H' p (.tup [.int (i : Nat), w])) := Step.new hp
        exact ⟨sn, rh.new hp, p, _, rfl, upd_same, _, [w], rfl, rfl, w, [], rfl, d1.mono sn, rfl⟩
end
/-! ### texts -/
def sgn (c : Nat) : D := .str ⟨#[c]⟩
def jStr (z : Str) : MIt := ⟨fun i _ => some ((z.cps.toList[i]?).map sgn), z.length⟩
theorem itr_str {K : PySem.W.Frag} {μ : List Addr} {H : Hp} {z : Str} : ItR K μ H (Its z) (jStr z) where
  stop := fun i μ' H' h' st rh q => by
    have q : (z.cps.toList[i]?).map sgn = none := Option.some.inj q
    have q : z.cps.toList[i]? = none := by
      cases e : z.cps.toList[i]? with
      | none => rfl
      | some c => rw [e] at q; cases q
    have := List.getElem?_eq_none_iff.mp q
    show z.cps.size ≤ i
    simpa using this
  go := fun i μ' H' h' x st rh q => by
    have q : (z.cps.toList[i]?).map sgn = some x := Option.some.inj q
    cases e : z.cps.toList[i]? with
    | none => rw [e] at q; cases q
    | some c =>
      rw [e] at q
      cases q
      have hi : i < z.cps.size := by simpa using (List.getElem?_eq_some_iff.mp e).1
      refine ⟨hi, fun v H'' yy => ?_⟩
      obtain ⟨rfl, c', e', rfl⟩ := yy
      have : z.cps.toList[i]? = some c' := by rw [Array.getElem?_toList]; exact e'
      rw [e] at this
      cases this
      exact ⟨Step.refl, rh, rfl⟩
/-- any sequence, or a text -/
def iterA (d : D) (h : Hh) : Option MIt := match d with
  | .str z => some (jStr z)
  | d => if isTs d || isLs d h then some (jSrc d (srcLen d h)) else none
section
variable {X : Cx} {ct : Ctb} {W : WX} {tg : Expr}
theorem pi_anyM {e : Expr} {te : TE} (he : PE X e te) : L2.PI X tg e (fun σ H R => te σ H fun v H1 => (∃ z, v = .str z ∧ R (Its z) H1) ∨ (∃ a xs, v = .ref a ∧ SqL X.K H1 a xs ∧ R (Itl X.K a) H1) ∨ ∃ a xs, v = .ref a ∧ SqT X.K H1 a xs ∧ R (Itt X.K a) H1) := by
  constructor
  intro pins s σ H R I q
  refine thn (he.run pins s σ H _ I q) fun v s1 ⟨y, H1, I1, r1, q1⟩ => ?_
  have single : ∀ b ∈ [s1.heap.objs.size], FpOk X pins H1 b := fun b hb => by
    rw [List.mem_singleton.mp hb]
    exact I1.fpOk (Nat.le_refl _) (I1.hok.fresh (Nat.le_refl _))
  rcases q1 with ⟨z, ez, q1⟩ | ⟨a, xs, ea, hq, q1⟩ | ⟨a, xs, ea, hq, q1⟩
  · subst ez
    obtain ⟨t, rfl⟩ := r1
    cases ascii : z.cps.all (· < 128)
    · exact wpAny_pyIter_wide ascii (pi_one (tk := s1.toks) I1 _ (turn_str _ z t "str_iterator" (Or.inr rfl)) ⟨_, Heap.get?_push_size _ rfl, rfl, rfl⟩ q1)
    · exact wpAny_pyIter_ascii ascii (pi_one (tk := s1.toks) I1 _ (turn_str _ z t "str_ascii_iterator" (Or.inl rfl)) ⟨_, Heap.get?_push_size _ rfl, rfl, rfl⟩ q1)
  · subst ea
    cases r1
    obtain ⟨us, ru, pu, _⟩ := I1.list hq
    exact wpAny_pyIter_list pu.isList ⟨_, [s1.heap.objs.size], _, _, H1, rfl, I1.kept (t' := s1.toks) fun _ _ k => Heap.get?_push_of_some _ k, turn_list a _, ⟨_, Heap.get?_push_size _ rfl, rfl, rfl⟩, single, q1⟩
  · subst ea
    cases r1
    obtain ⟨us, ru, pu, _⟩ := I1.tuple hq
    exact wpAny_pyIter_tuple (show s1.heap.IsTuple a us.toArray from pu) ⟨_, [s1.heap.objs.size], _, _, H1, rfl, I1.kept (t' := s1.toks) fun _ _ k => Heap.get?_push_of_some _ k, turn_tuple a _, ⟨_, Heap.get?_push_size _ rfl, rfl, rfl⟩, single, q1⟩
theorem si_any {e : Expr} {m : ME} (he : SE X ct W e m) : L2.PI X tg e (rdI X.K ct W (miOf iterA m)) :=
  (pi_anyM he).imp fun σ H R ⟨μ, ρ, h, rs, rh, p⟩ => rdE.go rs rh p fun d h1 μ1 H1 v s1 rs1 rh1 dv p1 => by
    split at p1
    · rename_i j ej
      unfold iterA at ej
      split at ej
      · cases ej
        cases dv.to_str
        exact .inl ⟨_, rfl, p1.at rh1 _ itr_str⟩
      · split at ej
        · rename_i hb
          cases ej
          rcases Bool.or_eq_true_iff.mp hb with hb | hb
          · obtain ⟨a, vs, rfl, q, s⟩ := src_ts hb dv
            exact .inr (.inr ⟨a, vs, rfl, q, p1.at rh1 _ (itr_srcT s)⟩)
          · obtain ⟨a, vs, rfl, q, s⟩ := src_ls rh1 hb dv
            exact .inr (.inl ⟨a, vs, rfl, q, p1.at rh1 _ (itr_srcL s)⟩)
        · cases ej
    · exact p1.elim
/-- zip(x, y) -/
def miZip (a b : ME) : MI := fun ρ h => (a ρ h).bind fun d h1 => (b ρ h1).bind fun e h2 => if (isTs d && isTs e) || (isLs d h2 && isLs e h2) then .ok (jZip d e (min (srcLen d h2) (srcLen e h2))) h2 else .bad
theorem si_zip {e e2 : Expr} {m m2 : ME} {p pos tpos : Pos} {elts : List Expr} {kk : Nat} (hg : Gl X "zip") (hm : X.mg "zip" = none) (h1 : SE X ct W e m) (h2 : SE X ct W e2 m2)
    (hs : starEach [e, e2] X.env = (false, eval e X.env) :: starEach [e2] X.env := by rfl) (hs2 : starEach [e2] X.env = (false, eval e2 X.env) :: starEach [] X.env := by rfl) (hpl : (backTo pos (starEach [e2] X.env)).any (·.1) = false := by rfl) :
    L2.PI X (.Tuple elts kk tpos) (.Call (.Name "zip" p) [e, e2] [] pos) (rdI X.K ct W (miZip m m2)) :=
  (RZ.pi_zipA hg hm (pa_cons h1 (pa_cons h2 pa_nil hs2) hs) hs hpl).imp fun σ H R ⟨μ, ρ, h, rs, rh, p⟩ => rdE.go rs rh p fun d h1 μ1 H1 v s1 rs1 rh1 dv p1 => rdE.go rs1 rh1 p1 fun e h2 μ2 H2 w s2 rs2 rh2 dw p2 => by
    split at p2
    · rename_i hb
      rcases Bool.or_eq_true_iff.mp hb with hb | hb
      · obtain ⟨b1, b2⟩ := Bool.and_eq_true_iff.mp hb
        obtain ⟨a, vs, rfl, q, s⟩ := src_ts b1 (dv.mono s2)
        obtain ⟨b, ws, rfl, r, t⟩ := src_ts b2 dw
        exact ⟨a, b, vs, ws, rfl, .inr ⟨q, r, p2.at rh2 _ (itr_zip s t rfl rfl rfl)⟩⟩
      · obtain ⟨b1, b2⟩ := Bool.and_eq_true_iff.mp hb
        obtain ⟨a, vs, rfl, q, s⟩ := src_ls rh2 b1 (dv.mono s2)
        obtain ⟨b, ws, rfl, r, t⟩ := src_ls rh2 b2 dw
        exact ⟨a, b, vs, ws, rfl, .inl ⟨q, r, p2.at rh2 _ (itr_zip s t rfl rfl rfl)⟩⟩
    · exact p2.elim
/-- enumerate(x) -/
def miEnum (a : ME) : MI := fun ρ h => (a ρ h).bind fun d h1 => if isLs d h1 then .ok (jEnum d (srcLen d h1)) h1 else .bad
theorem si_enum {e : Expr} {m : ME} {p pos tpos : Pos} {elts : List Expr} {kk : Nat} (hg : Gl X "enumerate") (hm : X.mg "enumerate" = none) (h1 : SE X ct W e m) (hs : starEach [e] X.env = [(false, eval e X.env)] := by rfl) :
    L2.PI X (.Tuple elts kk tpos) (.Call (.Name "enumerate" p) [e] [] pos) (rdI X.K ct W (miEnum m)) :=
  (pi_enum hg hm (pa_cons h1 pa_nil hs) hs).imp fun σ H R ⟨μ, ρ, h, rs, rh, p⟩ => rdE.go rs rh p fun d h1 μ1 H1 v s1 rs1 rh1 dv p1 => by
    split at p1
    · rename_i hb
      obtain ⟨a, vs, rfl, q, s⟩ := src_ls rh1 hb dv
      exact ⟨a, vs, rfl, q, p1.at rh1 _ (itr_enum s)⟩
    · exact p1.elim
end
end PI
/-! Dicts by keys, membership, slices. -/
namespace PI
open PySem PySem.Spec L2
open PyProof.Rows hiding St
/-! ### dicts: a key's value, a store -/
section
variable {κ : Type} [DecidableEq κ]
def valD (kvs : List (κ × D)) (k : κ) : Option D := (kvs.find? fun kv => decide (kv.1 = k)).map (·.2)
def putD (kvs : List (κ × D)) (k : κ) (v : D) : List (κ × D) :=
  if (kvs.any fun kv => decide (kv.1 = k)) = true then kvs.map (fun kv => if kv.1 = k then (kv.1, v) else kv) else kvs ++ [(k, v)]
def dropD (kvs : List (κ × D)) (k : κ) : List (κ × D) := kvs.filter fun kv => decide (kv.1 ≠ k)
variable {K : PySem.W.Frag} {μ : List Addr} {H : Hp}
def OptR (K : PySem.W.Frag) (μ : List Addr) (H : Hp) (r : Option D) (w : Option V) : Prop := match r with
  | some d => ∃ v, w = some v ∧ Den K μ H d v
  | none => w = none
/-- pairs by pairs -/
def KDen (K : PySem.W.Frag) (μ : List Addr) (H : Hp) : List (κ × D) → List (κ × V) → Prop
  | [], ws => ws = []
  | p :: r, ws => ∃ v s, ws = (p.1, v) :: s ∧ Den K μ H p.2 v ∧ KDen K μ H r s
theorem kden_of : ∀ {kvs : List (κ × D)} {ws : List (κ × V)}, ws.map (·.1) = kvs.map (·.1) → Dens K μ H (kvs.map (·.2)) (ws.map (·.2)) → KDen K μ H kvs ws
  | [], ws, e, _ => by simpa [KDen] using e
  | p :: r, [], e, _ => by simp at e
  | p :: r, (k, v) :: s, e, d => by
    simp only [List.map_cons, List.cons.injEq] at e
    obtain ⟨v', vr, e1, d1, d2⟩ := d
    simp only [List.map_cons, List.cons.injEq] at e1
    obtain ⟨rfl, rfl⟩ := e1
    obtain ⟨rfl, e2⟩ := e
    exact ⟨v, s, rfl, d1, kden_of e2 d2⟩
theorem KDen.keys : ∀ {kvs : List (κ × D)} {ws : List (κ × V)}, KDen K μ H kvs ws → ws.map (·.1) = kvs.map (·.1)
  | [], ws, h => by
    have h : ws = [] := h
    rw [h]; rfl
  | p :: r, ws, h => by
    obtain ⟨v, s, rfl, _, h⟩ := h
    simp [KDen.keys h]
theorem KDen.vals : ∀ {kvs : List (κ × D)} {ws : List (κ × V)}, KDen K μ H kvs ws → Dens K μ H (kvs.map (·.2)) (ws.map (·.2))
  | [], ws, h => by
    have h : ws = [] := h
    rw [h]; rfl
  | p :: r, ws, h => by
    obtain ⟨v, s, rfl, d, h⟩ := h
    exact ⟨v, _, rfl, d, KDen.vals h⟩
theorem KDen.length {kvs : List (κ × D)} {ws : List (κ × V)} (h : KDen K μ H kvs ws) : ws.length = kvs.length := by
  have := congrArg List.length h.keys
  simpa using this
theorem KDen.val (k : κ) : ∀ {kvs : List (κ × D)} {ws : List (κ × V)}, KDen K μ H kvs ws → OptR K μ H (valD kvs k) (valV ws k)
  | [], ws, h => by
    have h : ws = [] := h
    rw [h]; rfl
  | p :: r, ws, h => by
    obtain ⟨v, s, rfl, d, h⟩ := h
    by_cases e : p.1 = k
    · have e1 : valD (p :: r) k = some p.2 := by simp [valD, List.find?_cons, e]
      rw [e1]
      exact ⟨v, valV_pos (p := (p.1, v)) e, d⟩
    · have e1 : valD (p :: r) k = valD r k := by simp [valD, List.find?_cons, e]
      rw [e1]
      have ih := KDen.val k h
      rw [valV_neg (p := (p.1, v)) e]
      exact ih
theorem KDen.any (k : κ) : ∀ {kvs : List (κ × D)} {ws : List (κ × V)}, KDen K μ H kvs ws → (ws.any fun kv => decide (kv.1 = k)) = kvs.any fun kv => decide (kv.1 = k)
  | [], ws, h => by
    have h : ws = [] := h
    rw [h]; rfl
  | p :: r, ws, h => by
    obtain ⟨v, s, rfl, d, h⟩ := h
    simp only [List.any_cons, KDen.any k h]
theorem KDen.app : ∀ {kvs qs : List (κ × D)} {ws us : List (κ × V)}, KDen K μ H kvs ws → KDen K μ H qs us → KDen K μ H (kvs ++ qs) (ws ++ us)
  | [], _, ws, _, h, g => by
    have h : ws = [] := h
    rw [h]; exact g
  | p :: r, _, ws, _, h, g => by
    obtain ⟨v, s, rfl, d, h⟩ := h
    exact ⟨v, _, rfl, d, KDen.app h g⟩
theorem KDen.over {k : κ} {d : D} {v : V} (dv : Den K μ H d v) : ∀ {kvs : List (κ × D)} {ws : List (κ × V)}, KDen K μ H kvs ws → KDen K μ H (kvs.map fun kv => if kv.1 = k then (kv.1, d) else kv) (ws.map fun kv => if kv.1 = k then (kv.1, v) else kv)
  | [], ws, h => by
    have h : ws = [] := h
    rw [h]; rfl
  | p :: r, ws, h => by
    obtain ⟨w, s, rfl, dw, h⟩ := h
    by_cases e : p.1 = k
    · simp only [List.map_cons, if_pos e]
      exact ⟨v, _, rfl, dv, KDen.over dv h⟩
    · simp only [List.map_cons, if_neg e]
      exact ⟨w, _, rfl, dw, KDen.over dv h⟩
theorem KDen.put {k : κ} {d : D} {v : V} (dv : Den K μ H d v) {kvs : List (κ × D)} {ws : List (κ × V)} (h : KDen K μ H kvs ws) : KDen K μ H (putD kvs k d) (putK ws k v) := by
  unfold putD putK
  rw [h.any k]
  split
  · exact h.over dv
  · exact h.app ⟨v, [], rfl, dv, rfl⟩
theorem KDen.drop {k : κ} : ∀ {kvs : List (κ × D)} {ws : List (κ × V)}, KDen K μ H kvs ws → KDen K μ H (dropD kvs k) (dropK ws k)
  | [], ws, h => by
    have h : ws = [] := h
    rw [h]; rfl
  | p :: r, ws, h => by
    obtain ⟨w, s, rfl, dw, h⟩ := h
    have ih := KDen.drop (k := k) h
    unfold dropD dropK at *
    by_cases e : p.1 = k
    · simp only [List.filter_cons, ne_eq, e, not_true_eq_false, decide_false, Bool.false_eq_true, if_false]
      exact ih
    · simp only [List.filter_cons, ne_eq, e, not_false_eq_true, decide_true, if_true]
      exact ⟨w, _, rfl, dw, ih⟩
theorem KDen.mono {μ1 : List Addr} {H1 : Hp} (s : Step μ H μ1 H1) : ∀ {kvs : List (κ × D)} {ws : List (κ × V)}, KDen K μ H kvs ws → KDen K μ1 H1 kvs ws
  | [], ws, h => h
  | p :: r, ws, h => by
    obtain ⟨w, s', rfl, dw, h⟩ := h
    exact ⟨w, s', rfl, dw.mono s, KDen.mono s h⟩
end
/-- a key as data -/
def keyD : D → Option Key
  | .int i => some (.inl i)
  | .str x => some (.inr x)
  | _ => none
def keysD : List D → Option (List Key)
  | [] => some []
  | d :: ds => match keyD d, keysD ds with
    | some k, some ks => some (k :: ks)
    | _, _ => none
section
variable {K : PySem.W.Frag} {μ : List Addr} {H : Hp} {h : Hh}
theorem keyD_ok {d : D} {v : V} {k : Key} (e : keyD d = some k) (dv : Den K μ H d v) : v = kV k := by
  unfold keyD at e
  split at e
  · cases e; cases dv.to_int; rfl
  · cases e; cases dv.to_str; rfl
  · cases e
theorem keysD_ok : ∀ {ds : List D} {vs : List V} {ks : List Key}, keysD ds = some ks → Dens K μ H ds vs → vs = ks.map kV
  | [], vs, ks, e, dd => by
    cases e
    have dd : vs = [] := dd
    rw [dd]; rfl
  | d :: ds, vs, ks, e, dd => by
    unfold keysD at e
    split at e
    · rename_i k ks' e1 e2
      cases e
      obtain ⟨v, vr, rfl, dv, dr⟩ := dd
      rw [keyD_ok e1 dv, keysD_ok e2 dr]
      rfl
    · cases e
theorem den_dct {i : Nat} {v : V} {kvs : List (Key × D)} (rh : RelH K μ H h) (dv : Den K μ H (.ref i) v) (hi : h[i]? = some (.dct kvs)) : ∃ a ws, v = .ref a ∧ μ[i]? = some a ∧ H a = some (.dK ws) ∧ KDen K μ H kvs ws := by
  obtain ⟨a, e, ha⟩ := dv
  obtain ⟨b, hb, vs, hv, e1, d⟩ := rh.obj i _ hi
  rw [ha] at hb
  cases hb
  exact ⟨a, vs, e, ha, hv, kden_of e1 d⟩
theorem den_dctT {i : Nat} {v : V} {kvs : List (List Key × D)} (rh : RelH K μ H h) (dv : Den K μ H (.ref i) v) (hi : h[i]? = some (.dctT kvs)) : ∃ a ws, v = .ref a ∧ μ[i]? = some a ∧ H a = some (.dT ws) ∧ KDen K μ H kvs ws := by
  obtain ⟨a, e, ha⟩ := dv
  obtain ⟨b, hb, vs, hv, e1, d⟩ := rh.obj i _ hi
  rw [ha] at hb
  cases hb
  exact ⟨a, vs, e, ha, hv, kden_of e1 d⟩
theorem den_dlk {i : Nat} {v : V} {kvs : List (Key × D)} (rh : RelH K μ H h) (dv : Den K μ H (.ref i) v) (hi : h[i]? = some (.dlk kvs)) : ∃ a o ws, v = .ref a ∧ μ[i]? = some a ∧ H a = some (.frz o (.dK ws)) ∧ KDen K μ H kvs ws := by
  obtain ⟨a, e, ha⟩ := dv
  obtain ⟨b, hb, o, vs, hv, e1, d⟩ := rh.obj i _ hi
  rw [ha] at hb
  cases hb
  exact ⟨a, o, vs, e, ha, hv, kden_of e1 d⟩
theorem den_dlkT {i : Nat} {v : V} {kvs : List (List Key × D)} (rh : RelH K μ H h) (dv : Den K μ H (.ref i) v) (hi : h[i]? = some (.dlkT kvs)) : ∃ a o ws, v = .ref a ∧ μ[i]? = some a ∧ H a = some (.frz o (.dT ws)) ∧ KDen K μ H kvs ws := by
  obtain ⟨a, e, ha⟩ := dv
  obtain ⟨b, hb, o, vs, hv, e1, d⟩ := rh.obj i _ hi
  rw [ha] at hb
  cases hb
  exact ⟨a, o, vs, e, ha, hv, kden_of e1 d⟩
/-- what stands at a key: none: it can't be told -/
def getD? (o k : D) (h : Hh) : Option (Option D) := match o with
  | .ref i => match h[i]? with
    | some (.dct kvs) => (keyD k).map fun k => valD kvs k
    | some (.dctT kvs) => match k with
      | .tup ds => (keysD ds).map fun k => valD kvs k
      | _ => none
    | some (.dlk kvs) => (keyD k).map fun k => valD kvs k
    | some (.dlkT kvs) => match k with
      | .tup ds => (keysD ds).map fun k => valD kvs k
      | _ => none
    | _ => none
  | _ => none
theorem getD_ok {o k : D} {x y : V} {r : Option D} (rh : RelH K μ H h) (dx : Den K μ H o x) (dy : Den K μ H k y) (e : getD? o k h = some r) : ∃ a w, x = .ref a ∧ DGet H a y w ∧ OptR K μ H r w := by
  cases o with
  | ref i =>
    cases hi : h[i]? with
    | none => simp [getD?, hi] at e
    | some ob =>
      cases ob with
      | lst xs => simp [getD?, hi] at e
      | dlk kvs =>
        obtain ⟨a, o, ws, rfl, _, ha, kd⟩ := den_dlk rh dx hi
        simp only [getD?, hi] at e
        cases ek : keyD k with
        | none => rw [ek] at e; cases e
        | some k' =>
          rw [ek] at e
          cases e
          cases keyD_ok ek dy
          exact ⟨a, valV ws k', rfl, .inl ⟨ws, k', .inr ⟨o, ha⟩, rfl, rfl⟩, kd.val k'⟩
      | dlkT kvs =>
        obtain ⟨a, o, ws, rfl, _, ha, kd⟩ := den_dlkT rh dx hi
        simp only [getD?, hi] at e
        cases k with
        | tup ds =>
          obtain ⟨b, vs, rfl, hb, dd⟩ := dy
          dsimp only at e
          cases ek : keysD ds with
          | none => rw [ek] at e; cases e
          | some k' =>
            rw [ek] at e
            cases e
            cases keysD_ok ek dd
            exact ⟨a, valV ws k', rfl, .inr ⟨ws, k', b, .inr ⟨o, ha⟩, rfl, hb, rfl⟩, kd.val k'⟩
        | _ => cases e
      | dct kvs =>
        obtain ⟨a, ws, rfl, _, ha, kd⟩ := den_dct rh dx hi
        simp only [getD?, hi] at e
        cases ek : keyD k with
        | none => rw [ek] at e; cases e
        | some k' =>
          rw [ek] at e
          cases e
          cases keyD_ok ek dy
          exact ⟨a, valV ws k', rfl, DGet.k ha, kd.val k'⟩
      | dctT kvs =>
        obtain ⟨a, ws, rfl, _, ha, kd⟩ := den_dctT rh dx hi
        simp only [getD?, hi] at e
        cases k with
        | tup ds =>
          obtain ⟨b, vs, rfl, hb, dd⟩ := dy
          dsimp only at e
          cases ek : keysD ds with
          | none => rw [ek] at e; cases e
          | some k' =>
            rw [ek] at e
            cases e
            cases keysD_ok ek dd
            exact ⟨a, valV ws k', rfl, DGet.t ha hb, kd.val k'⟩
        | _ => cases e
  | _ => simp [getD?] at e
def setD? (o k v : D) (h : Hh) : Option Hh := match o with
  | .ref i => match h[i]? with
    | some (.dct kvs) => match keyD k with
      | some k => if kvs.length < sizeLine then some (h.set i (.dct (putD kvs k v))) else none
      | none => none
    | some (.dctT kvs) => match k with
      | .tup ds => match keysD ds with
        | some k => if kvs.length < sizeLine then some (h.set i (.dctT (putD kvs k v))) else none
        | none => none
      | _ => none
    | _ => none
  | _ => none
theorem setD_ok {o k d : D} {x y v : V} {h' : Hh} (rh : RelH K μ H h) (dx : Den K μ H o x) (dy : Den K μ H k y) (dv : Den K μ H d v) (e : setD? o k d h = some h') : ∃ a H', x = .ref a ∧ DPut H a y v H' ∧ Step μ H μ H' ∧ RelH K μ H' h' := by
  cases o with
  | ref i =>
    cases hi : h[i]? with
    | none => simp [setD?, hi] at e
    | some ob =>
      cases ob with
      | lst xs => simp [setD?, hi] at e
      | dlk xs => simp [setD?, hi] at e
      | dlkT xs => simp [setD?, hi] at e
      | dct kvs =>
        obtain ⟨a, ws, rfl, ha, hw, kd⟩ := den_dct rh dx hi
        simp only [setD?, hi] at e
        cases ek : keyD k with
        | none => rw [ek] at e; cases e
        | some k' =>
          rw [ek] at e
          dsimp only at e
          split at e
          · rename_i hl
            cases e
            cases keyD_ok ek dy
            have sp : Step μ H μ (upd H a (.dK (putK ws k' v))) := Step.set hw (fun _ z => by cases z) (fun _ _ z => by cases z) (fun _ z => by cases z)
            have kp := (kd.put (k := k') dv).mono sp
            exact ⟨a, _, rfl, DPut.k hw (by rw [kd.length]; exact hl), sp, rh.put hi ha ⟨_, upd_same, kp.keys, kp.vals⟩⟩
          · cases e
      | dctT kvs =>
        obtain ⟨a, ws, rfl, ha, hw, kd⟩ := den_dctT rh dx hi
        simp only [setD?, hi] at e
        cases k with
        | tup ds =>
          obtain ⟨b, vs, rfl, hb, dd⟩ := dy
          dsimp only at e
          cases ek : keysD ds with
          | none => rw [ek] at e; cases e
          | some k' =>
            rw [ek] at e
            dsimp only at e
            split at e
            · rename_i hl
              cases e
              cases keysD_ok ek dd
              have sp : Step μ H μ (upd H a (.dT (putK ws k' v))) := Step.set hw (fun _ z => by cases z) (fun _ _ z => by cases z) (fun _ z => by cases z)
              have kp := (kd.put (k := k') dv).mono sp
              exact ⟨a, _, rfl, DPut.t hw hb (by rw [kd.length]; exact hl), sp, rh.put hi ha ⟨_, upd_same, kp.keys, kp.vals⟩⟩
            · cases e
        | _ => cases e
  | _ => simp [setD?] at e
end
section
variable {X : Cx} {ct : Ctb} {W : WX}
theorem ix_dictM (hu : X.A.units + 1 < cLine) : IxR X (fun x y H Q => ∃ a v, x = .ref a ∧ DGet H a y (some v) ∧ Q v H) := by
  rintro value slice pins s σ H x y ov iv Q I rx ry ⟨a, z, rfl, g, q⟩ hs
  obtain rfl : ov = Value.ref a := rx
  have isd := dict_typeIs I g
  unfold subscriptTail
  refine wpAny_bind ?_
  rw [getitemInPython_of_ne isd.not_modules]
  refine wpAny_bind (wpAny_specialOf isd PySem.F.slot_dict_getitem.lookup ?_)
  have last : wpAny (model X.prog X.w) X.A (subscripted slice false (.ref a) iv) (fun r s₃ => wpAny (model X.prog X.w) X.A (letTemporaryGo value (.ref a) r >>= fun _ => pure r) (EP X pins σ Q) X.xe s₃) X.xe s := by
    rw [hs]
    exact wpAny_operating (d_getItem hu I g ry fun w s1 I1 r1 => wpAny_bind (wpAny_letTemporaryGo (wpAny_pure ⟨z, H, I1, r1, q⟩)))
  first
    | exact wpAny_bind (wpAny_pure (wpAny_bind last))
    | exact wpAny_pure (wpAny_bind last)
    | exact wpAny_bind last
/-- any o[i] -/
def oGet : G2 := fun o i h => match getD? o i h with
  | some r => r.map fun d => (d, h)
  | none => oIx o i h
theorem ix_A {k : Nat} (hr : Room k X.A) : IxR X (r2 X.K oGet) := by
  intro value slice pins s σ H x y v u Q I rx ry ⟨μ, h, a, b, da, db, rh, p⟩ hs
  unfold oGet at p
  split at p
  · rename_i r e
    obtain ⟨c, w, rfl, g, q⟩ := getD_ok rh da db e
    cases r with
    | none => exact p.elim
    | some d =>
      obtain ⟨z, rfl, dz⟩ := q
      exact ix_dictM (hu_of hr) value slice pins s σ H _ _ v u Q I rx ry ⟨c, z, rfl, g, p.fin rh dz⟩ hs
  · exact ix_M value slice pins s σ H x y v u Q I rx ry ⟨μ, h, a, b, da, db, rh, p⟩ hs
/-- any o[i] = v -/
def oPut : D → D → D → Hh → Option Hh := fun o i v h => match oSet o i v h with
  | some h' => some h'
  | none => setD? o i v h
theorem set_A {k : Nat} (hr : Room k X.A) : PSet X (rset X.K oPut) := by
  intro pins s σ H o i v ov iv u Q I ro ri rv ⟨μ, h, a, b, c, da, db, dc, rh, p⟩
  unfold oPut at p
  cases e : oSet a b c h with
  | some h' => rw [e] at p; exact set_M pins s σ H o i v ov iv u Q I ro ri rv ⟨μ, h, a, b, c, da, db, dc, rh, by rw [e]; exact p⟩
  | none =>
    rw [e] at p
    have p : match setD? a b c h with
      | some h' => ∀ μ' H', Step μ H μ' H' → RelH X.K μ' H' h' → Q H'
      | none => False := p
    cases e2 : setD? a b c h with
    | none => rw [e2] at p; exact p.elim
    | some h' =>
      rw [e2] at p
      obtain ⟨d, H', rfl, g, st, r⟩ := setD_ok rh da db dc e2
      obtain rfl : ov = Value.ref d := ro
      exact d_setItem (hu_of hr) I g ri rv fun s1 I1 => ⟨H', I1, p μ H' st r⟩
end
end PI
/-! Membership, slices, list methods, built-ins over lists. -/
namespace PI
open PySem PySem.Spec L2
open PyProof.Rows hiding St
/-! ### membership -/
/-- the items of a sequence as they stand -/
def seqD (h : Hh) : D → Option (List D)
  | .tup xs => some xs
  | .rot xs => some xs
  | .rol xs => some xs
  | .ref a => match h[a]? with
    | some (.lst xs) => some xs
    | _ => none
  | _ => none
def inSeq (a b : D) (h : Hh) : Option Bool := match seqD h b with
  | some xs => match toPy h 62 a, toPys h 62 xs with
    | some d, some ds => if d.canLay0 = true ∧ d.depth ≤ 63 ∧ PyData.canLayAll0 ds = true then some (ds.any fun z => PyData.eqv z d) else none
    | _, _ => none
  | none => none
def inStr : D → D → Option Bool
  | .str x, .str z => if x.length = 1 then some (decide (x.cps.toList.headD 0 ∈ z.cps.toList)) else some (!(Builtin.Str.occurrences z x 0 z.length 1).isEmpty)
  | _, _ => none
def oInB (a b : D) (h : Hh) : Option Bool := match inStr a b with
  | some r => some r
  | none => match getD? b a h with
    | some r => some r.isSome
    | none => inSeq a b h
def oIn : G2 := fun a b h => (oInB a b h).map fun r => (.bl r, h)
def oNotIn : G2 := fun a b h => (oInB a b h).map fun r => (.bl (!r), h)
section
variable {X : Cx} {ct : Ctb} {W : WX}
theorem one_sign {x : Str} (h : x.length = 1) : x = ⟨#[x.cps.toList.headD 0]⟩ := by
  obtain ⟨⟨l⟩⟩ := x
  have h : l.length = 1 := h
  match l, h with
  | [c], _ => rfl
theorem seqD_ok {K : PySem.W.Frag} {μ : List Addr} {H : Hp} {h : Hh} {d : D} {v : V} {xs : List D} (rh : RelH K μ H h) (dv : Den K μ H d v) (e : seqD h d = some xs) : ∃ a vs, v = .ref a ∧ (SqL K H a vs ∨ SqT K H a vs) ∧ Dens K μ H xs vs := by
  cases d with
  | tup ys =>
    cases e
    obtain ⟨a, vs, rfl, q, dd⟩ := dv
    exact ⟨a, vs, rfl, .inr (SqT.of q), dd⟩
  | rot ys =>
    cases e
    obtain ⟨a, vs, rfl, q, dd⟩ := dv
    exact ⟨a, vs, rfl, .inr q, dd⟩
  | rol ys =>
    cases e
    obtain ⟨a, vs, rfl, q, dd⟩ := dv
    exact ⟨a, vs, rfl, .inl q.sq, dd⟩
  | ref i =>
    have e : (match h[i]? with | some (.lst xs) => some xs | _ => none) = some xs := e
    split at e
    · rename_i ys hi
      cases e
      obtain ⟨a, vs, rfl, _, q, dd⟩ := den_lst rh dv hi
      exact ⟨a, vs, rfl, .inl (SqL.of q), dd⟩
    · cases e
  | _ => cases e
theorem inSeq_ok {pins : List (Addr × Obj)} {s : Shared} {σ : L2.St} {H : Hp} {x y : V} {v u : Value} {Q : VK} {μ : List Addr} {h : Hh} {a b : D} {r neg : Bool} {k : Nat} (hr : Room k X.A) (I : L2.Inv X pins σ H s) (rx : RelV x v) (ry : RelV y u) (da : Den X.K μ H a x) (db : Den X.K μ H b y) (rh : RelH X.K μ H h) (e : inSeq a b h = some r)
    (q : Q (.bl (if neg then !r else r)) H) : wpAny (model X.prog X.w) X.A (compareOp (if neg then .NotIn else .In) v u) (EP X pins σ Q) X.xe s := by
  unfold inSeq at e
  split at e
  · rename_i xs exs
    split at e
    · rename_i d ds ed eds
      split at e
      · rename_i c
        obtain ⟨c1, c2, c3⟩ := c
        cases e
        obtain ⟨p, vs, rfl, sq, dd⟩ := seqD_ok rh db exs
        obtain ⟨as, r1⟩ := Dp.reads I d x v (toPy_dp rh _ _ _ _ ed da) rx
        have ha := toPys_dp rh _ _ _ _ eds dd
        have hu : X.A.units + 1 + min (PyData.depthAll ds) d.depth < cLine := by have := hr.units; omega
        rcases sq with sq | sq
        · obtain ⟨bs, r2⟩ := Dp.reads I (.list ds) _ u (.lst sq ha) ry
          cases neg
          · exact SeqAt.in_list_reads r2 r1 c3 c1 hu ⟨.bl _, H, I, rfl, q⟩
          · exact SeqAt.notIn_list_reads r2 r1 c3 c1 hu ⟨.bl _, H, I, rfl, q⟩
        · obtain ⟨bs, r2⟩ := Dp.reads I (.tuple ds) _ u (.tup sq ha) ry
          cases neg
          · exact SeqAt.in_tuple_reads r2 r1 c3 c1 hu ⟨.bl _, H, I, rfl, q⟩
          · exact SeqAt.notIn_tuple_reads r2 r1 c3 c1 hu ⟨.bl _, H, I, rfl, q⟩
      · cases e
    · cases e
  · cases e
theorem op_inA {k : Nat} (hr : Room k X.A) : OpR X (compareOp .In) (r2 X.K oIn) := by
  intro pins s σ H x y v u Q I rx ry ⟨μ, h, a, b, da, db, rh, p⟩
  unfold oIn oInB at p
  cases e1 : inStr a b with
  | some r =>
    rw [e1] at p
    unfold inStr at e1
    split at e1
    · cases da.to_str
      cases db.to_str
      split at e1
      · rename_i x z hl
        cases e1
        have sg := one_sign hl
        generalize hc : x.cps.toList.headD 0 = c at *
        subst sg
        exact op_in_sign pins s σ H _ _ v u Q I rx ry ⟨c, z, rfl, rfl, p.fin rh rfl⟩
      · cases e1
        exact op_in_str pins s σ H _ _ v u Q I rx ry ⟨_, _, rfl, rfl, p.fin rh rfl⟩
    · cases e1
  | none =>
    rw [e1] at p
    dsimp only at p
    cases e2 : getD? b a h with
    | some r =>
      rw [e2] at p
      obtain ⟨c, w, rfl, g, q⟩ := getD_ok rh db da e2
      obtain rfl : u = Value.ref c := ry
      have ew : w.isSome = r.isSome := by
        cases r with
        | none => have q : w = none := q; rw [q]; rfl
        | some d => obtain ⟨z, rfl, _⟩ := q; rfl
      exact d_in (hu_of hr) I g rx fun s1 I1 => ⟨.bl _, H, I1, rfl, p.fin rh (by rw [ew]; rfl)⟩
    | none =>
      rw [e2] at p
      dsimp only at p
      cases e3 : inSeq a b h with
      | none => rw [e3] at p; exact p.elim
      | some r =>
        rw [e3] at p
        exact inSeq_ok (neg := false) hr I rx ry da db rh e3 (p.fin rh rfl)
theorem op_notInA {k : Nat} (hr : Room k X.A) : OpR X (compareOp .NotIn) (r2 X.K oNotIn) := by
  intro pins s σ H x y v u Q I rx ry ⟨μ, h, a, b, da, db, rh, p⟩
  unfold oNotIn oInB at p
  cases e1 : inStr a b with
  | some r =>
    rw [e1] at p
    unfold inStr at e1
    split at e1
    · cases da.to_str
      cases db.to_str
      split at e1
      · rename_i x z hl
        cases e1
        have sg := one_sign hl
        generalize hc : x.cps.toList.headD 0 = c at *
        subst sg
        exact op_notIn_sign pins s σ H _ _ v u Q I rx ry ⟨c, z, rfl, rfl, p.fin rh rfl⟩
      · cases e1
        exact op_notin_str pins s σ H _ _ v u Q I rx ry ⟨_, _, rfl, rfl, p.fin rh rfl⟩
    · cases e1
  | none =>
    rw [e1] at p
    dsimp only at p
    cases e2 : getD? b a h with
    | some r =>
      rw [e2] at p
      obtain ⟨c, w, rfl, g, q⟩ := getD_ok rh db da e2
      obtain rfl : u = Value.ref c := ry
      have ew : w.isSome = r.isSome := by
        cases r with
        | none => have q : w = none := q; rw [q]; rfl
        | some d => obtain ⟨z, rfl, _⟩ := q; rfl
      exact d_notIn (hu_of hr) I g rx fun s1 I1 => ⟨.bl _, H, I1, rfl, p.fin rh (by rw [ew]; rfl)⟩
    | none =>
      rw [e2] at p
      dsimp only at p
      cases e3 : inSeq a b h with
      | none => rw [e3] at p; exact p.elim
      | some r =>
        rw [e3] at p
        exact inSeq_ok (neg := true) hr I rx ry da db rh e3 (p.fin rh rfl)
/-! ### slices -/
def cutD (xs : List D) (lo hi : Option Int) : List D := (xs.drop (HT.sIx xs.length 0 lo)).take (HT.sIx xs.length xs.length hi - HT.sIx xs.length 0 lo)
def oSl (d : D) (lo hi : Option Int) (h : Hh) : Option (D × Hh) := match d with
  | .str z => if z.length ≤ sizeLine then some (.str (cutS z lo hi), h) else none
  | .tup xs => some (.tup (cutD xs lo hi), h)
  | .rot xs => if HT.sIx xs.length 0 lo = 0 ∧ HT.sIx xs.length xs.length hi = xs.length then some (.rot xs, h) else some (.tup (cutD xs lo hi), h)
  | .rol xs => some (.ref h.length, h ++ [.lst (cutD xs lo hi)])
  | .ref a => match h[a]? with
    | some (.lst xs) => some (.ref h.length, h ++ [.lst (cutD xs lo hi)])
    | _ => none
  | _ => none
theorem Dens.cut {K : PySem.W.Frag} {μ : List Addr} {H : Hp} {xs : List D} {vs : List V} {lo hi : Option Int} (dd : Dens K μ H xs vs) : Dens K μ H (cutD xs lo hi) (cutV vs lo hi) := by
  unfold cutD cutV
  rw [dd.length]
  exact (dd.drop _).take _
def rSlM (K : PySem.W.Frag) : V → Option Int → Option Int → Hp → VK → Prop := fun x lo hi H Q => ∃ μ h a, Den K μ H a x ∧ RelH K μ H h ∧ POo K μ H (fun d _ μ' H' => ∀ v, Den K μ' H' d v → Q v H') (oSl a lo hi h)
theorem cut_all {α : Type} {xs : List α} {lo hi : Nat} (h : lo = 0 ∧ hi = xs.length) : (xs.drop lo).take (hi - lo) = xs := by
  obtain ⟨rfl, rfl⟩ := h
  simp
theorem sl_M : SlR X (rSlM X.K) := by
  intro pins s σ H x v vl vu lo hi sl Q I rx hs pl pu ⟨μ, h, a, da, rh, p⟩
  unfold oSl at p
  split at p
  · cases da.to_str
    split at p
    · rename_i hl
      exact sl_str pins s σ H _ v vl vu lo hi sl Q I rx hs pl pu ⟨_, rfl, hl, p.fin rh rfl⟩
    · exact p.elim
  · rename_i xs
    obtain ⟨c, vs, rfl, q, dd⟩ := da
    refine sl_tupA pins s σ H _ v vl vu lo hi sl Q I rx hs pl pu ⟨c, vs, rfl, SqT.of q, fun e => ?_, fun _ pp hp => p.finT rh dd.cut pp hp⟩
    have ec : cutD xs lo hi = xs := by
      unfold cutD
      rw [dd.length] at e
      exact cut_all e
    rw [ec] at p
    exact p.fin rh ⟨c, vs, rfl, q, dd⟩
  · rename_i xs
    obtain ⟨c, vs, rfl, q, dd⟩ := da
    refine sl_tupA pins s σ H _ v vl vu lo hi sl Q I rx hs pl pu ⟨c, vs, rfl, q, fun e => ?_, fun e pp hp => ?_⟩
    · rw [dd.length] at e
      rw [if_pos e] at p
      exact p.fin rh ⟨c, vs, rfl, q, dd⟩
    · rw [dd.length] at e
      rw [if_neg e] at p
      exact p.finT rh dd.cut pp hp
  · obtain ⟨c, vs, rfl, q, dd⟩ := da
    exact sl_list pins s σ H _ v vl vu lo hi sl Q I rx hs pl pu ⟨c, vs, rfl, q.sq, fun pp hp => p.finL rh dd.cut pp hp⟩
  · split at p
    · rename_i hi'
      obtain ⟨c, vs, rfl, _, q, dd⟩ := den_lst rh da hi'
      exact sl_list pins s σ H _ v vl vu lo hi sl Q I rx hs pl pu ⟨c, vs, rfl, SqL.of q, fun pp hp => p.finL rh dd.cut pp hp⟩
    · exact p.elim
  · exact p.elim
/-- a bound, or none -/
abbrev MO := Rho → Hh → Out (Option Int)
def moN : MO := fun _ h => .ok none h
def moS (m : ME) : MO := fun ρ h => (m ρ h).bind fun d h1 => match d with
  | .int i => .ok (some i) h1
  | _ => .bad
def rdO (K : PySem.W.Frag) (ct : Ctb) (W : WX) (m : MO) : TO := fun σ H Q => ∃ μ ρ h, RelS K μ H ρ σ ∧ RelH K μ H h ∧ PO K ct W σ μ H (fun o _ μ' H' => Q o H') (m ρ h)
theorem so_none : L2.PO X none (rdO X.K ct W moN) := by
  constructor
  intro pins s σ H Q I ⟨μ, ρ, h, rs, rh, p⟩
  exact po_none.run pins s σ H Q I (p.at rh)
theorem so_some {e : Expr} {m : ME} (he : SE X ct W e m) : L2.PO X (some e) (rdO X.K ct W (moS m)) := by
  constructor
  intro pins s σ H Q I ⟨μ, ρ, h, rs, rh, p⟩
  refine (po_some he).run pins s σ H Q I (rdE.go rs rh p fun d h1 μ1 H1 v s1 rs1 rh1 dv p1 => ?_)
  split at p1
  · cases dv.to_int
    exact ⟨_, rfl, p1.at rh1⟩
  · exact p1.elim
def mSl (m : ME) (lo hi : MO) : ME := fun ρ h => (m ρ h).bind fun d h1 => (lo ρ h1).bind fun l h2 => (hi ρ h2).bind fun u h3 => Out.ofO (oSl d l u h3)
theorem se_sl {e : Expr} {lo hi : Option Expr} {m : ME} {ml mh : MO} {p2 pos : Pos} (he : SE X ct W e m) (hl : L2.PO X lo (rdO X.K ct W ml)) (hh : L2.PO X hi (rdO X.K ct W mh)) : SE X ct W (.Subscript e (.Slice lo hi none p2) pos) (mSl m ml mh) :=
  (pe_slice sl_M he hl hh).imp fun σ H Q ⟨μ, ρ, h, rs, rh, p⟩ => rdE.go rs rh p fun d h1 μ1 H1 v s1 rs1 rh1 dv p1 =>
    ⟨μ1, ρ, h1, rs1, rh1, (PO.bind p1).mono fun l h2 μ2 H2 s2 rh2 p2 => ⟨μ2, ρ, h2, rs1.mono s2, rh2, (PO.bind p2).mono fun u h3 μ3 H3 s3 rh3 p3 => ⟨μ3, h3, d, (dv.mono s2).mono s3, rh3, p3.ofO⟩⟩⟩
/-! ### methods of lists -/
def lPop : D → List D → Hh → Option (D × Hh)
  | .ref i, [], h => match h[i]? with
    | some (.lst xs) => (xs[xs.length - 1]?).map fun d => (d, h.set i (.lst xs.dropLast))
    | _ => none
  | _, _, _ => none
def lPopAt : D → List D → Hh → Option (D × Hh)
  | .ref i, [.int k], h => match h[i]? with
    | some (.lst xs) => if -(2 ^ 63) ≤ k ∧ k < 2 ^ 63 then (seqIndex? k xs.length).bind fun j => (xs[j]?).map fun d => (d, h.set i (.lst (xs.eraseIdx j))) else none
    | _ => none
  | _, _, _ => none
def lInsert : D → List D → Hh → Option (D × Hh)
  | .ref i, [.int k, d], h => match h[i]? with
    | some (.lst xs) => if xs.length < sizeLine ∧ 0 ≤ k ∧ k < 2 ^ 63 then some (.non, h.set i (.lst (xs.take k.toNat ++ [d] ++ xs.drop k.toNat))) else none
    | _ => none
  | _, _, _ => none
def lExtend : D → List D → Hh → Option (D × Hh)
  | .ref i, [.ref j], h => match h[i]?, h[j]? with
    | some (.lst xs), some (.lst ys) => if xs.length + ys.length ≤ sizeLine then some (.non, h.set i (.lst (xs ++ ys))) else none
    | _, _ => none
  | _, _, _ => none
theorem Dens.last {K : PySem.W.Frag} {μ : List Addr} {H : Hp} {xs : List D} {vs : List V} (dd : Dens K μ H xs vs) : Dens K μ H xs.dropLast vs.dropLast := by
  rw [List.dropLast_eq_take, List.dropLast_eq_take, dd.length]
  exact dd.take _
theorem Dens.erase {K : PySem.W.Frag} {μ : List Addr} {H : Hp} {xs : List D} {vs : List V} (j : Nat) (dd : Dens K μ H xs vs) : Dens K μ H (xs.eraseIdx j) (vs.eraseIdx j) := by
  rw [List.eraseIdx_eq_take_drop_succ, List.eraseIdx_eq_take_drop_succ]
  exact (dd.take _).append (dd.drop _)
theorem Dens.zero {K : PySem.W.Frag} {μ : List Addr} {H : Hp} {vs : List V} (h : Dens K μ H [] vs) : vs = [] := h
theorem mt_popM : MtM X "list.pop" (rM X.K lPop) := by
  intro pins s σ H x xs v us Q I rx rv ⟨μ, h, a, as, da, das, rh, p⟩
  unfold lPop at p
  split at p
  · split at p
    · rename_i ys hi
      cases e : ys[ys.length - 1]? with
      | none => rw [e] at p; exact p.elim
      | some d =>
        rw [e] at p
        obtain ⟨b, vs, rfl, ha, hv, dd⟩ := den_lst rh da hi
        obtain ⟨w, ew, dw⟩ := dd.get e
        obtain ⟨st, r⟩ := put_lst rh hi ha hv dd.last
        exact mt_pop pins s σ H _ _ v us Q I rx rv ⟨b, vs, w, rfl, das.zero, hv, by rw [dd.length]; exact ew, p _ _ st r _ (dw.mono st)⟩
    · exact p.elim
  · exact p.elim
theorem mt_popAtM : MtM X "list.pop" (rM X.K lPopAt) := by
  intro pins s σ H x xs v us Q I rx rv ⟨μ, h, a, as, da, das, rh, p⟩
  unfold lPopAt at p
  split at p
  · split at p
    · rename_i ys hi
      split at p
      · rename_i hb
        cases ej : seqIndex? _ ys.length with
        | none => rw [ej] at p; exact p.elim
        | some j =>
          rw [ej] at p
          simp only [Option.bind_some] at p
          cases e : ys[j]? with
          | none => rw [e] at p; exact p.elim
          | some d =>
            rw [e] at p
            obtain ⟨b, vs, rfl, ha, hv, dd⟩ := den_lst rh da hi
            obtain ⟨k, rfl, dk⟩ := dens1 das
            cases dk.to_int
            obtain ⟨w, ew, dw⟩ := dd.get e
            obtain ⟨st, r⟩ := put_lst rh hi ha hv (dd.erase j)
            exact mt_popAt pins s σ H _ _ v us Q I rx rv ⟨b, vs, _, j, w, rfl, rfl, hv, hb.1, hb.2, by rw [dd.length]; exact ej, ew, p _ _ st r _ (dw.mono st)⟩
      · exact p.elim
    · exact p.elim
  · exact p.elim
theorem mt_insertM : MtR X "list.insert" (rM X.K lInsert) := by
  intro pins s σ H x xs v us Q I rx rv ⟨μ, h, a, as, da, das, rh, p⟩
  unfold lInsert at p
  split at p
  · rename_i k d
    split at p
    · rename_i ys hi
      split at p
      · rename_i hb
        obtain ⟨b, vs, rfl, ha, hv, dd⟩ := den_lst rh da hi
        obtain ⟨kk, w, rfl, dk, dw⟩ := dens2 das
        cases dk.to_int
        have one : Dens X.K μ H [d] [w] := ⟨w, [], rfl, dw, rfl⟩
        have dn := ((dd.take k.toNat).append one).append (dd.drop k.toNat)
        obtain ⟨st, r⟩ := put_lst rh hi ha hv dn
        exact mt_insert pins s σ H _ _ v us Q I rx rv ⟨b, vs, _, w, rfl, rfl, hv, by rw [dd.length]; exact hb.1, hb.2.1, hb.2.2, p _ _ st r _ rfl⟩
      · exact p.elim
    · exact p.elim
  · exact p.elim
theorem mt_extendM : MtM X "list.extend" (rM X.K lExtend) := by
  intro pins s σ H x xs v us Q I rx rv ⟨μ, h, a, as, da, das, rh, p⟩
  unfold lExtend at p
  split at p
  · split at p
    · rename_i hi hj
      split at p
      · rename_i hl
        obtain ⟨b, vs, rfl, ha, hv, dd⟩ := den_lst rh da hi
        obtain ⟨w, rfl, dw⟩ := dens1 das
        obtain ⟨c, ws, rfl, hc, hw, de⟩ := den_lst rh dw hj
        obtain ⟨st, r⟩ := put_lst rh hi ha hv (dd.append de)
        exact mt_extend pins s σ H _ _ v us Q I rx rv ⟨b, c, vs, ws, rfl, rfl, hv, hw, by rw [dd.length, de.length]; exact hl, p _ _ st r _ rfl⟩
      · exact p.elim
    · exact p.elim
  · exact p.elim
/-- a method of a list, without arguments -/
theorem se_lm0 {o : Expr} {name : Str} {id : String} {apos cpos : Pos} {g : D → List D → Hh → Option (D × Hh)} {mo : ME} (slot : Slot "list" name id) (hty : typeOf (.builtin id) = pure (.type "method_descriptor")) (hm : MtR X id (rM X.K g)) (ho : SE X ct W o mo)
    (hbase : attributeBase o name X.env (eval o X.env) = eval o X.env := by rfl) (hline : (apos.endLine == cpos.line) = true := by rfl) : SE X ct W (.Call (.Attribute o name apos) [] [] cpos) (mMset g mo mNil) := by
  refine L2.PE.imp (pe_bm0 PySem.F.plainAttrs_list slot hty hm ho hbase hline) fun σ H Q ⟨μ, ρ, h, rs, rh, p⟩ => rdE.go rs rh p fun d h1 μ1 H1 v s1 rs1 rh1 dv p1 => ?_
  split at p1
  · rename_i i
    split at p1
    · rename_i xs hi
      obtain ⟨a, vs, rfl, ha, hv, dd⟩ := den_lst rh1 dv hi
      have p1 : PO X.K ct W σ μ1 H1 _ (Out.ofO (g (.ref i) [] h1)) := p1
      exact ⟨.inl ⟨rfl, vs, SqL.of hv⟩, μ1, h1, .ref i, [], dv, rfl, rh1, p1.ofO⟩
    · exact p1.elim
  · exact p1.elim
/-! ### over lists -/
def boolsD : List D → Option (List Bool)
  | [] => some []
  | .bl b :: ds => (boolsD ds).map (b :: ·)
  | _ :: _ => none
def intsD : List D → Option (List Int)
  | [] => some []
  | .int b :: ds => (intsD ds).map (b :: ·)
  | _ :: _ => none
theorem boolsD_eq : ∀ {ds : List D} {bs : List Bool}, boolsD ds = some bs → ds = bs.map D.bl
  | [], bs, e => by cases e; rfl
  | .bl b :: ds, bs, e => by
    unfold boolsD at e
    cases q : boolsD ds with
    | none => rw [q] at e; cases e
    | some r => rw [q] at e; cases e; rw [boolsD_eq q]; rfl
  | .non :: _, _, e => by cases e
  | .int _ :: _, _, e => by cases e
  | .str _ :: _, _, e => by cases e
  | .tup _ :: _, _, e => by cases e
  | .rot _ :: _, _, e => by cases e
  | .rol _ :: _, _, e => by cases e
  | .ref _ :: _, _, e => by cases e
  | .ex _ :: _, _, e => by cases e
theorem intsD_eq : ∀ {ds : List D} {bs : List Int}, intsD ds = some bs → ds = bs.map D.int
  | [], bs, e => by cases e; rfl
  | .int b :: ds, bs, e => by
    unfold intsD at e
    cases q : intsD ds with
    | none => rw [q] at e; cases e
    | some r => rw [q] at e; cases e; rw [intsD_eq q]; rfl
  | .non :: _, _, e => by cases e
  | .bl _ :: _, _, e => by cases e
  | .str _ :: _, _, e => by cases e
  | .tup _ :: _, _, e => by cases e
  | .rot _ :: _, _, e => by cases e
  | .rol _ :: _, _, e => by cases e
  | .ref _ :: _, _, e => by cases e
  | .ex _ :: _, _, e => by cases e
theorem Dens.bools {K : PySem.W.Frag} {μ : List Addr} {H : Hp} : ∀ {bs : List Bool} {vs : List V}, Dens K μ H (bs.map D.bl) vs → vs = bs.map V.bl
  | [], vs, h => h
  | b :: bs, vs, h => by
    obtain ⟨v, r, rfl, d, h⟩ := h
    cases d.to_bl
    rw [Dens.bools h]; rfl
theorem Dens.ints' {K : PySem.W.Frag} {μ : List Addr} {H : Hp} : ∀ {bs : List Int} {vs : List V}, Dens K μ H (bs.map D.int) vs → vs = bs.map V.int
  | [], vs, h => h
  | b :: bs, vs, h => by
    obtain ⟨v, r, rfl, d, h⟩ := h
    cases d.to_int
    rw [Dens.ints' h]; rfl
def bAll : GN
  | [d], h => if isLs d h = true then (seqD h d).bind fun xs => (boolsD xs).map fun bs => (.bl (bs.all id), h) else none
  | _, _ => none
def bAny : GN
  | [d], h => if isLs d h = true then (seqD h d).bind fun xs => (boolsD xs).map fun bs => (.bl (bs.any id), h) else none
  | _, _ => none
def bSum : GN
  | [d], h => if isLs d h = true then (seqD h d).bind fun xs => (intsD xs).map fun bs => (.int bs.sum, h) else none
  | _, _ => none
theorem seqL_ok {K : PySem.W.Frag} {μ : List Addr} {H : Hp} {h : Hh} {d : D} {v : V} {xs : List D} (rh : RelH K μ H h) (dv : Den K μ H d v) (l : isLs d h = true) (e : seqD h d = some xs) : ∃ a vs, v = .ref a ∧ SqL K H a vs ∧ Dens K μ H xs vs := by
  cases d with
  | rol ys =>
    cases e
    obtain ⟨a, vs, rfl, q, dd⟩ := dv
    exact ⟨a, vs, rfl, q.sq, dd⟩
  | ref i =>
    have e : (match h[i]? with | some (.lst xs) => some xs | _ => none) = some xs := e
    split at e
    · rename_i ys hi
      cases e
      obtain ⟨a, vs, rfl, _, q, dd⟩ := den_lst rh dv hi
      exact ⟨a, vs, rfl, SqL.of q, dd⟩
    · cases e
  | _ => cases l
theorem cr_allM (hc : X.calm = true) : CallR X (.builtin "all") (rN X.K bAll) := by
  intro pins s σ H xs us Q I r ⟨μ, h, as, da, rh, p⟩
  unfold bAll at p
  split at p
  · split at p
    · rename_i hl
      cases e : seqD h _ with
      | none => rw [e] at p; exact p.elim
      | some ys =>
        rw [e] at p
        simp only [Option.bind_some] at p
        cases e2 : boolsD ys with
        | none => rw [e2] at p; exact p.elim
        | some bs =>
          rw [e2] at p
          obtain ⟨v, rfl, dv⟩ := dens1 da
          obtain ⟨a, vs, rfl, q, dd⟩ := seqL_ok rh dv hl e
          rw [boolsD_eq e2] at dd
          cases dd.bools
          exact cr_all hc pins s σ H _ us Q I r ⟨a, bs, rfl, q, p.fin rh rfl⟩
    · exact p.elim
  · exact p.elim
theorem cr_anyM (hc : X.calm = true) : CallR X (.builtin "any") (rN X.K bAny) := by
  intro pins s σ H xs us Q I r ⟨μ, h, as, da, rh, p⟩
  unfold bAny at p
  split at p
  · split at p
    · rename_i hl
      cases e : seqD h _ with
      | none => rw [e] at p; exact p.elim
      | some ys =>
        rw [e] at p
        simp only [Option.bind_some] at p
        cases e2 : boolsD ys with
        | none => rw [e2] at p; exact p.elim
        | some bs =>
          rw [e2] at p
          obtain ⟨v, rfl, dv⟩ := dens1 da
          obtain ⟨a, vs, rfl, q, dd⟩ := seqL_ok rh dv hl e
          rw [boolsD_eq e2] at dd
          cases dd.bools
          exact cr_any hc pins s σ H _ us Q I r ⟨a, bs, rfl, q, p.fin rh rfl⟩
    · exact p.elim
  · exact p.elim
theorem cr_sumM (hc : X.calm = true) : CallR X (.builtin "sum") (rN X.K bSum) := by
  intro pins s σ H xs us Q I r ⟨μ, h, as, da, rh, p⟩
  unfold bSum at p
  split at p
  · split at p
    · rename_i hl
      cases e : seqD h _ with
      | none => rw [e] at p; exact p.elim
      | some ys =>
        rw [e] at p
        simp only [Option.bind_some] at p
        cases e2 : intsD ys with
        | none => rw [e2] at p; exact p.elim
        | some bs =>
          rw [e2] at p
          obtain ⟨v, rfl, dv⟩ := dens1 da
          obtain ⟨a, vs, rfl, q, dd⟩ := seqL_ok rh dv hl e
          rw [intsD_eq e2] at dd
          cases dd.ints'
          exact cr_sum hc pins s σ H _ us Q I r ⟨a, bs, rfl, q, p.fin rh rfl⟩
    · exact p.elim
  · exact p.elim
/-- str(n) -/
def bStr : GN
  | [.int i], h => if i.natAbs.log2 < 1920 then some (.str (toString i), h) else none
  | _, _ => none
theorem cr_strM : CallR X (.type "str") (rN X.K bStr) := by
  intro pins s σ H xs us Q I r ⟨μ, h, as, da, rh, p⟩
  unfold bStr at p
  split at p
  · split at p
    · rename_i hl
      obtain ⟨v, rfl, dv⟩ := dens1 da
      cases dv.to_int
      exact call_str_int pins s σ H _ us Q I r ⟨_, rfl, hl, p.fin rh rfl⟩
    · exact p.elim
  · exact p.elim
end
end PI
/-! Constants of the module; dict.get. -/
namespace PI
open PySem PySem.Spec L2
open PyProof.Rows hiding St
/-- a name of the module stands for a thing -/
structure CoI (K : PySem.W.Frag) (mg : Str → Option Value) (x : Str) (d : D) : Prop where
  ex : ∃ u v, mg x = some u ∧ RelV v u ∧ ∀ μ H, Den K μ H d v
theorem coI_int {K : PySem.W.Frag} {mg : Str → Option Value} {x : Str} {i : Int} {t : Tok} (h : mg x = some (.int i t)) : CoI K mg x (.int i) := ⟨_, .int i, h, ⟨t, rfl⟩, fun _ _ => rfl⟩
theorem coI_str {K : PySem.W.Frag} {mg : Str → Option Value} {x : Str} {i : Str} {t : Tok} (h : mg x = some (.str i t)) : CoI K mg x (.str i) := ⟨_, .str i, h, ⟨t, rfl⟩, fun _ _ => rfl⟩
theorem valsS : ∀ {us : List Value} {xs : List Str}, us.map (fun u => match u with | .str z _ => some z | _ => none) = xs.map some → Vals (xs.map V.str) us
  | [], [], _ => .nil
  | [], x :: xs, e => by simp at e
  | u :: us, [], e => by simp at e
  | u :: us, x :: xs, e => by
    simp only [List.map_cons, List.cons.injEq] at e
    obtain ⟨e1, e2⟩ := e
    refine .cons ?_ (valsS e2)
    cases u <;> first | (cases e1; exact ⟨_, rfl⟩) | cases e1
theorem densS {K : PySem.W.Frag} {μ : List Addr} {H : Hp} : ∀ xs : List Str, Dens K μ H (xs.map D.str) (xs.map V.str)
  | [] => rfl
  | x :: xs => ⟨_, _, rfl, rfl, densS xs⟩
/-- a tuple of texts -/
theorem coI_strs {K : PySem.W.Frag} {mg : Str → Option Value} {x : Str} {a : Addr} {o : Obj} {its : Array Value} {n : Nat} {xs : List Str} (h : mg x = some (.ref a)) (hk : K.lookup a = some o) (hc : o.cls = .type "tuple") (hd : o.data = .seq its n) (hz : its.size ≤ sizeLine)
    (e : its.toList.map (fun u => match u with | .str z _ => some z | _ => none) = xs.map some) : CoI K mg x (.rot (xs.map D.str)) :=
  ⟨_, .ref a, h, rfl, fun μ H => ⟨a, xs.map V.str, rfl, .inr ⟨o, its, n, hk, hc, hd, hz, valsS e⟩, densS xs⟩⟩
section
variable {X : Cx} {ct : Ctb} {W : WX}
theorem se_co {x : Str} {pos : Pos} {d : D} (C : CoI X.K X.mg x d) (hg : Gl X x) (hdb : (x == ("__debug__" : Str)) = false := by decide) : SE X ct W (.Name x pos) (mC d) := by
  obtain ⟨u, v, hm, r, hd⟩ := C.ex
  exact se_glob hg hm r hd hdb
/-- d.get(k), d.get(k, x) -/
def isDc (o : D) (h : Hh) : Bool := match o with
  | .ref i => match h[i]? with
    | some (.dct _) => true
    | some (.dctT _) => true
    | _ => false
  | _ => false
theorem isDc_ok {K : PySem.W.Frag} {μ : List Addr} {H : Hp} {h : Hh} {o : D} {v : V} (rh : RelH K μ H h) (dv : Den K μ H o v) (e : isDc o h = true) : ∃ a, v = .ref a ∧ IsD H a := by
  cases o with
  | ref i =>
    have e : (match h[i]? with | some (.dct _) => true | some (.dctT _) => true | _ => false) = true := e
    split at e
    · rename_i hi
      obtain ⟨a, ws, rfl, _, ha, _⟩ := den_dct rh dv hi
      exact ⟨a, rfl, .inl ⟨ws, .inl ha⟩⟩
    · rename_i hi
      obtain ⟨a, ws, rfl, _, ha, _⟩ := den_dctT rh dv hi
      exact ⟨a, rfl, .inr ⟨ws, .inl ha⟩⟩
    · cases e
  | _ => cases e
def mGet1 (o k : ME) : ME := fun ρ h => (o ρ h).bind fun d h1 => if isDc d h1 then (k ρ h1).bind fun e h2 => match getD? d e h2 with
  | some r => .ok (r.getD .non) h2
  | none => .bad else .bad
def mGet2 (o k x : ME) : ME := fun ρ h => (o ρ h).bind fun d h1 => if isDc d h1 then (k ρ h1).bind fun e h2 => (x ρ h2).bind fun z h3 => match getD? d e h3 with
  | some r => .ok (r.getD z) h3
  | none => .bad else .bad
theorem se_get1 {o e : Expr} {apos cpos : Pos} {mo me : ME} {k : Nat} (hr : Room k X.A) (ho : SE X ct W o mo) (he : SE X ct W e me) (m : M1 X o "get" apos e cpos) : SE X ct W (.Call (.Attribute o "get" apos) [e] [] cpos) (mGet1 mo me) :=
  (pe_dget1 (hu_of hr) ho he m).imp fun σ H Q ⟨μ, ρ, h, rs, rh, p⟩ => rdE.go rs rh p fun d h1 μ1 H1 v s1 rs1 rh1 dv p1 => by
    split at p1
    · rename_i hd
      obtain ⟨a, rfl, ia⟩ := isDc_ok rh1 dv hd
      refine ⟨a, rfl, ia, rdE.go rs1 rh1 p1 fun e h2 μ2 H2 y s2 rs2 rh2 dy p2 => ?_⟩
      split at p2
      · rename_i r er
        obtain ⟨b, w, eb, g, q⟩ := getD_ok rh2 (dv.mono s2) dy er
        cases eb
        refine ⟨w, g, ?_⟩
        cases r with
        | none => have q : w = none := q; rw [q]; exact p2.at rh2 _ rfl
        | some d => obtain ⟨z, rfl, dz⟩ := q; exact p2.at rh2 _ dz
      · exact p2.elim
    · exact p1.elim
theorem se_get2 {o e f : Expr} {apos cpos : Pos} {mo me mf : ME} {k : Nat} (hr : Room k X.A) (ho : SE X ct W o mo) (he : SE X ct W e me) (hf : SE X ct W f mf) (m : M2 X o "get" apos e f cpos) : SE X ct W (.Call (.Attribute o "get" apos) [e, f] [] cpos) (mGet2 mo me mf) :=
  (pe_dget2 (hu_of hr) ho he hf m).imp fun σ H Q ⟨μ, ρ, h, rs, rh, p⟩ => rdE.go rs rh p fun d h1 μ1 H1 v s1 rs1 rh1 dv p1 => by
    split at p1
    · rename_i hd
      obtain ⟨a, rfl, ia⟩ := isDc_ok rh1 dv hd
      refine ⟨a, rfl, ia, rdE.go rs1 rh1 p1 fun e h2 μ2 H2 y s2 rs2 rh2 dy p2 => rdE.go rs2 rh2 p2 fun f h3 μ3 H3 z s3 rs3 rh3 dz p3 => ?_⟩
      split at p3
      · rename_i r er
        obtain ⟨b, w, eb, g, q⟩ := getD_ok rh3 ((dv.mono s2).mono s3) (dy.mono s3) er
        cases eb
        refine ⟨w, g, ?_⟩
        cases r with
        | none => have q : w = none := q; rw [q]; exact p3.at rh3 _ dz
        | some d => obtain ⟨z, rfl, dz⟩ := q; exact p3.at rh3 _ dz
      · exact p3.elim
    · exact p1.elim
/-! ### a dict of tuples as keys; a written dict -/
def mDnewT : ME := fun _ h => .ok (.ref h.length) (h ++ [.dctT []])
theorem se_dnewT {pos : Pos} : SE X ct W (.Dict [] [] pos) mDnewT :=
  pe_dnewT.imp fun σ H Q ⟨μ, ρ, h, rs, rh, p⟩ => fun q hq => by
    have sn : Step μ H (μ ++ [q]) (upd H q (.dT [])) := Step.newT hq
    exact p _ _ sn (rh.push hq ⟨[], upd_same, rfl, rfl⟩) _ ⟨q, rfl, by rw [← rh.len]; simp⟩
end
end PI
/-! A dict that is walked: locked meanwhile; keys, values, pairs. -/
namespace PI
open PySem PySem.Spec L2
open PyProof.Rows hiding St
/-! ### the lock undone -/
section
variable {K : PySem.W.Frag} {μ μ' : List Addr} {H H1 : Hp} {a : Addr} {od : Obj} {u : HO}
mutual
theorem Den.unl (ha : H a = some (.frz od u)) (ut : ∀ xs, u ≠ .tup xs) (ul : ∀ xs, u ≠ .lst xs) : ∀ {d : D} {v : V}, Den K μ H d v → Den K μ (upd H a u) d v
  | .non, _, h => h
  | .bl _, _, h => h
  | .int _, _, h => h
  | .str _, _, h => h
  | .tup ds, _, h => by
    obtain ⟨b, vs, e, q, r⟩ := h
    have hb : b ≠ a := fun z => by rw [z, ha] at q; cases q
    exact ⟨b, vs, e, by rw [upd_ne hb]; exact q, Dens.unl ha ut ul r⟩
  | .rot ds, _, h => by
    obtain ⟨b, vs, e, q, r⟩ := h
    refine ⟨b, vs, e, ?_, Dens.unl ha ut ul r⟩
    rcases q with (q | ⟨o, q⟩) | q
    · have hb : b ≠ a := fun z => by rw [z, ha] at q; cases q
      exact .inl (.inl (by rw [upd_ne hb]; exact q))
    · have hb : b ≠ a := fun z => by
        rw [z, ha] at q
        cases q
        exact ut _ rfl
      exact .inl (.inr ⟨o, by rw [upd_ne hb]; exact q⟩)
    · exact .inr q
  | .rol ds, _, h => by
    obtain ⟨b, vs, e, q, r⟩ := h
    refine ⟨b, vs, e, ?_, Dens.unl ha ut ul r⟩
    rcases q with ⟨o, q⟩ | q
    · have hb : b ≠ a := fun z => by
        rw [z, ha] at q
        cases q
        exact ul _ rfl
      exact .inl ⟨o, by rw [upd_ne hb]; exact q⟩
    · exact .inr q
  | .ref i, _, h => h
  | .ex _, _, h => h
theorem Dens.unl (ha : H a = some (.frz od u)) (ut : ∀ xs, u ≠ .tup xs) (ul : ∀ xs, u ≠ .lst xs) : ∀ {ds : List D} {vs : List V}, Dens K μ H ds vs → Dens K μ (upd H a u) ds vs
  | [], _, h => h
  | d :: ds, _, h => by
    obtain ⟨v, vr, e, q, r⟩ := h
    exact ⟨v, vr, e, Den.unl ha ut ul q, Dens.unl ha ut ul r⟩
end
theorem OR.unl (ha : H a = Option.some (.frz od u)) (ut : ∀ xs, u ≠ .tup xs) (ul : ∀ xs, u ≠ .lst xs) {b : Addr} {o : Ob} (hb : b ≠ a) (x : OR K μ H b o) : OR K μ (upd H a u) b o := by
  cases o with
  | lst ds => obtain ⟨vs, e, d⟩ := x; exact ⟨vs, by rw [upd_ne hb]; exact e, d.unl ha ut ul⟩
  | dct ds => obtain ⟨vs, e, e2, d⟩ := x; exact ⟨vs, by rw [upd_ne hb]; exact e, e2, d.unl ha ut ul⟩
  | dctT ds => obtain ⟨vs, e, e2, d⟩ := x; exact ⟨vs, by rw [upd_ne hb]; exact e, e2, d.unl ha ut ul⟩
  | dlk ds => obtain ⟨o, vs, e, e2, d⟩ := x; exact ⟨o, vs, by rw [upd_ne hb]; exact e, e2, d.unl ha ut ul⟩
  | dlkT ds => obtain ⟨o, vs, e, e2, d⟩ := x; exact ⟨o, vs, by rw [upd_ne hb]; exact e, e2, d.unl ha ut ul⟩
theorem RelS.unl {ρ : Rho} {σ : L2.St} (ha : H a = some (.frz od u)) (ut : ∀ xs, u ≠ .tup xs) (ul : ∀ xs, u ≠ .lst xs) (r : RelS K μ H ρ σ) : RelS K μ (upd H a u) ρ σ :=
  ⟨r.len, fun i d e => let ⟨v, h1, h2⟩ := r.get i d e; ⟨v, h1, h2.unl ha ut ul⟩⟩
theorem RelH.unl {h : Hh} {k : Nat} {ob : Ob} (ha : H a = some (.frz od u)) (ut : ∀ xs, u ≠ .tup xs) (ul : ∀ xs, u ≠ .lst xs) (r : RelH K μ H h) (hk : μ[k]? = some a) (hl : k < h.length) (new : OR K μ (upd H a u) a ob) : RelH K μ (upd H a u) (h.set k ob) := by
  refine ⟨by simp [r.len], r.dis, fun j o' e => ?_⟩
  by_cases hij : k = j
  · subst hij
    rw [List.getElem?_set_self hl] at e
    cases e
    exact ⟨a, hk, new⟩
  · rw [List.getElem?_set_ne hij] at e
    obtain ⟨b, e1, y⟩ := r.obj j o' e
    exact ⟨b, e1, y.unl ha ut ul (fun z => hij (r.dis k j a hk (by rw [e1, z])))⟩
/-- from the unlocked to the unlocked -/
theorem Step.unl {u0 : HO} (h0 : H a = some u0) (nt : ∀ xs, u0 ≠ .tup xs) (nf : ∀ x y, u0 ≠ .frz x y) (nx : ∀ fs, u0 ≠ .xd fs) (s : Step μ (upd H a (.frz od u)) μ' H1) : Step μ H μ' (upd H1 a u) := by
  refine ⟨s.ext, fun b xs e => ?_, fun b x y e => ?_, fun b xs e => ?_⟩
  · have hb : b ≠ a := fun z => by rw [z, h0] at e; exact nt _ (Option.some.inj e)
    rw [upd_ne hb]
    exact s.tup b xs (by rw [upd_ne hb]; exact e)
  · have hb : b ≠ a := fun z => by rw [z, h0] at e; exact nf _ _ (Option.some.inj e)
    rw [upd_ne hb]
    exact s.frz b x y (by rw [upd_ne hb]; exact e)
  · have hb : b ≠ a := fun z => by rw [z, h0] at e; exact nx _ (Option.some.inj e)
    rw [upd_ne hb]
    exact s.xd b xs (by rw [upd_ne hb]; exact e)
end
def lockH (k : Nat) (h : Hh) : Option Hh := match h[k]? with
  | some (.dct kvs) => some (h.set k (.dlk kvs))
  | some (.dctT kvs) => some (h.set k (.dlkT kvs))
  | _ => none
def unlockH (k : Nat) (h : Hh) : Option Hh := match h[k]? with
  | some (.dlk kvs) => some (h.set k (.dct kvs))
  | some (.dlkT kvs) => some (h.set k (.dctT kvs))
  | _ => none
/-- what is to be locked: slot i's -/
def lkIx (i : Nat) (ρ : Rho) : Option Nat := match ρ[i]? with
  | some (some (.ref k)) => some k
  | _ => none
def mLock (i : Nat) (b : MS) : MS := fun ρ h => match lkIx i ρ with
  | none => .bad
  | some k => match lockH k h with
    | none => .bad
    | some h1 => match b ρ h1 with
      | .nx ρ' h' => match unlockH k h' with
        | some h2 => .nx ρ' h2
        | none => .bad
      | .bk ρ' h' => match unlockH k h' with
        | some h2 => .bk ρ' h2
        | none => .bad
      | .ct ρ' h' => match unlockH k h' with
        | some h2 => .ct ρ' h2
        | none => .bad
      | .rt d h' => match unlockH k h' with
        | some h2 => .rt d h2
        | none => .bad
      | _ => .bad
section
variable {K : PySem.W.Frag} {μ : List Addr} {H : Hp} {h h1 : Hh} {k : Nat}
/-- lock and unlock, in both heaps -/
theorem lock_ok (rh : RelH K μ H h) (e : lockH k h = some h1) : ∃ a u, μ[k]? = some a ∧ H a = some u ∧ Mut (some u) ∧ ∀ od, Step μ H μ (upd H a (.frz od u)) ∧ RelH K μ (upd H a (.frz od u)) h1 ∧
    ∀ μ' H' h', Step μ (upd H a (.frz od u)) μ' H' → RelH K μ' H' h' → H' a = some (.frz od u) ∧ ∀ h2, unlockH k h' = some h2 → Step μ H μ' (upd H' a u) ∧ RelH K μ' (upd H' a u) h2 ∧
      (∀ d v, Den K μ' H' d v → Den K μ' (upd H' a u) d v) ∧ ∀ ρ σ, RelS K μ' H' ρ σ → RelS K μ' (upd H' a u) ρ σ := by
  unfold lockH at e
  split at e
  · rename_i kvs hk
    cases e
    obtain ⟨a, ha, ws, hw, ek, dv⟩ := rh.obj k _ hk
    refine ⟨a, .dK ws, ha, hw, trivial, fun od => ?_⟩
    have st : Step μ H μ (upd H a (.frz od (.dK ws))) := Step.set hw (fun _ z => by cases z) (fun _ _ z => by cases z) (fun _ z => by cases z)
    refine ⟨st, rh.put hk ha ⟨od, ws, upd_same, ek, dv.mono st⟩, fun μ' H' h' s' r' => ?_⟩
    have fz : H' a = some (.frz od (.dK ws)) := s'.frz a od (.dK ws) upd_same
    refine ⟨fz, fun h2 e2 => ?_⟩
    have nt : ∀ xs, (HO.dK ws) ≠ .tup xs := fun _ z => by cases z
    have nl : ∀ xs, (HO.dK ws) ≠ .lst xs := fun _ z => by cases z
    refine ⟨Step.unl hw nt (fun _ _ z => by cases z) (fun _ z => by cases z) s', ?_, fun d v q => q.unl fz nt nl, fun ρ σ q => q.unl fz nt nl⟩
    have hk' : μ'[k]? = some a := s'.get ha
    unfold unlockH at e2
    split at e2
    · rename_i kv2 hk2
      cases e2
      obtain ⟨b, hb, o2, ws2, hw2, ek2, dv2⟩ := r'.obj k _ hk2
      rw [hk'] at hb
      cases hb
      rw [fz] at hw2
      cases hw2
      exact r'.unl fz nt nl hk' (List.getElem?_eq_some_iff.mp hk2).1 ⟨ws, upd_same, ek2, dv2.unl fz nt nl⟩
    · rename_i kv2 hk2
      obtain ⟨b, hb, o2, ws2, hw2, _⟩ := r'.obj k _ hk2
      rw [hk'] at hb
      cases hb
      rw [fz] at hw2
      cases hw2
    · cases e2
  · rename_i kvs hk
    cases e
    obtain ⟨a, ha, ws, hw, ek, dv⟩ := rh.obj k _ hk
    refine ⟨a, .dT ws, ha, hw, trivial, fun od => ?_⟩
    have st : Step μ H μ (upd H a (.frz od (.dT ws))) := Step.set hw (fun _ z => by cases z) (fun _ _ z => by cases z) (fun _ z => by cases z)
    refine ⟨st, rh.put hk ha ⟨od, ws, upd_same, ek, dv.mono st⟩, fun μ' H' h' s' r' => ?_⟩
    have fz : H' a = some (.frz od (.dT ws)) := s'.frz a od (.dT ws) upd_same
    refine ⟨fz, fun h2 e2 => ?_⟩
    have nt : ∀ xs, (HO.dT ws) ≠ .tup xs := fun _ z => by cases z
    have nl : ∀ xs, (HO.dT ws) ≠ .lst xs := fun _ z => by cases z
    refine ⟨Step.unl hw nt (fun _ _ z => by cases z) (fun _ z => by cases z) s', ?_, fun d v q => q.unl fz nt nl, fun ρ σ q => q.unl fz nt nl⟩
    have hk' : μ'[k]? = some a := s'.get ha
    unfold unlockH at e2
    split at e2
    · rename_i kv2 hk2
      obtain ⟨b, hb, o2, ws2, hw2, _⟩ := r'.obj k _ hk2
      rw [hk'] at hb
      cases hb
      rw [fz] at hw2
      cases hw2
    · rename_i kv2 hk2
      cases e2
      obtain ⟨b, hb, o2, ws2, hw2, ek2, dv2⟩ := r'.obj k _ hk2
      rw [hk'] at hb
      cases hb
      rw [fz] at hw2
      cases hw2
      exact r'.unl fz nt nl hk' (List.getElem?_eq_some_iff.mp hk2).1 ⟨ws, upd_same, ek2, dv2.unl fz nt nl⟩
    · cases e2
  · cases e
end
section
variable {X : Cx} {ct : Ctb} {W : WX}
theorem ss_lock {st : Stmt} {b : MS} (i : Nat) (hb : SS X ct W st b) : SS X ct W st (mLock i b) :=
  (ps_lock hb).imp fun D σ H ⟨μ, ρ, h, rs, rh, p⟩ => by
    unfold mLock at p
    cases ek : lkIx i ρ with
    | none => rw [ek] at p; exact p.elim
    | some k =>
      rw [ek] at p
      dsimp only at p
      cases el : lockH k h with
      | none => rw [el] at p; exact p.elim
      | some h1 =>
        rw [el] at p
        dsimp only at p
        obtain ⟨a, u, ha, hu, mu, rest⟩ := lock_ok rh el
        refine ⟨a, u, hu, mu, fun od => ?_⟩
        obtain ⟨st, rh1, back⟩ := rest od
        refine ⟨μ, ρ, h1, rs.mono st, rh1, ?_⟩
        cases eb : b ρ h1 with
        | nx ρ' h' =>
          rw [eb] at p
          intro μ' H' σ' s' r' rs'
          obtain ⟨fz, q⟩ := back μ' H' h' s' r'
          refine ⟨fz, ?_⟩
          dsimp only at p
          cases e2 : unlockH k h' with
          | none => rw [e2] at p; exact p.elim
          | some h2 =>
            rw [e2] at p
            obtain ⟨q1, q2, q3, q4⟩ := q h2 e2
            exact p _ _ _ q1 q2 (q4 _ _ rs')
        | bk ρ' h' =>
          rw [eb] at p
          intro μ' H' σ' s' r' rs'
          obtain ⟨fz, q⟩ := back μ' H' h' s' r'
          refine ⟨fz, ?_⟩
          dsimp only at p
          cases e2 : unlockH k h' with
          | none => rw [e2] at p; exact p.elim
          | some h2 =>
            rw [e2] at p
            obtain ⟨q1, q2, q3, q4⟩ := q h2 e2
            exact p _ _ _ q1 q2 (q4 _ _ rs')
        | ct ρ' h' =>
          rw [eb] at p
          intro μ' H' σ' s' r' rs'
          obtain ⟨fz, q⟩ := back μ' H' h' s' r'
          refine ⟨fz, ?_⟩
          dsimp only at p
          cases e2 : unlockH k h' with
          | none => rw [e2] at p; exact p.elim
          | some h2 =>
            rw [e2] at p
            obtain ⟨q1, q2, q3, q4⟩ := q h2 e2
            exact p _ _ _ q1 q2 (q4 _ _ rs')
        | rt d h' =>
          rw [eb] at p
          intro μ' H' v s' r' dv
          obtain ⟨fz, q⟩ := back μ' H' h' s' r'
          refine ⟨fz, ?_⟩
          dsimp only at p
          cases e2 : unlockH k h' with
          | none => rw [e2] at p; exact p.elim
          | some h2 =>
            rw [e2] at p
            obtain ⟨q1, q2, q3, q4⟩ := q h2 e2
            exact p _ _ _ q1 q2 (q3 _ _ dv)
        | er x ρ' h' => rw [eb] at p; exact p.elim
        | bad => rw [eb] at p; exact p.elim
end
/-! ### what a locked dict gives -/
def kD : Key → D
  | .inl i => .int i
  | .inr x => .str x
theorem den_kD {K : PySem.W.Frag} {μ : List Addr} {H : Hp} : ∀ k : Key, Den K μ H (kD k) (kV k)
  | .inl _ => rfl
  | .inr _ => rfl
theorem dens_kD {K : PySem.W.Frag} {μ : List Addr} {H : Hp} : ∀ ks : List Key, Dens K μ H (ks.map kD) (ks.map kV)
  | [] => rfl
  | k :: ks => ⟨_, _, rfl, den_kD k, dens_kD ks⟩
theorem KDen.get {κ : Type} [DecidableEq κ] {K : PySem.W.Frag} {μ : List Addr} {H : Hp} : ∀ {kvs : List (κ × D)} {ws : List (κ × V)} {i : Nat} {k : κ} {d : D}, KDen K μ H kvs ws → kvs[i]? = some (k, d) → ∃ v, ws[i]? = some (k, v) ∧ Den K μ H d v
  | p :: r, ws, 0, k, d, h, e => by
    obtain ⟨v, s, rfl, dv, _⟩ := h
    simp at e
    subst e
    exact ⟨v, rfl, dv⟩
  | p :: r, ws, i + 1, k, d, h, e => by
    obtain ⟨v, s, rfl, _, h⟩ := h
    simpa using KDen.get (i := i) h (by simpa using e)
  | [], _, _, _, _, _, e => by simp at e
def jKeys (k : Nat) (n : Nat) : MIt := ⟨fun i h => match h[k]? with
  | some (.dlk kvs) => some ((kvs[i]?).map fun p => kD p.1)
  | some (.dlkT kvs) => some ((kvs[i]?).map fun p => .tup (p.1.map kD))
  | _ => none, n⟩
def jItems (k : Nat) (n : Nat) : MIt := ⟨fun i h => match h[k]? with
  | some (.dlk kvs) => some ((kvs[i]?).map fun p => .tup [kD p.1, p.2])
  | some (.dlkT kvs) => some ((kvs[i]?).map fun p => .tup [.tup (p.1.map kD), p.2])
  | _ => none, n⟩
section
variable {K : PySem.W.Frag} {μ : List Addr} {H : Hp} {h : Hh} {k n : Nat} {a : Addr} {o : Obj}
theorem at_dlk {μ' : List Addr} {H' : Hp} {h' : Hh} {ws : List (Key × V)} (hk : μ[k]? = some a) (hw : H a = some (.frz o (.dK ws))) (s : Step μ H μ' H') (r : RelH K μ' H' h') : (∃ kvs, h'[k]? = some (.dlk kvs) ∧ KDen K μ' H' kvs ws) ∨ (∀ kvs, h'[k]? ≠ some (.dlk kvs)) ∧ ∀ kvs, h'[k]? ≠ some (.dlkT kvs) := by
  have hw' := s.frz _ _ _ hw
  have hk' := s.get hk
  cases e : h'[k]? with
  | none => exact .inr ⟨fun _ z => (by cases z), fun _ z => (by cases z)⟩
  | some ob =>
    obtain ⟨b, hb, x⟩ := r.obj k ob e
    rw [hk'] at hb
    cases hb
    cases ob with
    | dlk kvs =>
      obtain ⟨o2, ws2, e1, e2, dd⟩ := x
      rw [hw'] at e1
      cases e1
      exact .inl ⟨kvs, rfl, kden_of e2 dd⟩
    | dlkT kvs =>
      obtain ⟨o2, ws2, e1, _⟩ := x
      rw [hw'] at e1
      cases e1
    | _ => exact .inr ⟨fun _ z => (by cases z), fun _ z => (by cases z)⟩
theorem at_dlkT {μ' : List Addr} {H' : Hp} {h' : Hh} {ws : List (List Key × V)} (hk : μ[k]? = some a) (hw : H a = some (.frz o (.dT ws))) (s : Step μ H μ' H') (r : RelH K μ' H' h') : (∃ kvs, h'[k]? = some (.dlkT kvs) ∧ KDen K μ' H' kvs ws) ∨ (∀ kvs, h'[k]? ≠ some (.dlk kvs)) ∧ ∀ kvs, h'[k]? ≠ some (.dlkT kvs) := by
  have hw' := s.frz _ _ _ hw
  have hk' := s.get hk
  cases e : h'[k]? with
  | none => exact .inr ⟨fun _ z => (by cases z), fun _ z => (by cases z)⟩
  | some ob =>
    obtain ⟨b, hb, x⟩ := r.obj k ob e
    rw [hk'] at hb
    cases hb
    cases ob with
    | dlkT kvs =>
      obtain ⟨o2, ws2, e1, e2, dd⟩ := x
      rw [hw'] at e1
      cases e1
      exact .inl ⟨kvs, rfl, kden_of e2 dd⟩
    | dlk kvs =>
      obtain ⟨o2, ws2, e1, _⟩ := x
      rw [hw'] at e1
      cases e1
    | _ => exact .inr ⟨fun _ z => (by cases z), fun _ z => (by cases z)⟩
theorem no_at {i : Nat} {x : Option D} {f : List (Key × D) → Option D} {g : List (List Key × D) → Option D} {h' : Hh} (n : (∀ kvs, h'[k]? ≠ some (.dlk kvs)) ∧ ∀ kvs, h'[k]? ≠ some (.dlkT kvs)) (e : (match h'[k]? with
  | some (.dlk kvs) => some (f kvs)
  | some (.dlkT kvs) => some (g kvs)
  | _ => none) = some x) : False := by
  split at e
  · rename_i e1; exact n.1 _ e1
  · rename_i e1; exact n.2 _ e1
  · cases e
theorem itr_keys {ws : List (Key × V)} (hk : μ[k]? = some a) (hw : H a = some (.frz o (.dK ws))) : ItR K μ H (Itk a o ws) (jKeys k n) where
  stop := fun i μ' H' h' s r e => by
    refine ⟨s.frz _ _ _ hw, ?_⟩
    rcases at_dlk hk hw s r with ⟨kvs, e1, kd⟩ | no
    · simp only [jKeys, e1] at e
      have : kvs[i]? = none := by simpa using e
      rw [kd.length]
      exact List.getElem?_eq_none_iff.mp this
    · exact (no_at (i := i) no e).elim
  go := fun i μ' H' h' x s r e => by
    rcases at_dlk hk hw s r with ⟨kvs, e1, kd⟩ | no
    · simp only [jKeys, e1] at e
      cases ep : kvs[i]? with
      | none => rw [ep] at e; cases e
      | some p =>
        obtain ⟨q, d⟩ := p
        rw [ep] at e
        cases e
        obtain ⟨v, e2, dv⟩ := kd.get ep
        refine ⟨⟨s.frz _ _ _ hw, (List.getElem?_eq_some_iff.mp e2).1⟩, fun y H'' hy => ?_⟩
        obtain ⟨rfl, k', v', e3, rfl⟩ := hy
        rw [e2] at e3
        cases e3
        exact ⟨Step.refl, r, den_kD q⟩
    · exact (no_at (i := i) no e).elim
theorem itr_keysT {ws : List (List Key × V)} (hk : μ[k]? = some a) (hw : H a = some (.frz o (.dT ws))) : ItR K μ H (Itkt a o ws) (jKeys k n) where
  stop := fun i μ' H' h' s r e => by
    refine ⟨s.frz _ _ _ hw, ?_⟩
    rcases at_dlkT hk hw s r with ⟨kvs, e1, kd⟩ | no
    · simp only [jKeys, e1] at e
      have : kvs[i]? = none := by simpa using e
      rw [kd.length]
      exact List.getElem?_eq_none_iff.mp this
    · exact (no_at (i := i) no e).elim
  go := fun i μ' H' h' x s r e => by
    rcases at_dlkT hk hw s r with ⟨kvs, e1, kd⟩ | no
    · simp only [jKeys, e1] at e
      cases ep : kvs[i]? with
      | none => rw [ep] at e; cases e
      | some p =>
        obtain ⟨q, d⟩ := p
        rw [ep] at e
        cases e
        obtain ⟨v, e2, dv⟩ := kd.get ep
        refine ⟨⟨s.frz _ _ _ hw, (List.getElem?_eq_some_iff.mp e2).1⟩, fun y H'' hy => ?_⟩
        obtain ⟨rfl, k', v', b, e3, rfl, hb⟩ := hy
        rw [e2] at e3
        cases e3
        exact ⟨Step.refl, r, b, _, rfl, hb, dens_kD q⟩
    · exact (no_at (i := i) no e).elim
end
section
variable {X : Cx} {ct : Ctb} {W : WX} {tg : Expr}
/-- the keys of a dict that is locked -/
def lkLen (d : D) (h : Hh) : Option (Nat × Nat) := match d with
  | .ref k => match h[k]? with
    | some (.dlk kvs) => some (k, kvs.length)
    | some (.dlkT kvs) => some (k, kvs.length)
    | _ => none
  | _ => none
def miKeys (m : ME) : MI := fun ρ h => (m ρ h).bind fun d h1 => match lkLen d h1 with
  | some (k, n) => .ok (jKeys k n) h1
  | none => .bad
theorem si_keys {e : Expr} {m : ME} (he : SE X ct W e m) : L2.PI X tg e (rdI X.K ct W (miKeys m)) :=
  (pi_keys he).imp fun σ H R ⟨μ, ρ, h, rs, rh, p⟩ => rdE.go rs rh p fun d h1 μ1 H1 v s1 rs1 rh1 dv p1 => by
    cases d with
    | ref k =>
      cases hk : h1[k]? with
      | none => simp only [lkLen, hk] at p1; exact p1.elim
      | some ob =>
        cases ob with
        | dlk kvs =>
          simp only [lkLen, hk] at p1
          obtain ⟨a, o, ws, rfl, ha, hw, _⟩ := den_dlk rh1 dv hk
          exact ⟨a, o, rfl, .inl ⟨ws, hw, p1.at rh1 _ (itr_keys ha hw)⟩⟩
        | dlkT kvs =>
          simp only [lkLen, hk] at p1
          obtain ⟨a, o, ws, rfl, ha, hw, _⟩ := den_dlkT rh1 dv hk
          exact ⟨a, o, rfl, .inr ⟨ws, hw, p1.at rh1 _ (itr_keysT ha hw)⟩⟩
        | _ => simp only [lkLen, hk] at p1; exact p1.elim
    | _ => exact p1.elim
end
end PI
/-! The pairs of a dict, its keys tuples. -/
namespace PI
open PySem PySem.Spec L2
open PyProof.Rows hiding St
def ItP (d : Addr) (o : Obj) (kvs : List (List Key × V)) : It where
  go i H := H d = some (.frz o (.dT kvs)) ∧ i < kvs.length
  yld i H x H' := ∃ T k v q, kvs[i]? = some (k, v) ∧ x = .ref T ∧ H T = none ∧ H q = some (.tup (k.map kV)) ∧ H' = upd H T (.tup [.ref q, v])
  stop i H := H d = some (.frz o (.dT kvs)) ∧ kvs.length ≤ i
section
variable {X : Cx} {pins : List (Addr × Obj)} {σ : L2.St} {H : Hp} {s : Shared} {d : Addr} {o : Obj}
theorem frzP {kvs : List (List Key × V)} (I : L2.Inv X pins σ H s) (h : H d = some (.frz o (.dT kvs))) :
    (d == sysModules) = false ∧ s.heap.get? d = some o ∧ o.ExactDict ∧ ∃ (es : Array DictEntry) (ep : Nat), o.data = .dict es ep ∧ es.size = kvs.length ∧
      ∀ (i : Nat) (k : List Key) (v : V), kvs[i]? = some (k, v) → ∃ (en : DictEntry) (q : Addr), es[i]? = some en ∧ en.key = .ref q ∧ H q = some (.tup (k.map kV)) ∧ RelV v en.val := by
  obtain ⟨hd, _, nosys, rows, pair, oo, es, ep, ho, exact, hdata, ents, _⟩ := I.hok d _ h
  obtain rfl : o = oo := Option.some.inj (hd.symm.trans ho)
  refine ⟨nosys, hd, exact, es, ep, hdata, (size_of_entries ents).trans (Paired.length pair).symm, fun i k v e => ?_⟩
  obtain ⟨row, at_i, _, tupl, rv⟩ := paired_get pair e
  have z := entry_at ents i
  rw [at_i] at z
  exact ⟨_, row.2.1, z, rfl, tupl, rv⟩
end
theorem turnP {P : Program} {w : World} {K : PySem.W.Frag} {d : Addr} {o : Obj} {es : Array DictEntry} {ep : Nat} {kvs : List (List Key × V)} {elts : List Expr} {kk : Nat} {tpos : Pos} (it : Addr) (hod : o.data = .dict es ep) :
    Turn P w K (.Tuple elts kk tpos) (ItP d o kvs) [it] it (fun i h => ∃ ok ov, IsItemIter h it d i kvs.length ep ok ov) where
  mem := List.mem_singleton.mpr rfl
  obj := fun i h st b hb => by
    obtain rfl : b = it := List.mem_singleton.mp hb
    obtain ⟨ok, ov, e⟩ := st
    exact ⟨_, e, fun v z => nomatch z⟩
  keep := fun i h h' st k => by
    obtain ⟨ok, ov, e⟩ := st
    exact ⟨ok, ov, k it (List.mem_singleton.mpr rfl) _ e⟩
  item := by
    intro X hP hw hK hc i pins s σ H E I hf st hg
    subst hP hw hK
    obtain ⟨hd, hi⟩ := hg
    obtain ⟨nosys, atd, exact, es2, ep2, hd2, hsz, ents⟩ := frzP I hd
    obtain ⟨rfl, rfl⟩ := dict_ep hod hd2
    obtain ⟨⟨k, v⟩, hkv⟩ : ∃ p, kvs[i]? = some p := ⟨kvs[i], List.getElem?_eq_getElem hi⟩
    obtain ⟨en, q, hen, hkey, hq, rv⟩ := ents i k v hkv
    obtain ⟨ok, ov, hit⟩ := st
    rw [← hsz] at hit
    have hlt : it < s.heap.objs.size := Heap.lt_size hit
    have hi2 : i < es2.size := by rw [hsz]; exact hi
    have een : es2[i] = en := by
      have := Array.getElem?_eq_getElem hi2
      rw [hen] at this
      exact (Option.some.inj this).symm
    refine DT.nextI hit ⟨o, atd, exact, hod⟩ hi2 fun h' out newT grown kept => ?_
    rw [een, hkey] at out newT
    refine ⟨_, rfl, wpAny_letOwnedTupleGo_items (s := { s with heap := h' }) out fun h'' hit2 sb => ?_⟩
    have atT : h''.get? s.heap.objs.size = some { cls := .type "tuple", data := .seq #[.ref q, en.val] } := (sb.2 _ (Nat.ne_of_gt hlt)).trans newT
    have new : ObjOk X.prog X.w (upd H s.heap.objs.size (.tup [.ref q, v])) h'' s.heap.objs.size (.tup [.ref q, v]) :=
      ⟨show 2 ≤ sizeLine by decide, [.ref q, en.val], .cons rfl (.cons rv .nil), ⟨_, atT, rfl, _, rfl⟩⟩
    have I1 : L2.Inv X pins σ (upd H s.heap.objs.size (.tup [.ref q, v])) { s with heap := h'' } :=
      I.turnedNew (t' := s.toks) (ch := [it]) (fun b ob hb e => (sb.2 b (fun z => hb (List.mem_singleton.mpr z))).trans (kept b ob (fun z => hb (List.mem_singleton.mpr z)) e)) hf (Nat.le_refl _) new
    refine ⟨.ref s.heap.objs.size, _, I1, rfl, ⟨_, k, v, q, hkv, rfl, I.hok.fresh (Nat.le_refl _), hq, rfl⟩, ⟨.ref q, en.val, ?_⟩, fun b hb => ?_⟩
    · rw [← hsz]; exact hit2
    · obtain rfl : b = it := List.mem_singleton.mp hb
      rw [upd_ne (Nat.ne_of_lt hlt)]
      exact (hf b (List.mem_singleton.mpr rfl)).1
  done := by
    intro X hP hw hK hc i pins s σ H E I hf st hg
    subst hP hw hK
    obtain ⟨hd, hi⟩ := hg
    obtain ⟨f0, f1, f2, f3, f4, f5⟩ := hf it (List.mem_singleton.mpr rfl)
    obtain ⟨nosys, atd, exact, es2, ep2, hd2, hsz, ents⟩ := frzP I hd
    obtain ⟨rfl, rfl⟩ := dict_ep hod hd2
    obtain ⟨ok, ov, hit⟩ := st
    rw [← hsz] at hit
    exact DT.endI (I.ok.hd hc) hit ⟨o, atd, exact, hod⟩ (by rw [hsz]; exact hi) fun h' eb => ⟨rfl, I.turned (t' := s.toks) (fun b ob hb e => eb b ob hb e) f0 f1 f3 f4 f5⟩
  self := fun A i s Q E st h => by
    obtain ⟨_, _, e⟩ := st
    exact PySem.W.kcp_self e h
section
variable {X : Cx} {ct : Ctb} {W : WX}
def iPairs (td : TE) : TI := fun σ H R => td σ H fun x H1 => ∃ d o, x = .ref d ∧ ((∃ kvs, H1 d = some (.frz o (.dK kvs)) ∧ R (Iti d o kvs) H1) ∨ ∃ kvs, H1 d = some (.frz o (.dT kvs)) ∧ R (ItP d o kvs) H1)
theorem pi_pairs {e : Expr} {td : TE} {apos cpos : Pos} {elts : List Expr} {kk : Nat} {tpos : Pos} (he : PE X e td) (hbase : attributeBase e "items" X.env (eval e X.env) = eval e X.env := by rfl) (hline : (apos.endLine == cpos.line) = true := by rfl) :
    L2.PI X (.Tuple elts kk tpos) (.Call (.Attribute e "items" apos) [] [] cpos) (iPairs td) := by
  constructor
  intro pins s σ H R I h
  refine wpAny_Call_method (T := "dict") (id := "dict.items") hbase rfl hline PySem.F.plainAttrs_dict PySem.F.slot_dict_items PySem.F.type_dict_items ?_
  refine thn (he.run pins s σ H _ I h) fun u s1 ⟨x, H1, I1, rx, d, o, ex, q⟩ => ?_
  subst ex
  obtain rfl : u = Value.ref d := rx
  rcases q with ⟨kvs, hd, q⟩ | ⟨kvs, hd, q⟩
  · obtain ⟨nosys, atd, exact, es, ep, vs, hdata, hsz, kv, at_⟩ := I1.frzK hd
    have hl := Paired.length kv
    refine ⟨at_.dictOf.typeIs, at_.dictOf.mapOf.noDict, ?_⟩
    have I2 : L2.Inv X pins σ H1 { s1 with heap := s1.heap.push { cls := .type "dict_items", data := .fields #[.ref d] } } := I1.kept (t' := s1.toks) fun b ob q => Heap.get?_push_of_some _ q
    have last : wpAny (model X.prog X.w) X.A (pyIter (.ref s1.heap.objs.size)) (PIE X pins σ (.Tuple elts kk tpos) R) X.xe { s1 with heap := s1.heap.push { cls := .type "dict_items", data := .fields #[.ref d] } } :=
      wpAny_pyIter_items (d := d) (knd := mixKind X.prog X.w) ⟨_, Heap.get?_push_size _ rfl, rfl, rfl⟩ (at_.push _) (pi_one (tk := s1.toks) I2 _ (turn_items _ hdata) ⟨.none, .none, by rw [hl]; exact Heap.get?_push_size _ rfl⟩ q)
    show wpAny _ _ (callWith cpos (.builtin "dict.items") [.ref d] [] []) _ X.xe s1
    exact method_meetsIn PySem.F.slot_dict_items PySem.F.entry_dict_items rfl (PySem.evalArgs_none ⟨rfl, at_.dictOf.typeIs, PySem.F.args_dict_items_1 _, _, meets_dict_items (mixKind X.prog X.w) d nosys, ⟨vs, at_.dictOf⟩, last⟩)
  · obtain ⟨nosys, atd, exact, es, ep, hdata, hsz, ents⟩ := frzP I1 hd
    have raw : DT.Raw s1.heap d es ep := ⟨o, atd, exact, hdata⟩
    refine ⟨raw.typeIs, fun b z => ?_, ?_⟩
    · cases z
      exact ⟨o, atd, exact.2.1⟩
    have I2 : L2.Inv X pins σ H1 { s1 with heap := s1.heap.push { cls := .type "dict_items", data := .fields #[.ref d] } } := I1.kept (t' := s1.toks) fun b ob q => Heap.get?_push_of_some _ q
    have last : wpAny (model X.prog X.w) X.A (pyIter (.ref s1.heap.objs.size)) (PIE X pins σ (.Tuple elts kk tpos) R) X.xe { s1 with heap := s1.heap.push { cls := .type "dict_items", data := .fields #[.ref d] } } :=
      DT.iterI ⟨_, Heap.get?_push_size _ rfl, rfl, rfl⟩ (raw.push _) (pi_one (tk := s1.toks) I2 _ (turnP _ hdata) ⟨.none, .none, by rw [← hsz]; exact Heap.get?_push_size _ rfl⟩ q)
    show wpAny _ _ (callWith cpos (.builtin "dict.items") [.ref d] [] []) _ X.xe s1
    exact method_meetsIn PySem.F.slot_dict_items PySem.F.entry_dict_items rfl (PySem.evalArgs_none ⟨rfl, raw.typeIs, PySem.F.args_dict_items_1 _, _, DT.meetsItems (es := es) (ep := ep) nosys, raw, last⟩)
end
section
variable {K : PySem.W.Frag} {μ : List Addr} {H : Hp} {h : Hh} {k n : Nat} {a : Addr} {o : Obj}
theorem itr_items {ws : List (Key × V)} (hk : μ[k]? = some a) (hw : H a = some (.frz o (.dK ws))) : ItR K μ H (Iti a o ws) (jItems k n) where
  stop := fun i μ' H' h' s r e => by
    refine ⟨s.frz _ _ _ hw, ?_⟩
    rcases at_dlk hk hw s r with ⟨kvs, e1, kd⟩ | no
    · simp only [jItems, e1] at e
      have : kvs[i]? = none := by simpa using e
      rw [kd.length]
      exact List.getElem?_eq_none_iff.mp this
    · exact (no_at (i := i) no e).elim
  go := fun i μ' H' h' x s r e => by
    rcases at_dlk hk hw s r with ⟨kvs, e1, kd⟩ | no
    · simp only [jItems, e1] at e
      cases ep : kvs[i]? with
      | none => rw [ep] at e; cases e
      | some p =>
        obtain ⟨q, d⟩ := p
        rw [ep] at e
        cases e
        obtain ⟨v, e2, dv⟩ := kd.get ep
        refine ⟨⟨s.frz _ _ _ hw, (List.getElem?_eq_some_iff.mp e2).1⟩, fun y H'' hy => ?_⟩
        obtain ⟨T, k', v', e3, rfl, hT, rfl⟩ := hy
        rw [e2] at e3
        cases e3
        have sn : Step μ' H' μ' (upd H' T (.tup [kV q, v])) := Step.new hT
        exact ⟨sn, r.new hT, T, _, rfl, upd_same, _, [v], rfl, den_kD q, v, [], rfl, dv.mono sn, rfl⟩
    · exact (no_at (i := i) no e).elim
theorem itr_itemsT {ws : List (List Key × V)} (hk : μ[k]? = some a) (hw : H a = some (.frz o (.dT ws))) : ItR K μ H (ItP a o ws) (jItems k n) where
  stop := fun i μ' H' h' s r e => by
    refine ⟨s.frz _ _ _ hw, ?_⟩
    rcases at_dlkT hk hw s r with ⟨kvs, e1, kd⟩ | no
    · simp only [jItems, e1] at e
      have : kvs[i]? = none := by simpa using e
      rw [kd.length]
      exact List.getElem?_eq_none_iff.mp this
    · exact (no_at (i := i) no e).elim
  go := fun i μ' H' h' x s r e => by
    rcases at_dlkT hk hw s r with ⟨kvs, e1, kd⟩ | no
    · simp only [jItems, e1] at e
      cases ep : kvs[i]? with
      | none => rw [ep] at e; cases e
      | some p =>
        obtain ⟨q, d⟩ := p
        rw [ep] at e
        cases e
        obtain ⟨v, e2, dv⟩ := kd.get ep
        refine ⟨⟨s.frz _ _ _ hw, (List.getElem?_eq_some_iff.mp e2).1⟩, fun y H'' hy => ?_⟩
        obtain ⟨T, k', v', b, e3, rfl, hT, hb, rfl⟩ := hy
        rw [e2] at e3
        cases e3
        have sn : Step μ' H' μ' (upd H' T (.tup [.ref b, v])) := Step.new hT
        exact ⟨sn, r.new hT, T, _, rfl, upd_same, _, [v], rfl, ⟨b, _, rfl, sn.tup _ _ hb, dens_kD q⟩, v, [], rfl, dv.mono sn, rfl⟩
    · exact (no_at (i := i) no e).elim
end
section
variable {X : Cx} {ct : Ctb} {W : WX}
def miItems (m : ME) : MI := fun ρ h => (m ρ h).bind fun d h1 => match lkLen d h1 with
  | some (k, n) => .ok (jItems k n) h1
  | none => .bad
theorem si_items {e : Expr} {m : ME} {apos cpos : Pos} {elts : List Expr} {kk : Nat} {tpos : Pos} (he : SE X ct W e m) (hbase : attributeBase e "items" X.env (eval e X.env) = eval e X.env := by rfl) (hline : (apos.endLine == cpos.line) = true := by rfl) :
    L2.PI X (.Tuple elts kk tpos) (.Call (.Attribute e "items" apos) [] [] cpos) (rdI X.K ct W (miItems m)) :=
  (pi_pairs he hbase hline).imp fun σ H R ⟨μ, ρ, h, rs, rh, p⟩ => rdE.go rs rh p fun d h1 μ1 H1 v s1 rs1 rh1 dv p1 => by
    cases d with
    | ref k =>
      cases hk : h1[k]? with
      | none => simp only [lkLen, hk] at p1; exact p1.elim
      | some ob =>
        cases ob with
        | dlk kvs =>
          simp only [lkLen, hk] at p1
          obtain ⟨a, o, ws, rfl, ha, hw, _⟩ := den_dlk rh1 dv hk
          exact ⟨a, o, rfl, .inl ⟨ws, hw, p1.at rh1 _ (itr_items ha hw)⟩⟩
        | dlkT kvs =>
          simp only [lkLen, hk] at p1
          obtain ⟨a, o, ws, rfl, ha, hw, _⟩ := den_dlkT rh1 dv hk
          exact ⟨a, o, rfl, .inr ⟨ws, hw, p1.at rh1 _ (itr_itemsT ha hw)⟩⟩
        | _ => simp only [lkLen, hk] at p1; exact p1.elim
    | _ => exact p1.elim
end
end PI
/-! sorted of data: a list's items, a dict's keys. -/
namespace PI
open PySem PySem.Spec L2
open PyProof.Rows hiding St
open PySem.W (dataLe EachIs AllAlike Sortable alike)
/-- items with their data, in the data's order -/
def sortD (xs : List D) (ds : List PyData) : List D := ((xs.zip ds).mergeSort (dataLe false (·.2))).map (·.1)
def isT1 : PyData → Bool
  | .tuple (_ :: _) => true
  | _ => false
def isO1 : PyData → Bool
  | .none => false
  | .tuple _ => false
  | _ => true
def canSort (ds : List PyData) : Bool := (ds.all fun a => ds.all fun b => alike a b) && (ds.all isT1 || ds.all isO1) && (ds.all fun d => decide (d.depth ≤ 60))
theorem canSort_ok {ds : List PyData} (h : canSort ds = true) : AllAlike ds ∧ Sortable ds ∧ ∀ d ∈ ds, d.depth ≤ 60 := by
  unfold canSort at h
  simp only [Bool.and_eq_true, Bool.or_eq_true, List.all_eq_true, decide_eq_true_eq] at h
  obtain ⟨⟨h1, h2⟩, h3⟩ := h
  refine ⟨h1, ?_, h3⟩
  rcases h2 with h2 | h2
  · refine .inl fun d hd => ?_
    have := h2 d hd
    unfold isT1 at this
    split at this
    · exact ⟨_, _, rfl⟩
    · cases this
  · refine .inr fun d hd => ⟨fun e => ?_, fun xs e => ?_⟩
    · have := h2 d hd
      rw [e] at this
      cases this
    · have := h2 d hd
      rw [e] at this
      cases this
section
variable {K : PySem.W.Frag} {μ : List Addr} {H : Hp} {h : Hh}
abbrev SB := V × D × PyData
def SR (K : PySem.W.Frag) (μ : List Addr) (H : Hp) (u : Value) (b : SB) : Prop := RelV b.1 u ∧ Den K μ H b.2.1 b.1
/-- the three side by side -/
theorem side : ∀ {its : List Value} {vs : List V} {xs : List D} {ds : List PyData} (n : Nat), Vals vs its → Dens K μ H xs vs → toPys h n xs = some ds →
    ∃ bs : List SB, EachIs (SR K μ H) its bs ∧ bs.map (·.2.1) = xs ∧ bs.map (·.2.2) = ds ∧ bs.map (fun b => (b.2.1, b.2.2)) = xs.zip ds ∧ ∀ b ∈ bs, toPy h n b.2.1 = some b.2.2
  | its, vs, [], ds, n, r, dd, e => by
    have dd : vs = [] := dd
    subst dd
    cases r
    unfold toPys at e
    cases e
    exact ⟨[], .nil, rfl, rfl, rfl, fun b hb => by cases hb⟩
  | its, vs, x :: xs, ds, n, r, dd, e => by
    obtain ⟨v, vr, rfl, dv, dr⟩ := dd
    cases r with
    | cons r1 r2 =>
      unfold toPys at e
      split at e
      · rename_i d ds' e1 e2
        cases e
        obtain ⟨bs, h1, h2, h3, h4, h5⟩ := side n r2 dr e2
        refine ⟨(v, x, d) :: bs, .cons ⟨r1, dv⟩ h1, by simp [h2], by simp [h3], by simp [h4], fun b hb => ?_⟩
        rcases List.mem_cons.mp hb with rfl | hb
        · exact e1
        · exact h5 b hb
      · cases e
theorem eachR : ∀ {out : List Value} {bs : List SB}, EachIs (SR K μ H) out bs → Vals (bs.map (·.1)) out ∧ Dens K μ H (bs.map (·.2.1)) (bs.map (·.1))
  | _, _, .nil => ⟨.nil, rfl⟩
  | _, _, .cons h t => ⟨.cons h.1 (eachR t).1, _, _, rfl, h.2, (eachR t).2⟩
theorem sort_map {bs : List SB} {xs : List D} {ds : List PyData} (h : bs.map (fun b => (b.2.1, b.2.2)) = xs.zip ds) : (bs.mergeSort (dataLe false (·.2.2))).map (·.2.1) = sortD xs ds := by
  unfold sortD
  rw [← h, ← List.map_mergeSort (r := dataLe false fun b : SB => b.2.2) (f := fun b : SB => (b.2.1, b.2.2)) (fun _ _ _ _ => rfl), List.map_map]
  rfl
theorem each_mono {α β : Type} {R R' : α → β → Prop} : ∀ {as : List α} {bs : List β}, (∀ a b, b ∈ bs → R a b → R' a b) → EachIs R as bs → EachIs R' as bs
  | _, _, _, .nil => .nil
  | _, _, h, .cons r t => .cons (h _ _ List.mem_cons_self r) (each_mono (fun a b hb => h a b (List.mem_cons_of_mem _ hb)) t)
end
/-- sorted(x) -/
def keysOf (d : D) (h : Hh) : Option (List D) := match d with
  | .ref k => match h[k]? with
    | some (.dctT kvs) => some (kvs.map fun p => .tup (p.1.map kD))
    | _ => none
  | _ => none
def bSorted : GN
  | [d], h => match keysOf d h with
    | some xs => (toPys h 60 xs).bind fun ds => if canSort ds = true then some (.ref h.length, h ++ [.lst (sortD xs ds)]) else none
    | none => if isLs d h = true then (seqD h d).bind fun xs => (toPys h 60 xs).bind fun ds => if canSort ds = true then some (.ref h.length, h ++ [.lst (sortD xs ds)]) else none else none
  | _, _ => none
section
variable {X : Cx} {pins : List (Addr × Obj)} {s : Shared} {σ : L2.St} {H : Hp} {μ : List Addr} {h : Hh}
theorem sort_list {k : Nat} (hr : Room k X.A) (I : L2.Inv X pins σ H s) {a : Addr} {vs : List V} {xs : List D} {ds : List PyData} {Q : VK} (rh : RelH X.K μ H h) (hs : SqL X.K H a vs) (dd : Dens X.K μ H xs vs) (e : toPys h 60 xs = some ds) (c : canSort ds = true)
    (q : ∀ ws, Dens X.K μ H (sortD xs ds) ws → ∀ p, H p = none → Q (.ref p) (upd H p (.lst ws))) : wpAny (model X.prog X.w) X.A (call (.builtin "sorted") [.ref a]) (EP X pins σ Q) X.xe s := by
  obtain ⟨its, rv, hl, hz⟩ := I.list hs
  obtain ⟨bs, h1, h2, h3, h4, h5⟩ := side 60 rv dd e
  obtain ⟨c1, c2, c3⟩ := canSort_ok c
  have er : EachIs (fun v (b : SB) => ∃ as, Reads s.heap v b.2.2 as) its bs := each_mono (fun u b hb r => Dp.reads I b.2.2 b.1 u (toPy_dp rh _ _ _ _ (h5 b hb) r.2) r.1) h1
  have lb : bs.length = vs.length := by rw [dd.length, ← h2, List.length_map]
  refine PySem.W.sorted_data (enc := fun b : SB => b.2.2) (R := SR X.K μ H) hl.isList h1 er (by rw [h3]; exact c1) (by rw [h3]; exact c2) (by rw [lb]; exact hz) (fun b hb => ?_) fun out lo eo => ?_
  · have := c3 b.2.2 (by rw [← h3]; exact List.mem_map_of_mem hb)
    have := hr.units
    omega
  · obtain ⟨r1, r2⟩ := eachR eo
    rw [sort_map h4] at r2
    obtain ⟨ep, he⟩ := PyProof.Rows.sortedAll_at s.heap its out.toArray
    have hlen : ((bs.mergeSort (dataLe false fun b : SB => b.2.2)).map (·.1)).length ≤ sizeLine := by rw [List.length_map, List.length_mergeSort, lb]; exact hz
    exact ⟨.ref _, _, I.laid (o := .lst ((bs.mergeSort (dataLe false fun b : SB => b.2.2)).map (·.1))) (t' := s.toks) (fun _ _ => PyProof.Rows.sortedAll_old) (Nat.le_succ _) ⟨hlen, out, ep, r1, he⟩, rfl, q _ r2 _ (I.hok.fresh (Nat.le_succ _))⟩
end
mutual
theorem reads_at {h : Heap} : ∀ {v : Value} {d : PyData} {as : List Addr}, Reads h v d as → ∀ a ∈ as, ∃ o, h.get? a = some o
  | _, _, _, .none, _, m => nomatch m
  | _, _, _, .bool _, _, m => nomatch m
  | _, _, _, .int _ _, _, m => nomatch m
  | _, _, _, .str _ _, _, m => nomatch m
  | _, _, _, .list h1 _ _ h4, a, m => by
    rcases List.mem_cons.mp m with rfl | m
    · exact ⟨_, h1⟩
    · exact readsAll_at h4 a m
  | _, _, _, .tuple _ _ _ h4, a, m => readsAll_at h4 a m
  | _, _, _, .dict h1 _ _ h4 h5, a, m => by
    rcases List.mem_append.mp m with m | m
    · rcases List.mem_cons.mp m with rfl | m
      · exact ⟨_, h1⟩
      · exact readsAll_at h4 a m
    · exact readsAll_at h5 a m
theorem readsAll_at {h : Heap} : ∀ {vs : List Value} {ds : List PyData} {as : List Addr}, ReadsAll h vs ds as → ∀ a ∈ as, ∃ o, h.get? a = some o
  | _, _, _, .nil, _, m => nomatch m
  | _, _, _, .cons h1 h2, a, m => by
    rcases List.mem_append.mp m with m | m
    · exact reads_at h1 a m
    · exact readsAll_at h2 a m
end
theorem stands {P : Program} {w : World} {H : Hp} {h : Heap} {a : Addr} {o : HO} (x : ObjOk P w H h a o) : ∃ u, h.get? a = some u := by
  cases o
  case lst => obtain ⟨_, _, _, _, e⟩ := x; exact ⟨_, e⟩
  case tup => obtain ⟨_, _, _, ob, e, _⟩ := x; exact ⟨ob, e⟩
  case dK => obtain ⟨_, _, _, _, ob, _, _, e, _⟩ := x; exact ⟨ob, e⟩
  case dT => obtain ⟨_, _, _, _, ob, _, _, e, _⟩ := x; exact ⟨ob, e⟩
  case set => obtain ⟨ob, _, _, _, e, _⟩ := x; exact ⟨ob, e⟩
  case ins => obtain ⟨_, _, _, e, _⟩ := x; exact ⟨_, e⟩
  case own => exact x
  case xd => obtain ⟨_, ⟨ob, _, _, e, _⟩, _⟩ := x; exact ⟨ob, e⟩
  case rng => obtain ⟨_, _, _, e⟩ := x; exact ⟨_, e⟩
  case frz => exact ⟨_, x.1⟩
  case tbl => exact ⟨_, x⟩
  case met => exact ⟨_, x⟩
  case ext => exact x.2.1
section
variable {X : Cx} {pins : List (Addr × Obj)} {s : Shared} {σ : L2.St} {H : Hp} {μ : List Addr} {h : Hh}
theorem sort_raw {k : Nat} (hc : X.calm = true) (hr : Room k X.A) (I : L2.Inv X pins σ H s) {d : Addr} {es : Array DictEntry} {ep : Nat} {vs : List V} {xs : List D} {ds : List PyData} {Q : VK} (raw : s.heap.DictRaw d es ep) (nosys : (d == sysModules) = false) (hz : es.size ≤ sizeLine)
    (rv : Vals vs (es.toList.map (·.key))) (rh : RelH X.K μ H h) (dd : Dens X.K μ H xs vs) (e : toPys h 60 xs = some ds) (c : canSort ds = true)
    (q : ∀ ws, Dens X.K μ H (sortD xs ds) ws → ∀ p, H p = none → Q (.ref p) (upd H p (.lst ws))) : wpAny (model X.prog X.w) X.A (call (.builtin "sorted") [.ref d]) (EP X pins σ Q) X.xe s := by
  obtain ⟨bs, h1, h2, h3, h4, h5⟩ := side 60 rv dd e
  obtain ⟨c1, c2, c3⟩ := canSort_ok c
  have er : EachIs (fun v (b : SB) => ∃ as, Reads s.heap v b.2.2 as) (es.toList.map (·.key)) bs := each_mono (fun u b hb r => Dp.reads I b.2.2 b.1 u (toPy_dp rh _ _ _ _ (h5 b hb) r.2) r.1) h1
  have lv : vs.length = es.size := by rw [rv.length, List.length_map, Array.length_toList]
  have lb : bs.length = es.size := by rw [← lv, dd.length, ← h2, List.length_map]
  refine PySem.Calls.call_function_entry PyProof.Rows.kind_sorted PyProof.Rows.plain_sorted PyProof.Rows.entry_sorted (PyProof.Rows.args_sorted1 _) ?_
  unfold Builtin.«sorted»
  refine wpAny_bind (m := checkCount "sorted" 1 1 _) (wpAny_pure ?_)
  refine wpAny_bind (PySem.W.kdu_collect (A := X.A.in1) (KdlSrc.rawDict (es := es) (ep := ep) nosys) (I.ok.hd hc) raw hz fun h' tk acc hk hacc => ?_)
  have eacc : acc.toList = es.toList.map (·.key) := by
    apply List.ext_getElem?
    intro i
    rw [Array.getElem?_toList, List.getElem?_map, Array.getElem?_toList]
    cases ea : acc[i]? with
    | none =>
      have : acc.size ≤ i := by simpa using ea
      rw [hacc.1] at this
      have : es[i]? = none := Array.getElem?_eq_none this
      rw [this]; rfl
    | some v =>
      obtain ⟨hi, ev⟩ := hacc.2 i v ea
      rw [Array.getElem?_eq_getElem hi, ev]
      rfl
  rw [eacc]
  refine wpAny_bind (wpAny_newList ?_ (by rw [List.length_map, Array.length_toList]; exact hz))
  have old : ∀ b o, s.heap.get? b = some o → (h'.push { cls := .type "list", data := .seq (es.toList.map (·.key)).toArray }).get? b = some o := fun b o z => Heap.get?_push_of_some _ (hk b o z)
  have free : ∀ b o, s.heap.get? b = some o → b < h'.objs.size := fun b o z => Heap.lt_size (hk b o z)
  have none1 : s.heap.get? h'.objs.size = none := by
    cases z : s.heap.get? h'.objs.size with
    | none => rfl
    | some o => exact absurd (free _ _ z) (Nat.lt_irrefl _)
  have none2 : H h'.objs.size = none := by
    cases z : H h'.objs.size with
    | none => rfl
    | some o =>
      obtain ⟨u, eu⟩ := stands (I.hok _ _ z)
      exact absurd (free _ _ eu) (Nat.lt_irrefl _)
  have at0 : (h'.push { cls := .type "list", data := .seq (es.toList.map (·.key)).toArray }).get? h'.objs.size = some (seqObj "list" (es.toList.map (·.key)).toArray 0) := Heap.get?_push_size _ rfl
  have er2 : EachIs (fun v (b : SB) => ∃ as, Reads (h'.push { cls := .type "list", data := .seq (es.toList.map (·.key)).toArray }) v b.2.2 as ∧ h'.objs.size ∉ as) (es.toList.map (·.key)) bs := er.mono fun v b ⟨as, r⟩ =>
    ⟨as, PyProof.Rows.Reads.keeps old r, fun m => by obtain ⟨o, z⟩ := reads_at r _ m; exact absurd (free _ _ z) (Nat.lt_irrefl _)⟩
  have sorts := PySem.W.list_sort_data (prog := X.prog) (w := X.w) (A := X.A.in1) (E := X.xe) (s := { s with heap := h'.push { cls := .type "list", data := .seq (es.toList.map (·.key)).toArray }, toks := tk }) (enc := fun b : SB => b.2.2) (R := SR X.K μ H)
    (Q := fun _ s' => EP X pins σ Q (.ref h'.objs.size) s') at0 h1 er2 (by rw [h3]; exact c1) (by rw [h3]; exact c2) (by rw [lb]; exact hz) (fun b hb => by
      have := c3 b.2.2 (by rw [← h3]; exact List.mem_map_of_mem hb)
      have := hr.units
      have e1 : X.A.in1.units = X.A.units + 1 := rfl
      omega) fun out lo eo => by
        obtain ⟨r1, r2⟩ := eachR eo
        rw [sort_map h4] at r2
        obtain ⟨ep', he⟩ := PyProof.Rows.sortedHeap_at (vs := es.toList.map (·.key)) (out := out.toArray) at0
        have hlen : ((bs.mergeSort (dataLe false fun b : SB => b.2.2)).map (·.1)).length ≤ sizeLine := by rw [List.length_map, List.length_mergeSort, lb]; exact hz
        exact ⟨.ref _, _, L2.Inv.laidN (s := s) (o := .lst ((bs.mergeSort (dataLe false fun b : SB => b.2.2)).map (·.1))) (t' := tk) I (fun b o z => by
          have lt := free b o z
          rw [PyProof.Rows.sortedHeap_old (Nat.ne_of_lt lt) (Nat.lt_trans lt (by rw [PyProof.Rows.size_push']; exact Nat.lt_succ_self _))]
          exact old b o z) none1 none2 ⟨hlen, out, ep', r1, he⟩, rfl, q _ r2 _ none2⟩
  exact wpAny_bind (wpAny_holding (wpAny_mono sorts (fun _ s' x => wpAny_pure ⟨_, rfl, x⟩) fun _ _ z => z))
end
end PI
namespace PI
open PySem PySem.Spec L2
open PyProof.Rows hiding St
section
variable {X : Cx} {pins : List (Addr × Obj)} {s : Shared} {σ : L2.St} {H : Hp} {μ : List Addr} {h : Hh}
theorem pairedT {H : Hp} {P : Program} {w : World} : ∀ {ws : List (List Key × V)} {xs : List (List Key × Addr × Value)}, Paired (fun (p : List Key × V) (q : List Key × Addr × Value) => p.1 = q.1 ∧ H q.2.1 = some (.tup (p.1.map kV)) ∧ RelV p.2 q.2.2) ws xs →
    ∃ qs : List Addr, qs = xs.map (·.2.1) ∧ Vals (qs.map V.ref) ((xs.map (entryOfKey (tupleKind (mixKind P w)))).map (·.key)) ∧ ∀ {K : PySem.W.Frag} {μ : List Addr} {kvs : List (List Key × D)}, KDen K μ H kvs ws → Dens K μ H (kvs.map fun p => .tup (p.1.map kD)) (qs.map V.ref)
  | _, _, .nil => ⟨[], rfl, .nil, fun {K μ kvs} kd => by
    cases kvs with
    | nil => rfl
    | cons p r => obtain ⟨_, _, z, _⟩ := kd; cases z⟩
  | _, _, .cons (b := q) r t => by
    obtain ⟨qs, e, v, f⟩ := pairedT (P := P) (w := w) t
    refine ⟨q.2.1 :: qs, by rw [e]; rfl, .cons rfl v, fun {K μ kvs} kd => ?_⟩
    cases kvs with
    | nil => exact absurd (show _ = [] from kd) (by simp)
    | cons p r' =>
      obtain ⟨v', s', z, _, kd'⟩ := kd
      cases z
      exact ⟨_, _, rfl, ⟨q.2.1, _, rfl, r.2.1, dens_kD _⟩, f kd'⟩
theorem cr_sortedM {k : Nat} (hc : X.calm = true) (hr : Room k X.A) : CallR X (.builtin "sorted") (rN X.K bSorted) := by
  intro pins s σ H xs us Q I r ⟨μ, h, as, da, rh, p⟩
  unfold bSorted at p
  split at p
  · rename_i d
    obtain ⟨v, rfl, dv⟩ := dens1 da
    split at p
    · rename_i ks ek
      cases e : toPys h 60 ks with
      | none => rw [e] at p; exact p.elim
      | some ds =>
        rw [e] at p
        simp only [Option.bind_some] at p
        split at p
        · rename_i c
          cases d with
          | ref i =>
            cases hi : h[i]? with
            | none => simp only [keysOf, hi] at ek; cases ek
            | some ob =>
              cases ob with
              | dctT kvs =>
                simp only [keysOf, hi] at ek
                cases ek
                obtain ⟨a, ws, rfl, _, ha, kd⟩ := den_dctT rh dv hi
                rw [Vals.ref1 r]
                obtain ⟨hz, nosys, rows, pr, o, es, ep, ho, exact, hdata, hes, _⟩ := I.hok a _ ha
                obtain ⟨qs, eq, vv, dd⟩ := pairedT (P := X.prog) (w := X.w) pr
                refine sort_raw hc hr I ⟨o, ho, exact, hdata⟩ nosys ?_ (by rw [hes]; exact vv) rh (dd kd) e c fun ws dw p' hp' => p.finL rh dw p' hp'
                rw [size_of_entries hes, ← Paired.length pr]
                exact hz
              | _ => simp only [keysOf, hi] at ek; cases ek
          | _ => cases ek
        · exact p.elim
    · split at p
      · rename_i hl
        cases e1 : seqD h d with
        | none => rw [e1] at p; exact p.elim
        | some ks =>
          rw [e1] at p
          simp only [Option.bind_some] at p
          cases e : toPys h 60 ks with
          | none => rw [e] at p; exact p.elim
          | some ds =>
            rw [e] at p
            simp only [Option.bind_some] at p
            split at p
            · rename_i c
              obtain ⟨a, vs, rfl, q, dd⟩ := seqL_ok rh dv hl e1
              rw [Vals.ref1 r]
              exact sort_list hr I rh q dd e c fun ws dw p' hp' => p.finL rh dw p' hp'
            · exact p.elim
      · exact p.elim
  · exact p.elim
end
end PI
/-! is True; list.index; written dicts; a tuple many times. -/
namespace PI
open PySem PySem.Spec L2
open PyProof.Rows hiding St
section
variable {X : Cx} {ct : Ctb} {W : WX}
def oIsB : G2
  | .bl a, .bl b, h => some (.bl (a == b), h)
  | _, _, _ => none
def oNotB : G2
  | .bl a, .bl b, h => some (.bl (!(a == b)), h)
  | _, _, _ => none
theorem op_isB : OpR X (compareOp .Is) (r2 X.K oIsB) := by
  intro pins s σ H x y v u Q I rx ry ⟨μ, h, a, b, da, db, rh, p⟩
  unfold oIsB at p
  split at p
  · rename_i a b
    cases da.to_bl
    cases db.to_bl
    obtain rfl : v = .bool a := rx
    obtain rfl : u = .bool b := ry
    show wpAny _ _ ((isSame (.bool a) (.bool b)) >>= fun z => pure (Value.bool z)) _ _ s
    refine wpAny_bind (wpAny_isSame_plain (by rfl) (wpAny_pure ⟨.bl _, H, I, rfl, ?_⟩))
    have e : (Value.bool a == Value.bool b) = (a == b) := by cases a <;> cases b <;> rfl
    rw [e]
    exact p.fin rh rfl
  · exact p.elim
theorem op_notB : OpR X (compareOp .IsNot) (r2 X.K oNotB) := by
  intro pins s σ H x y v u Q I rx ry ⟨μ, h, a, b, da, db, rh, p⟩
  unfold oNotB at p
  split at p
  · rename_i a b
    cases da.to_bl
    cases db.to_bl
    obtain rfl : v = .bool a := rx
    obtain rfl : u = .bool b := ry
    show wpAny _ _ ((isSame (.bool a) (.bool b)) >>= fun z => pure (Value.bool (!z))) _ _ s
    refine wpAny_bind (wpAny_isSame_plain (by rfl) (wpAny_pure ⟨.bl _, H, I, rfl, ?_⟩))
    have e : (Value.bool a == Value.bool b) = (a == b) := by cases a <;> cases b <;> rfl
    rw [e]
    exact p.fin rh rfl
  · exact p.elim
/-- the first place of an equal item -/
def lIndex : D → List D → Hh → Option (D × Hh)
  | .ref i, [d], h => match h[i]? with
    | some (.lst xs) => match toPy h 60 d, toPys h 60 xs with
      | some e, some es => if SeqAt.shaped e = true ∧ SeqAt.shaped (.list es) = true then (es.findIdx? fun z => PyData.eqv z e).map fun j => (.int (j : Nat), h) else none
      | _, _ => none
    | _ => none
  | _, _, _ => none
theorem mt_indexM {k : Nat} (hr : Room k X.A) : MtR X "list.index" (rM X.K lIndex) := by
  intro pins s σ H x xs v us Q I rx rv ⟨μ, h, a, as, da, das, rh, p⟩
  unfold lIndex at p
  split at p
  · split at p
    · rename_i ys hi
      split at p
      · rename_i e es ed eds
        split at p
        · rename_i c
          cases ej : es.findIdx? (fun z => PyData.eqv z e) with
          | none => rw [ej] at p; exact p.elim
          | some j =>
            rw [ej] at p
            obtain ⟨b, vs, rfl, ha, hv, dd⟩ := den_lst rh da hi
            obtain ⟨w, rfl, dw⟩ := dens1 das
            obtain ⟨hj, hz, hno⟩ := List.findIdx?_eq_some_iff_getElem.mp ej
            refine mt_indexD (by have := hr.un; omega) pins s σ H _ _ v us Q I rx rv ⟨b, w, e, es, j, es[j], rfl, rfl, .lst (SqL.of hv) (toPys_dp rh _ _ _ _ eds dd), toPy_dp rh _ _ _ _ ed dw, c.2, c.1, List.getElem?_eq_getElem hj, hz, fun m z' hm ez => ?_, p.fin rh rfl⟩
            obtain ⟨hm', rfl⟩ := List.getElem?_eq_some_iff.mp ez
            simpa using hno m hm
        · exact p.elim
      · exact p.elim
    · exact p.elim
  · exact p.elim
/-! ### a written dict -/
def mergeD (kvs : List (Key × D)) (more : List (Key × D)) : List (Key × D) := more.foldl (fun acc kv => putD acc kv.1 kv.2) kvs
theorem merge_ok {K : PySem.W.Frag} {μ : List Addr} {H : Hp} : ∀ {more : List (Key × D)} {mw : List (Key × V)} {kvs : List (Key × D)} {ws : List (Key × V)}, KDen K μ H more mw → KDen K μ H kvs ws → KDen K μ H (mergeD kvs more) (mergeK ws mw)
  | [], mw, kvs, ws, h, g => by
    have h : mw = [] := h
    rw [h]; exact g
  | p :: r, mw, kvs, ws, h, g => by
    obtain ⟨v, s, rfl, d, h⟩ := h
    exact merge_ok (more := r) (mw := s) (kvs := putD kvs p.1 p.2) (ws := putK ws p.1 v) h (g.put d)
/-- keys that are written, values in their turn -/
def PrM (K : PySem.W.Frag) (ct : Ctb) (W : WX) (trs : List (TE × TE)) (keys : List Key) (m : MA) : Prop := ∀ σ H (Q : List (V × V) → Hp → Prop),
  (∃ μ ρ h, RelS K μ H ρ σ ∧ RelH K μ H h ∧ PO K ct W σ μ H (fun ds _ μ' H' => ds.length = keys.length ∧ ∀ vs, Dens K μ' H' ds vs → Q ((keys.map kV).zip vs) H') (m ρ h)) → tPairs trs σ H Q
structure SPr (X : Cx) (ct : Ctb) (W : WX) (pos : Pos) (ks : List (Option Expr)) (vs : List Expr) (keys : List Key) (m : MA) : Prop where
  ex : ∃ trs, PPs X pos ks vs trs ∧ PrM X.K ct W trs keys m
theorem spr_nil {pos : Pos} : SPr X ct W pos [] [] [] mNil := ⟨[], pps_nil, fun σ H Q ⟨μ, ρ, h, rs, rh, p⟩ => (p.at rh).2 [] rfl⟩
theorem spr_cons {pos : Pos} {k v : Expr} {ks : List (Option Expr)} {vs : List Expr} {key : Key} {keys : List Key} {m : ME} {r : MA} (hk : PE X k (tC (kV key))) (hv : SE X ct W v m) (hr : SPr X ct W pos ks vs keys r) : SPr X ct W pos (some k :: ks) (v :: vs) (key :: keys) (mCons m r) := by
  obtain ⟨trs, h1, h2⟩ := hr.ex
  refine ⟨_, pps_cons hk hv h1, fun σ H Q ⟨μ, ρ, h, rs, rh, p⟩ => ?_⟩
  refine rdE.go rs rh p fun d h1 μ1 H1 v s1 rs1 rh1 dv p1 => h2 σ H1 _ ⟨μ1, ρ, h1, rs1, rh1, (PO.bind p1).mono fun ds h2 μ2 H2 s2 rh2 p2 => ?_⟩
  obtain ⟨hl, hq⟩ := p2.at rh2
  refine ⟨by simpa using hl, fun ws dws => hq (v :: ws) ⟨v, ws, rfl, dv.mono s2, dws⟩⟩
def mDisp (keys : List Key) (m : MA) : ME := fun ρ h => (m ρ (h ++ [.dct []])).bind fun ds h1 => match h1[h.length]? with
  | some (.dct []) => if ds.length = keys.length ∧ keys.length ≤ 15 then .ok (.ref h.length) (h1.set h.length (.dct (mergeD [] (keys.zip ds)))) else .bad
  | _ => .bad
theorem kden_zip {K : PySem.W.Frag} {μ : List Addr} {H : Hp} : ∀ {keys : List Key} {ds : List D} {vs : List V}, ds.length = keys.length → Dens K μ H ds vs → KDen K μ H (keys.zip ds) (keys.zip vs)
  | [], ds, vs, _, _ => by simp [KDen]
  | k :: ks, [], vs, e, _ => by simp at e
  | k :: ks, d :: ds, vs, e, dd => by
    obtain ⟨v, r, rfl, dv, dr⟩ := dd
    exact ⟨v, _, rfl, dv, kden_zip (by simpa using e) dr⟩
theorem zip_kV : ∀ (keys : List Key) (vs : List V), (keys.map kV).zip vs = (keys.zip vs).map fun kv => (kV kv.1, kv.2)
  | [], _ => rfl
  | k :: ks, [] => rfl
  | k :: ks, v :: vs => by simp [zip_kV ks vs]
theorem se_disp {ks : List (Option Expr)} {vs : List Expr} {pos : Pos} {keys : List Key} {m : MA} (hp : SPr X ct W pos ks vs keys m) (hall : ks.all (·.isSome) = true) (hl : ks.length = vs.length) (h0 : ks ≠ []) (h15 : ks.length ≤ 15) : SE X ct W (.Dict ks vs pos) (mDisp keys m) := by
  obtain ⟨trs, h1, h2⟩ := hp.ex
  refine L2.PE.imp (pe_disp h1 hall hl h0 h15) fun σ H Q ⟨μ, ρ, h, rs, rh, p⟩ q hq => ?_
  have st : Step μ H (μ ++ [q]) (upd H q (.dK [])) := Step.newT hq
  have hk : (μ ++ [q])[h.length]? = some q := by rw [← rh.len]; simp
  have p0 := PO.step st (PO.bind p)
  refine h2 σ _ _ ⟨μ ++ [q], ρ, h ++ [.dct []], rs.mono st, rh.push (ob := .dct []) hq ⟨[], upd_same, rfl, rfl⟩, p0.mono fun ds h3 μ3 H3 s3 rh3 p3 => ?_⟩
  split at p3
  · rename_i e3
    split at p3
    · rename_i c
      obtain ⟨c1, c2⟩ := c
      refine ⟨c1, fun ws dw => ?_⟩
      obtain ⟨b, hb, z, hz, ez, _⟩ := rh3.obj _ _ e3
      rw [s3.get hk] at hb
      cases hb
      have z0 : z = [] := by simpa using ez
      subst z0
      refine ⟨hz, keys.zip ws, zip_kV keys ws, by rw [List.length_zip]; omega, ?_⟩
      have sp : Step μ3 H3 μ3 (upd H3 q (.dK (mergeK [] (keys.zip ws)))) := Step.set hz (fun _ z => by cases z) (fun _ _ z => by cases z) (fun _ z => by cases z)
      have kd := (merge_ok (kvs := []) (ws := []) (kden_zip c1 dw) rfl).mono sp
      exact p3 μ3 _ sp (rh3.put e3 (s3.get hk) ⟨_, upd_same, kd.keys, kd.vals⟩) _ ⟨q, rfl, s3.get hk⟩
    · exact p3.elim
  · exact p3.elim
/-! ### a tuple many times -/
theorem tuple_mul1 (l : Addr) (items : Array Value) (n : Nat) (dd : Option Addr) (sl : Array (Option Value)) (x : Int) (u : Tok) (c0 : (decide (x < -(2 ^ 63)) || decide (x ≥ 2 ^ 63)) = false) (c1 : (items.isEmpty || x == 1) = true) :
    Meets (Builtin.«tuple.__mul__» ⟨[.ref l, .int x u], []⟩) (fun _ R s => s.heap.get? l = some { cls := .type "tuple", dict := dd, data := .seq items n, slots := sl } ∧
      R (.ok (.ret (.ref l))) s) :=
  .of_wp fun prog w A R s h => by
    obtain ⟨hp, g, d, tk, os⟩ := s
    obtain ⟨hl, h⟩ := h
    have f1 := AutoSeq1.idx_int
    wp_walk using wpAny_loadPart' hl
    refine wpAny_ite_false (decide_eq_false (by rw [c0]; exact Bool.false_ne_true)) ?_
    wp_walk using wpAny_loadPart' hl
    exact ⟨_, rfl, h⟩
theorem tuple_mul0 (l : Addr) (items : Array Value) (n : Nat) (dd : Option Addr) (sl : Array (Option Value)) (x : Int) (u : Tok) (c0 : (decide (x < -(2 ^ 63)) || decide (x ≥ 2 ^ 63)) = false) (c1 : (items.isEmpty || x == 1) = false) (c2 : (decide (x ≤ 0) || items.isEmpty) = true) :
    Meets (Builtin.«tuple.__mul__» ⟨[.ref l, .int x u], []⟩) (fun _ R s => s.heap.get? l = some { cls := .type "tuple", dict := dd, data := .seq items n, slots := sl } ∧
      R (.ok (.ret (Value.ref s.heap.objs.size))) { s with heap := s.heap.push { cls := Value.type "tuple", data := Data.seq #[] }, toks := s.toks }) :=
  .of_wp fun prog w A R s h => by
    obtain ⟨hp, g, d, tk, os⟩ := s
    obtain ⟨hl, h⟩ := h
    have f1 := AutoSeq1.idx_int
    wp_walk using wpAny_loadPart' hl
    refine wpAny_ite_false (decide_eq_false (by rw [c0]; exact Bool.false_ne_true)) ?_
    wp_walk using wpAny_loadPart' hl
    exact ⟨_, rfl, h⟩
def rRepW (K : PySem.W.Frag) : R2 := fun x y H Q => ∃ l k xs, x = .ref l ∧ y = .int k ∧ SqT K H l xs ∧ xs ≠ [] ∧ -1000000 ≤ k ∧ ((xs.length : Nat) : Int) * k ≤ 1000000 ∧ (k = 1 → Q (.ref l) H) ∧ ∀ p, H p = none → Q (.ref p) (upd H p (.tup (List.replicate k.toNat xs).flatten))
theorem op_repW : OpR X (binaryOp .Mult) (rRepW X.K) := by
  rintro pins s σ H x y v u Q I rx ry ⟨l, k, xs, rfl, rfl, seq, some_, two, size_, q1, q⟩
  cases rx
  obtain ⟨t, rfl⟩ := ry
  obtain ⟨its, r, ⟨⟨cls, dd, data, sl⟩, at_l, hc, n, hd⟩, _⟩ := I.tuple seq
  simp only at hc hd
  subst hc hd
  have same : its.length = xs.length := r.length.symm
  have pos : 0 < xs.length := List.length_pos_iff.mpr some_
  have full : its.toArray.isEmpty = false := by
    cases its with
    | nil => rw [← same] at pos; exact absurd pos (by decide)
    | cons => rfl
  have count : its.toArray.size = xs.length := by rw [List.size_toArray, same]
  have klt : k ≤ 1000000 := by
    by_cases k0 : k ≤ 0
    · omega
    · have : 1 * k ≤ ((xs.length : Nat) : Int) * k := Int.mul_le_mul_of_nonneg_right (by omega) (by omega)
      omega
  have nat_ : k.toNat * xs.length ≤ 1000000 := by
    by_cases k0 : k ≤ 0
    · have : k.toNat = 0 := by omega
      rw [this]; omega
    · have : ((k.toNat * xs.length : Nat) : Int) ≤ 1000000 := by
        rw [Int.natCast_mul, Int.toNat_of_nonneg (by omega), Int.mul_comm]
        exact size_
      omega
  have fits : (List.replicate k.toNat its).flatten.length ≤ sizeLine := by
    rw [PyProof.Rows.lm_len_rep_flat, same, sizeLine_eq]
    omega
  have fits2 : (List.replicate k.toNat xs).flatten.length ≤ sizeLine := by
    rw [PyProof.Rows.lm_len_rep_flat, sizeLine_eq]
    omega
  have a0 : (decide (k < -(2 ^ 63)) || decide (k ≥ 2 ^ 63)) = false := by rw [Bool.or_eq_false_iff]; exact ⟨decide_eq_false (by omega), decide_eq_false (by omega)⟩
  refine wpAny_binaryOp_repeat_ref (T := "tuple") (U := "int") (by decide) ⟨_, at_l, rfl⟩ (fun s' => typeIs_int s' k t) noFill_tuple_mul PySem.F.fills_int_mul PySem.F.slot_int_rmul repeat_tuple PySem.F.slot_int_index.lookup ?_
  refine call_meets PySem.F.slot_int_rmul (typeIs_int s k t) PySem.F.entry_int_rmul (PySem.F.args_int_rmul_2 _ _) (int_rmul_tuple k t l its.toArray n dd sl) ⟨at_l, rfl, ⟨_, at_l, rfl⟩, ?_⟩
  by_cases k1 : k = 1
  · have a1 : (its.toArray.isEmpty || k == 1) = true := by rw [k1]; simp
    refine call_meets PySem.F.slot_tuple_mul ⟨_, at_l, rfl⟩ PySem.F.entry_tuple_mul (PySem.F.args_tuple_mul_2 _ _) (tuple_mul1 l its.toArray n dd sl k t a0 a1) ⟨at_l, ?_⟩
    exact ⟨.ref l, _, I, rfl, q1 k1⟩
  have a1 : (its.toArray.isEmpty || k == 1) = false := by rw [full, Bool.false_or]; exact beq_eq_false_iff_ne.mpr k1
  by_cases k0 : k ≤ 0
  · have a2 : (decide (k ≤ 0) || its.toArray.isEmpty) = true := by rw [decide_eq_true k0]; rfl
    refine call_meets PySem.F.slot_tuple_mul ⟨_, at_l, rfl⟩ PySem.F.entry_tuple_mul (PySem.F.args_tuple_mul_2 _ _) (tuple_mul0 l its.toArray n dd sl k t a0 a1 a2) ⟨at_l, ?_⟩
    have e0 : (List.replicate k.toNat xs).flatten = [] := by
      have : k.toNat = 0 := by omega
      rw [this]; rfl
    have q := q _ (I.hok.fresh (Nat.le_refl _))
    rw [e0] at q fits2
    exact ⟨.ref s.heap.objs.size, _, I.laid (t' := s.toks) (o := .tup []) (fun b ob z => Heap.get?_push_of_some _ z) (Nat.le_refl _) ⟨fits2, [], .nil, IsTup.new _ _⟩, rfl, q⟩
  have a2 : (decide (k ≤ 0) || its.toArray.isEmpty) = false := by rw [full, Bool.or_false]; exact decide_eq_false k0
  have a3 : Builtin.Tuple.tupleTooMany (((its.toArray.size : Nat) : Int) * k) = false := by
    unfold Builtin.Tuple.tupleTooMany
    rw [count, sizeLine_eq]
    exact decide_eq_false (by omega)
  have a4 : ¬ ((its.toArray.size : Nat) : Int) * k > (2 ^ 63 - 1) / 8 := by rw [count]; omega
  have mul := tuple_mulW l its.toArray n dd sl k t a0 a1 a2 a4 a3 (by rw [size_rep, List.size_toArray]; exact fits)
  refine call_meets PySem.F.slot_tuple_mul ⟨_, at_l, rfl⟩ PySem.F.entry_tuple_mul (PySem.F.args_tuple_mul_2 _ _) mul ⟨at_l, ?_⟩
  rw [size_rep]
  exact ⟨.ref s.heap.objs.size, _, I.laid (t' := s.toks) (o := .tup (List.replicate k.toNat xs).flatten) (fun b ob z => Heap.get?_push_of_some _ z) (Nat.le_refl _) ⟨fits2, _, r.rep k.toNat, IsTup.new _ _⟩, rfl, q _ (I.hok.fresh (Nat.le_refl _))⟩
/-- any product -/
def oMulA : G2 := fun a b h => match a, b with
  | .tup xs, .int k => if xs ≠ [] ∧ -1000000 ≤ k ∧ ((xs.length : Nat) : Int) * k ≤ 1000000 then some (.tup (List.replicate k.toNat xs).flatten, h) else none
  | a, b => oMul a b h
theorem op_mulA : OpR X (binaryOp .Mult) (r2 X.K oMulA) := by
  intro pins s σ H x y v u Q I rx ry ⟨μ, h, a, b, da, db, rh, p⟩
  unfold oMulA at p
  split at p
  · split at p
    · rename_i xs k c
      obtain ⟨l, vs, rfl, q, dd⟩ := da
      cases db.to_int
      refine op_repW pins s σ H _ _ v u Q I rx ry ⟨l, k, vs, rfl, rfl, SqT.of q, fun z => c.1 (dd.nil_iff.mp z), c.2.1, by rw [dd.length]; exact c.2.2, fun e => ?_, fun p' hp' => p.finT rh (dd.rep k.toNat) p' hp'⟩
      subst e
      have e1 : (List.replicate (1 : Int).toNat xs).flatten = xs := by simp
      rw [e1] at p
      exact p _ _ Step.refl rh _ ⟨l, vs, rfl, q, dd⟩
    · exact p.elim
  · exact op_mulM pins s σ H x y v u Q I rx ry ⟨μ, h, _, _, da, db, rh, p⟩
end
end PI
/-! Order of tuples of numbers; how the newer mirrors are reckoned. -/
namespace PI
open PySem PySem.Spec L2
open PyProof.Rows hiding St
def geL (ns ms : List Int) : Bool := Ob.lexAt (fun j => decide (ns.getD j 0 = ms.getD j 0)) (fun j => decide (ms.getD j 0 ≤ ns.getD j 0)) (decide (ms.length ≤ ns.length)) 0 (min ns.length ms.length)
theorem geL3 (a b c x y z : Int) : geL [a, b, c] [x, y, z] = if a = x then if b = y then decide (z ≤ c) else decide (y ≤ b) else decide (x ≤ a) := by
  simp only [geL, Ob.lexAt, List.length_cons, List.length_nil, List.getD_cons_zero, List.getD_cons_succ, decide_eq_true_eq, Nat.min_self, Nat.zero_add]
  by_cases h1 : a = x <;> by_cases h2 : b = y <;> by_cases h3 : c = z <;> simp [h1, h2, h3]
section
variable {X : Cx} {ct : Ctb} {W : WX}
theorem ge_tup {k : Nat} (hr : Room k X.A) {pins : List (Addr × Obj)} {s : Shared} {σ : L2.St} {H : Hp} {a b : Addr} {ns ms : List Int} {Q : VK} (I : L2.Inv X pins σ H s) (ha : SqT X.K H a (ns.map V.int)) (hb : SqT X.K H b (ms.map V.int)) (q : Q (.bl (geL ns ms)) H) :
    wpAny (model X.prog X.w) X.A (compareOp .GtE (.ref a) (.ref b)) (EP X pins σ Q) X.xe s := by
  obtain ⟨xs, rx, px, _⟩ := I.tuple ha
  obtain ⟨ys, ry, py, _⟩ := I.tuple hb
  have ix : IntsAre xs ns := rx.ints
  have iy : IntsAre ys ms := ry.ints
  have sx : xs.toArray.size = ns.length := by rw [List.size_toArray]; exact ix.length
  have sy : ys.toArray.size = ms.length := by rw [List.size_toArray]; exact iy.length
  have gx : ∀ j (hj : j < xs.toArray.size), ∃ t, xs.toArray[j] = .int (ns.getD j 0) t := fun j hj => PyProof.Rows.IntsAre.int_at ix _ _ (by simp at hj; simp [hj])
  have gy : ∀ j (hj : j < ys.toArray.size), ∃ t, ys.toArray[j] = .int (ms.getD j 0) t := fun j hj => PyProof.Rows.IntsAre.int_at iy _ _ (by simp at hj; simp [hj])
  have beq_ : ∀ m n : Int, (m == n) = decide (m = n) := fun m n => by
    by_cases e : m = n
    · rw [decide_eq_true e]; exact beq_iff_eq.mpr e
    · rw [decide_eq_false e]; exact beq_eq_false_iff_ne.mpr e
  have rule := Ob.RcOp.tuples_ge (A := X.A) (s := s) (e := fun j => decide (ns.getD j 0 = ms.getD j 0)) (r := fun j => decide (ms.getD j 0 ≤ ns.getD j 0)) px py hr.units0
    (fun j h1 h2 => by
      obtain ⟨t, et⟩ := gx j h1
      obtain ⟨u, eu⟩ := gy j h2
      rw [et, eu, ← beq_]
      exact SeqAt.EqAt.int_int _ _ _ _)
    (fun j h1 h2 _ => by
      obtain ⟨t, et⟩ := gx j h1
      obtain ⟨u, eu⟩ := gy j h2
      rw [et, eu]
      exact Ob.RcOp.ge_int _ _ _ _)
  rw [sx, sy] at rule
  exact rule X.prog X.w X.xe (EP X pins σ Q) ⟨.bl _, H, I, rfl, q⟩
/-- a >= b: numbers, or tuples of numbers -/
def oGeA : G2 := fun a b h => match a, b with
  | .tup xs, .tup ys => match intsD xs, intsD ys with
    | some ns, some ms => some (.bl (geL ns ms), h)
    | _, _ => none
  | a, b => oGe a b h
theorem op_geA {k : Nat} (hr : Room k X.A) : OpR X (compareOp .GtE) (r2 X.K oGeA) := by
  intro pins s σ H x y v u Q I rx ry ⟨μ, h, a, b, da, db, rh, p⟩
  unfold oGeA at p
  split at p
  · split at p
    · rename_i ns ms e1 e2
      obtain ⟨a1, vs, rfl, q1, d1⟩ := da
      obtain ⟨a2, ws, rfl, q2, d2⟩ := db
      rw [intsD_eq e1] at d1
      rw [intsD_eq e2] at d2
      cases d1.ints'
      cases d2.ints'
      obtain rfl : v = .ref a1 := rx
      obtain rfl : u = .ref a2 := ry
      exact ge_tup hr I (SqT.of q1) (SqT.of q2) (p.fin rh rfl)
    · exact p.elim
  · exact op_geM pins s σ H x y v u Q I rx ry ⟨μ, h, _, _, da, db, rh, p⟩
end
/-! ### equations -/
section
variable {ρ : Rho} {h : Hh} {d e : D} {a b c : ME} {m : MA} {i j : Int} {n : Nat} {w w' : Str} {xs ys : List D}
@[simp] theorem oGet_tup : oGet (.tup xs) (.int i) h = (atI xs i).map fun d => (d, h) := rfl
@[simp] theorem oGet_rot : oGet (.rot xs) (.int i) h = (atI xs i).map fun d => (d, h) := rfl
@[simp] theorem oGet_rol : oGet (.rol xs) (.int i) h = (atI xs i).map fun d => (d, h) := rfl
theorem oGet_lst (e : h[n]? = some (.lst xs)) : oGet (.ref n) (.int i) h = (atI xs i).map fun d => (d, h) := by simp [oGet, getD?, oIx, e]
theorem oGet_dct {kvs : List (Key × D)} (e : h[n]? = some (.dct kvs)) : oGet (.ref n) (.str w) h = (valD kvs (.inr w)).map fun d => (d, h) := by simp [oGet, getD?, keyD, e]
theorem oGet_dctT {kvs : List (List Key × D)} {ks : List Key} (e : h[n]? = some (.dctT kvs)) (ek : keysD xs = some ks) : oGet (.ref n) (.tup xs) h = (valD kvs ks).map fun d => (d, h) := by simp [oGet, getD?, ek, e]
theorem oPut_lst (e : h[n]? = some (.lst xs)) : oPut (.ref n) (.int i) d h = (ixN xs.length i).map fun j => h.set n (.lst (xs.set j d)) := by
  cases q : ixN xs.length i with
  | none => simp [oPut, oSet, setD?, e, q]
  | some j => simp [oPut, oSet, e, q]
theorem oPut_dct {kvs : List (Key × D)} (e : h[n]? = some (.dct kvs)) (hl : kvs.length < sizeLine) : oPut (.ref n) (.str w) d h = some (h.set n (.dct (putD kvs (.inr w) d))) := by
  simp [oPut, oSet, setD?, keyD, e, hl]
theorem oPut_dctT {kvs : List (List Key × D)} {ks : List Key} (e : h[n]? = some (.dctT kvs)) (ek : keysD xs = some ks) (hl : kvs.length < sizeLine) : oPut (.ref n) (.tup xs) d h = some (h.set n (.dctT (putD kvs ks d))) := by
  simp [oPut, oSet, setD?, ek, e, hl]
@[simp] theorem oMulA_int : oMulA (.int i) (.int j) h = if mulOk i j = true then some (.int (i * j), h) else none := rfl
@[simp] theorem mSl_ap {lo hi : MO} : mSl a lo hi ρ h = (a ρ h).bind fun d h1 => (lo ρ h1).bind fun l h2 => (hi ρ h2).bind fun u h3 => Out.ofO (oSl d l u h3) := rfl
@[simp] theorem moN_ap : moN ρ h = .ok none h := rfl
@[simp] theorem moS_ap : moS a ρ h = (a ρ h).bind fun d h1 => match d with
  | .int i => .ok (some i) h1
  | _ => .bad := rfl
@[simp] theorem mYes_ap : mYes ρ h = .ok true h := rfl
@[simp] theorem mLc_ap {mi : MI} {g : MG} {t : MT} {vs : List Nat} : mLc mi g t a vs ρ h = (mi ρ h).bind fun j h1 => match lcL j g t a h1.length (wipeR ρ vs) j.most 0 (h1 ++ [.lst []]) with
  | some h2 => .ok (.ref h1.length) h2
  | none => .bad := rfl
@[simp] theorem miOf_ap {f : D → Hh → Option MIt} : miOf f a ρ h = (a ρ h).bind fun d h1 => match f d h1 with
  | some j => .ok j h1
  | none => .bad := rfl
@[simp] theorem iterA_tup : iterA (.tup xs) h = some (jSrc (.tup xs) xs.length) := rfl
@[simp] theorem iterA_rot : iterA (.rot xs) h = some (jSrc (.rot xs) xs.length) := rfl
@[simp] theorem iterA_rol : iterA (.rol xs) h = some (jSrc (.rol xs) xs.length) := rfl
@[simp] theorem iterA_str : iterA (.str w) h = some (jStr w) := rfl
theorem iterA_lst (e : h[n]? = some (.lst xs)) : iterA (.ref n) h = some (jSrc (.ref n) xs.length) := by simp [iterA, isTs, isLs, srcLen, e]
@[simp] theorem jSrc_most {d : D} : (jSrc d n).most = n := rfl
@[simp] theorem jSrc_tup {i : Nat} : (jSrc (.tup xs) n).at_ i h = some xs[i]? := rfl
@[simp] theorem jSrc_rot {i : Nat} : (jSrc (.rot xs) n).at_ i h = some xs[i]? := rfl
@[simp] theorem jSrc_rol {i : Nat} : (jSrc (.rol xs) n).at_ i h = some xs[i]? := rfl
theorem jSrc_lst {i k : Nat} (e : h[k]? = some (.lst xs)) : (jSrc (.ref k) n).at_ i h = some xs[i]? := by simp [jSrc, srcAt, e]
theorem miRng1_ap : miRng1 a ρ h = (a ρ h).bind fun d h1 => match d with
  | .int n => if -(2 ^ 62) ≤ n ∧ n < 2 ^ 62 then .ok (jRng 0 n.toNat) h1 else .bad
  | _ => .bad := rfl
theorem rng_c {x : Int} (a : 0 ≤ x) (b : x < 1000000000) : -(2 ^ 62) ≤ x ∧ x < 2 ^ 62 := by omega
theorem rng_i {x : Int} {h1 : Hh} (e : a ρ h = .ok (.int x) h1) (c : -(2 ^ 62) ≤ x ∧ x < 2 ^ 62) : miRng1 a ρ h = .ok (jRng 0 x.toNat) h1 := by
  unfold miRng1
  rw [e]
  show (if -(2 ^ 62) ≤ x ∧ x < 2 ^ 62 then Out.ok (jRng 0 x.toNat) h1 else .bad) = _
  rw [if_pos c]
theorem rng_ok {n : Nat} {h1 : Hh} (e : a ρ h = .ok (.int (n : Int)) h1) (b : n < 1000000000) : miRng1 a ρ h = .ok (jRng 0 n) h1 := by
  have t := rng_i e (rng_c (by omega) (by omega))
  rw [Int.toNat_natCast] at t
  exact t
theorem miZip_ap : miZip a b ρ h = (a ρ h).bind fun d h1 => (b ρ h1).bind fun e h2 => if (isTs d && isTs e) || (isLs d h2 && isLs e h2) then .ok (jZip d e (min (srcLen d h2) (srcLen e h2))) h2 else .bad := rfl
@[simp] theorem jZip_most {d e : D} : (jZip d e n).most = n := rfl
/-- a comprehension whose body leaves the heap alone -/
theorem lcL_pure {j : MIt} {g : MG} {t : MT} {e : ME} {ρ : Rho} {h1 : Hh} {items : List D} (f : D → Option D) (hl : items.length < sizeLine)
    (hat : ∀ acc i, j.at_ i (h1 ++ [.lst acc]) = some items[i]?)
    (hb : ∀ d ∈ items, ∀ acc, ∃ ρ1, g d ρ (h1 ++ [.lst acc]) = some (ρ1, h1 ++ [.lst acc]) ∧ match f d with
      | none => t ρ1 (h1 ++ [.lst acc]) = .ok false (h1 ++ [.lst acc])
      | some y => t ρ1 (h1 ++ [.lst acc]) = .ok true (h1 ++ [.lst acc]) ∧ e ρ1 (h1 ++ [.lst acc]) = .ok y (h1 ++ [.lst acc])) :
    lcL j g t e h1.length ρ items.length 0 (h1 ++ [.lst []]) = some (h1 ++ [.lst (items.filterMap f)]) := by
  have key : ∀ m i acc, i + m = items.length → acc = (items.take i).filterMap f → lcL j g t e h1.length ρ m i (h1 ++ [.lst acc]) = some (h1 ++ [.lst (items.filterMap f)]) := by
    intro m
    induction m with
    | zero =>
      intro i acc him hacc
      have hi : i = items.length := by omega
      unfold lcL
      rw [hat, hi, List.getElem?_eq_none (Nat.le_refl _), hacc, hi, List.take_length]
    | succ m ih =>
      intro i acc him hacc
      have hi : i < items.length := by omega
      have ei : items[i]? = some items[i] := List.getElem?_eq_getElem hi
      obtain ⟨ρ1, e1, e2⟩ := hb items[i] (List.getElem_mem hi) acc
      have et : items.take (i + 1) = items.take i ++ [items[i]] := by rw [List.take_add_one, ei]; rfl
      unfold lcL
      rw [hat, ei]
      simp only [e1]
      cases ef : f items[i] with
      | none =>
        rw [ef] at e2
        simp only at e2
        simp only [e2]
        exact ih (i + 1) acc (by omega) (by rw [et, List.filterMap_append, hacc]; simp [ef])
      | some y =>
        rw [ef] at e2
        simp only at e2
        have hk : (h1 ++ [Ob.lst acc])[h1.length]? = some (.lst acc) := by simp
        have hlen : acc.length < sizeLine := by
          rw [hacc]
          exact Nat.lt_of_le_of_lt (List.length_filterMap_le _ _) (Nat.lt_of_le_of_lt (by rw [List.length_take]; exact Nat.min_le_right _ _) hl)
        simp only [e2.1, e2.2, hk, if_pos hlen]
        have hset : (h1 ++ [Ob.lst acc]).set h1.length (.lst (acc ++ [y])) = h1 ++ [.lst (acc ++ [y])] := by
          rw [List.set_append_right _ _ (Nat.le_refl _)]
          simp
        rw [hset]
        exact ih (i + 1) (acc ++ [y]) (by omega) (by rw [et, List.filterMap_append, hacc]; simp [ef])
  exact key items.length 0 [] (by omega) (by simp)
/-- a comprehension, by what holds turn by turn -/
theorem lcL_inv {j : MIt} {g : MG} {t : MT} {e : ME} {k : Nat} {ρ : Rho} {h : Hh} (n : Nat) (P : Nat → Hh → Prop) (init : P 0 h) (hend : ∀ h, P n h → j.at_ n h = some none)
    (hit : ∀ i h, i < n → P i h → ∃ d ρ1 h1 b h2, j.at_ i h = some (some d) ∧ g d ρ h = some (ρ1, h1) ∧ t ρ1 h1 = .ok b h2 ∧ ((b = false ∧ P (i + 1) h2) ∨
      (b = true ∧ ∃ y h3 acc, e ρ1 h2 = .ok y h3 ∧ h3[k]? = some (.lst acc) ∧ acc.length < sizeLine ∧ P (i + 1) (h3.set k (.lst (acc ++ [y])))))) : ∃ h', lcL j g t e k ρ n 0 h = some h' ∧ P n h' := by
  have key : ∀ m i h, i + m = n → P i h → ∃ h', lcL j g t e k ρ m i h = some h' ∧ P n h' := by
    intro m
    induction m with
    | zero =>
      intro i h him p
      have hi : i = n := by omega
      subst hi
      refine ⟨h, ?_, p⟩
      unfold lcL
      rw [hend h p]
    | succ m ih =>
      intro i h him p
      obtain ⟨d, ρ1, h1, b, h2, e1, e2, e3, q⟩ := hit i h (by omega) p
      rcases q with ⟨rfl, q⟩ | ⟨rfl, y, h3, acc, e4, e5, e6, q⟩
      · obtain ⟨h', e7, p'⟩ := ih (i + 1) h2 (by omega) q
        refine ⟨h', ?_, p'⟩
        unfold lcL
        rw [e1]
        simp only [e2, e3]
        exact e7
      · obtain ⟨h', e7, p'⟩ := ih (i + 1) _ (by omega) q
        refine ⟨h', ?_, p'⟩
        unfold lcL
        rw [e1]
        simp only [e2, e3, e4, e5, if_pos e6]
        exact e7
  exact key n 0 h (by omega) init
end
end PI
/-! a, b = any sequence. -/
namespace PI
open PySem PySem.Spec L2
open PyProof.Rows hiding St
def gmSeq (n : Nat) (m : MGs) : MG := fun d ρ h => match seqD h d with
  | some ds => if ds.length = n then m ds ρ h else none
  | none => none
section
variable {X : Cx} {ct : Ctb} {W : WX}
theorem sg_seq {es : List Expr} {k : Nat} {m : MGs} {n : Nat} {pos : Pos} (hc : X.calm = true) (h : SGs X es m)
    (hn : (assignEach es X.env).length = n := by rfl) (hst : (assignEach es X.env).findIdx? (·.1) = none := by rfl) : SG X (.Tuple es k pos) (gmSeq n m) := by
  constructor
  intro pins s σ H v u Q I r ⟨μ, ρ, h', d, rs, rh, dv, p⟩
  unfold gmSeq at p
  cases e : seqD h' d with
  | none => rw [e] at p; exact p.elim
  | some ds =>
    rw [e] at p
    dsimp only at p
    by_cases hl : ds.length = n
    · rw [if_pos hl] at p
      obtain ⟨a, vs, rfl, sq, dd⟩ := seqD_ok rh dv e
      rcases sq with sq | sq
      · exact (pg_lst hc h hn hst).run pins s σ H _ u Q I r ⟨a, vs, rfl, sq, by rw [dd.length]; exact hl, μ, ρ, h', ds, rs, rh, dd, p⟩
      · exact (pg_tup hc h hn hst).run pins s σ H _ u Q I r ⟨a, vs, rfl, sq, by rw [dd.length]; exact hl, μ, ρ, h', ds, rs, rh, dd, p⟩
    · rw [if_neg hl] at p
      exact p.elim
end
@[simp] theorem gmSeq_tup {n : Nat} {m : MGs} {ds : List D} {ρ : Rho} {h : Hh} : gmSeq n m (.tup ds) ρ h = if ds.length = n then m ds ρ h else none := rfl
theorem gmSeq_lst {n k : Nat} {m : MGs} {ds : List D} {ρ : Rho} {h : Hh} (e : h[k]? = some (.lst ds)) : gmSeq n m (.ref k) ρ h = if ds.length = n then m ds ρ h else none := by
  simp [gmSeq, seqD, e]
end PI
/-! What is not reached (bad); the values of a locked dict. -/
namespace PI
open PySem PySem.Spec L2
open PyProof.Rows hiding St
section
variable {X : Cx} {ct : Ctb} {W : WX}
def mBadS : MS := fun _ _ => .bad
def mBadE : ME := fun _ _ => .bad
theorem ss_bad {s : Stmt} : SS X ct W s mBadS := ⟨fun pins s σ H D I ⟨_, _, _, _, _, p⟩ => p.elim⟩
theorem sss_bad {s : List Stmt} : SSs X ct W s mBadS := ⟨fun pins s σ H D I ⟨_, _, _, _, _, p⟩ => p.elim⟩
theorem se_bad {e : Expr} : SE X ct W e mBadE := ⟨fun pins s σ H Q I ⟨_, _, _, _, _, p⟩ => p.elim⟩
end
/-- the values of a locked dict -/
def jVals (k : Nat) (n : Nat) : MIt := ⟨fun i h => match h[k]? with
  | some (.dlk kvs) => some ((kvs[i]?).map fun p => p.2)
  | _ => none, n⟩
section
variable {K : PySem.W.Frag} {μ : List Addr} {H : Hp} {h : Hh} {k n : Nat} {a : Addr} {o : Obj}
theorem no_atV {i : Nat} {x : Option D} {f : List (Key × D) → Option D} {h' : Hh} (n : (∀ kvs, h'[k]? ≠ some (.dlk kvs)) ∧ ∀ kvs, h'[k]? ≠ some (.dlkT kvs)) (e : (match h'[k]? with
  | some (.dlk kvs) => some (f kvs)
  | _ => none) = some x) : False := by
  split at e
  · rename_i e1; exact n.1 _ e1
  · cases e
theorem itr_vals {ws : List (Key × V)} (hk : μ[k]? = some a) (hw : H a = some (.frz o (.dK ws))) : ItR K μ H (Itd a o ws) (jVals k n) where
  stop := fun i μ' H' h' s r e => by
    refine ⟨s.frz _ _ _ hw, ?_⟩
    rcases at_dlk hk hw s r with ⟨kvs, e1, kd⟩ | no
    · simp only [jVals, e1] at e
      have : kvs[i]? = none := by simpa using e
      rw [kd.length]
      exact List.getElem?_eq_none_iff.mp this
    · exact (no_atV (i := i) no e).elim
  go := fun i μ' H' h' x s r e => by
    rcases at_dlk hk hw s r with ⟨kvs, e1, kd⟩ | no
    · simp only [jVals, e1] at e
      cases ep : kvs[i]? with
      | none => rw [ep] at e; cases e
      | some p =>
        obtain ⟨q, d⟩ := p
        rw [ep] at e
        cases e
        obtain ⟨v, e2, dv⟩ := kd.get ep
        refine ⟨⟨s.frz _ _ _ hw, (List.getElem?_eq_some_iff.mp e2).1⟩, fun y H'' hy => ?_⟩
        obtain ⟨rfl, k', e3⟩ := hy
        rw [e2] at e3
        cases e3
        exact ⟨Step.refl, r, dv⟩
    · exact (no_atV (i := i) no e).elim
end
section
variable {X : Cx} {ct : Ctb} {W : WX} {tg : Expr}
def lkLenK (d : D) (h : Hh) : Option (Nat × Nat) := match d with
  | .ref k => match h[k]? with
    | some (.dlk kvs) => some (k, kvs.length)
    | _ => none
  | _ => none
def miVals (m : ME) : MI := fun ρ h => (m ρ h).bind fun d h1 => match lkLenK d h1 with
  | some (k, n) => .ok (jVals k n) h1
  | none => .bad
theorem si_vals {e : Expr} {m : ME} {apos cpos : Pos} (he : SE X ct W e m) (hbase : attributeBase e "values" X.env (eval e X.env) = eval e X.env := by rfl) (hline : (apos.endLine == cpos.line) = true := by rfl) :
    L2.PI X tg (.Call (.Attribute e "values" apos) [] [] cpos) (rdI X.K ct W (miVals m)) :=
  (pi_values he hbase hline).imp fun σ H R ⟨μ, ρ, h, rs, rh, p⟩ => rdE.go rs rh p fun d h1 μ1 H1 v s1 rs1 rh1 dv p1 => by
    cases d with
    | ref k =>
      cases hk : h1[k]? with
      | none => simp only [lkLenK, hk] at p1; exact p1.elim
      | some ob =>
        cases ob with
        | dlk kvs =>
          simp only [lkLenK, hk] at p1
          obtain ⟨a, o, ws, rfl, ha, hw, _⟩ := den_dlk rh1 dv hk
          exact ⟨a, o, ws, rfl, hw, p1.at rh1 _ (itr_vals ha hw)⟩
        | _ => simp only [lkLenK, hk] at p1; exact p1.elim
    | _ => exact p1.elim
end
section
variable {X : Cx} {ct : Ctb} {W : WX}
/-- f() -/
theorem pe_callS0 {sp : Sp} {E : L2.St → XK} {k : Nat} {f : Addr} {fd : FuncData} {ps : List Str} {x : Str} {p pos : Pos} (F : FnOk X.prog X.w X.K X.mg X.base (L2.CX X.prog X.w) k f fd ps sp) (hr : Room k X.A) (hg : Gl X x) (hm : X.mg x = some (.ref f)) (hk : PySem.W.keepIn X.K (.ref f) = true) (hb : Binds X.K fd ps []) (hx : ∀ σ, PassesAt (L2.CX X.prog X.w) X σ (E σ))
    (hdb : (x == ("__debug__" : Str)) = false := by decide) : PE X (.Call (.Name x p) [] [] pos) (tCallS sp E tNil) := by
  refine ⟨fun pins s σ H Q I h => ?_⟩
  refine wpAny_Call_Name_kw (ld_glob I hg hm ?_ hdb)
  exact PySem.W.callWith_K0 I.kIn hk (run_fnS (us := []) F hr hb (hx σ) I .nil h)
theorem se_callI0 {k : Nat} {f : FnM} {x : Str} {p pos : Pos} (F : FnI X.prog X.w X.K X.mg X.base ct k x [] f) (hr : Room k X.A) (hg : Gl X x) (tk : Takes X W) (hdb : (x == ("__debug__" : Str)) = false := by decide) :
    SE X ct W (.Call (.Name x p) [] [] pos) (mCall 0 f mNil) := by
  obtain ⟨fa, fd, hm, hk, hb, hF⟩ := F.ex
  refine (pe_callS0 hF hr hg hm hk hb (fun σ => passAt tk σ) hdb).imp fun σ H Q q => ?_
  obtain ⟨μ, ρ, h, rs, rh, p⟩ := call_go (n := 0) (f := f) (ma := mNil) σ H Q q
  exact p.at rh [] rfl
end
/-! ### sorted of a dict whose keys are ints or texts -/
def keysK (d : D) (h : Hh) : Option (List D) := match d with
  | .ref k => match h[k]? with
    | some (.dct kvs) => some (kvs.map fun p => kD p.1)
    | _ => none
  | _ => none
def bSortedA : GN := fun ds h => match ds with
  | [d] => match keysK d h with
    | some xs => (toPys h 60 xs).bind fun ps => if canSort ps = true then some (.ref h.length, h ++ [.lst (sortD xs ps)]) else none
    | none => bSorted [d] h
  | _ => none
section
variable {X : Cx} {pins : List (Addr × Obj)} {s : Shared} {σ : L2.St} {H : Hp} {μ : List Addr} {h : Hh}
theorem pairsK {P : Program} {w : World} {es : List DictEntry} {vs : List (Key × Value)} (p : Pairs (mixKind P w) es vs) : ∀ {ws : List (Key × V)}, KV ws vs → Vals (ws.map fun p => kV p.1) (es.map (·.key)) := by
  induction p with
  | nil =>
    intro ws k
    cases k
    exact .nil
  | @cons e kv es kvs i _ _ ih =>
    intro ws k
    cases k with
    | @cons a _ _ _ r t =>
      refine .cons ?_ (ih t)
      show RelV (kV a.1) e.key
      rw [r.1]
      exact relV_key (show keyIs kv.1 e.key = true from i)
theorem kden_keys {K : PySem.W.Frag} {μ : List Addr} {H : Hp} : ∀ {kvs : List (Key × D)} {ws : List (Key × V)}, KDen K μ H kvs ws → Dens K μ H (kvs.map fun p => kD p.1) (ws.map fun p => kV p.1)
  | [], ws, h => by
    cases (show ws = [] from h)
    rfl
  | p :: r, ws, h => by
    obtain ⟨v, s, rfl, _, h⟩ := h
    exact ⟨_, _, rfl, den_kD p.1, kden_keys h⟩
theorem cr_sortedA {k : Nat} (hc : X.calm = true) (hr : Room k X.A) : CallR X (.builtin "sorted") (rN X.K bSortedA) := by
  intro pins s σ H xs us Q I r ⟨μ, h, as, da, rh, p⟩
  have old := fun q => cr_sortedM (k := k) hc hr pins s σ H xs us Q I r ⟨μ, h, as, da, rh, q⟩
  unfold bSortedA at p
  split at p
  · rename_i d
    split at p
    · rename_i ks ek
      obtain ⟨v, rfl, dv⟩ := dens1 da
      cases e : toPys h 60 ks with
      | none => rw [e] at p; exact p.elim
      | some ds =>
        rw [e] at p
        simp only [Option.bind_some] at p
        split at p
        · rename_i c
          cases d with
          | ref i =>
            cases hi : h[i]? with
            | none => simp only [keysK, hi] at ek; cases ek
            | some ob =>
              cases ob with
              | dct kvs =>
                simp only [keysK, hi] at ek
                cases ek
                obtain ⟨a, ws, rfl, _, ha, kd⟩ := den_dct rh dv hi
                rw [Vals.ref1 r]
                obtain ⟨hz, nosys, vs, kv, o, es, ep, ho, exact, hdata, _, pr, _⟩ := I.hok a _ ha
                refine sort_raw hc hr I ⟨o, ho, exact, hdata⟩ nosys ?_ (pairsK pr kv) rh (kden_keys kd) e c fun ws dw p' hp' => p.finL rh dw p' hp'
                have l1 := pr.length
                have l2 : ws.length = vs.length := Paired.length kv
                rw [Array.length_toList] at l1
                omega
              | _ => simp only [keysK, hi] at ek; cases ek
          | _ => cases ek
        · exact p.elim
    · exact old p
  · exact p.elim
end
end PI
/-! enumerate over a tuple. -/
namespace PI
open PySem PySem.Spec L2
open PyProof.Rows hiding St
theorem meets_enumT (l : Addr) (items : Array Value) (hT : Heap → Prop) (hs : ∀ h, hT h → h.IsTuple l items) :
    Meets (Builtin.«enumerate.__new__» ⟨[.type "enumerate", .ref l], []⟩) (fun _ R s => hT s.heap ∧
      R (.ok (.ret (.ref (s.heap.push { cls := .type "tuple_iterator", data := .fields #[.ref l, .int 0 0] }).objs.size)))
        { s with heap := (s.heap.push { cls := .type "tuple_iterator", data := .fields #[.ref l, .int 0 0] }).push { cls := .type "enumerate", data := .fields #[.none, .bool false, .ref s.heap.objs.size, rawInt 0, .none, .none] } }) :=
  .of_wp fun prog w A R s h => by
    obtain ⟨hp, g, d, tk, os⟩ := s; obtain ⟨hl, h⟩ := h
    have hsub := PySem.sub_enumerate
    have hL : Heap.IsTuple (Shared.heap ⟨hp, g, d, tk, os⟩) l items := hs _ hl
    wp_walk
    refine wpAny_stack_any fun st => wpAny_pure ?_
    split
    · rename_i c _ _ _ _ _
      cases (c == Value.type "enumerate")
      · wp_walk using wpAny_pyIter_tuple hL
        exact ⟨_, rfl, h⟩
      · wp_walk using wpAny_pyIter_tuple hL
        exact ⟨_, rfl, h⟩
    · wp_walk using wpAny_pyIter_tuple hL
      exact ⟨_, rfl, h⟩
section
variable {prog : Program} {w : World} {A : Around} {E : Value → Shared → Prop} {s : Shared}
theorem call_enumT {l : Addr} {items : Array Value} {Q : Value → Shared → Prop} (hL : s.heap.IsTuple l items)
    (h : ∀ h', IsEnum h' (s.heap.objs.size + 1) s.heap.objs.size 0 .none → h'.IsTupleIter s.heap.objs.size l 0 → h'.objs.size = s.heap.objs.size + 2 →
      (∀ b o, s.heap.get? b = some o → h'.get? b = some o) → Q (.ref (s.heap.objs.size + 1)) { s with heap := h' }) :
    wpAny (model prog w) A (call (.type "enumerate") [.ref l]) Q E s := by
  refine callType_new F.called_enumerate (by decide) (F.typeCall_enumerate_1 _) (F.newCall_enumerate_1 _) (fun obj => F.args_object_init_2 obj _) F.entry_enumerate_new
    (meets_enumT l items (fun h => h.IsTuple l items) (fun _ z => z)) ⟨hL, ?_⟩
  have hz : (s.heap.push { cls := .type "tuple_iterator", data := .fields #[.ref l, .int 0 0] }).objs.size = s.heap.objs.size + 1 := Heap.size_push ..
  show _ ∧ _
  rw [hz]
  have he : IsEnum ((s.heap.push { cls := .type "tuple_iterator", data := .fields #[.ref l, .int 0 0] }).push
      { cls := .type "enumerate", data := .fields #[.none, .bool false, .ref s.heap.objs.size, rawInt 0, .none, .none] }) (s.heap.objs.size + 1) s.heap.objs.size 0 .none := by
    have := Heap.get?_push_size (s.heap.push { cls := .type "tuple_iterator", data := .fields #[.ref l, .int 0 0] })
      (o := { cls := .type "enumerate", data := .fields #[.none, .bool false, .ref s.heap.objs.size, rawInt 0, .none, .none] }) rfl
    rw [hz] at this; exact this
  refine ⟨⟨_, he, rfl⟩, h _ he ⟨_, Heap.get?_push_of_some _ (Heap.get?_push_size _ rfl), rfl, rfl⟩ (by rw [Heap.size_push, hz]) fun b o x => Heap.get?_push_of_some _ (Heap.get?_push_of_some _ x)⟩
end
theorem wpAny_pyNext_enum_endT {prog : Program} {w : World} {A : Around} {E : Value → Shared → Prop} {s : Shared} {e it l : Addr} {i : Nat} {items : Array Value} {old : Value} {Q : Option Value → Shared → Prop} (hh : A.handled = none)
    (he : IsEnum s.heap e it i old) (hit : s.heap.IsTupleIter it l i) (hl : s.heap.IsTuple l items) (hx : items[i]? = none)
    (hQ : ∀ h', Heap.ExtBut it s.heap h' → Q none { s with heap := h' }) : wpAny (model prog w) A (pyNext (.ref e)) Q E s := by
  have hT : s.TypeIs (.ref e) "enumerate" := ⟨_, he, rfl⟩
  unfold pyNext
  refine wpAny_bind (wpAny_attempt (wpAny_callSpecial?_slot (name := Str.ofString "__next__") hT F.slot_enumerate_next
    (wpAny_call_entry F.slot_enumerate_next hT F.entry_enumerate_next ?_ (F.args_enumerate_next_1 _))))
  show wpAny _ _ (field (.ref e) 2 >>= _) _ _ _
  refine wpAny_bind (wpAny_field he rfl (x := .ref it) rfl ?_)
  refine wpAny_bind (wpAny_nextOf_tuple_end hh hit hl hx fun h' x he' hx' => ?_)
  obtain ⟨o, ho, hc⟩ := hx'
  refine wpAny_bind (wpAny_isInstance (T := "StopIteration") (b := true) ⟨o, ho, hc⟩ isSubtype_stop ?_)
  exact wpAny_pure (hQ _ he')
/-- the tuple at a, each item in a new pair -/
def IteT (K : PySem.W.Frag) (a : Addr) : It :=
  ⟨fun i H => ∃ (xs : List V) (x : V), SqT K H a xs ∧ xs[i]? = some x, fun i H v H' => ∃ T x, v = .ref T ∧ H T = none ∧ H' = upd H T (.tup [.int (i : Nat), x]) ∧ ∀ xs, SqT K H a xs → xs[i]? = some x, fun i H => ∃ xs : List V, SqT K H a xs ∧ xs.length ≤ i⟩
theorem turn_enumT {P : Program} {w : World} {K : PySem.W.Frag} {elts : List Expr} {kk : Nat} {tpos : Pos} (a e it : Addr) :
    Turn P w K (.Tuple elts kk tpos) (IteT K a) [e, it] e (fun i h => (∃ old, IsEnum h e it ((i : Nat) : Int) old) ∧ h.IsTupleIter it a i ∧ e ≠ it ∧ a ≠ it ∧ a ≠ e) where
  mem := by simp
  obj := fun i h st b hb => by
    obtain ⟨⟨old, he⟩, ⟨o, ho, hc, hd⟩, _⟩ := st
    have e' : b = e ∨ b = it := by simpa using hb
    rcases e' with z | z
    · rw [z]; exact ⟨_, he, fun v q => nomatch q⟩
    · rw [z]; exact ⟨o, ho, fun v q => by rw [hd] at q; cases q⟩
  keep := fun i h h' st k => let ⟨⟨old, he⟩, hi, hne⟩ := st; ⟨⟨old, k e (by simp) _ he⟩, hi.at fun o q => k it (by simp) o q, hne⟩
  item := by
    intro X hP hw hK hc i pins s σ H E I hf st hg
    subst hP hw hK
    obtain ⟨⟨old, he⟩, hit, hne, hai, hae⟩ := st
    obtain ⟨xs, x, hq, hx⟩ := hg
    obtain ⟨its, rv, p, hz⟩ := I.tuple hq
    obtain ⟨u, hu, ru⟩ := rv.get hx
    have hel : e < s.heap.objs.size := Heap.lt_size he
    have hil : it < s.heap.objs.size := by obtain ⟨_, q, _⟩ := hit; exact Heap.lt_size q
    have hl : i < its.toArray.size := by
      have := (List.getElem?_eq_some_iff.mp hu).1
      simpa using this
    refine wpAny_pyNext_enum_itemD (Draws.tuple (A := X.A.in1) (I.ok.hd hc) it a hai its.toArray) he ⟨hit, p⟩ hl hne (by simp; exact ⟨hne, Ne.symm hae⟩) fun x' h' tk hx' ho st' hT hsz hk => ?_
    have ex : x' = u := by
      have : its[i]? = some x' := by simpa using hx'
      rw [hu] at this
      exact (Option.some.inj this).symm
    subst ex
    refine ⟨_, rfl, wpAny_letOwnedTupleGo_enum (s := { s with heap := h', toks := tk + 1 }) ho fun h'' he' sb => ?_⟩
    have hT2 : h''.get? s.heap.objs.size = some { cls := .type "tuple", data := .seq #[.int i tk, x'] } := (sb.2 _ (Nat.ne_of_gt hel)).trans hT
    have new : ObjOk X.prog X.w (upd H s.heap.objs.size (.tup [.int (i : Nat), x])) h'' s.heap.objs.size (.tup [.int (i : Nat), x]) :=
      ⟨by show 2 ≤ sizeLine; decide, [.int i tk, x'], .cons ⟨_, rfl⟩ (.cons ru .nil), ⟨_, hT2, rfl, _, rfl⟩⟩
    have I1 : Inv X pins σ (upd H s.heap.objs.size (.tup [.int (i : Nat), x])) { s with heap := h'', toks := tk + 1 } :=
      I.turnedNew (ch := [e, it]) (fun b ob hb q => (sb.2 b (fun z => hb (by simp [z]))).trans (hk b ob (fun z => hb (by simp [z])) (fun z => hb (by simp [z])) q)) hf (Nat.le_refl _) new
    refine ⟨.ref s.heap.objs.size, _, I1, rfl, ⟨_, x, rfl, I.hok.fresh (Nat.le_refl _), rfl, fun ys hy => by rw [I.tuple_inj hy hq]; exact hx⟩, ⟨⟨x', ?_⟩, st'.1.at fun o q => (sb.2 it (Ne.symm hne)).trans q, hne, hai, hae⟩, fun b hb => ?_⟩
    · have e1 : ((i + 1 : Nat) : Int) = (i : Int) + 1 := by omega
      rw [e1]; exact he'
    · have hb' : b < s.heap.objs.size := by
        have e' : b = e ∨ b = it := by simpa using hb
        rcases e' with z | z
        · rw [z]; exact hel
        · rw [z]; exact hil
      rw [upd_ne (Nat.ne_of_lt hb')]
      exact (hf b hb).1
  done := by
    intro X hP hw hK hc i pins s σ H E I hf st hg
    subst hP hw hK
    obtain ⟨⟨old, he⟩, hit, hne, hai, hae⟩ := st
    obtain ⟨xs, hq, hx⟩ := hg
    obtain ⟨its, rv, p, hz⟩ := I.tuple hq
    obtain ⟨f0, f1, f2, f3, f4, f5⟩ := hf it (by simp)
    have hl := rv.length
    exact wpAny_pyNext_enum_endT (I.ok.hd hc) he hit p (by simp; omega) fun h' eb => ⟨rfl, I.turned (t' := s.toks) (fun b o hb q => eb b o hb q) f0 f1 f3 f4 f5⟩
  self := fun A i s Q E st h => let ⟨⟨_, he⟩, _⟩ := st; wpAny_pyIter_enum he h
def iEnumA (K : PySem.W.Frag) (ta : TA) : TI := fun σ H R => ta σ H fun vs H1 => ∃ a xs, vs = [.ref a] ∧ ((SqL K H1 a xs ∧ R (Ite K a) H1) ∨ (SqT K H1 a xs ∧ R (IteT K a) H1))
theorem pi_enumA {X : Cx} {e : Expr} {ta : TA} {p pos tpos : Pos} {elts : List Expr} {kk : Nat} (hg : Gl X "enumerate") (hm : X.mg "enumerate" = none) (ha : PA X [e] ta) (hs : starEach [e] X.env = [(false, eval e X.env)] := by rfl) :
    L2.PI X (.Tuple elts kk tpos) (.Call (.Name "enumerate" p) [e] [] pos) (iEnumA X.K ta) := by
  refine ⟨fun pins s σ H R I h => ?_⟩
  refine Call_ (ld_blt I hg hm boot_enumerate (PyProof.Rows.callWith_type1 (thn (ha.run pos pins s σ H _ I h) fun us s1 ⟨vs, H1, I1, r1, q1⟩ => ?_) hs rfl))
  obtain ⟨a, xs, ex, q1⟩ := q1
  subst ex
  cases r1 with
  | cons r rr =>
    cases rr
    cases r
    have new : ∀ b, b ∈ [s1.heap.objs.size + 1, s1.heap.objs.size] → s1.heap.objs.size ≤ b := fun b hb => by
      have e' : b = s1.heap.objs.size + 1 ∨ b = s1.heap.objs.size := by simpa using hb
      rcases e' with z | z
      · rw [z]; exact Nat.le_add_right _ _
      · rw [z]; exact Nat.le_refl _
    rcases q1 with ⟨hq, q⟩ | ⟨hq, q⟩
    · obtain ⟨its, rv, p', hz⟩ := I1.list hq
      refine call_enumerate_list p'.isList fun h' he hit hsz hk => wpAny_pyIter_enum he ?_
      have I2 : L2.Inv X pins σ H1 { s1 with heap := h' } := I1.kept (t' := s1.toks) hk
      exact ⟨s1.heap.objs.size + 1, [s1.heap.objs.size + 1, s1.heap.objs.size], _, _, H1, rfl, I2, turn_enum a (s1.heap.objs.size + 1) s1.heap.objs.size, ⟨⟨.none, he⟩, hit, Nat.succ_ne_self _⟩, fun b hb => I1.fpOk (new b hb) (I1.hok.fresh (new b hb)), q⟩
    · obtain ⟨its, rv, p', hz⟩ := I1.tuple hq
      have la : a < s1.heap.objs.size := by obtain ⟨_, z, _⟩ := p'; exact Heap.lt_size z
      refine call_enumT p' fun h' he hit hsz hk => wpAny_pyIter_enum he ?_
      have I2 : L2.Inv X pins σ H1 { s1 with heap := h' } := I1.kept (t' := s1.toks) hk
      exact ⟨s1.heap.objs.size + 1, [s1.heap.objs.size + 1, s1.heap.objs.size], _, _, H1, rfl, I2, turn_enumT a (s1.heap.objs.size + 1) s1.heap.objs.size, ⟨⟨.none, he⟩, hit, Nat.succ_ne_self _, Nat.ne_of_lt la, Nat.ne_of_lt (Nat.lt_succ_of_lt la)⟩, fun b hb => I1.fpOk (new b hb) (I1.hok.fresh (new b hb)), q⟩
section
variable {K : PySem.W.Frag} {μ : List Addr} {H : Hp} {h : Hh} {a : Addr} {d : D}
theorem itr_enumT {n : Nat} (s : Src K (fun H' => SqT K H' a) μ H d) : ItR K μ H (IteT K a) (jEnum d n) where
  stop := fun i μ' H' h' st rh q => by
    have q : (srcAt d i h').map (fun o => o.map fun x => D.tup [.int (i : Nat), x]) = some none := q
    cases e : srcAt d i h' with
    | none => rw [e] at q; cases q
    | some o =>
      rw [e] at q
      cases o with
      | some x => cases q
      | none => exact s μ' H' h' st rh i none e
  go := fun i μ' H' h' x st rh q => by
    have q : (srcAt d i h').map (fun o => o.map fun x => D.tup [.int (i : Nat), x]) = some (some x) := q
    cases e : srcAt d i h' with
    | none => rw [e] at q; cases q
    | some o =>
      rw [e] at q
      cases o with
      | none => cases q
      | some x0 =>
        cases q
        obtain ⟨xs, w, q1, f1, d1⟩ := s μ' H' h' st rh i _ e
        refine ⟨⟨xs, w, q1, f1⟩, fun v H'' yy => ?_⟩
        obtain ⟨p, y, rfl, hp, rfl, g1⟩ := yy
        have k1 := g1 xs q1
        rw [f1] at k1
        cases k1
        have sn : Step μ' H' μ' (upd H' p (.tup [.int (i : Nat), w])) := Step.new hp
        exact ⟨sn, rh.new hp, p, _, rfl, upd_same, .int (i : Nat), [w], rfl, rfl, w, [], rfl, d1.mono sn, rfl⟩
end
section
variable {X : Cx} {ct : Ctb} {W : WX}
/-- enumerate(x), x a list or a tuple -/
def miEnumA (a : ME) : MI := fun ρ h => (a ρ h).bind fun d h1 => if (isLs d h1 || isTs d) = true then .ok (jEnum d (srcLen d h1)) h1 else .bad
theorem si_enumA {e : Expr} {m : ME} {p pos tpos : Pos} {elts : List Expr} {kk : Nat} (hg : Gl X "enumerate") (hm : X.mg "enumerate" = none) (h1 : SE X ct W e m) (hs : starEach [e] X.env = [(false, eval e X.env)] := by rfl) :
    L2.PI X (.Tuple elts kk tpos) (.Call (.Name "enumerate" p) [e] [] pos) (rdI X.K ct W (miEnumA m)) :=
  (pi_enumA hg hm (pa_cons h1 pa_nil hs) hs).imp fun σ H R ⟨μ, ρ, h, rs, rh, p⟩ => rdE.go rs rh p fun d h1 μ1 H1 v s1 rs1 rh1 dv p1 => by
    split at p1
    · rename_i hb
      rcases Bool.or_eq_true_iff.mp hb with hb | hb
      · obtain ⟨a, vs, rfl, q, s⟩ := src_ls rh1 hb dv
        exact ⟨a, vs, rfl, .inl ⟨q, p1.at rh1 _ (itr_enum s)⟩⟩
      · obtain ⟨a, vs, rfl, q, s⟩ := src_ts hb dv
        exact ⟨a, vs, rfl, .inr ⟨q, p1.at rh1 _ (itr_enumT s)⟩⟩
    · exact p1.elim
end
end PI
/-! What a mirror does, by what holds behind it. -/
namespace PI
open PySem PySem.Spec L2
open PyProof.Rows hiding St
/-- a wish, kept from simp as an instance -/
class Pst (α : Type) where
  p : α → Hh → Prop
class Po where
  nx : Rho → Hh → Prop
  rt : D → Hh → Prop
  bk : Rho → Hh → Prop
  ct : Rho → Hh → Prop
  er : Exn → Rho → Hh → Prop
abbrev noX : Exn → Hh → Prop := fun _ _ => False
/-- (never unfolded by itself: it would run the program) -/
@[irreducible] def wS (o : OutS) [Q : Po] : Prop := match o with
  | .nx ρ h => Q.nx ρ h
  | .rt d h => Q.rt d h
  | .bk ρ h => Q.bk ρ h
  | .ct ρ h => Q.ct ρ h
  | .er x ρ h => Q.er x ρ h
  | .bad => False
@[irreducible] def wO {α : Type} (o : Out α) [Q : Pst α] [E : Pst Exn] : Prop := match o with
  | .ok a h => Q.p a h
  | .err x h => E.p x h
  | .bad => False
/-- what a computation does: it ends, without an exception, so -/
@[reducible] def spec {α : Type} (o : Out α) (P : α → Hh → Prop) : Prop := @wO α o ⟨P⟩ ⟨noX⟩
/-- .. or with this exception -/
@[reducible] def specE {α : Type} (o : Out α) (P : α → Hh → Prop) (E : Exn → Hh → Prop) : Prop := @wO α o ⟨P⟩ ⟨E⟩
@[reducible] def Hold {α : Type} [Q : Pst α] (a : α) (h : Hh) : Prop := Q.p a h
/-- then y -/
@[reducible] def Po.then (Q : Po) (y : MS) : Po := ⟨fun ρ h => @wS (y ρ h) Q, Q.rt, Q.bk, Q.ct, Q.er⟩
/-- a def's end -/
@[reducible] def Po.fin (Q : Pst D) (E : Pst Exn) : Po := ⟨fun _ h => Q.p .non h, Q.p, fun _ _ => False, fun _ _ => False, fun x _ h => E.p x h⟩
section
variable {α β : Type} {o o' : Out α} {s s' : OutS} {Q Q' : Po} {ρ : Rho} {h h' : Hh} {d : D} {x : Exn} {a : α} {E E' : Pst Exn} {P P' : Pst α} {R : Pst D} {y z : MS} {f : α → Hh → Out β} {k : α → Hh → OutS}
@[simp] theorem wS_nx : @wS (.nx ρ h) Q = Q.nx ρ h := by unfold wS; rfl
@[simp] theorem wS_rt : @wS (.rt d h) Q = Q.rt d h := by unfold wS; rfl
@[simp] theorem wS_bk : @wS (.bk ρ h) Q = Q.bk ρ h := by unfold wS; rfl
@[simp] theorem wS_ct : @wS (.ct ρ h) Q = Q.ct ρ h := by unfold wS; rfl
@[simp] theorem wS_er : @wS (.er x ρ h) Q = Q.er x ρ h := by unfold wS; rfl
@[simp] theorem wS_bad : @wS .bad Q = False := by unfold wS; rfl
@[simp] theorem wO_ok : @wO α (.ok a h) P E = @Hold α P a h := by unfold wO; rfl
@[simp] theorem wO_err : @wO α (.err x h) P E = @Hold Exn E x h := by unfold wO; rfl
@[simp] theorem wO_bad : @wO α .bad P E = False := by unfold wO; rfl
@[simp] theorem then_nx : (Q.then y).nx ρ h = @wS (y ρ h) Q := rfl
@[simp] theorem then_rt : (Q.then y).rt d h = Q.rt d h := rfl
@[simp] theorem then_bk : (Q.then y).bk ρ h = Q.bk ρ h := rfl
@[simp] theorem then_ct : (Q.then y).ct ρ h = Q.ct ρ h := rfl
@[simp] theorem then_er : (Q.then y).er x ρ h = Q.er x ρ h := rfl
@[simp] theorem fin_nx : (Po.fin R E).nx ρ h = @Hold D R .non h := rfl
@[simp] theorem fin_rt : (Po.fin R E).rt d h = @Hold D R d h := rfl
@[simp] theorem fin_bk : (Po.fin R E).bk ρ h = False := rfl
@[simp] theorem fin_ct : (Po.fin R E).ct ρ h = False := rfl
@[simp] theorem fin_er : (Po.fin R E).er x ρ h = @Hold Exn E x h := rfl
theorem bind_congr (e : o = o') : Out.bind o f = Out.bind o' f := by rw [e]
theorem bindS_congr (e : o = o') : Out.bindS o ρ k = Out.bindS o' ρ k := by rw [e]
theorem seq_congr (e : s = s') : OutS.seq s y = OutS.seq s' y := by rw [e]
@[simp] theorem wS_seq : @wS (s.seq y) Q = @wS s (Q.then y) := by cases s <;> simp [OutS.seq]
@[simp] theorem wO_out : @wO D s.out R E = @wS s (Po.fin R E) := by cases s <;> simp [OutS.out]
@[simp] theorem bind_bind {γ : Type} {g : β → Hh → Out γ} : (o.bind f).bind g = o.bind fun a h => (f a h).bind g := by cases o <;> rfl
@[simp] theorem bindS_bind {k : β → Hh → OutS} : (o.bind f).bindS ρ k = o.bindS ρ fun a h => (f a h).bindS ρ k := by cases o <;> rfl
@[simp] theorem bindS_ok : (Out.ok a h).bindS ρ k = k a h := rfl
@[simp] theorem bindS_err : (Out.err x h : Out α).bindS ρ k = .er x ρ h := rfl
@[simp] theorem bindS_bad : (Out.bad : Out α).bindS ρ k = .bad := rfl
@[simp] theorem seq_nx' : (OutS.nx ρ h).seq y = y ρ h := rfl
@[simp] theorem seq_rt' : (OutS.rt d h).seq y = .rt d h := rfl
@[simp] theorem seq_bk' : (OutS.bk ρ h).seq y = .bk ρ h := rfl
@[simp] theorem seq_ct' : (OutS.ct ρ h).seq y = .ct ρ h := rfl
@[simp] theorem seq_er' : (OutS.er x ρ h).seq y = .er x ρ h := rfl
@[simp] theorem seq_bad' : (OutS.bad).seq y = .bad := rfl
theorem spec.mono {P P' : α → Hh → Prop} (w : spec o P) (i : ∀ a h, P a h → P' a h) : spec o P' := by
  cases o with
  | ok a h => rw [spec, wO_ok] at w ⊢; exact i _ _ w
  | err x h => rw [spec, wO_err] at w ⊢; exact w
  | bad => rw [spec, wO_bad] at w; exact w.elim
/-- what a computation gives, then the rest -/
theorem wO.bind {P : α → Hh → Prop} {R : Pst β} (w : spec o P) (i : ∀ a h, P a h → @wO β (f a h) R E) : @wO β (o.bind f) R E := by
  cases o with
  | ok a h => rw [spec, wO_ok] at w; exact i _ _ w
  | err x h => rw [spec, wO_err] at w; exact w.elim
  | bad => rw [spec, wO_bad] at w; exact w.elim
theorem wO.bindE {P : α → Hh → Prop} {E1 : Exn → Hh → Prop} {R : Pst β} (w : specE o P E1) (i : ∀ a h, P a h → @wO β (f a h) R E) (j : ∀ x h, E1 x h → E.p x h) : @wO β (o.bind f) R E := by
  cases o with
  | ok a h => rw [specE, wO_ok] at w; exact i _ _ w
  | err x h => rw [specE, wO_err] at w; rw [Out.bind_err, wO_err]; exact j _ _ w
  | bad => rw [specE, wO_bad] at w; exact w.elim
theorem wS.bind {P : α → Hh → Prop} (w : spec o P) (i : ∀ a h, P a h → @wS (k a h) Q) : @wS (o.bindS ρ k) Q := by
  cases o with
  | ok a h => rw [spec, wO_ok] at w; exact i _ _ w
  | err x h => rw [spec, wO_err] at w; exact w.elim
  | bad => rw [spec, wO_bad] at w; exact w.elim
theorem wS.bindE {P : α → Hh → Prop} {E1 : Exn → Hh → Prop} (w : specE o P E1) (i : ∀ a h, P a h → @wS (k a h) Q) (j : ∀ x h, E1 x h → Q.er x ρ h) : @wS (o.bindS ρ k) Q := by
  cases o with
  | ok a h => rw [specE, wO_ok] at w; exact i _ _ w
  | err x h => rw [specE, wO_err] at w; rw [bindS_err, wS_er]; exact j _ _ w
  | bad => rw [specE, wO_bad] at w; exact w.elim
theorem spec.ex {P : α → Hh → Prop} (w : spec o P) : ∃ a h, o = .ok a h ∧ P a h := by
  cases o with
  | ok a h => rw [spec, wO_ok] at w; exact ⟨a, h, rfl, w⟩
  | err x h => rw [spec, wO_err] at w; exact w.elim
  | bad => rw [spec, wO_bad] at w; exact w.elim
theorem spec.of {P : α → Hh → Prop} (e : o = .ok a h) (p : P a h) : spec o P := by rw [e, spec, wO_ok]; exact p
theorem spec.ok {P : α → Hh → Prop} (w : spec (.ok a h) P) : P a h := by rw [spec, wO_ok] at w; exact w
theorem spec.err {P : α → Hh → Prop} (w : spec (.err x h : Out α) P) : False := by rw [spec, wO_err] at w; exact w
theorem specE.ok {P : α → Hh → Prop} {E : Exn → Hh → Prop} (w : specE (.ok a h) P E) : P a h := by rw [specE, wO_ok] at w; exact w
theorem specE.err {P : α → Hh → Prop} {E : Exn → Hh → Prop} (w : specE (.err x h : Out α) P E) : E x h := by rw [specE, wO_err] at w; exact w
theorem specE.bad {P : α → Hh → Prop} {E : Exn → Hh → Prop} (w : specE (.bad : Out α) P E) : False := by rw [specE, wO_bad] at w; exact w
theorem spec.bad {P : α → Hh → Prop} (w : spec (.bad : Out α) P) : False := by rw [spec, wO_bad] at w; exact w
/-- the mirror of a def -/
theorem wO_fn {N : Nat} {b : MS} {ds : List D} (w : @wS (b (ds.map some ++ List.replicate (N - ds.length) none) h) (Po.fin R E)) : @wO D (mFn N b ds h) R E := by
  unfold mFn
  rw [wO_out]
  exact w
/-- a loop by what holds between its turns -/
@[reducible] def Po.turn (Q : Po) (P : Rho → Hh → Prop) : Po := ⟨P, Q.rt, Q.nx, P, Q.er⟩
@[simp] theorem turn_nx {P : Rho → Hh → Prop} : (Q.turn P).nx ρ h = @Hold Rho ⟨P⟩ ρ h := rfl
@[simp] theorem turn_rt {P : Rho → Hh → Prop} : (Q.turn P).rt d h = Q.rt d h := rfl
@[simp] theorem turn_bk {P : Rho → Hh → Prop} : (Q.turn P).bk ρ h = Q.nx ρ h := rfl
@[simp] theorem turn_ct {P : Rho → Hh → Prop} : (Q.turn P).ct ρ h = @Hold Rho ⟨P⟩ ρ h := rfl
@[simp] theorem turn_er {P : Rho → Hh → Prop} : (Q.turn P).er x ρ h = Q.er x ρ h := rfl
/-- an assertion in the midst -/
@[reducible] def Po.to (Q : Po) (P : Rho → Hh → Prop) : Po := ⟨P, Q.rt, Q.bk, Q.ct, Q.er⟩
@[simp] theorem to_nx {P : Rho → Hh → Prop} : (Q.to P).nx ρ h = @Hold Rho ⟨P⟩ ρ h := rfl
@[simp] theorem to_rt {P : Rho → Hh → Prop} : (Q.to P).rt d h = Q.rt d h := rfl
@[simp] theorem to_bk {P : Rho → Hh → Prop} : (Q.to P).bk ρ h = Q.bk ρ h := rfl
@[simp] theorem to_ct {P : Rho → Hh → Prop} : (Q.to P).ct ρ h = Q.ct ρ h := rfl
@[simp] theorem to_er {P : Rho → Hh → Prop} : (Q.to P).er x ρ h = Q.er x ρ h := rfl
theorem wS.cut (P : Rho → Hh → Prop) (w : @wS s (Q.to P)) (k : ∀ ρ h, P ρ h → Q.nx ρ h) : @wS s Q := by
  unfold wS at *
  cases s with
  | nx ρ h => exact k _ _ w
  | rt d h => exact w
  | bk ρ h => exact w
  | ct ρ h => exact w
  | er x ρ h => exact w
  | bad => exact w
theorem wS.loop {j : MIt} {g : MG} {b : MS} {n : Nat} (P : Nat → Rho → Hh → Prop) (init : P 0 ρ h) (hend : ∀ ρ h, P n ρ h → j.at_ n h = some none ∧ Q.nx ρ h)
    (hit : ∀ i ρ h, i < n → P i ρ h → ∃ d ρ1 h1, j.at_ i h = some (some d) ∧ g d ρ h = some (ρ1, h1) ∧ @wS (b ρ1 h1) (Q.turn (P (i + 1)))) : @wS (forL j g b n 0 ρ h) Q := by
  have key : ∀ m i ρ h, i + m = n → P i ρ h → @wS (forL j g b m i ρ h) Q := by
    intro m
    induction m with
    | zero =>
      intro i ρ h e p
      have e : i = n := by omega
      subst e
      obtain ⟨e1, q⟩ := hend _ _ p
      unfold forL
      rw [e1]
      dsimp only
      rw [wS_nx]
      exact q
    | succ m ih =>
      intro i ρ h e p
      obtain ⟨d, ρ1, h1, e1, e2, w⟩ := hit i ρ h (by omega) p
      unfold forL
      rw [e1]
      simp only [e2]
      have w0 := w
      unfold wS at w
      cases eb : b ρ1 h1 with
      | nx ρ' h' => rw [eb] at w; exact ih (i + 1) _ _ (by omega) w
      | ct ρ' h' => rw [eb] at w; exact ih (i + 1) _ _ (by omega) w
      | bk ρ' h' => rw [eb] at w; dsimp only; rw [wS_nx]; exact w
      | rt d h' => rw [eb] at w; dsimp only; rw [wS_rt]; exact w
      | er x ρ' h' => rw [eb] at w; dsimp only; rw [wS_er]; exact w
      | bad => rw [eb] at w; exact w.elim
  exact key n 0 ρ h (by omega) init
/-- a while by what holds between its turns -/
theorem wS.while {c : MT} {b : MS} {n : Nat} (P : Nat → Rho → Hh → Prop) (init : ∃ m, m < n ∧ P m ρ h)
    (hit : ∀ m ρ h, P m ρ h → @wO Bool (c ρ h) ⟨fun t h1 => (t = true → @wS (b ρ h1) (Q.turn fun ρ' h' => ∃ m', m' < m ∧ P m' ρ' h')) ∧ (t = false → Q.nx ρ h1)⟩ ⟨noX⟩) : @wS (whileL c b n ρ h) Q := by
  have key : ∀ n m ρ h, m < n → P m ρ h → @wS (whileL c b n ρ h) Q := by
    intro n
    induction n with
    | zero => intro m ρ h e p; omega
    | succ n ih =>
      intro m ρ h e p
      unfold whileL
      refine wS.bind (hit m ρ h p) fun t h1 w => ?_
      by_cases ht : t = true
      · have w := w.1 ht
        rw [if_pos ht]
        unfold wS at w
        cases eb : b ρ h1 with
        | nx ρ' h' => rw [eb] at w; obtain ⟨m', lt, p'⟩ := w; exact ih m' _ _ (by omega) p'
        | ct ρ' h' => rw [eb] at w; obtain ⟨m', lt, p'⟩ := w; exact ih m' _ _ (by omega) p'
        | bk ρ' h' => rw [eb] at w; dsimp only; rw [wS_nx]; exact w
        | rt d h' => rw [eb] at w; dsimp only; rw [wS_rt]; exact w
        | er x ρ' h' => rw [eb] at w; dsimp only; rw [wS_er]; exact w
        | bad => rw [eb] at w; exact w.elim
      · rw [if_neg ht, wS_nx]
        exact w.2 (by simpa using ht)
  obtain ⟨m, lt, p⟩ := init
  exact key n m ρ h lt p
end
/-! ### heaps that grow -/
structure Ext (S : Nat → Prop) (h h' : Hh) : Prop where
  len : h.length ≤ h'.length
  keep : ∀ i o, h[i]? = some o → ¬ S i → h'[i]? = some o
abbrev noS : Nat → Prop := fun _ => False
section
variable {S S' : Nat → Prop} {h h1 h2 : Hh} {i : Nat} {o o' : Ob}
theorem Ext.refl : Ext S h h := ⟨Nat.le_refl _, fun _ _ e _ => e⟩
theorem Ext.trans (a : Ext S h h1) (b : Ext S h1 h2) : Ext S h h2 := ⟨Nat.le_trans a.len b.len, fun i o e n => b.keep i o (a.keep i o e n) n⟩
theorem Ext.push {l : Hh} : Ext S h (h ++ l) := ⟨by simp, fun i o e _ => by rw [List.getElem?_append_left (List.getElem?_eq_some_iff.mp e).1]; exact e⟩
theorem Ext.pushR {l : Hh} (a : Ext S h h1) : Ext S h (h1 ++ l) := a.trans .push
theorem Ext.set (s : S i) : Ext S h (h.set i o) := ⟨by simp, fun j p e n => by
  rw [List.getElem?_set_ne (fun z => n (by rw [← z]; exact s))]; exact e⟩
theorem Ext.setR (a : Ext S h h1) (s : S i) : Ext S h (h1.set i o) := a.trans (.set s)
theorem Ext.new (a : Ext S h h1) (s : h.length ≤ i) : Ext S h (h1.set i o) := ⟨by simp [a.len], fun j p e n => by
  have : j < h.length := (List.getElem?_eq_some_iff.mp e).1
  rw [List.getElem?_set_ne (by omega)]; exact a.keep j p e n⟩
theorem Ext.weak (a : Ext S h h1) (w : ∀ i, i < h.length → S i → S' i) : Ext S' h h1 := ⟨a.len, fun i o e n => a.keep i o e fun z => n (w i (List.getElem?_eq_some_iff.mp e).1 z)⟩
theorem Ext.go (a : Ext S h h1) (b : Ext S' h1 h2) (w : ∀ i, i < h.length → S' i → S i) : Ext S h h2 := ⟨Nat.le_trans a.len b.len, fun i o e n => b.keep i o (a.keep i o e n) fun z => n (w i (List.getElem?_eq_some_iff.mp e).1 z)⟩
theorem Ext.of (a : Ext noS h h1) : Ext S h h1 := a.weak fun _ _ z => z.elim
theorem Ext.get (a : Ext noS h h1) (e : h[i]? = some o) : h1[i]? = some o := a.keep i o e fun z => z
theorem lt_of (e : h[i]? = some o) : i < h.length := (List.getElem?_eq_some_iff.mp e).1
theorem set_get (e : h[i]? = some o) : (h.set i o')[i]? = some o' := by rw [List.getElem?_set_self (lt_of e)]
theorem set_ne {j : Nat} (e : h[i]? = some o) (n : i ≠ j) : (h.set j o')[i]? = some o := by rw [List.getElem?_set_ne (Ne.symm n)]; exact e
theorem push_get {l : Hh} (e : h[i]? = some o) : (h ++ l)[i]? = some o := by rw [List.getElem?_append_left (lt_of e)]; exact e
theorem push_new : (h ++ [o])[h.length]? = some o := by simp
theorem new_of (e : h ++ [o] = h1) : h1[h.length]? = some o := e ▸ push_new
theorem get_of {p : Ob} (e : h ++ [o] = h1) (q : h[i]? = some p) : h1[i]? = some p := e ▸ push_get q
theorem ext_of (e : h ++ [o] = h1) : Ext S h h1 := e ▸ Ext.push
theorem len_of (e : h ++ [o] = h1) : h1.length = h.length + 1 := by rw [← e]; simp
theorem lst_ne {xs : List D} {j : Nat} (e : h[i]? = some (.lst xs)) (f : h[j]? = some o) (n : ∀ xs, o ≠ .lst xs) : i ≠ j := fun z => by
  subst z; rw [e] at f; cases f; exact n _ rfl
end
end PI
set_option autoImplicit false
/-! Helps: tables, sorting, equality of plain data. -/
namespace PI
open PySem PySem.Spec L2
open PyProof.Rows hiding St
open PySem.W (dataLe alike)
/-! ### tables -/
section
variable {α : Type} [DecidableEq α]
def tabD (enc : α → List Key) (t : List (α × Int)) : List (List Key × D) := t.map fun p => (enc p.1, .int p.2)
def look (t : List (α × Int)) (a : α) : Int := ((t.find? fun p => decide (p.1 = a)).map (·.2)).getD 0
def putT (t : List (α × Int)) (a : α) (v : Int) : List (α × Int) := if (t.any fun p => decide (p.1 = a)) = true then t.map (fun p => if p.1 = a then (p.1, v) else p) else t ++ [(a, v)]
theorem valD_tab {enc : α → List Key} (inj : ∀ a b, enc a = enc b → a = b) (t : List (α × Int)) (a : α) : valD (tabD enc t) (enc a) = (t.find? fun p => decide (p.1 = a)).map fun p => D.int p.2 := by
  unfold valD tabD
  induction t with
  | nil => rfl
  | cons p t ih =>
    by_cases e : p.1 = a
    · subst e; simp
    · have : enc p.1 ≠ enc a := fun z => e (inj _ _ z)
      simp [e, this]
      simpa using ih
theorem getD_tab {enc : α → List Key} (inj : ∀ a b, enc a = enc b → a = b) (t : List (α × Int)) (a : α) : (valD (tabD enc t) (enc a)).getD (.int 0) = .int (look t a) := by
  rw [valD_tab inj]
  unfold look
  cases t.find? fun p => decide (p.1 = a) <;> rfl
theorem putD_tab {enc : α → List Key} (inj : ∀ a b, enc a = enc b → a = b) (t : List (α × Int)) (a : α) (v : Int) : putD (tabD enc t) (enc a) (.int v) = tabD enc (putT t a v) := by
  have e : ∀ b, (decide (enc b = enc a)) = decide (b = a) := fun b => by
    by_cases z : b = a
    · simp [z]
    · have : enc b ≠ enc a := fun y => z (inj _ _ y)
      simp [z, this]
  have e1 : ((tabD enc t).any fun kv => decide (kv.1 = enc a)) = t.any fun p => decide (p.1 = a) := by
    unfold tabD
    rw [List.any_map]
    congr 1
    funext p
    exact e p.1
  unfold putD putT
  rw [e1]
  split
  · unfold tabD
    rw [List.map_map, List.map_map]
    congr 1
    funext p
    by_cases z : p.1 = a
    · simp [z]
    · have : enc p.1 ≠ enc a := fun y => z (inj _ _ y)
      simp [z, this]
  · unfold tabD
    simp
theorem keys_put (t : List (α × Int)) (a : α) (v : Int) : (putT t a v).map (·.1) = if a ∈ t.map (·.1) then t.map (·.1) else t.map (·.1) ++ [a] := by
  have e : (t.any fun p => decide (p.1 = a)) = true ↔ a ∈ t.map (·.1) := by
    simp
  unfold putT
  by_cases z : a ∈ t.map (·.1)
  · rw [if_pos z, if_pos (e.mpr z), List.map_map]
    congr 1
    funext p
    by_cases y : p.1 = a <;> simp [y]
  · rw [if_neg z, if_neg (fun y => z (e.mp y))]
    simp
theorem len_put (t : List (α × Int)) (a : α) (v : Int) : (putT t a v).length ≤ t.length + 1 := by
  unfold putT
  split <;> simp
theorem nodup_put {t : List (α × Int)} {a : α} {v : Int} (h : (t.map (·.1)).Nodup) : ((putT t a v).map (·.1)).Nodup := by
  rw [keys_put]
  split
  · exact h
  · rename_i n
    exact List.nodup_append.mpr ⟨h, by simp, by
      intro x hx y hy
      simp at hy
      subst hy
      intro e
      subst e
      exact n hx⟩
theorem mem_put {t : List (α × Int)} {a b : α} {v : Int} (h : b ∈ (putT t a v).map (·.1)) : b = a ∨ b ∈ t.map (·.1) := by
  rw [keys_put] at h
  split at h
  · exact .inr h
  · rcases List.mem_append.mp h with h | h
    · exact .inr h
    · exact .inl (by simpa using h)
theorem look_put (t : List (α × Int)) (a b : α) (v : Int) : look (putT t a v) b = if b = a then v else look t b := by
  have key : ∀ t : List (α × Int), (t.any fun p => decide (p.1 = a)) = true → look (t.map fun p => if p.1 = a then (p.1, v) else p) b = if b = a then v else look t b := by
    intro t
    induction t with
    | nil => intro z; cases z
    | cons p t ih =>
      intro z
      unfold look at ih ⊢
      by_cases e1 : p.1 = a
      · by_cases e2 : b = a
        · subst e2; simp [e1]
        · have n1 : ¬ p.1 = b := fun y => e2 (y ▸ e1)
          by_cases z2 : (t.any fun p => decide (p.1 = a)) = true
          · have t1 := ih z2
            have n2 : ¬ a = b := fun y => e2 y.symm
            rw [if_neg e2] at t1 ⊢
            rw [List.map_cons, if_pos e1, List.find?_cons_of_neg (by simpa [e1] using n2), List.find?_cons_of_neg (by simpa [e1] using n2)]
            exact t1
          · have n2 : ¬ a = b := fun y => e2 y.symm
            have : (t.map fun p => if p.1 = a then (p.1, v) else p) = t := by
              conv => rhs; rw [← List.map_id t]
              refine List.map_congr_left fun p hp => ?_
              have : p.1 ≠ a := fun y => z2 (List.any_eq_true.mpr ⟨p, hp, decide_eq_true y⟩)
              simp [this]
            rw [List.map_cons, this]
            simp [e1, n2, e2]
      · have z2 : (t.any fun p => decide (p.1 = a)) = true := by simpa [e1] using z
        have t1 := ih z2
        by_cases e2 : p.1 = b
        · have n3 : ¬ b = a := fun y => e1 (e2.trans y)
          simp [e1, e2, n3]
        · simp [e1, e2]
          simpa using t1
  unfold putT
  split
  · rename_i z
    exact key t z
  · rename_i z
    by_cases e : b = a
    · subst e
      have : t.find? (fun p => decide (p.1 = b)) = none := by
        rw [List.find?_eq_none]
        intro x hx
        have := fun y => z (List.any_eq_true.mpr ⟨x, hx, y⟩)
        simpa using this
      unfold look
      rw [List.find?_append, this]
      simp
    · unfold look
      rw [List.find?_append, if_neg e]
      have : ¬ a = b := fun y => e y.symm
      cases q : t.find? (fun p => decide (p.1 = b)) with
      | none => simp [this]
      | some p => rfl
theorem look_mem {t : List (α × Int)} (h : (t.map (·.1)).Nodup) {p : α × Int} (m : p ∈ t) : look t p.1 = p.2 := by
  induction t with
  | nil => cases m
  | cons q t ih =>
    rw [List.map_cons, List.nodup_cons] at h
    unfold look at ih ⊢
    rcases List.mem_cons.mp m with m | m
    · subst m; simp
    · have : ¬ q.1 = p.1 := fun z => h.1 (z ▸ List.mem_map.mpr ⟨p, m, rfl⟩)
      simp [this]
      simpa using ih h.2 m
theorem look_not {t : List (α × Int)} {a : α} (h : a ∉ t.map (·.1)) : look t a = 0 := by
  unfold look
  have : t.find? (fun p => decide (p.1 = a)) = none := by
    rw [List.find?_eq_none]
    intro x hx
    have : x.1 ≠ a := fun z => h (z ▸ List.mem_map.mpr ⟨x, hx, rfl⟩)
    simpa using this
  rw [this]; rfl
end
/-! ### data -/
theorem toPys_map {α : Type} {h : Hh} {n : Nat} {enc : α → D} {py : α → PyData} {xs : List α} (e : ∀ x ∈ xs, toPy h n (enc x) = some (py x)) : toPys h n (xs.map enc) = some (xs.map py) := by
  induction xs with
  | nil => simp [toPys]
  | cons x xs ih =>
    rw [List.map_cons, List.map_cons]
    unfold toPys
    rw [e x List.mem_cons_self, ih fun y hy => e y (List.mem_cons_of_mem _ hy)]
theorem sortD_map {α : Type} {enc : α → D} {py : α → PyData} {le : α → α → Bool} {xs : List α} (hle : ∀ a ∈ xs, ∀ b ∈ xs, dataLe false (fun p => p) (py a) (py b) = le a b) : sortD (xs.map enc) (xs.map py) = (xs.mergeSort le).map enc := by
  unfold sortD
  have e : (xs.map enc).zip (xs.map py) = xs.map fun x => (enc x, py x) := by
    induction xs with
    | nil => rfl
    | cons x xs ih =>
      have := ih fun a ha b hb => hle a (List.mem_cons_of_mem _ ha) b (List.mem_cons_of_mem _ hb)
      simp [this]
  rw [e, ← PySem.W.sort_maps (fun x => (enc x, py x)) (r := le) (s := dataLe false (fun p : D × PyData => p.2)) (fun a ha b hb => (hle a ha b hb).symm), List.map_map]
  rfl
structure SortsBy {α : Type} (enc : α → D) (py : α → PyData) (le : α → α → Bool) : Prop where
  to : ∀ (h : Hh) (x : α), toPy h 60 (enc x) = some (py x)
  al : ∀ a b, alike (py a) (py b) = true
  t1 : ∀ a, isT1 (py a) = true
  dp : ∀ a, (py a).depth ≤ 60
  le_ : ∀ a b, dataLe false (fun p => p) (py a) (py b) = le a b
theorem SortsBy.can {α : Type} {enc : α → D} {py : α → PyData} {le : α → α → Bool} (s : SortsBy enc py le) (xs : List α) : canSort (xs.map py) = true := by
  unfold canSort
  simp only [Bool.and_eq_true, Bool.or_eq_true, List.all_eq_true, decide_eq_true_eq, List.mem_map]
  refine ⟨⟨?_, .inl ?_⟩, ?_⟩
  · rintro _ ⟨a, _, rfl⟩ _ ⟨b, _, rfl⟩
    exact s.al a b
  · rintro _ ⟨a, _, rfl⟩
    exact s.t1 a
  · rintro _ ⟨a, _, rfl⟩
    exact s.dp a
theorem SortsBy.lst {α : Type} {enc : α → D} {py : α → PyData} {le : α → α → Bool} (s : SortsBy enc py le) {h : Hh} {r : Nat} {xs : List α} (e : h[r]? = some (.lst (xs.map enc))) : bSorted [.ref r] h = some (.ref h.length, h ++ [.lst ((xs.mergeSort le).map enc)]) := by
  have e0 : keysOf (.ref r) h = none := by simp [keysOf, e]
  have e1 : isLs (.ref r) h = true := by simp [isLs, e]
  have e2 : seqD h (.ref r) = some (xs.map enc) := by simp [seqD, e]
  have e3 : toPys h 60 (xs.map enc) = some (xs.map py) := toPys_map fun x _ => s.to h x
  have e4 : sortD (xs.map enc) (xs.map py) = (xs.mergeSort le).map enc := sortD_map fun a _ b _ => s.le_ a b
  simp -implicitDefEqProofs [bSorted, e0, e1, e2, e3, e4, s.can xs]
theorem SortsBy.keys {α : Type} {enc : α → D} {py : α → PyData} {le : α → α → Bool} {ke : α → List Key} (s : SortsBy enc py le) (hk : ∀ a, D.tup ((ke a).map kD) = enc a) {h : Hh} {r : Nat} {t : List (α × Int)} (e : h[r]? = some (.dctT (tabD ke t))) : bSorted [.ref r] h = some (.ref h.length, h ++ [.lst (((t.map (·.1)).mergeSort le).map enc)]) := by
  have e0 : keysOf (.ref r) h = some ((t.map (·.1)).map enc) := by
    simp only [keysOf, e, tabD, List.map_map]
    congr 1
    refine List.map_congr_left fun p _ => ?_
    exact hk p.1
  generalize t.map (fun p => p.1) = ks at e0 ⊢
  have e3 : toPys h 60 (ks.map enc) = some (ks.map py) := toPys_map fun x _ => s.to h x
  have e4 : sortD (ks.map enc) (ks.map py) = (ks.mergeSort le).map enc := sortD_map fun a _ b _ => s.le_ a b
  simp -implicitDefEqProofs [bSorted, e0, e3, e4, s.can ks]
/-- x in xs -/
structure EqBy {α : Type} (enc : α → D) (py : α → PyData) : Prop where
  to : ∀ (h : Hh) (n : Nat) (x : α), 8 ≤ n → toPy h n (enc x) = some (py x)
  eq : ∀ a b, PyData.eqv (py a) (py b) = true ↔ a = b
  ly : ∀ a, (py a).canLay0 = true
  dp : ∀ a, (py a).depth ≤ 8
theorem canAll_map {α : Type} {py : α → PyData} (xs : List α) (e : ∀ x, (py x).canLay0 = true) : PyData.canLayAll0 (xs.map py) = true := by
  induction xs with
  | nil => rfl
  | cons x xs ih => simp [PyData.canLayAll0, e x, ih]
theorem EqBy.inSeq {α : Type} {enc : α → D} {py : α → PyData} (s : EqBy enc py) {h : Hh} {b : D} {x : α} {xs : List α} (e : seqD h b = some (xs.map enc)) : ∃ r, inSeq (enc x) b h = some r ∧ (r = true ↔ x ∈ xs) := by
  unfold PI.inSeq
  rw [e]
  dsimp only
  rw [s.to h 62 x (by omega), toPys_map fun y _ => s.to h 62 y (by omega)]
  dsimp only
  rw [if_pos ⟨s.ly x, Nat.le_trans (s.dp x) (by omega), canAll_map xs s.ly⟩]
  refine ⟨_, rfl, ?_⟩
  rw [List.any_map, List.any_eq_true]
  constructor
  · rintro ⟨y, hy, e⟩
    have := (s.eq y x).mp e
    exact this ▸ hy
  · intro hx
    exact ⟨x, hx, (s.eq x x).mpr rfl⟩
theorem inStr_ref (d : D) (r : Nat) : inStr d (.ref r) = none := by cases d <;> rfl
theorem inStr_tup (d : D) (xs : List D) : inStr d (.tup xs) = none := by cases d <;> rfl
theorem EqBy.inL {α : Type} {enc : α → D} {py : α → PyData} (s : EqBy enc py) {h : Hh} {r : Nat} {xs : List α} (x : α) (e : h[r]? = some (.lst (xs.map enc))) : ∃ c, oIn (enc x) (.ref r) h = some (.bl c, h) ∧ oNotIn (enc x) (.ref r) h = some (.bl (!c), h) ∧ (c = true ↔ x ∈ xs) := by
  obtain ⟨c, ec, hc⟩ := s.inSeq (h := h) (b := .ref r) (x := x) (xs := xs) (by simp [seqD, e])
  have e2 : getD? (.ref r) (enc x) h = none := by simp [getD?, e]
  refine ⟨c, ?_, ?_, hc⟩
  · simp [oIn, oInB, inStr_ref, e2, ec]
  · simp [oNotIn, oInB, inStr_ref, e2, ec]
theorem EqBy.inT {α : Type} {enc : α → D} {py : α → PyData} (s : EqBy enc py) {h : Hh} {xs : List α} (x : α) : ∃ c, oIn (enc x) (.tup (xs.map enc)) h = some (.bl c, h) ∧ oNotIn (enc x) (.tup (xs.map enc)) h = some (.bl (!c), h) ∧ (c = true ↔ x ∈ xs) := by
  obtain ⟨c, ec, hc⟩ := s.inSeq (h := h) (b := .tup (xs.map enc)) (x := x) (xs := xs) rfl
  have e2 : getD? (.tup (xs.map enc)) (enc x) h = none := rfl
  refine ⟨c, ?_, ?_, hc⟩
  · simp [oIn, oInB, inStr_tup, e2, ec]
  · simp [oNotIn, oInB, inStr_tup, e2, ec]
theorem EqBy.eqB {α : Type} {enc : α → D} {py : α → PyData} (s : EqBy enc py) {h : Hh} {x y : α} (e : scalD (enc x) (enc y) = none) : ∃ r, oEqB (enc x) (enc y) h = some r ∧ (r = true ↔ x = y) := by
  unfold oEqB
  rw [e]
  dsimp only
  rw [s.to h 64 x (by omega), s.to h 64 y (by omega)]
  dsimp only
  have sh : ∀ x, SeqAt.shaped (py x) = true := fun x => by
    unfold SeqAt.shaped
    rw [s.ly x, decide_eq_true (Nat.le_trans (s.dp x) (by omega))]; rfl
  rw [if_pos (by rw [sh, sh]; rfl)]
  exact ⟨_, rfl, s.eq x y⟩
theorem lApp {h : Hh} {r : Nat} {d : D} {xs : List D} (e : h[r]? = some (.lst xs)) (l : xs.length < sizeLine) : lAppend (.ref r) [d] h = some (.non, h.set r (.lst (xs ++ [d]))) := by
  simp [lAppend, e, l]
theorem ints_inj {xs ys : List Int} (e : xs.map D.int = ys.map D.int) : xs = ys := (List.map_inj_right fun a b e => by cases e; rfl).mp e
theorem boolsD_map (xs : List Bool) : boolsD (xs.map D.bl) = some xs := by
  induction xs with
  | nil => rfl
  | cons x xs ih => simp [boolsD, ih]
theorem intsD_map (xs : List Int) : intsD (xs.map D.int) = some xs := by
  induction xs with
  | nil => rfl
  | cons x xs ih => simp [intsD, ih]
theorem bAll_ok {h : Hh} {r : Nat} {xs : List Bool} (e : h[r]? = some (.lst (xs.map D.bl))) : bAll [.ref r] h = some (.bl (xs.all id), h) := by
  simp [bAll, isLs, seqD, e, boolsD_map]
theorem bAny_ok {h : Hh} {r : Nat} {xs : List Bool} (e : h[r]? = some (.lst (xs.map D.bl))) : bAny [.ref r] h = some (.bl (xs.any id), h) := by
  simp [bAny, isLs, seqD, e, boolsD_map]
theorem bSum_ok {h : Hh} {r : Nat} {xs : List Int} (e : h[r]? = some (.lst (xs.map D.int))) : bSum [.ref r] h = some (.int xs.sum, h) := by
  simp [bSum, isLs, seqD, e, intsD_map]
theorem depthAll_le {ps : List PyData} {k : Nat} (e : ∀ p ∈ ps, p.depth ≤ k) : PyData.depthAll ps ≤ k := by
  induction ps with
  | nil => simp [PyData.depthAll]
  | cons p ps ih =>
    have h1 := e p List.mem_cons_self
    have h2 := ih fun q hq => e q (List.mem_cons_of_mem _ hq)
    simp [PyData.depthAll]
    omega
theorem canAll_of {ps : List PyData} (e : ∀ p ∈ ps, p.canLay0 = true) : PyData.canLayAll0 ps = true := by
  induction ps with
  | nil => rfl
  | cons p ps ih =>
    simp [PyData.canLayAll0, e p List.mem_cons_self, ih fun q hq => e q (List.mem_cons_of_mem _ hq)]
theorem oNe_nil {h : Hh} {r e : Nat} {xs : List D} {ps : List PyData} (hx : h[r]? = some (.lst xs)) (he : h[e]? = some (.lst [])) (hp : toPys h 63 xs = some ps) (hc : PyData.canLayAll0 ps = true) (hd : ∀ p ∈ ps, p.depth ≤ 60) : oNe (.ref r) (.ref e) h = some (.bl (!xs.isEmpty), h) := by
  have t1 : toPy h 64 (.ref r) = some (.list ps) := by simp -implicitDefEqProofs [toPy, hx, hp]
  have t2 : toPy h 64 (.ref e) = some (.list []) := by simp -implicitDefEqProofs [toPy, he, toPys]
  have d1 : PyData.depth (.list ps) ≤ 64 := by
    have := depthAll_le hd
    simp [PyData.depth]
    omega
  have s1 : SeqAt.shaped (.list ps) = true := by
    unfold SeqAt.shaped
    rw [decide_eq_true d1]
    simp [PyData.canLay0, hc]
  have s2 : SeqAt.shaped (.list []) = true := by decide +kernel
  have e1 : PyData.eqv (.list ps) (.list []) = xs.isEmpty := by
    cases xs with
    | nil => simp [toPys] at hp; subst hp; rfl
    | cons x xs =>
      unfold toPys at hp
      split at hp
      · cases hp; rfl
      · cases hp
  simp -implicitDefEqProofs [oNe, oEqB, scalD, t1, t2, s1, s2, e1]
/-- data that may be compared: py of it, shallow -/
structure DataOf {α : Type} (enc : α → D) (py : α → PyData) : Prop where
  to : ∀ (h : Hh) (n : Nat) (x : α), 10 ≤ n → toPy h n (enc x) = some (py x)
  ly : ∀ a, (py a).canLay0 = true
  dp : ∀ a, (py a).depth ≤ 10
theorem DataOf.ne_nil {α : Type} {enc : α → D} {py : α → PyData} (s : DataOf enc py) {h : Hh} {r e : Nat} {xs : List α} (hx : h[r]? = some (.lst (xs.map enc))) (he : h[e]? = some (.lst [])) : oNe (.ref r) (.ref e) h = some (.bl (!xs.isEmpty), h) := by
  have := oNe_nil (xs := xs.map enc) hx he (toPys_map (py := py) fun x _ => s.to h 63 x (by omega)) (canAll_map xs s.ly) (fun p hp => by
    obtain ⟨x, _, rfl⟩ := List.mem_map.mp hp
    exact Nat.le_trans (s.dp x) (by omega))
  simpa using this
/-- it reads as data, n deep at most -/
def PyOk (h : Hh) (n : Nat) (d : D) : Prop := ∃ p, toPy h n d = some p ∧ p.canLay0 = true ∧ p.depth ≤ n
section
variable {h : Hh} {n r : Nat} {ds : List D} {a b : D}
theorem PyOk.int {i : Int} : PyOk h n (.int i) := ⟨.int i, by simp [toPy], rfl, by simp [PyData.depth]⟩
theorem PyOk.bl {i : Bool} : PyOk h n (.bl i) := ⟨.bool i, by simp [toPy], rfl, by simp [PyData.depth]⟩
theorem PyOk.non : PyOk h n .non := ⟨.none, by simp [toPy], rfl, by simp [PyData.depth]⟩
theorem PyOk.str {x : Str} (c : PyData.strOk x = true) : PyOk h n (.str x) := ⟨.str x, by simp [toPy], by simpa [PyData.canLay0] using c, by simp [PyData.depth]⟩
theorem PyOk.all (k : ∀ d ∈ ds, PyOk h n d) : ∃ ps, toPys h n ds = some ps ∧ PyData.canLayAll0 ps = true ∧ PyData.depthAll ps ≤ n := by
  induction ds with
  | nil => exact ⟨[], by simp [toPys], rfl, by simp [PyData.depthAll]⟩
  | cons d ds ih =>
    obtain ⟨p, e1, c1, l1⟩ := k d List.mem_cons_self
    obtain ⟨ps, e2, c2, l2⟩ := ih fun x hx => k x (List.mem_cons_of_mem _ hx)
    exact ⟨p :: ps, by simp [toPys, e1, e2], by simp [PyData.canLayAll0, c1, c2], by simp [PyData.depthAll]; omega⟩
theorem PyOk.tup (k : ∀ d ∈ ds, PyOk h n d) : PyOk h (n + 1) (.tup ds) := by
  obtain ⟨ps, e, c, l⟩ := PyOk.all k
  exact ⟨.tuple ps, by simp [toPy, e], by simpa [PyData.canLay0] using c, by simp [PyData.depth]; omega⟩
theorem PyOk.ref (e : h[r]? = some (.lst ds)) (k : ∀ d ∈ ds, PyOk h n d) : PyOk h (n + 1) (.ref r) := by
  obtain ⟨ps, e2, c, l⟩ := PyOk.all k
  exact ⟨.list ps, by simp [toPy, e, e2], by simpa [PyData.canLay0] using c, by simp [PyData.depth]; omega⟩
theorem PyOk.eq (ka : PyOk h 64 a) (kb : PyOk h 64 b) (s : scalD a b = none) : ∃ c, oEq a b h = some (.bl c, h) ∧ oNe a b h = some (.bl (!c), h) := by
  obtain ⟨p, e1, c1, l1⟩ := ka
  obtain ⟨q, e2, c2, l2⟩ := kb
  have s1 : SeqAt.shaped p = true := by unfold SeqAt.shaped; rw [c1, decide_eq_true l1]; rfl
  have s2 : SeqAt.shaped q = true := by unfold SeqAt.shaped; rw [c2, decide_eq_true l2]; rfl
  exact ⟨PyData.eqv p q, by simp [oEq, oEqB, s, e1, e2, s1, s2], by simp [oNe, oEqB, s, e1, e2, s1, s2]⟩
theorem scal_tup (a : D) (xs : List D) : scalD a (.tup xs) = none := by cases a <;> rfl
end
theorem cutD_take {xs : List D} {k : Nat} (l : k ≤ xs.length) : PI.cutD xs none (some (k : Int)) = xs.take k := by
  unfold PI.cutD HT.sIx
  have : ¬ (k : Int) < 0 := by omega
  simp [this]
  try omega
theorem cutD_drop {xs : List D} {k : Nat} (l : k ≤ xs.length) : PI.cutD xs (some (k : Int)) none = xs.drop k := by
  unfold PI.cutD HT.sIx
  have h1 : ¬ (k : Int) < 0 := by omega
  have h2 : min k xs.length = k := by omega
  simp [h1, h2]
  exact List.take_of_length_le (by simp)
theorem cutD_last {xs : List D} : PI.cutD xs none (some (-1)) = xs.take (xs.length - 1) := by
  unfold PI.cutD HT.sIx
  simp
  congr 1
  omega
@[simp] theorem oSl_tup {xs : List D} {lo hi : Option Int} {h : Hh} : oSl (.tup xs) lo hi h = some (.tup (PI.cutD xs lo hi), h) := rfl
theorem oAdd_t {xs ys : List D} {h : Hh} (l : xs.length + ys.length ≤ 1000000) : oAdd (.tup xs) (.tup ys) h = some (.tup (xs ++ ys), h) := by
  have : xs.length + ys.length ≤ sizeLine := Nat.le_trans l (by decide)
  simp [oAdd, this]
theorem mulL {h : Hh} {r k : Nat} {xs : List D} (e : h[r]? = some (.lst xs)) (l : xs.length * k ≤ 1000000) (l2 : k ≤ 1000000) : oMulA (.ref r) (.int (k : Int)) h = some (.ref h.length, h ++ [.lst (List.replicate k xs).flatten]) := by
  have c : xs.length * k ≤ sizeLine := Nat.le_trans l (by decide)
  have a : -(2 ^ 63) ≤ (k : Int) ∧ (k : Int) < 2 ^ 63 := by omega
  have e1 : oMul (.ref r) (.int (k : Int)) h = if -(2 ^ 63) ≤ (k : Int) ∧ (k : Int) < 2 ^ 63 ∧ xs.length * (k : Int).toNat ≤ sizeLine then some (D.ref h.length, h ++ [Ob.lst (List.replicate (k : Int).toNat xs).flatten]) else none := by
    simp only [oMul, e]
  have e2 : oMulA (.ref r) (.int (k : Int)) h = oMul (.ref r) (.int (k : Int)) h := rfl
  rw [e2, e1, if_pos ⟨a.1, a.2, by rw [Int.toNat_natCast]; exact c⟩, Int.toNat_natCast]
theorem putL {h : Hh} {r k : Nat} {d : D} {xs : List D} (e : h[r]? = some (.lst xs)) (l : k < xs.length) : oPut (.ref r) (.int (k : Int)) d h = some (h.set r (.lst (xs.set k d))) := by
  have : ixN xs.length (k : Int) = some k := by
    unfold ixN
    rw [if_pos (by omega), if_pos (by omega), Int.toNat_natCast]
  rw [oPut_lst e, this]
  rfl
/-! ### ranges -/
def rngO : D → Hh → Out MIt
  | .int n, h => if -(2 ^ 62) ≤ n ∧ n < 2 ^ 62 then .ok (jRng 0 n.toNat) h else .bad
  | _, _ => .bad
def rngO2 : D → D → Hh → Out MIt
  | .int i, .int j, h => if -(2 ^ 62) ≤ i ∧ i < 2 ^ 62 ∧ -(2 ^ 62) ≤ j ∧ j < 2 ^ 62 then .ok (jRng i (j - i).toNat) h else .bad
  | _, _, _ => .bad
@[simp] theorem miRng1_app {a : ME} {ρ : Rho} {h : Hh} : miRng1 a ρ h = (a ρ h).bind fun d h1 => rngO d h1 := by
  unfold miRng1
  cases a ρ h with
  | ok d h1 => cases d <;> rfl
  | err x h1 => rfl
  | bad => rfl
@[simp] theorem miRng2_app {a b : ME} {ρ : Rho} {h : Hh} : miRng2 a b ρ h = (a ρ h).bind fun d h1 => (b ρ h1).bind fun e h2 => rngO2 d e h2 := by
  unfold miRng2
  cases a ρ h with
  | ok d h1 =>
    show (b ρ h1).bind _ = (b ρ h1).bind _
    cases b ρ h1 with
    | ok e h2 => cases d <;> cases e <;> rfl
    | err x h1 => rfl
    | bad => rfl
  | err x h1 => rfl
  | bad => rfl
@[simp] theorem rngO_int {n : Int} {h : Hh} (b : 0 ≤ n ∧ n < 1000000000) : rngO (.int n) h = .ok (jRng 0 n.toNat) h := by
  show (if -(2 ^ 62) ≤ n ∧ n < 2 ^ 62 then Out.ok (jRng 0 n.toNat) h else .bad) = _
  rw [if_pos (rng_c b.1 b.2)]
@[simp] theorem rngO_nat {n : Nat} {h : Hh} (b : n < 1000000000) : rngO (.int (n : Int)) h = .ok (jRng 0 n) h := by
  rw [rngO_int (by omega), Int.toNat_natCast]
@[simp] theorem rngO2_int {i j : Int} {h : Hh} (a : 0 ≤ i ∧ i < 1000000000) (b : 0 ≤ j ∧ j < 1000000000) : rngO2 (.int i) (.int j) h = .ok (jRng i (j - i).toNat) h := by
  show (if -(2 ^ 62) ≤ i ∧ i < 2 ^ 62 ∧ -(2 ^ 62) ≤ j ∧ j < 2 ^ 62 then Out.ok (jRng i (j - i).toNat) h else .bad) = _
  have h1 := rng_c a.1 a.2
  have h2 := rng_c b.1 b.2
  rw [if_pos ⟨h1.1, h1.2, h2.1, h2.2⟩]
/-! ### comprehensions -/
theorem lt_sl {n : Nat} (h : n < 1000000) : n < sizeLine := Nat.lt_of_lt_of_le h (by decide)
theorem le_sl {n : Nat} (h : n ≤ 1000000) : n ≤ sizeLine := Nat.le_trans h (by decide)
theorem spec.lc {j : MIt} {g : MG} {t : MT} {e : ME} {ρ : Rho} {h1 : Hh} {n : Nat} {R : D → Hh → Prop} (P : Nat → List D → Hh → Prop) (hn : n < sizeLine) (init : P 0 [] (h1 ++ [.lst []]))
    (hend : ∀ acc h, P n acc h → h[h1.length]? = some (.lst acc) → j.at_ n h = some none ∧ R (.ref h1.length) h)
    (hit : ∀ i acc h, i < n → P i acc h → h[h1.length]? = some (.lst acc) → ∃ d ρ1 h', j.at_ i h = some (some d) ∧ g d ρ h = some (ρ1, h') ∧ @wO Bool (t ρ1 h') ⟨fun b h2 =>
      (b = true → @wO D (e ρ1 h2) ⟨fun y h3 => h3[h1.length]? = some (.lst acc) ∧ P (i + 1) (acc ++ [y]) (h3.set h1.length (.lst (acc ++ [y])))⟩ ⟨noX⟩) ∧ (b = false → h2[h1.length]? = some (.lst acc) ∧ P (i + 1) acc h2)⟩ ⟨noX⟩) :
    spec (match lcL j g t e h1.length ρ n 0 (h1 ++ [.lst []]) with | some h2 => .ok (.ref h1.length) h2 | none => .bad) R := by
  obtain ⟨h', e1, acc, _, e2, p⟩ := lcL_inv (j := j) (g := g) (t := t) (e := e) (k := h1.length) (ρ := ρ) (h := h1 ++ [.lst []]) n (fun i h => ∃ acc, acc.length ≤ i ∧ h[h1.length]? = some (.lst acc) ∧ P i acc h)
    ⟨[], by simp, push_new, init⟩ (fun h ⟨acc, _, e, p⟩ => (hend acc h p e).1) (fun i h hi ⟨acc, l, e0, p⟩ => by
      obtain ⟨d, ρ1, h', a1, a2, a3⟩ := hit i acc h hi p e0
      obtain ⟨b, h2, b1, b2⟩ := spec.ex a3
      refine ⟨d, ρ1, h', b, h2, a1, a2, b1, ?_⟩
      cases b with
      | false => exact .inl ⟨rfl, acc, by omega, b2.2 rfl⟩
      | true =>
        obtain ⟨y, h3, c1, c2, c3⟩ := spec.ex (b2.1 rfl)
        exact .inr ⟨rfl, y, h3, acc, c1, c2, by omega, acc ++ [y], by simp; omega, set_get c2, c3⟩)
  rw [e1]
  exact spec.of rfl (hend acc h' p e2).2
/-- whose body leaves the heap alone -/
theorem spec.lcp {j : MIt} {g : MG} {t : MT} {e : ME} {ρ : Rho} {h1 : Hh} {n : Nat} {items : List D} {R : D → Hh → Prop} (f : D → Option D) (en : n = items.length) (hn : n < sizeLine)
    (hat : ∀ acc i, j.at_ i (h1 ++ [.lst acc]) = some items[i]?)
    (hb : ∀ d ∈ items, ∀ acc, ∃ ρ1, g d ρ (h1 ++ [.lst acc]) = some (ρ1, h1 ++ [.lst acc]) ∧ match f d with
      | none => t ρ1 (h1 ++ [.lst acc]) = .ok false (h1 ++ [.lst acc])
      | some y => t ρ1 (h1 ++ [.lst acc]) = .ok true (h1 ++ [.lst acc]) ∧ e ρ1 (h1 ++ [.lst acc]) = .ok y (h1 ++ [.lst acc])) (q : R (.ref h1.length) (h1 ++ [.lst (items.filterMap f)])) :
    spec (match lcL j g t e h1.length ρ n 0 (h1 ++ [.lst []]) with | some h2 => .ok (.ref h1.length) h2 | none => .bad) R := by
  subst en
  rw [lcL_pure f hn hat hb]
  exact spec.of rfl q
/-- the same over data -/
theorem spec.lct {α : Type} {j : MIt} {g : MG} {t : MT} {e : ME} {ρ : Rho} {h1 : Hh} {n : Nat} {xs : List α} {enc : α → D} {R : D → Hh → Prop} (f : α → Option D) (en : n = xs.length) (hn : n < sizeLine)
    (hat : ∀ acc i, j.at_ i (h1 ++ [.lst acc]) = some (xs.map enc)[i]?)
    (hb : ∀ x ∈ xs, ∀ acc, ∃ ρ1, g (enc x) ρ (h1 ++ [.lst acc]) = some (ρ1, h1 ++ [.lst acc]) ∧ match f x with
      | none => t ρ1 (h1 ++ [.lst acc]) = .ok false (h1 ++ [.lst acc])
      | some y => t ρ1 (h1 ++ [.lst acc]) = .ok true (h1 ++ [.lst acc]) ∧ e ρ1 (h1 ++ [.lst acc]) = .ok y (h1 ++ [.lst acc])) (q : R (.ref h1.length) (h1 ++ [.lst (xs.filterMap f)])) :
    spec (match lcL j g t e h1.length ρ n 0 (h1 ++ [.lst []]) with | some h2 => .ok (.ref h1.length) h2 | none => .bad) R := by
  subst en
  refine spec.lc (fun i acc h => h = h1 ++ [.lst acc] ∧ acc = (xs.take i).filterMap f) hn ⟨rfl, by simp⟩ ?_ ?_
  · rintro acc _ ⟨rfl, rfl⟩ _
    refine ⟨by rw [hat]; simp, ?_⟩
    rw [List.take_length]
    exact q
  · rintro i acc _ hi ⟨rfl, e1⟩ _
    have ei : xs[i]? = some xs[i] := List.getElem?_eq_getElem hi
    obtain ⟨ρ1, e2, e3⟩ := hb xs[i] (List.getElem_mem hi) acc
    refine ⟨enc xs[i], ρ1, _, by rw [hat, List.getElem?_map, ei]; rfl, e2, ?_⟩
    have et : xs.take (i + 1) = xs.take i ++ [xs[i]] := by rw [List.take_add_one, ei]; rfl
    cases ef : f xs[i] with
    | none =>
      rw [ef] at e3
      simp only at e3
      rw [e3, wO_ok]
      exact ⟨fun z => (by cases z), fun _ => ⟨push_new, rfl, by rw [et, List.filterMap_append, e1]; simp [ef]⟩⟩
    | some y =>
      rw [ef] at e3
      simp only at e3
      rw [e3.1, wO_ok]
      refine ⟨fun _ => ?_, fun z => by cases z⟩
      rw [e3.2, wO_ok]
      refine ⟨push_new, ?_, by rw [et, List.filterMap_append, e1]; simp [ef]⟩
      rw [List.set_append_right _ _ (Nat.le_refl _)]
      simp
theorem filterMap_if {α β : Type} {p : α → Prop} [DecidablePred p] {enc : α → β} (xs : List α) : xs.filterMap (fun x => if p x then some (enc x) else none) = (xs.filter fun x => decide (p x)).map enc := by
  induction xs with
  | nil => rfl
  | cons x xs ih => by_cases h : p x <;> simp [h, ih]
@[simp] theorem mDisp_ap {keys : List Key} {m : MA} {ρ : Rho} {h : Hh} : mDisp keys m ρ h = (m ρ (h ++ [.dct []])).bind fun ds h1 => match h1[h.length]? with
  | some (.dct []) => if ds.length = keys.length ∧ keys.length ≤ 15 then .ok (.ref h.length) (h1.set h.length (.dct (mergeD [] (keys.zip ds)))) else .bad
  | _ => .bad := rfl
/-! ### zip, locked dicts -/
def ZipOk (h : Hh) (d e : D) (xs ys : List D) : Prop := (d = .tup xs ∧ e = .tup ys) ∨ ∃ r q, d = .ref r ∧ e = .ref q ∧ h[r]? = some (.lst xs) ∧ h[q]? = some (.lst ys)
section
variable {h h' : Hh} {d e : D} {xs ys : List D} {i n : Nat}
theorem ZipOk.cond (z : ZipOk h d e xs ys) : ((isTs d && isTs e) || (isLs d h && isLs e h)) = true := by
  rcases z with ⟨rfl, rfl⟩ | ⟨r, q, rfl, rfl, e1, e2⟩
  · rfl
  · simp [isLs, e1, e2]
theorem ZipOk.len (z : ZipOk h d e xs ys) : min (srcLen d h) (srcLen e h) = min xs.length ys.length := by
  rcases z with ⟨rfl, rfl⟩ | ⟨r, q, rfl, rfl, e1, e2⟩
  · rfl
  · simp [srcLen, e1, e2]
theorem ZipOk.at_ {x y : D} (z : ZipOk h d e xs ys) (hx : xs[i]? = some x) (hy : ys[i]? = some y) : (jZip d e n).at_ i h = some (some (.tup [x, y])) := by
  rcases z with ⟨rfl, rfl⟩ | ⟨r, q, rfl, rfl, e1, e2⟩
  · simp [jZip, srcAt, hx, hy]
  · simp [jZip, srcAt, e1, e2, hx, hy]
theorem ZipOk.end (z : ZipOk h d e xs ys) : (jZip d e n).at_ (min xs.length ys.length) h = some none := by
  have key : ∀ o p : Option D, (o = none ∨ p = none) → (match some o, some p with
    | some (some x), some (some y) => some (some (D.tup [x, y]))
    | some none, some _ => some none
    | some _, some none => some none
    | _, _ => none) = some none := by
    intro o p h
    cases o with
    | none => cases p <;> rfl
    | some o => cases p with
      | none => rfl
      | some p => simp at h
  have c : xs[min xs.length ys.length]? = none ∨ ys[min xs.length ys.length]? = none := by
    by_cases l : xs.length ≤ ys.length
    · exact .inl (List.getElem?_eq_none (by omega))
    · exact .inr (List.getElem?_eq_none (by omega))
  rcases z with ⟨rfl, rfl⟩ | ⟨r, q, rfl, rfl, e1, e2⟩
  · exact key _ _ c
  · unfold jZip srcAt
    simp only [e1, e2]
    exact key _ _ c
theorem ZipOk.all (z : ZipOk h d e xs ys) : (jZip d e n).at_ i h = some (((xs.zip ys)[i]?).map fun p => .tup [p.1, p.2]) := by
  have key : ∀ o p : Option D, (match some o, some p with
    | some (some x), some (some y) => some (some (D.tup [x, y]))
    | some none, some _ => some none
    | some _, some none => some none
    | _, _ => none) = some ((match o, p with | some a, some b => some (a, b) | _, _ => none : Option (D × D)).map fun p => .tup [p.1, p.2]) := by
    intro o p
    cases o <;> cases p <;> rfl
  have zz : (xs.zip ys)[i]? = match xs[i]?, ys[i]? with | some a, some b => some (a, b) | _, _ => none := by
    rw [List.zip, List.getElem?_zipWith]
    cases xs[i]? <;> cases ys[i]? <;> rfl
  rcases z with ⟨rfl, rfl⟩ | ⟨r, q, rfl, rfl, e1, e2⟩
  · rw [zz]; exact key _ _
  · rw [zz]
    unfold jZip srcAt
    simp only [e1, e2]
    exact key _ _
def zipO (d e : D) (h : Hh) : Out MIt := if ((isTs d && isTs e) || (isLs d h && isLs e h)) = true then .ok (jZip d e (min (srcLen d h) (srcLen e h))) h else .bad
@[simp] theorem miZip_app {a b : ME} {ρ : Rho} : miZip a b ρ h = (a ρ h).bind fun d h1 => (b ρ h1).bind fun e h2 => zipO d e h2 := rfl
theorem ZipOk.out (z : ZipOk h d e xs ys) : zipO d e h = .ok (jZip d e (min xs.length ys.length)) h := by
  unfold zipO
  rw [if_pos z.cond, z.len]
theorem ZipOk.ext (z : ZipOk h d e xs ys) (E : Ext noS h h') : ZipOk h' d e xs ys := by
  rcases z with z | ⟨r, q, e0, e1, e2, e3⟩
  · exact .inl z
  · exact .inr ⟨r, q, e0, e1, E.get e2, E.get e3⟩
end
/-- a walk over a dict -/
theorem wS.lockT {Q : Po} {i k : Nat} {b : MS} {ρ : Rho} {h : Hh} {kvs : List (List Key × D)} (hk : lkIx i ρ = some k) (e : h[k]? = some (.dctT kvs))
    (w : @wS (b ρ (h.set k (.dlkT kvs))) ⟨fun ρ' h' => ∃ kvs', h'[k]? = some (.dlkT kvs') ∧ Q.nx ρ' (h'.set k (.dctT kvs')), fun d h' => ∃ kvs', h'[k]? = some (.dlkT kvs') ∧ Q.rt d (h'.set k (.dctT kvs')), fun _ _ => False, fun _ _ => False, fun _ _ _ => False⟩) : @wS (mLock i b ρ h) Q := by
  unfold mLock
  rw [hk]
  dsimp only
  have e1 : lockH k h = some (h.set k (.dlkT kvs)) := by simp [lockH, e]
  rw [e1]
  dsimp only
  cases eb : b ρ (h.set k (.dlkT kvs)) with
  | nx ρ' h' =>
    rw [eb, wS_nx] at w
    obtain ⟨kvs', e2, q⟩ := w
    have : unlockH k h' = some (h'.set k (.dctT kvs')) := by simp [unlockH, e2]
    simp only [this, wS_nx]
    exact q
  | rt d h' =>
    rw [eb, wS_rt] at w
    obtain ⟨kvs', e2, q⟩ := w
    have : unlockH k h' = some (h'.set k (.dctT kvs')) := by simp [unlockH, e2]
    simp only [this, wS_rt]
    exact q
  | bk ρ' h' => rw [eb, wS_bk] at w; exact w.elim
  | ct ρ' h' => rw [eb, wS_ct] at w; exact w.elim
  | er x ρ' h' => rw [eb, wS_er] at w; exact w.elim
  | bad => rw [eb, wS_bad] at w; exact w.elim
theorem set_back {h : Hh} {k : Nat} {o o' : Ob} (e : h[k]? = some o) : (h.set k o').set k o = h := by
  rw [List.set_set]
  obtain ⟨hl, e⟩ := List.getElem?_eq_some_iff.mp e
  rw [← e, List.set_getElem_self]
@[simp] theorem miItems_ap {a : ME} {ρ : Rho} {h : Hh} : miItems a ρ h = (a ρ h).bind fun d h1 => match lkLen d h1 with
  | some (k, n) => .ok (jItems k n) h1
  | none => .bad := rfl
@[simp] theorem miKeys_ap {a : ME} {ρ : Rho} {h : Hh} : miKeys a ρ h = (a ρ h).bind fun d h1 => match lkLen d h1 with
  | some (k, n) => .ok (jKeys k n) h1
  | none => .bad := rfl
theorem lkLen_T {h : Hh} {k : Nat} {kvs : List (List Key × D)} (e : h[k]? = some (.dlkT kvs)) : lkLen (.ref k) h = some (k, kvs.length) := by simp [lkLen, e]
@[simp] theorem jItems_most {k n : Nat} : (jItems k n).most = n := rfl
@[simp] theorem jKeys_most {k n : Nat} : (jKeys k n).most = n := rfl
theorem jItems_T {h : Hh} {k n i : Nat} {kvs : List (List Key × D)} (e : h[k]? = some (.dlkT kvs)) : (jItems k n).at_ i h = some ((kvs[i]?).map fun p => .tup [.tup (p.1.map kD), p.2]) := by simp [jItems, e]
theorem jKeys_T {h : Hh} {k n i : Nat} {kvs : List (List Key × D)} (e : h[k]? = some (.dlkT kvs)) : (jKeys k n).at_ i h = some ((kvs[i]?).map fun p => .tup (p.1.map kD)) := by simp [jKeys, e]
@[simp] theorem mGet2_ap {o k x : ME} {ρ : Rho} {h : Hh} : mGet2 o k x ρ h = (o ρ h).bind fun d h1 => if isDc d h1 = true then (k ρ h1).bind fun e h2 => (x ρ h2).bind fun z h3 => match getD? d e h3 with
  | some r => .ok (r.getD z) h3
  | none => .bad else .bad := rfl
@[simp] theorem mGet1_ap {o k : ME} {ρ : Rho} {h : Hh} : mGet1 o k ρ h = (o ρ h).bind fun d h1 => if isDc d h1 = true then (k ρ h1).bind fun e h2 => match getD? d e h2 with
  | some r => .ok (r.getD .non) h2
  | none => .bad else .bad := rfl
theorem isDc_T {h : Hh} {k : Nat} {kvs : List (List Key × D)} (e : h[k]? = some (.dctT kvs)) : isDc (.ref k) h = true := by simp [isDc, e]
@[simp] theorem mDnewT_ap {ρ : Rho} {h : Hh} : mDnewT ρ h = .ok (.ref h.length) (h ++ [.dctT []]) := rfl
/-! ### numbers -/
theorem lex_int (a b : Int) (r t : List (Int ⊕ List Nat)) : PyProof.Rows.lexLt itemOrd (.inl a :: r) (.inl b :: t) = (decide (a < b) || (decide (a = b) && PyProof.Rows.lexLt itemOrd r t)) := by
  have e : PyProof.Rows.lexLt itemOrd (.inl a :: r) (.inl b :: t) = (decide (a < b) || (!decide (b < a) && PyProof.Rows.lexLt itemOrd r t)) := rfl
  rw [e]
  by_cases h1 : a < b
  · simp [h1]
  · by_cases h2 : a = b
    · subst h2; simp
    · have : b < a := by omega
      simp [h1, h2, this]
theorem lex_nil : PyProof.Rows.lexLt itemOrd [] [] = false := rfl
theorem mulOk_b {i j : Int} (hi : -(10 ^ 300) < i ∧ i < 10 ^ 300) (hj : -(10 ^ 300) < j ∧ j < 10 ^ 300) : mulOk i j = true := by
  have key : ∀ i : Int, -(10 ^ 300) < i ∧ i < 10 ^ 300 → i.natAbs.log2 < 1000 := by
    intro i hi
    by_cases z : i.natAbs = 0
    · rw [z]; decide
    · rw [Nat.log2_lt z]
      have : i.natAbs < 10 ^ 300 := by omega
      exact Nat.lt_of_lt_of_le this (by decide +kernel)
  exact mulOk_w (by have := key i hi; have := key j hj; omega)
theorem pow_ok {n : Nat} (h : n ≤ 1000) : powOk 10 (n : Int) = true := by
  unfold powOk
  simp only [decide_eq_true_eq]
  omega
end PI
/-! Helps: tables whose keys are ints. -/
namespace PI
open PySem PySem.Spec L2
open PyProof.Rows hiding St
open PySem.W (dataLe alike)
def tabK (t : List (Int × Int)) : List (Key × D) := t.map fun p => (.inl p.1, .int p.2)
theorem tabK_T (t : List (Int × Int)) (a : Int) : valD (tabK t) (.inl a) = valD (tabD (fun a : Int => ([.inl a] : List Key)) t) [.inl a] := by
  unfold valD tabK tabD
  induction t with
  | nil => rfl
  | cons p t ih =>
    by_cases e : p.1 = a
    · simp [e]
    · simp [e]
      simpa using ih
theorem valD_K (t : List (Int × Int)) (a : Int) : valD (tabK t) (.inl a) = (t.find? fun p => decide (p.1 = a)).map fun p => D.int p.2 := by
  rw [tabK_T, valD_tab (enc := fun a : Int => ([.inl a] : List Key)) (fun a b e => by simpa using e)]
theorem getD_K (t : List (Int × Int)) (a : Int) : (valD (tabK t) (.inl a)).getD (.int 0) = .int (look t a) := by
  rw [valD_K]
  unfold look
  cases t.find? fun p => decide (p.1 = a) <;> rfl
theorem putD_K (t : List (Int × Int)) (a v : Int) : putD (tabK t) (.inl a) (.int v) = tabK (putT t a v) := by
  have e1 : ((tabK t).any fun kv => decide (kv.1 = .inl a)) = t.any fun p => decide (p.1 = a) := by
    unfold tabK
    rw [List.any_map]
    congr 1
    funext p
    simp
  unfold putD putT
  rw [e1]
  split
  · unfold tabK
    rw [List.map_map, List.map_map]
    congr 1
    funext p
    by_cases z : p.1 = a
    · simp [z]
    · simp [z]
  · unfold tabK
    simp
section
variable {h : Hh} {r : Nat} {u : Int} {t : List (Int × Int)}
theorem isDc_K {kvs : List (Key × D)} (e : h[r]? = some (.dct kvs)) : isDc (.ref r) h = true := by simp [isDc, e]
theorem getD?_K (e : h[r]? = some (.dct (tabK t))) : getD? (.ref r) (.int u) h = some (valD (tabK t) (.inl u)) := by simp [getD?, keyD, e]
theorem oGet_K (nd : (t.map (·.1)).Nodup) {p : Int × Int} (m : p ∈ t) (e : h[r]? = some (.dct (tabK t))) : oGet (.ref r) (.int p.1) h = some (.int p.2, h) := by
  have f : t.find? (fun q => decide (q.1 = p.1)) = some p := by
    induction t with
    | nil => cases m
    | cons q t ih =>
      rw [List.map_cons, List.nodup_cons] at nd
      rcases List.mem_cons.mp m with m | m
      · subst m; simp
      · have : ¬ q.1 = p.1 := fun z => nd.1 (z ▸ List.mem_map.mpr ⟨p, m, rfl⟩)
        rw [List.find?_cons_of_neg (by simpa using this)]
        have key : ∀ {t : List (Int × Int)}, (t.map (·.1)).Nodup → p ∈ t → t.find? (fun q => decide (q.1 = p.1)) = some p := by
          intro t
          induction t with
          | nil => intro _ m; cases m
          | cons q t ih =>
            intro nd m
            rw [List.map_cons, List.nodup_cons] at nd
            rcases List.mem_cons.mp m with m | m
            · subst m; simp
            · have : ¬ q.1 = p.1 := fun z => nd.1 (z ▸ List.mem_map.mpr ⟨p, m, rfl⟩)
              rw [List.find?_cons_of_neg (by simpa using this)]
              exact ih nd.2 m
        exact key nd.2 m
  have v : valD (tabK t) (.inl p.1) = some (.int p.2) := by rw [valD_K, f]; rfl
  simp [oGet, getD?, keyD, e, v]
theorem oPut_K {v : Int} (e : h[r]? = some (.dct (tabK t))) (l : t.length < 1000000) : oPut (.ref r) (.int u) (.int v) h = some (h.set r (.dct (tabK (putT t u v)))) := by
  have : (tabK t).length < sizeLine := by
    have : (tabK t).length = t.length := by simp [tabK]
    rw [this]
    exact lt_sl l
  rw [← putD_K]
  simp [oPut, oSet, setD?, keyD, e, this]
def leI (a b : Int) : Bool := decide (a ≤ b)
theorem ints_le (a b : Int) : dataLe false (fun p => p) (PyData.int a) (PyData.int b) = leI a b := by
  simp only [dataLe, PySem.W.sortLe, PySem.W.keyToks, List.append_nil, cond_false, leI]
  rw [lex_int, lex_nil]
  rw [Bool.eq_iff_iff]
  simp
theorem ints_can (ks : List Int) : canSort (ks.map PyData.int) = true := by
  unfold canSort
  simp only [Bool.and_eq_true, Bool.or_eq_true, List.all_eq_true, decide_eq_true_eq, List.mem_map]
  refine ⟨⟨?_, .inr ?_⟩, ?_⟩
  · rintro _ ⟨a, _, rfl⟩ _ ⟨b, _, rfl⟩; rfl
  · rintro _ ⟨a, _, rfl⟩; rfl
  · rintro _ ⟨a, _, rfl⟩; simp [PyData.depth]
theorem bSorted_K (e : h[r]? = some (.dct (tabK t))) : bSortedA [.ref r] h = some (.ref h.length, h ++ [.lst (((t.map (·.1)).mergeSort leI).map D.int)]) := by
  have e0 : keysK (.ref r) h = some ((t.map (·.1)).map D.int) := by
    simp only [keysK, e, tabK, List.map_map]
    rfl
  have e3 : toPys h 60 ((t.map (·.1)).map D.int) = some ((t.map (·.1)).map PyData.int) := toPys_map fun x _ => by simp [toPy]
  have e4 : sortD ((t.map (·.1)).map D.int) ((t.map (·.1)).map PyData.int) = ((t.map (·.1)).mergeSort leI).map D.int := sortD_map fun a _ b _ => ints_le a b
  have e5 := ints_can (t.map (·.1))
  generalize t.map (·.1) = ks at *
  simp -implicitDefEqProofs [bSortedA, e0, e3, e4, e5]
end
/-- a walk over a dict whose keys are ints -/
theorem wS.lockK {Q : Po} {i k : Nat} {b : MS} {ρ : Rho} {h : Hh} {kvs : List (Key × D)} (hk : lkIx i ρ = some k) (e : h[k]? = some (.dct kvs))
    (w : @wS (b ρ (h.set k (.dlk kvs))) ⟨fun ρ' h' => ∃ kvs', h'[k]? = some (.dlk kvs') ∧ Q.nx ρ' (h'.set k (.dct kvs')), fun d h' => ∃ kvs', h'[k]? = some (.dlk kvs') ∧ Q.rt d (h'.set k (.dct kvs')), fun _ _ => False, fun _ _ => False, fun _ _ _ => False⟩) : @wS (mLock i b ρ h) Q := by
  unfold mLock
  rw [hk]
  dsimp only
  have e1 : lockH k h = some (h.set k (.dlk kvs)) := by simp [lockH, e]
  rw [e1]
  dsimp only
  cases eb : b ρ (h.set k (.dlk kvs)) with
  | nx ρ' h' =>
    rw [eb, wS_nx] at w
    obtain ⟨kvs', e2, q⟩ := w
    have : unlockH k h' = some (h'.set k (.dct kvs')) := by simp [unlockH, e2]
    simp only [this, wS_nx]
    exact q
  | rt d h' =>
    rw [eb, wS_rt] at w
    obtain ⟨kvs', e2, q⟩ := w
    have : unlockH k h' = some (h'.set k (.dct kvs')) := by simp [unlockH, e2]
    simp only [this, wS_rt]
    exact q
  | bk ρ' h' => rw [eb, wS_bk] at w; exact w.elim
  | ct ρ' h' => rw [eb, wS_ct] at w; exact w.elim
  | er x ρ' h' => rw [eb, wS_er] at w; exact w.elim
  | bad => rw [eb, wS_bad] at w; exact w.elim
@[simp] theorem miVals_ap {a : ME} {ρ : Rho} {h : Hh} : miVals a ρ h = (a ρ h).bind fun d h1 => match lkLenK d h1 with
  | some (k, n) => .ok (jVals k n) h1
  | none => .bad := rfl
theorem lkLen_K {h : Hh} {k : Nat} {kvs : List (Key × D)} (e : h[k]? = some (.dlk kvs)) : lkLenK (.ref k) h = some (k, kvs.length) := by simp [lkLenK, e]
@[simp] theorem jVals_most {k n : Nat} : (jVals k n).most = n := rfl
theorem jVals_K {h : Hh} {k n i : Nat} {kvs : List (Key × D)} (e : h[k]? = some (.dlk kvs)) : (jVals k n).at_ i h = some ((kvs[i]?).map fun p => p.2) := by simp [jVals, e]
/-- a table made by sums -/
def sumT (cs : List (Int × Int)) : List (Int × Int) := cs.foldl (fun t p => putT t p.1 (look t p.1 + p.2)) []
def totK (cs : List (Int × Int)) (u : Int) : Int := (cs.map fun p => if p.1 = u then p.2 else 0).sum
theorem sumT_snoc (cs : List (Int × Int)) (p : Int × Int) : sumT (cs ++ [p]) = putT (sumT cs) p.1 (look (sumT cs) p.1 + p.2) := by simp [sumT]
theorem totK_app (cs ds : List (Int × Int)) (u : Int) : totK (cs ++ ds) u = totK cs u + totK ds u := by simp [totK]
theorem sumT_ok (cs : List (Int × Int)) : ((sumT cs).map (·.1)).Nodup ∧ (sumT cs).length ≤ cs.length ∧ (∀ u, look (sumT cs) u = totK cs u) ∧ ∀ p ∈ sumT cs, ∃ q ∈ cs, q.1 = p.1 := by
  have key : ∀ (ds cs : List (Int × Int)), ((sumT cs).map (·.1)).Nodup ∧ (sumT cs).length ≤ cs.length ∧ (∀ u, look (sumT cs) u = totK cs u) ∧ (∀ p ∈ sumT cs, ∃ q ∈ cs, q.1 = p.1) →
      ((sumT (cs ++ ds)).map (·.1)).Nodup ∧ (sumT (cs ++ ds)).length ≤ (cs ++ ds).length ∧ (∀ u, look (sumT (cs ++ ds)) u = totK (cs ++ ds) u) ∧ ∀ p ∈ sumT (cs ++ ds), ∃ q ∈ cs ++ ds, q.1 = p.1 := by
    intro ds
    induction ds with
    | nil => intro cs h; simpa using h
    | cons p ds ih =>
      intro cs ⟨nd, l, lk, mm⟩
      have e : cs ++ p :: ds = (cs ++ [p]) ++ ds := by simp
      rw [e]
      refine ih (cs ++ [p]) ?_
      rw [sumT_snoc]
      refine ⟨nodup_put nd, ?_, fun u => ?_, fun q hq => ?_⟩
      · have := len_put (sumT cs) p.1 (look (sumT cs) p.1 + p.2)
        simp
        omega
      · rw [look_put, totK_app, lk, lk]
        by_cases z : u = p.1
        · subst z; simp [totK]
        · have : ¬ p.1 = u := fun y => z y.symm
          simp [z, totK, this]
      · rcases mem_put (List.mem_map_of_mem (f := (·.1)) hq) with z | z
        · exact ⟨p, by simp, z.symm⟩
        · obtain ⟨q', h1, h2⟩ := List.mem_map.mp z
          obtain ⟨q2, h3, h4⟩ := mm q' h1
          exact ⟨q2, by simp [h3], h4.trans h2⟩
  simpa using key cs [] ⟨by simp [sumT], by simp [sumT], by simp [sumT, look, totK], by simp [sumT]⟩
end PI
set_option maxHeartbeats 4000000
namespace K64
open PySem PySem.Spec L2 PI
open PyProof.Rows hiding St
def topS (i : Nat) : Stmt := PySem.Challenge.pw_cellcode_k64_points_and_papers.main.body.getD i (.Pass ⟨0, 0, 0, 0⟩)
/-- the classes that are raised -/
def ctb (aPaidError aBadSystem aBadLine : Addr) : Ctb := fun z => if z = "BadSystem" then some (.ref aBadSystem) else if z = "BadLine" then some (.ref aBadLine) else none
theorem ctb_BadSystem {aPaidError aBadSystem aBadLine : Addr} : ctb aPaidError aBadSystem aBadLine "BadSystem" = some (.ref aBadSystem) := by unfold ctb; rw [if_pos rfl]
theorem ctb_BadLine {aPaidError aBadSystem aBadLine : Addr} : ctb aPaidError aBadSystem aBadLine "BadLine" = some (.ref aBadLine) := by unfold ctb; rw [if_neg (by decide), if_pos rfl]
def sbT : List (String × String) := [("BadSystem", "BadSystem"), ("BadSystem", "PaidError"), ("BadSystem", "ValueError"), ("BadLine", "PaidError"), ("BadLine", "ValueError"), ("BadLine", "BadLine")]
def sb : Str → Str → Bool := fun z y => if z = "BadSystem" then decide (y ∈ (["BadSystem", "PaidError", "ValueError"] : List Str)) else if z = "BadLine" then decide (y ∈ (["PaidError", "ValueError", "BadLine"] : List Str)) else false
def isb (y z : Str) : Bool := sb z y
/-- what the module has written -/
structure Md (K : PySem.W.Frag) (mg : Str → Option Value) (aPaidError aBadSystem aBadLine : Addr) : Prop where
  z_ValueError : mg "ValueError" = none
  z_abs : mg "abs" = none
  z_all : mg "all" = none
  z_bool : mg "bool" = none
  z_enumerate : mg "enumerate" = none
  z_int : mg "int" = none
  z_isinstance : mg "isinstance" = none
  z_len : mg "len" = none
  z_list : mg "list" = none
  z_max : mg "max" = none
  z_range : mg "range" = none
  z_sorted : mg "sorted" = none
  z_str : mg "str" = none
  z_tuple : mg "tuple" = none
  i_gcd : mg "gcd" = some (.builtin "math.gcd")
  e_PaidError : ExcI K mg "PaidError" aPaidError
  e_BadSystem : ExcI K mg "BadSystem" aBadSystem
  e_BadLine : ExcI K mg "BadLine" aBadLine
  sb_BadSystem : ∀ z cz, ctb aPaidError aBadSystem aBadLine z = some cz → PySem.W.exmOne K cz (.ref aBadSystem) = some (sb z "BadSystem")
  is_PaidError : ∀ k v, ctb aPaidError aBadSystem aBadLine k = some v → ∃ C, v = .ref C ∧ ExcC K C ∧ PySem.W.kitOne K (.ref C) (.ref aPaidError) = some (isb "PaidError" k)
  is_ValueError : ∀ k v, ctb aPaidError aBadSystem aBadLine k = some v → ∃ C, v = .ref C ∧ ExcC K C ∧ PySem.W.kitOne K (.ref C) (.type "ValueError") = some (isb "ValueError" k)
  is_BadLine : ∀ k v, ctb aPaidError aBadSystem aBadLine k = some v → ∃ C, v = .ref C ∧ ExcC K C ∧ PySem.W.kitOne K (.ref C) (.ref aBadLine) = some (isb "BadLine" k)
abbrev s_is_int : Stmt := topS 6
theorem sc_is_int : FnScope ["x"] ["x"] (defScope s_is_int) := ⟨rfl, rfl, rfl, by decide +kernel, rfl, by decide +kernel, by decide +kernel⟩
noncomputable def m_is_int : MS :=
    mRet (mAndV (mIsi "int" (mVar 0)) (mNotV (mIsi "bool" (mVar 0))))
theorem ok_is_int {P : Program} {w : World} {K : PySem.W.Frag} {mg : Str → Option Value} {base : Heap} {aPaidError aBadSystem aBadLine : Addr} {fa : Addr} {fd : FuncData} {k : Nat} (F : Fun K "is_int" "is_int" s_is_int fa fd) (T : Md K mg aPaidError aBadSystem aBadLine) :
    FnOk P w K mg base (L2.CX P w) (k + 1) fa fd ["x"] (spM K (ctb aPaidError aBadSystem aBadLine) 1 (mFn 1 (m_is_int))) :=
  fn_ok F sc_is_int fun cdv A outer s H E hr tk pas => by
    let ct : Ctb := ctb aPaidError aBadSystem aBadLine
    exact ((sss_one (ss_ret (se_and (se_isi (by decide) rfl T.z_isinstance rfl T.z_int PyProof.Rows.boot_int (se_var 0)) (se_and1 (se_not (se_isi (by decide) rfl T.z_isinstance rfl T.z_bool PyProof.Rows.boot_bool (se_var 0))))))))
abbrev s_lowest : Stmt := topS 8
theorem sc_lowest : FnScope ["top", "bottom", "common"] ["top", "bottom"] (defScope s_lowest) := ⟨rfl, rfl, rfl, by decide +kernel, rfl, by decide +kernel, by decide +kernel⟩
noncomputable def m_lowest : MS :=
    mSeq (mIfS (mTest (mOp oLt (mVar 1) (mC (.int 0)))) (mSeq (mSet 0 (mUn oNeg (mVar 0)))
    (mSet 1 (mUn oNeg (mVar 1)))) (mNx))
    (mSeq (mSet 2 (mB bGcd (mCons (mVar 0) (mCons (mVar 1) (mNil)))))
    (mRet (mTup (mCons (mOp oFdiv (mVar 0) (mVar 2)) (mCons (mOp oFdiv (mVar 1) (mVar 2)) (mNil))))))
theorem ok_lowest {P : Program} {w : World} {K : PySem.W.Frag} {mg : Str → Option Value} {base : Heap} {aPaidError aBadSystem aBadLine : Addr} {fa : Addr} {fd : FuncData} {k : Nat} (F : Fun K "lowest" "lowest" s_lowest fa fd) (T : Md K mg aPaidError aBadSystem aBadLine) :
    FnOk P w K mg base (L2.CX P w) (k + 1) fa fd ["top", "bottom"] (spM K (ctb aPaidError aBadSystem aBadLine) 2 (mFn 3 (m_lowest))) :=
  fn_ok F sc_lowest fun cdv A outer s H E hr tk pas => by
    let ct : Ctb := ctb aPaidError aBadSystem aBadLine
    exact ((sss_cons (ss_if (st_cmp op_ltM (se_var 1) se_int (nomark _)) (sss_cons (ss_set (i := 0) sc_lowest.nd rfl (Or.inl rfl) (se_un un_negM (se_var 0)))
    (sss_one (ss_set (i := 1) sc_lowest.nd rfl (Or.inl rfl) (se_un un_negM (se_var 1))))) sss_nil)
    (sss_cons (ss_set (i := 2) sc_lowest.nd rfl (Or.inl rfl) (se_callFun cr_gcdM rfl T.i_gcd (sa_cons (se_var 0) (sa_cons (se_var 1) sa_nil))))
    (sss_one (ss_ret (se_tup (sa_cons (se_op op_fdivM (se_var 0) (se_var 2)) (sa_cons (se_op op_fdivM (se_var 1) (se_var 2)) sa_nil))))))))
abbrev s_is_ratio : Stmt := topS 9
theorem sc_is_ratio : FnScope ["thing"] ["thing"] (defScope s_is_ratio) := ⟨rfl, rfl, rfl, by decide +kernel, rfl, by decide +kernel, by decide +kernel⟩
noncomputable def m_is_ratio (f_is_int : FnM) : MS :=
    mSeq (mIfS (mOr (mNot (mTest (mIsi "tuple" (mVar 0)))) (mTest (mOp oNe (mB bLen (mCons (mVar 0) (mNil))) (mC (.int 2))))) (mRet (mC (.bl false))) (mNx))
    (mSeq (mIfS (mOr (mNot (mTest (mCall 1 f_is_int (mCons (mOp oGet (mVar 0) (mC (.int 0))) (mNil))))) (mOr (mNot (mTest (mCall 1 f_is_int (mCons (mOp oGet (mVar 0) (mC (.int 1))) (mNil))))) (mTest (mOp oLt (mOp oGet (mVar 0) (mC (.int 1))) (mC (.int 1)))))) (mRet (mC (.bl false))) (mNx))
    (mRet (mOp oEq (mB bGcd (mCons (mOp oGet (mVar 0) (mC (.int 0))) (mCons (mOp oGet (mVar 0) (mC (.int 1))) (mNil)))) (mC (.int 1)))))
theorem ok_is_ratio {P : Program} {w : World} {K : PySem.W.Frag} {mg : Str → Option Value} {base : Heap} {aPaidError aBadSystem aBadLine : Addr} {fa : Addr} {fd : FuncData} {k : Nat} (F : Fun K "is_ratio" "is_ratio" s_is_ratio fa fd) (T : Md K mg aPaidError aBadSystem aBadLine) {f_is_int : FnM} (F_is_int : FnI P w K mg base (ctb aPaidError aBadSystem aBadLine) k "is_int" ["x"] f_is_int) :
    FnOk P w K mg base (L2.CX P w) (k + 1) fa fd ["thing"] (spM K (ctb aPaidError aBadSystem aBadLine) 1 (mFn 1 (m_is_ratio f_is_int))) :=
  fn_ok F sc_is_ratio fun cdv A outer s H E hr tk pas => by
    let ct : Ctb := ctb aPaidError aBadSystem aBadLine
    exact ((sss_cons (ss_if (st_w (sw_or (st_not (st_val (se_isi (by decide) rfl T.z_isinstance rfl T.z_tuple PyProof.Rows.boot_tuple (se_var 0)))) (sw_or1 (st_cmp (op_neM hr.units) (se_callB cr_len rfl T.z_len PySem.boot_len (sa_cons (se_var 0) sa_nil)) se_int (nomark _))))) (sss_one (ss_ret se_bl)) sss_nil)
    (sss_cons (ss_if (st_w (sw_or (st_not (st_val (se_callI F_is_int rfl hr rfl tk (sa_cons (se_ix (ix_A hr) (se_var 0) se_int (fun _ _ => rfl)) sa_nil)))) (sw_or (st_not (st_val (se_callI F_is_int rfl hr rfl tk (sa_cons (se_ix (ix_A hr) (se_var 0) se_int (fun _ _ => rfl)) sa_nil)))) (sw_or1 (st_cmp op_ltM (se_ix (ix_A hr) (se_var 0) se_int (fun _ _ => rfl)) se_int (nomark _)))))) (sss_one (ss_ret se_bl)) sss_nil)
    (sss_one (ss_ret (se_cmp (op_eqM hr.units) (se_callFun cr_gcdM rfl T.i_gcd (sa_cons (se_ix (ix_A hr) (se_var 0) se_int (fun _ _ => rfl)) (sa_cons (se_ix (ix_A hr) (se_var 0) se_int (fun _ _ => rfl)) sa_nil))) se_int (nomark _)))))))
abbrev s_is_line : Stmt := topS 27
theorem sc_is_line : FnScope ["count", "thing", "last", "term"] ["count", "thing"] (defScope s_is_line) := ⟨rfl, rfl, rfl, by decide +kernel, rfl, by decide +kernel, by decide +kernel⟩
noncomputable def m_is_line (f_is_int : FnM) : MS :=
    mSeq (mIfS (mOr (mNot (mTest (mIsi "tuple" (mVar 1)))) (mTest (mOp oNe (mB bLen (mCons (mVar 1) (mNil))) (mC (.int 2))))) (mRet (mC (.bl false))) (mNx))
    (mSeq (mIfS (mOr (mNot (mTest (mCall 1 f_is_int (mCons (mOp oGet (mVar 1) (mC (.int 0))) (mNil))))) (mNot (mTest (mIsi "tuple" (mOp oGet (mVar 1) (mC (.int 1))))))) (mRet (mC (.bl false))) (mNx))
    (mSeq (mSet 2 (mUn oNeg (mC (.int 1))))
    (mSeq (mFor (miOf iterA (mOp oGet (mVar 1) (mC (.int 1)))) (gmName 3) (mSeq (mIfS (mOr (mNot (mTest (mIsi "tuple" (mVar 3)))) (mTest (mOp oNe (mB bLen (mCons (mVar 3) (mNil))) (mC (.int 2))))) (mRet (mC (.bl false))) (mNx))
    (mSeq (mIfS (mOr (mNot (mTest (mCall 1 f_is_int (mCons (mOp oGet (mVar 3) (mC (.int 0))) (mNil))))) (mOr (mNot (mTest (mCall 1 f_is_int (mCons (mOp oGet (mVar 3) (mC (.int 1))) (mNil))))) (mTest (mOp oEq (mOp oGet (mVar 3) (mC (.int 1))) (mC (.int 0)))))) (mRet (mC (.bl false))) (mNx))
    (mSeq (mIfS (mOr (mTest (mOp oLe (mOp oGet (mVar 3) (mC (.int 0))) (mVar 2))) (mTest (mOp oGeA (mOp oGet (mVar 3) (mC (.int 0))) (mVar 0)))) (mRet (mC (.bl false))) (mNx))
    (mSet 2 (mOp oGet (mVar 3) (mC (.int 0))))))))
    (mRet (mC (.bl true))))))
theorem ok_is_line {P : Program} {w : World} {K : PySem.W.Frag} {mg : Str → Option Value} {base : Heap} {aPaidError aBadSystem aBadLine : Addr} {fa : Addr} {fd : FuncData} {k : Nat} (F : Fun K "is_line" "is_line" s_is_line fa fd) (T : Md K mg aPaidError aBadSystem aBadLine) {f_is_int : FnM} (F_is_int : FnI P w K mg base (ctb aPaidError aBadSystem aBadLine) k "is_int" ["x"] f_is_int) :
    FnOk P w K mg base (L2.CX P w) (k + 1) fa fd ["count", "thing"] (spM K (ctb aPaidError aBadSystem aBadLine) 2 (mFn 4 (m_is_line f_is_int))) :=
  fn_ok F sc_is_line fun cdv A outer s H E hr tk pas => by
    let ct : Ctb := ctb aPaidError aBadSystem aBadLine
    exact ((sss_cons (ss_if (st_w (sw_or (st_not (st_val (se_isi (by decide) rfl T.z_isinstance rfl T.z_tuple PyProof.Rows.boot_tuple (se_var 1)))) (sw_or1 (st_cmp (op_neM hr.units) (se_callB cr_len rfl T.z_len PySem.boot_len (sa_cons (se_var 1) sa_nil)) se_int (nomark _))))) (sss_one (ss_ret se_bl)) sss_nil)
    (sss_cons (ss_if (st_w (sw_or (st_not (st_val (se_callI F_is_int rfl hr rfl tk (sa_cons (se_ix (ix_A hr) (se_var 1) se_int (fun _ _ => rfl)) sa_nil)))) (sw_or1 (st_not (st_val (se_isi (by decide) rfl T.z_isinstance rfl T.z_tuple PyProof.Rows.boot_tuple (se_ix (ix_A hr) (se_var 1) se_int (fun _ _ => rfl)))))))) (sss_one (ss_ret se_bl)) sss_nil)
    (sss_cons (ss_set (i := 2) sc_is_line.nd rfl (Or.inl rfl) (se_un un_negM se_int))
    (sss_cons (ss_for pas rfl (si_any (se_ix (ix_A hr) (se_var 1) se_int (fun _ _ => rfl))) (sg_name (i := 3) sc_is_line.nd rfl (Or.inl rfl)) (sss_cons (ss_if (st_w (sw_or (st_not (st_val (se_isi (by decide) rfl T.z_isinstance rfl T.z_tuple PyProof.Rows.boot_tuple (se_var 3)))) (sw_or1 (st_cmp (op_neM hr.units) (se_callB cr_len rfl T.z_len PySem.boot_len (sa_cons (se_var 3) sa_nil)) se_int (nomark _))))) (sss_one (ss_ret se_bl)) sss_nil)
    (sss_cons (ss_if (st_w (sw_or (st_not (st_val (se_callI F_is_int rfl hr rfl tk (sa_cons (se_ix (ix_A hr) (se_var 3) se_int (fun _ _ => rfl)) sa_nil)))) (sw_or (st_not (st_val (se_callI F_is_int rfl hr rfl tk (sa_cons (se_ix (ix_A hr) (se_var 3) se_int (fun _ _ => rfl)) sa_nil)))) (sw_or1 (st_cmp (op_eqM hr.units) (se_ix (ix_A hr) (se_var 3) se_int (fun _ _ => rfl)) se_int (nomark _)))))) (sss_one (ss_ret se_bl)) sss_nil)
    (sss_cons (ss_if (st_w (sw_or (st_cmp op_leM (se_ix (ix_A hr) (se_var 3) se_int (fun _ _ => rfl)) (se_var 2) (nomark _)) (sw_or1 (st_cmp (op_geA hr) (se_ix (ix_A hr) (se_var 3) se_int (fun _ _ => rfl)) (se_var 0) (nomark _))))) (sss_one (ss_ret se_bl)) sss_nil)
    (sss_one (ss_set (i := 2) sc_is_line.nd rfl (Or.inl rfl) (se_ix (ix_A hr) (se_var 3) se_int (fun _ _ => rfl))))))))
    (sss_one (ss_ret se_bl)))))))
abbrev s_is_system : Stmt := topS 28
theorem sc_is_system : FnScope ["thing", "count", "rows", "row"] ["thing"] (defScope s_is_system) := ⟨rfl, rfl, rfl, by decide +kernel, rfl, by decide +kernel, by decide +kernel⟩
noncomputable def m_is_system (f_is_int : FnM) (f_is_line : FnM) : MS :=
    mSeq (mIfS (mOr (mNot (mTest (mIsi "tuple" (mVar 0)))) (mTest (mOp oNe (mB bLen (mCons (mVar 0) (mNil))) (mC (.int 2))))) (mRet (mC (.bl false))) (mNx))
    (mSeq (mAsg (mVar 0) (gmSeq 2 (gmCons (gmName 1) (gmCons (gmName 2) (gmNil)))))
    (mSeq (mIfS (mOr (mNot (mTest (mCall 1 f_is_int (mCons (mVar 1) (mNil))))) (mOr (mTest (mOp oLt (mVar 1) (mC (.int 0)))) (mTest (mOp oGt (mVar 1) (mC (.int 4000)))))) (mRet (mC (.bl false))) (mNx))
    (mSeq (mIfS (mOr (mNot (mTest (mIsi "tuple" (mVar 2)))) (mTest (mOp oGt (mB bLen (mCons (mVar 2) (mNil))) (mC (.int 12000))))) (mRet (mC (.bl false))) (mNx))
    (mSeq (mFor (miOf iterA (mVar 2)) (gmName 3) (mSeq (mIfS (mOr (mNot (mTest (mIsi "tuple" (mVar 3)))) (mOr (mTest (mOp oNe (mB bLen (mCons (mVar 3) (mNil))) (mC (.int 2)))) (mNot (mTest (mIsi "bool" (mOp oGet (mVar 3) (mC (.int 1)))))))) (mRet (mC (.bl false))) (mNx))
    (mIfS (mNot (mTest (mCall 2 f_is_line (mCons (mVar 1) (mCons (mOp oGet (mVar 3) (mC (.int 0))) (mNil)))))) (mRet (mC (.bl false))) (mNx))))
    (mRet (mC (.bl true)))))))
theorem ok_is_system {P : Program} {w : World} {K : PySem.W.Frag} {mg : Str → Option Value} {base : Heap} {aPaidError aBadSystem aBadLine : Addr} {fa : Addr} {fd : FuncData} {k : Nat} (F : Fun K "is_system" "is_system" s_is_system fa fd) (T : Md K mg aPaidError aBadSystem aBadLine) {f_is_int : FnM} {f_is_line : FnM} (F_is_int : FnI P w K mg base (ctb aPaidError aBadSystem aBadLine) k "is_int" ["x"] f_is_int) (F_is_line : FnI P w K mg base (ctb aPaidError aBadSystem aBadLine) k "is_line" ["count", "thing"] f_is_line) :
    FnOk P w K mg base (L2.CX P w) (k + 1) fa fd ["thing"] (spM K (ctb aPaidError aBadSystem aBadLine) 1 (mFn 4 (m_is_system f_is_int f_is_line))) :=
  fn_ok F sc_is_system fun cdv A outer s H E hr tk pas => by
    let ct : Ctb := ctb aPaidError aBadSystem aBadLine
    exact ((sss_cons (ss_if (st_w (sw_or (st_not (st_val (se_isi (by decide) rfl T.z_isinstance rfl T.z_tuple PyProof.Rows.boot_tuple (se_var 0)))) (sw_or1 (st_cmp (op_neM hr.units) (se_callB cr_len rfl T.z_len PySem.boot_len (sa_cons (se_var 0) sa_nil)) se_int (nomark _))))) (sss_one (ss_ret se_bl)) sss_nil)
    (sss_cons (ss_asg (se_var 0) (sg_seq rfl (sgs_cons (sg_name (i := 1) sc_is_system.nd rfl (Or.inl rfl)) (sgs_cons (sg_name (i := 2) sc_is_system.nd rfl (Or.inl rfl)) sgs_nil))))
    (sss_cons (ss_if (st_w (sw_or (st_not (st_val (se_callI F_is_int rfl hr rfl tk (sa_cons (se_var 1) sa_nil)))) (sw_or (st_cmp op_ltM (se_var 1) se_int (nomark _)) (sw_or1 (st_cmp op_gtM (se_var 1) se_int (nomark _)))))) (sss_one (ss_ret se_bl)) sss_nil)
    (sss_cons (ss_if (st_w (sw_or (st_not (st_val (se_isi (by decide) rfl T.z_isinstance rfl T.z_tuple PyProof.Rows.boot_tuple (se_var 2)))) (sw_or1 (st_cmp op_gtM (se_callB cr_len rfl T.z_len PySem.boot_len (sa_cons (se_var 2) sa_nil)) se_int (nomark _))))) (sss_one (ss_ret se_bl)) sss_nil)
    (sss_cons (ss_for pas rfl (si_any (se_var 2)) (sg_name (i := 3) sc_is_system.nd rfl (Or.inl rfl)) (sss_cons (ss_if (st_w (sw_or (st_not (st_val (se_isi (by decide) rfl T.z_isinstance rfl T.z_tuple PyProof.Rows.boot_tuple (se_var 3)))) (sw_or (st_cmp (op_neM hr.units) (se_callB cr_len rfl T.z_len PySem.boot_len (sa_cons (se_var 3) sa_nil)) se_int (nomark _)) (sw_or1 (st_not (st_val (se_isi (by decide) rfl T.z_isinstance rfl T.z_bool PyProof.Rows.boot_bool (se_ix (ix_A hr) (se_var 3) se_int (fun _ _ => rfl))))))))) (sss_one (ss_ret se_bl)) sss_nil)
    (sss_one (ss_if (st_not (st_val (se_callI F_is_line rfl hr rfl tk (sa_cons (se_var 1) (sa_cons (se_ix (ix_A hr) (se_var 3) se_int (fun _ _ => rfl)) sa_nil))))) (sss_one (ss_ret se_bl)) sss_nil))))
    (sss_one (ss_ret se_bl))))))))
abbrev s_need_system : Stmt := topS 29
theorem sc_need_system : FnScope ["thing"] ["thing"] (defScope s_need_system) := ⟨rfl, rfl, rfl, by decide +kernel, rfl, by decide +kernel, by decide +kernel⟩
noncomputable def m_need_system (f_is_system : FnM) : MS :=
    mIfS (mNot (mTest (mCall 1 f_is_system (mCons (mVar 0) (mNil))))) (mRaise "BadSystem") (mNx)
theorem ok_need_system {P : Program} {w : World} {K : PySem.W.Frag} {mg : Str → Option Value} {base : Heap} {aPaidError aBadSystem aBadLine : Addr} {fa : Addr} {fd : FuncData} {k : Nat} (F : Fun K "need_system" "need_system" s_need_system fa fd) (T : Md K mg aPaidError aBadSystem aBadLine) {f_is_system : FnM} (F_is_system : FnI P w K mg base (ctb aPaidError aBadSystem aBadLine) k "is_system" ["thing"] f_is_system) :
    FnOk P w K mg base (L2.CX P w) (k + 1) fa fd ["thing"] (spM K (ctb aPaidError aBadSystem aBadLine) 1 (mFn 1 (m_need_system f_is_system))) :=
  fn_ok F sc_need_system fun cdv A outer s H E hr tk pas => by
    let ct : Ctb := ctb aPaidError aBadSystem aBadLine
    exact ((sss_one (ss_if (st_not (st_val (se_callI F_is_system rfl hr rfl tk (sa_cons (se_var 0) sa_nil)))) (sss_one (ss_raiseI rfl tk T.e_BadSystem ctb_BadSystem rfl)) sss_nil)))
abbrev s_is_point : Stmt := topS 30
theorem sc_is_point : FnScope ["count", "thing", "part"] ["count", "thing"] (defScope s_is_point) := ⟨rfl, rfl, rfl, by decide +kernel, rfl, by decide +kernel, by decide +kernel⟩
noncomputable def m_is_point (f_is_ratio : FnM) : MS :=
    mSeq (mIfS (mOr (mNot (mTest (mIsi "tuple" (mVar 1)))) (mTest (mOp oNe (mB bLen (mCons (mVar 1) (mNil))) (mVar 0)))) (mRet (mC (.bl false))) (mNx))
    (mRet (mB bAll (mCons (mLc (miOf iterA (mVar 1)) (gmName 2) (mYes) (mCall 1 f_is_ratio (mCons (mVar 2) (mNil))) [2]) (mNil))))
theorem ok_is_point {P : Program} {w : World} {K : PySem.W.Frag} {mg : Str → Option Value} {base : Heap} {aPaidError aBadSystem aBadLine : Addr} {fa : Addr} {fd : FuncData} {k : Nat} (F : Fun K "is_point" "is_point" s_is_point fa fd) (T : Md K mg aPaidError aBadSystem aBadLine) {f_is_ratio : FnM} (F_is_ratio : FnI P w K mg base (ctb aPaidError aBadSystem aBadLine) k "is_ratio" ["thing"] f_is_ratio) :
    FnOk P w K mg base (L2.CX P w) (k + 1) fa fd ["count", "thing"] (spM K (ctb aPaidError aBadSystem aBadLine) 2 (mFn 3 (m_is_point f_is_ratio))) :=
  fn_ok F sc_is_point fun cdv A outer s H E hr tk pas => by
    let ct : Ctb := ctb aPaidError aBadSystem aBadLine
    exact ((sss_cons (ss_if (st_w (sw_or (st_not (st_val (se_isi (by decide) rfl T.z_isinstance rfl T.z_tuple PyProof.Rows.boot_tuple (se_var 1)))) (sw_or1 (st_cmp (op_neM hr.units) (se_callB cr_len rfl T.z_len PySem.boot_len (sa_cons (se_var 1) sa_nil)) (se_var 0) (nomark _))))) (sss_one (ss_ret se_bl)) sss_nil)
    (sss_one (ss_ret (se_callB (cr_allM rfl) rfl T.z_all (by decide +kernel) (sa_cons (se_lc [("part", 2)] rfl sc_is_point.nd (si_any (se_var 1)) (blkOk_by (own := [("part", 2)]) (N := ["count", "thing", "part"]) (sc := defScope s_is_point) (by decide +kernel)) (fun _ _ _ _ _ => (sgv_name (vs := [2]) (i := 2) sc_is_point.nd rfl (Or.inl rfl) (by decide))) (fun _ _ _ _ _ => sts_nil) (fun _ _ _ _ _ => (se_callI F_is_ratio rfl hr rfl takes0 (sa_cons (se_var 2) sa_nil)))) sa_nil))))))
abbrev s_is_multipliers : Stmt := topS 31
theorem sc_is_multipliers : FnScope ["rows", "thing", "k", "number"] ["rows", "thing"] (defScope s_is_multipliers) := ⟨rfl, rfl, rfl, by decide +kernel, rfl, by decide +kernel, by decide +kernel⟩
noncomputable def m_is_multipliers (f_is_int : FnM) : MS :=
    mSeq (mIfS (mOr (mNot (mTest (mIsi "tuple" (mVar 1)))) (mTest (mOp oNe (mB bLen (mCons (mVar 1) (mNil))) (mB bLen (mCons (mVar 0) (mNil)))))) (mRet (mC (.bl false))) (mNx))
    (mSeq (mFor (miEnumA (mVar 1)) (gmSeq 2 (gmCons (gmName 2) (gmCons (gmName 3) (gmNil)))) (mIfS (mOr (mNot (mTest (mCall 1 f_is_int (mCons (mVar 3) (mNil))))) (mAnd (mTest (mOp oLt (mVar 3) (mC (.int 0)))) (mNot (mTest (mOp oGet (mOp oGet (mVar 0) (mVar 2)) (mC (.int 1))))))) (mRet (mC (.bl false))) (mNx)))
    (mRet (mC (.bl true))))
theorem ok_is_multipliers {P : Program} {w : World} {K : PySem.W.Frag} {mg : Str → Option Value} {base : Heap} {aPaidError aBadSystem aBadLine : Addr} {fa : Addr} {fd : FuncData} {k : Nat} (F : Fun K "is_multipliers" "is_multipliers" s_is_multipliers fa fd) (T : Md K mg aPaidError aBadSystem aBadLine) {f_is_int : FnM} (F_is_int : FnI P w K mg base (ctb aPaidError aBadSystem aBadLine) k "is_int" ["x"] f_is_int) :
    FnOk P w K mg base (L2.CX P w) (k + 1) fa fd ["rows", "thing"] (spM K (ctb aPaidError aBadSystem aBadLine) 2 (mFn 4 (m_is_multipliers f_is_int))) :=
  fn_ok F sc_is_multipliers fun cdv A outer s H E hr tk pas => by
    let ct : Ctb := ctb aPaidError aBadSystem aBadLine
    exact ((sss_cons (ss_if (st_w (sw_or (st_not (st_val (se_isi (by decide) rfl T.z_isinstance rfl T.z_tuple PyProof.Rows.boot_tuple (se_var 1)))) (sw_or1 (st_cmp (op_neM hr.units) (se_callB cr_len rfl T.z_len PySem.boot_len (sa_cons (se_var 1) sa_nil)) (se_callB cr_len rfl T.z_len PySem.boot_len (sa_cons (se_var 0) sa_nil)) (nomark _))))) (sss_one (ss_ret se_bl)) sss_nil)
    (sss_cons (ss_for pas rfl (si_enumA rfl T.z_enumerate (se_var 1)) (sg_seq rfl (sgs_cons (sg_name (i := 2) sc_is_multipliers.nd rfl (Or.inl rfl)) (sgs_cons (sg_name (i := 3) sc_is_multipliers.nd rfl (Or.inl rfl)) sgs_nil))) (sss_one (ss_if (st_w (sw_or (st_not (st_val (se_callI F_is_int rfl hr rfl tk (sa_cons (se_var 3) sa_nil)))) (sw_or1 (st_w (sw_and (st_cmp op_ltM (se_var 3) se_int (nomark _)) (sw_and1 (st_not (st_val (se_ix (ix_A hr) (se_ix (ix_A hr) (se_var 0) (se_var 2) (fun _ _ => rfl)) se_int (fun _ _ => rfl)))))))))) (sss_one (ss_ret se_bl)) sss_nil)))
    (sss_one (ss_ret se_bl)))))
abbrev s_value_at : Stmt := topS 32
theorem sc_value_at : FnScope ["line", "point", "top", "bottom", "unknown", "coefficient", "other"] ["line", "point"] (defScope s_value_at) := ⟨rfl, rfl, rfl, by decide +kernel, rfl, by decide +kernel, by decide +kernel⟩
noncomputable def m_value_at (f_lowest : FnM) : MS :=
    mSeq (mSet 2 (mOp oGet (mVar 0) (mC (.int 0))))
    (mSeq (mSet 3 (mC (.int 1)))
    (mSeq (mFor (miOf iterA (mOp oGet (mVar 0) (mC (.int 1)))) (gmSeq 2 (gmCons (gmName 4) (gmCons (gmName 5) (gmNil)))) (mSeq (mSet 6 (mOp oGet (mVar 1) (mVar 4)))
    (mAsg (mCall 2 f_lowest (mCons (mOp oAdd (mOp oMulA (mVar 2) (mOp oGet (mVar 6) (mC (.int 1)))) (mOp oMulA (mOp oMulA (mVar 5) (mOp oGet (mVar 6) (mC (.int 0)))) (mVar 3))) (mCons (mOp oMulA (mVar 3) (mOp oGet (mVar 6) (mC (.int 1)))) (mNil)))) (gmSeq 2 (gmCons (gmName 2) (gmCons (gmName 3) (gmNil)))))))
    (mRet (mTup (mCons (mVar 2) (mCons (mVar 3) (mNil)))))))
theorem ok_value_at {P : Program} {w : World} {K : PySem.W.Frag} {mg : Str → Option Value} {base : Heap} {aPaidError aBadSystem aBadLine : Addr} {fa : Addr} {fd : FuncData} {k : Nat} (F : Fun K "value_at" "value_at" s_value_at fa fd) (T : Md K mg aPaidError aBadSystem aBadLine) {f_lowest : FnM} (F_lowest : FnI P w K mg base (ctb aPaidError aBadSystem aBadLine) k "lowest" ["top", "bottom"] f_lowest) :
    FnOk P w K mg base (L2.CX P w) (k + 1) fa fd ["line", "point"] (spM K (ctb aPaidError aBadSystem aBadLine) 2 (mFn 7 (m_value_at f_lowest))) :=
  fn_ok F sc_value_at fun cdv A outer s H E hr tk pas => by
    let ct : Ctb := ctb aPaidError aBadSystem aBadLine
    exact ((sss_cons (ss_set (i := 2) sc_value_at.nd rfl (Or.inl rfl) (se_ix (ix_A hr) (se_var 0) se_int (fun _ _ => rfl)))
    (sss_cons (ss_set (i := 3) sc_value_at.nd rfl (Or.inl rfl) se_int)
    (sss_cons (ss_for pas rfl (si_any (se_ix (ix_A hr) (se_var 0) se_int (fun _ _ => rfl))) (sg_seq rfl (sgs_cons (sg_name (i := 4) sc_value_at.nd rfl (Or.inl rfl)) (sgs_cons (sg_name (i := 5) sc_value_at.nd rfl (Or.inl rfl)) sgs_nil))) (sss_cons (ss_set (i := 6) sc_value_at.nd rfl (Or.inl rfl) (se_ix (ix_A hr) (se_var 1) (se_var 4) (fun _ _ => rfl)))
    (sss_one (ss_asg (se_callI F_lowest rfl hr rfl tk (sa_cons (se_op op_addM (se_op op_mulA (se_var 2) (se_ix (ix_A hr) (se_var 6) se_int (fun _ _ => rfl))) (se_op op_mulA (se_op op_mulA (se_var 5) (se_ix (ix_A hr) (se_var 6) se_int (fun _ _ => rfl))) (se_var 3))) (sa_cons (se_op op_mulA (se_var 3) (se_ix (ix_A hr) (se_var 6) se_int (fun _ _ => rfl))) sa_nil))) (sg_seq rfl (sgs_cons (sg_name (i := 2) sc_value_at.nd rfl (Or.inl rfl)) (sgs_cons (sg_name (i := 3) sc_value_at.nd rfl (Or.inl rfl)) sgs_nil)))))))
    (sss_one (ss_ret (se_tup (sa_cons (se_var 2) (sa_cons (se_var 3) sa_nil)))))))))
abbrev s_keeps_rows : Stmt := topS 34
theorem sc_keeps_rows : FnScope ["rows", "point", "line", "exact", "top"] ["rows", "point"] (defScope s_keeps_rows) := ⟨rfl, rfl, rfl, by decide +kernel, rfl, by decide +kernel, by decide +kernel⟩
noncomputable def m_keeps_rows (f_value_at : FnM) : MS :=
    mSeq (mFor (miOf iterA (mVar 0)) (gmSeq 2 (gmCons (gmName 2) (gmCons (gmName 3) (gmNil)))) (mSeq (mSet 4 (mOp oGet (mCall 2 f_value_at (mCons (mVar 2) (mCons (mVar 1) (mNil)))) (mC (.int 0))))
    (mIfS (mOr (mTest (mOp oLt (mVar 4) (mC (.int 0)))) (mAnd (mTest (mVar 3)) (mTest (mOp oNe (mVar 4) (mC (.int 0)))))) (mRet (mC (.bl false))) (mNx))))
    (mRet (mC (.bl true)))
theorem ok_keeps_rows {P : Program} {w : World} {K : PySem.W.Frag} {mg : Str → Option Value} {base : Heap} {aPaidError aBadSystem aBadLine : Addr} {fa : Addr} {fd : FuncData} {k : Nat} (F : Fun K "keeps_rows" "keeps_rows" s_keeps_rows fa fd) (T : Md K mg aPaidError aBadSystem aBadLine) {f_value_at : FnM} (F_value_at : FnI P w K mg base (ctb aPaidError aBadSystem aBadLine) k "value_at" ["line", "point"] f_value_at) :
    FnOk P w K mg base (L2.CX P w) (k + 1) fa fd ["rows", "point"] (spM K (ctb aPaidError aBadSystem aBadLine) 2 (mFn 5 (m_keeps_rows f_value_at))) :=
  fn_ok F sc_keeps_rows fun cdv A outer s H E hr tk pas => by
    let ct : Ctb := ctb aPaidError aBadSystem aBadLine
    exact ((sss_cons (ss_for pas rfl (si_any (se_var 0)) (sg_seq rfl (sgs_cons (sg_name (i := 2) sc_keeps_rows.nd rfl (Or.inl rfl)) (sgs_cons (sg_name (i := 3) sc_keeps_rows.nd rfl (Or.inl rfl)) sgs_nil))) (sss_cons (ss_set (i := 4) sc_keeps_rows.nd rfl (Or.inl rfl) (se_ix (ix_A hr) (se_callI F_value_at rfl hr rfl tk (sa_cons (se_var 2) (sa_cons (se_var 1) sa_nil))) se_int (fun _ _ => rfl)))
    (sss_one (ss_if (st_w (sw_or (st_cmp op_ltM (se_var 4) se_int (nomark _)) (sw_or1 (st_w (sw_and (st_val (se_var 3)) (sw_and1 (st_cmp (op_neM hr.units) (se_var 4) se_int (nomark _)))))))) (sss_one (ss_ret se_bl)) sss_nil))))
    (sss_one (ss_ret se_bl))))
abbrev s_gathered : Stmt := topS 35
theorem sc_gathered : FnScope ["rows", "multipliers", "const", "terms", "k", "number", "line", "unknown", "coefficient"] ["rows", "multipliers"] (defScope s_gathered) := ⟨rfl, rfl, rfl, by decide +kernel, rfl, by decide +kernel, by decide +kernel⟩
noncomputable def m_gathered : MS :=
    mSeq (mSet 2 (mC (.int 0)))
    (mSeq (mSet 3 (mDnew))
    (mSeq (mFor (miEnumA (mVar 1)) (gmSeq 2 (gmCons (gmName 4) (gmCons (gmName 5) (gmNil)))) (mSeq (mSet 6 (mOp oGet (mOp oGet (mVar 0) (mVar 4)) (mC (.int 0))))
    (mSeq (mSet 2 (mOp oAdd (mVar 2) (mOp oMulA (mVar 5) (mOp oGet (mVar 6) (mC (.int 0))))))
    (mFor (miOf iterA (mOp oGet (mVar 6) (mC (.int 1)))) (gmSeq 2 (gmCons (gmName 7) (gmCons (gmName 8) (gmNil)))) (mAsg (mOp oAdd (mGet2 (mVar 3) (mVar 7) (mC (.int 0))) (mOp oMulA (mVar 5) (mVar 8))) (gmSub oPut (mVar 3) (mVar 7)))))))
    (mRet (mTup (mCons (mVar 2) (mCons (mVar 3) (mNil)))))))
theorem ok_gathered {P : Program} {w : World} {K : PySem.W.Frag} {mg : Str → Option Value} {base : Heap} {aPaidError aBadSystem aBadLine : Addr} {fa : Addr} {fd : FuncData} {k : Nat} (F : Fun K "gathered" "gathered" s_gathered fa fd) (T : Md K mg aPaidError aBadSystem aBadLine) :
    FnOk P w K mg base (L2.CX P w) (k + 1) fa fd ["rows", "multipliers"] (spM K (ctb aPaidError aBadSystem aBadLine) 2 (mFn 9 (m_gathered))) :=
  fn_ok F sc_gathered fun cdv A outer s H E hr tk pas => by
    let ct : Ctb := ctb aPaidError aBadSystem aBadLine
    exact ((sss_cons (ss_set (i := 2) sc_gathered.nd rfl (Or.inl rfl) se_int)
    (sss_cons (ss_set (i := 3) sc_gathered.nd rfl (Or.inl rfl) se_dnew)
    (sss_cons (ss_for pas rfl (si_enumA rfl T.z_enumerate (se_var 1)) (sg_seq rfl (sgs_cons (sg_name (i := 4) sc_gathered.nd rfl (Or.inl rfl)) (sgs_cons (sg_name (i := 5) sc_gathered.nd rfl (Or.inl rfl)) sgs_nil))) (sss_cons (ss_set (i := 6) sc_gathered.nd rfl (Or.inl rfl) (se_ix (ix_A hr) (se_ix (ix_A hr) (se_var 0) (se_var 4) (fun _ _ => rfl)) se_int (fun _ _ => rfl)))
    (sss_cons (ss_set (i := 2) sc_gathered.nd rfl (Or.inl rfl) (se_op op_addM (se_var 2) (se_op op_mulA (se_var 5) (se_ix (ix_A hr) (se_var 6) se_int (fun _ _ => rfl)))))
    (sss_one (ss_for pas rfl (si_any (se_ix (ix_A hr) (se_var 6) se_int (fun _ _ => rfl))) (sg_seq rfl (sgs_cons (sg_name (i := 7) sc_gathered.nd rfl (Or.inl rfl)) (sgs_cons (sg_name (i := 8) sc_gathered.nd rfl (Or.inl rfl)) sgs_nil))) (sss_one (ss_asg (se_op op_addM (se_get2 hr (se_var 3) (se_var 7) se_int ⟨rfl, rfl, rfl, rfl⟩) (se_op op_mulA (se_var 5) (se_var 8))) (sg_sub (ct := ct) (W := (fun c d _ H' => E c d H')) (se_var 3) (se_var 7) (set_A hr)))))))))
    (sss_one (ss_ret (se_tup (sa_cons (se_var 2) (sa_cons (se_var 3) sa_nil)))))))))
abbrev s_refutes_rows : Stmt := topS 36
theorem sc_refutes_rows : FnScope ["rows", "thing", "const", "terms", "total"] ["rows", "thing"] (defScope s_refutes_rows) := ⟨rfl, rfl, rfl, by decide +kernel, rfl, by decide +kernel, by decide +kernel⟩
noncomputable def m_refutes_rows (f_is_multipliers : FnM) (f_gathered : FnM) : MS :=
    mSeq (mIfS (mNot (mTest (mCall 2 f_is_multipliers (mCons (mVar 0) (mCons (mVar 1) (mNil)))))) (mRet (mC (.bl false))) (mNx))
    (mSeq (mAsg (mCall 2 f_gathered (mCons (mVar 0) (mCons (mVar 1) (mNil)))) (gmSeq 2 (gmCons (gmName 2) (gmCons (gmName 3) (gmNil)))))
    (mLock 3 (mRet (mAndV (mOp oLt (mVar 2) (mC (.int 0))) (mB bAll (mCons (mLc (miVals (mVar 3)) (gmName 4) (mYes) (mOp oEq (mVar 4) (mC (.int 0))) [4]) (mNil)))))))
theorem ok_refutes_rows {P : Program} {w : World} {K : PySem.W.Frag} {mg : Str → Option Value} {base : Heap} {aPaidError aBadSystem aBadLine : Addr} {fa : Addr} {fd : FuncData} {k : Nat} (F : Fun K "refutes_rows" "refutes_rows" s_refutes_rows fa fd) (T : Md K mg aPaidError aBadSystem aBadLine) {f_is_multipliers : FnM} {f_gathered : FnM} (F_is_multipliers : FnI P w K mg base (ctb aPaidError aBadSystem aBadLine) k "is_multipliers" ["rows", "thing"] f_is_multipliers) (F_gathered : FnI P w K mg base (ctb aPaidError aBadSystem aBadLine) k "gathered" ["rows", "multipliers"] f_gathered) :
    FnOk P w K mg base (L2.CX P w) (k + 1) fa fd ["rows", "thing"] (spM K (ctb aPaidError aBadSystem aBadLine) 2 (mFn 5 (m_refutes_rows f_is_multipliers f_gathered))) :=
  fn_ok F sc_refutes_rows fun cdv A outer s H E hr tk pas => by
    let ct : Ctb := ctb aPaidError aBadSystem aBadLine
    exact ((sss_cons (ss_if (st_not (st_val (se_callI F_is_multipliers rfl hr rfl tk (sa_cons (se_var 0) (sa_cons (se_var 1) sa_nil))))) (sss_one (ss_ret se_bl)) sss_nil)
    (sss_cons (ss_asg (se_callI F_gathered rfl hr rfl tk (sa_cons (se_var 0) (sa_cons (se_var 1) sa_nil))) (sg_seq rfl (sgs_cons (sg_name (i := 2) sc_refutes_rows.nd rfl (Or.inl rfl)) (sgs_cons (sg_name (i := 3) sc_refutes_rows.nd rfl (Or.inl rfl)) sgs_nil))))
    (sss_one (ss_lock 3 (ss_ret (se_and (se_cmp op_ltM (se_var 2) se_int (nomark _)) (se_and1 (se_callB (cr_allM rfl) rfl T.z_all (by decide +kernel) (sa_cons (se_lc [("total", 4)] rfl sc_refutes_rows.nd (si_vals (se_var 3)) (blkOk_by (own := [("total", 4)]) (N := ["rows", "thing", "const", "terms", "total"]) (sc := defScope s_refutes_rows) (by decide +kernel)) (fun _ _ _ _ _ => (sgv_name (vs := [4]) (i := 4) sc_refutes_rows.nd rfl (Or.inl rfl) (by decide))) (fun _ _ _ _ _ => sts_nil) (fun _ _ _ _ _ => (se_cmp (op_eqM hr.units) (se_var 4) se_int (nomark _)))) sa_nil))))))))))
abbrev s_keeps : Stmt := topS 37
theorem sc_keeps : FnScope ["system", "thing"] ["system", "thing"] (defScope s_keeps) := ⟨rfl, rfl, rfl, by decide +kernel, rfl, by decide +kernel, by decide +kernel⟩
noncomputable def m_keeps (f_need_system : FnM) (f_is_point : FnM) (f_keeps_rows : FnM) : MS :=
    mSeq (mDrop (mCall 1 f_need_system (mCons (mVar 0) (mNil))))
    (mRet (mAndV (mCall 2 f_is_point (mCons (mOp oGet (mVar 0) (mC (.int 0))) (mCons (mVar 1) (mNil)))) (mCall 2 f_keeps_rows (mCons (mOp oGet (mVar 0) (mC (.int 1))) (mCons (mVar 1) (mNil))))))
theorem ok_keeps {P : Program} {w : World} {K : PySem.W.Frag} {mg : Str → Option Value} {base : Heap} {aPaidError aBadSystem aBadLine : Addr} {fa : Addr} {fd : FuncData} {k : Nat} (F : Fun K "keeps" "keeps" s_keeps fa fd) (T : Md K mg aPaidError aBadSystem aBadLine) {f_need_system : FnM} {f_is_point : FnM} {f_keeps_rows : FnM} (F_need_system : FnI P w K mg base (ctb aPaidError aBadSystem aBadLine) k "need_system" ["thing"] f_need_system) (F_is_point : FnI P w K mg base (ctb aPaidError aBadSystem aBadLine) k "is_point" ["count", "thing"] f_is_point) (F_keeps_rows : FnI P w K mg base (ctb aPaidError aBadSystem aBadLine) k "keeps_rows" ["rows", "point"] f_keeps_rows) :
    FnOk P w K mg base (L2.CX P w) (k + 1) fa fd ["system", "thing"] (spM K (ctb aPaidError aBadSystem aBadLine) 2 (mFn 2 (m_keeps f_need_system f_is_point f_keeps_rows))) :=
  fn_ok F sc_keeps fun cdv A outer s H E hr tk pas => by
    let ct : Ctb := ctb aPaidError aBadSystem aBadLine
    exact ((sss_cons (ss_expr (se_callI F_need_system rfl hr rfl tk (sa_cons (se_var 0) sa_nil)))
    (sss_one (ss_ret (se_and (se_callI F_is_point rfl hr rfl tk (sa_cons (se_ix (ix_A hr) (se_var 0) se_int (fun _ _ => rfl)) (sa_cons (se_var 1) sa_nil))) (se_and1 (se_callI F_keeps_rows rfl hr rfl tk (sa_cons (se_ix (ix_A hr) (se_var 0) se_int (fun _ _ => rfl)) (sa_cons (se_var 1) sa_nil)))))))))
abbrev s_refutes : Stmt := topS 38
theorem sc_refutes : FnScope ["system", "thing"] ["system", "thing"] (defScope s_refutes) := ⟨rfl, rfl, rfl, by decide +kernel, rfl, by decide +kernel, by decide +kernel⟩
noncomputable def m_refutes (f_need_system : FnM) (f_refutes_rows : FnM) : MS :=
    mSeq (mDrop (mCall 1 f_need_system (mCons (mVar 0) (mNil))))
    (mRet (mCall 2 f_refutes_rows (mCons (mOp oGet (mVar 0) (mC (.int 1))) (mCons (mVar 1) (mNil)))))
theorem ok_refutes {P : Program} {w : World} {K : PySem.W.Frag} {mg : Str → Option Value} {base : Heap} {aPaidError aBadSystem aBadLine : Addr} {fa : Addr} {fd : FuncData} {k : Nat} (F : Fun K "refutes" "refutes" s_refutes fa fd) (T : Md K mg aPaidError aBadSystem aBadLine) {f_need_system : FnM} {f_refutes_rows : FnM} (F_need_system : FnI P w K mg base (ctb aPaidError aBadSystem aBadLine) k "need_system" ["thing"] f_need_system) (F_refutes_rows : FnI P w K mg base (ctb aPaidError aBadSystem aBadLine) k "refutes_rows" ["rows", "thing"] f_refutes_rows) :
    FnOk P w K mg base (L2.CX P w) (k + 1) fa fd ["system", "thing"] (spM K (ctb aPaidError aBadSystem aBadLine) 2 (mFn 2 (m_refutes f_need_system f_refutes_rows))) :=
  fn_ok F sc_refutes fun cdv A outer s H E hr tk pas => by
    let ct : Ctb := ctb aPaidError aBadSystem aBadLine
    exact ((sss_cons (ss_expr (se_callI F_need_system rfl hr rfl tk (sa_cons (se_var 0) sa_nil)))
    (sss_one (ss_ret (se_callI F_refutes_rows rfl hr rfl tk (sa_cons (se_ix (ix_A hr) (se_var 0) se_int (fun _ _ => rfl)) (sa_cons (se_var 1) sa_nil)))))))
abbrev s_solve : Stmt := topS 39
theorem sc_solve : FnScope ["system", "told"] ["system"] (defScope s_solve) := ⟨rfl, rfl, rfl, by decide +kernel, rfl, by decide +kernel, by decide +kernel⟩
noncomputable def m_solve (f_need_system : FnM) : MS :=
    mSeq (mDrop (mCall 1 f_need_system (mCons (mVar 0) (mNil))))
    (mBadS)
theorem ok_solve {P : Program} {w : World} {K : PySem.W.Frag} {mg : Str → Option Value} {base : Heap} {aPaidError aBadSystem aBadLine : Addr} {fa : Addr} {fd : FuncData} {k : Nat} (F : Fun K "solve" "solve" s_solve fa fd) (T : Md K mg aPaidError aBadSystem aBadLine) {f_need_system : FnM} (F_need_system : FnI P w K mg base (ctb aPaidError aBadSystem aBadLine) k "need_system" ["thing"] f_need_system) :
    FnOk P w K mg base (L2.CX P w) (k + 1) fa fd ["system"] (spM K (ctb aPaidError aBadSystem aBadLine) 1 (mFn 2 (m_solve f_need_system))) :=
  fn_ok F sc_solve fun cdv A outer s H E hr tk pas => by
    let ct : Ctb := ctb aPaidError aBadSystem aBadLine
    exact ((sss_cons (ss_expr (se_callI F_need_system rfl hr rfl tk (sa_cons (se_var 0) sa_nil)))
    sss_bad))
abbrev s_need_line : Stmt := topS 40
theorem sc_need_line : FnScope ["system", "line"] ["system", "line"] (defScope s_need_line) := ⟨rfl, rfl, rfl, by decide +kernel, rfl, by decide +kernel, by decide +kernel⟩
noncomputable def m_need_line (f_is_line : FnM) : MS :=
    mIfS (mNot (mTest (mCall 2 f_is_line (mCons (mOp oGet (mVar 0) (mC (.int 0))) (mCons (mVar 1) (mNil)))))) (mRaise "BadLine") (mNx)
theorem ok_need_line {P : Program} {w : World} {K : PySem.W.Frag} {mg : Str → Option Value} {base : Heap} {aPaidError aBadSystem aBadLine : Addr} {fa : Addr} {fd : FuncData} {k : Nat} (F : Fun K "need_line" "need_line" s_need_line fa fd) (T : Md K mg aPaidError aBadSystem aBadLine) {f_is_line : FnM} (F_is_line : FnI P w K mg base (ctb aPaidError aBadSystem aBadLine) k "is_line" ["count", "thing"] f_is_line) :
    FnOk P w K mg base (L2.CX P w) (k + 1) fa fd ["system", "line"] (spM K (ctb aPaidError aBadSystem aBadLine) 2 (mFn 2 (m_need_line f_is_line))) :=
  fn_ok F sc_need_line fun cdv A outer s H E hr tk pas => by
    let ct : Ctb := ctb aPaidError aBadSystem aBadLine
    exact ((sss_one (ss_if (st_not (st_val (se_callI F_is_line rfl hr rfl tk (sa_cons (se_ix (ix_A hr) (se_var 0) se_int (fun _ _ => rfl)) (sa_cons (se_var 1) sa_nil))))) (sss_one (ss_raiseI rfl tk T.e_BadLine ctb_BadLine rfl)) sss_nil)))
abbrev s_least : Stmt := topS 41
theorem sc_least : FnScope ["system", "line"] ["system", "line"] (defScope s_least) := ⟨rfl, rfl, rfl, by decide +kernel, rfl, by decide +kernel, by decide +kernel⟩
noncomputable def m_least (f_need_system : FnM) (f_need_line : FnM) : MS :=
    mSeq (mDrop (mCall 1 f_need_system (mCons (mVar 0) (mNil))))
    (mSeq (mDrop (mCall 2 f_need_line (mCons (mVar 0) (mCons (mVar 1) (mNil)))))
    (mBadS))
theorem ok_least {P : Program} {w : World} {K : PySem.W.Frag} {mg : Str → Option Value} {base : Heap} {aPaidError aBadSystem aBadLine : Addr} {fa : Addr} {fd : FuncData} {k : Nat} (F : Fun K "least" "least" s_least fa fd) (T : Md K mg aPaidError aBadSystem aBadLine) {f_need_system : FnM} {f_need_line : FnM} (F_need_system : FnI P w K mg base (ctb aPaidError aBadSystem aBadLine) k "need_system" ["thing"] f_need_system) (F_need_line : FnI P w K mg base (ctb aPaidError aBadSystem aBadLine) k "need_line" ["system", "line"] f_need_line) :
    FnOk P w K mg base (L2.CX P w) (k + 1) fa fd ["system", "line"] (spM K (ctb aPaidError aBadSystem aBadLine) 2 (mFn 2 (m_least f_need_system f_need_line))) :=
  fn_ok F sc_least fun cdv A outer s H E hr tk pas => by
    let ct : Ctb := ctb aPaidError aBadSystem aBadLine
    exact ((sss_cons (ss_expr (se_callI F_need_system rfl hr rfl tk (sa_cons (se_var 0) sa_nil)))
    (sss_cons (ss_expr (se_callI F_need_line rfl hr rfl tk (sa_cons (se_var 0) (sa_cons (se_var 1) sa_nil))))
    sss_bad)))
abbrev s_is_least : Stmt := topS 44
theorem sc_is_least : FnScope ["system", "line", "thing", "count", "rows"] ["system", "line", "thing"] (defScope s_is_least) := ⟨rfl, rfl, rfl, by decide +kernel, rfl, by decide +kernel, by decide +kernel⟩
noncomputable def m_is_least (f_need_system : FnM) (f_need_line : FnM) (f_refutes_rows : FnM) (f_is_point : FnM) (f_keeps_rows : FnM) : MS :=
    mSeq (mDrop (mCall 1 f_need_system (mCons (mVar 0) (mNil))))
    (mSeq (mDrop (mCall 2 f_need_line (mCons (mVar 0) (mCons (mVar 1) (mNil)))))
    (mSeq (mAsg (mVar 0) (gmSeq 2 (gmCons (gmName 3) (gmCons (gmName 4) (gmNil)))))
    (mSeq (mIfS (mOr (mNot (mTest (mIsi "tuple" (mVar 2)))) (mOr (mTest (mOp oLt (mB bLen (mCons (mVar 2) (mNil))) (mC (.int 2)))) (mNot (mTest (mIsi "str" (mOp oGet (mVar 2) (mC (.int 0)))))))) (mRet (mC (.bl false))) (mNx))
    (mSeq (mIfS (mTest (mOp oEq (mOp oGet (mVar 2) (mC (.int 0))) (mC (.str "paper")))) (mRet (mAndV (mOp oEq (mB bLen (mCons (mVar 2) (mNil))) (mC (.int 2))) (mCall 2 f_refutes_rows (mCons (mVar 4) (mCons (mOp oGet (mVar 2) (mC (.int 1))) (mNil)))))) (mNx))
    (mSeq (mIfS (mOr (mNot (mTest (mCall 2 f_is_point (mCons (mVar 3) (mCons (mOp oGet (mVar 2) (mC (.int 1))) (mNil)))))) (mNot (mTest (mCall 2 f_keeps_rows (mCons (mVar 4) (mCons (mOp oGet (mVar 2) (mC (.int 1))) (mNil))))))) (mRet (mC (.bl false))) (mNx))
    (mSeq (mIfS (mTest (mOp oEq (mOp oGet (mVar 2) (mC (.int 0))) (mC (.str "least")))) (mBadS) (mNx))
    (mBadS)))))))
theorem ok_is_least {P : Program} {w : World} {K : PySem.W.Frag} {mg : Str → Option Value} {base : Heap} {aPaidError aBadSystem aBadLine : Addr} {fa : Addr} {fd : FuncData} {k : Nat} (F : Fun K "is_least" "is_least" s_is_least fa fd) (T : Md K mg aPaidError aBadSystem aBadLine) {f_need_system : FnM} {f_need_line : FnM} {f_refutes_rows : FnM} {f_is_point : FnM} {f_keeps_rows : FnM} (F_need_system : FnI P w K mg base (ctb aPaidError aBadSystem aBadLine) k "need_system" ["thing"] f_need_system) (F_need_line : FnI P w K mg base (ctb aPaidError aBadSystem aBadLine) k "need_line" ["system", "line"] f_need_line) (F_refutes_rows : FnI P w K mg base (ctb aPaidError aBadSystem aBadLine) k "refutes_rows" ["rows", "thing"] f_refutes_rows) (F_is_point : FnI P w K mg base (ctb aPaidError aBadSystem aBadLine) k "is_point" ["count", "thing"] f_is_point) (F_keeps_rows : FnI P w K mg base (ctb aPaidError aBadSystem aBadLine) k "keeps_rows" ["rows", "point"] f_keeps_rows) :
    FnOk P w K mg base (L2.CX P w) (k + 1) fa fd ["system", "line", "thing"] (spM K (ctb aPaidError aBadSystem aBadLine) 3 (mFn 5 (m_is_least f_need_system f_need_line f_refutes_rows f_is_point f_keeps_rows))) :=
  fn_ok F sc_is_least fun cdv A outer s H E hr tk pas => by
    let ct : Ctb := ctb aPaidError aBadSystem aBadLine
    exact ((sss_cons (ss_expr (se_callI F_need_system rfl hr rfl tk (sa_cons (se_var 0) sa_nil)))
    (sss_cons (ss_expr (se_callI F_need_line rfl hr rfl tk (sa_cons (se_var 0) (sa_cons (se_var 1) sa_nil))))
    (sss_cons (ss_asg (se_var 0) (sg_seq rfl (sgs_cons (sg_name (i := 3) sc_is_least.nd rfl (Or.inl rfl)) (sgs_cons (sg_name (i := 4) sc_is_least.nd rfl (Or.inl rfl)) sgs_nil))))
    (sss_cons (ss_if (st_w (sw_or (st_not (st_val (se_isi (by decide) rfl T.z_isinstance rfl T.z_tuple PyProof.Rows.boot_tuple (se_var 2)))) (sw_or (st_cmp op_ltM (se_callB cr_len rfl T.z_len PySem.boot_len (sa_cons (se_var 2) sa_nil)) se_int (nomark _)) (sw_or1 (st_not (st_val (se_isi (by decide) rfl T.z_isinstance rfl T.z_str PyProof.Rows.boot_str (se_ix (ix_A hr) (se_var 2) se_int (fun _ _ => rfl))))))))) (sss_one (ss_ret se_bl)) sss_nil)
    (sss_cons (ss_if (st_cmp (op_eqM hr.units) (se_ix (ix_A hr) (se_var 2) se_int (fun _ _ => rfl)) se_str (nomark _)) (sss_one (ss_ret (se_and (se_cmp (op_eqM hr.units) (se_callB cr_len rfl T.z_len PySem.boot_len (sa_cons (se_var 2) sa_nil)) se_int (nomark _)) (se_and1 (se_callI F_refutes_rows rfl hr rfl tk (sa_cons (se_var 4) (sa_cons (se_ix (ix_A hr) (se_var 2) se_int (fun _ _ => rfl)) sa_nil))))))) sss_nil)
    (sss_cons (ss_if (st_w (sw_or (st_not (st_val (se_callI F_is_point rfl hr rfl tk (sa_cons (se_var 3) (sa_cons (se_ix (ix_A hr) (se_var 2) se_int (fun _ _ => rfl)) sa_nil))))) (sw_or1 (st_not (st_val (se_callI F_keeps_rows rfl hr rfl tk (sa_cons (se_var 4) (sa_cons (se_ix (ix_A hr) (se_var 2) se_int (fun _ _ => rfl)) sa_nil)))))))) (sss_one (ss_ret se_bl)) sss_nil)
    (sss_cons (ss_if (st_cmp (op_eqM hr.units) (se_ix (ix_A hr) (se_var 2) se_int (fun _ _ => rfl)) se_str (nomark _)) sss_bad sss_nil)
    sss_bad))))))))
abbrev s__law_draw : Stmt := topS 46
theorem sc__law_draw : FnScope ["well", "many", "cells", "cell", "got"] ["well", "many"] (defScope s__law_draw) := ⟨rfl, rfl, rfl, by decide +kernel, rfl, by decide +kernel, by decide +kernel⟩
noncomputable def m__law_draw : MS :=
    mSeq (mSet 2 (mOp oGet (mVar 0) (mC (.int 2))))
    (mSeq (mIfS (mTest (mOp oEq (mOp oGet (mVar 0) (mC (.int 0))) (mC (.int 0)))) (mSeq (mSet 3 (mC (.int 7)))
    (mSeq (mIfS (mTest (mOp oLt (mOp oGet (mVar 0) (mC (.int 1))) (mB bLen (mCons (mVar 2) (mNil))))) (mSet 3 (mB bAbs (mCons (mOp oGet (mVar 2) (mOp oGet (mVar 0) (mC (.int 1)))) (mNil)))) (mNx))
    (mSeq (mIfS (mTest (mOp oLt (mVar 3) (mOp oPow (mC (.int 10)) (mC (.int 18))))) (mSeq (mSet 3 (mOp oAdd (mOp oAdd (mOp oAdd (mOp oMulA (mVar 3) (mC (.int 1000003))) (mOp oMulA (mOp oGet (mVar 0) (mC (.int 1))) (mC (.int 7919)))) (mC (.int 12347))) (mOp oMulA (mOp oGet (mVar 0) (mC (.int 3))) (mC (.int 613)))))
    (mSet 3 (mOp oAdd (mOp oMulA (mOp oFdiv (mOp oMulA (mVar 3) (mVar 3)) (mC (.int 97))) (mC (.int 48271))) (mVar 3)))) (mNx))
    (mSeq (mAsg (mVar 3) (gmSub oPut (mVar 0) (mC (.int 0))))
    (mSeq (mAugS oIxL oIAdd oSet (mVar 0) (mC (.int 1)) (mC (.int 1)))
    (mAugS oIxL oIAdd oSet (mVar 0) (mC (.int 3)) (mC (.int 1)))))))) (mNx))
    (mSeq (mSet 4 (mOp oMod (mB bInt (mCons (mOp oGet (mVar 0) (mC (.int 0))) (mNil))) (mVar 1)))
    (mSeq (mAsg (mOp oFdiv (mOp oGet (mVar 0) (mC (.int 0))) (mVar 1)) (gmSub oPut (mVar 0) (mC (.int 0))))
    (mRet (mVar 4)))))
theorem ok__law_draw {P : Program} {w : World} {K : PySem.W.Frag} {mg : Str → Option Value} {base : Heap} {aPaidError aBadSystem aBadLine : Addr} {fa : Addr} {fd : FuncData} {k : Nat} (F : Fun K "_law_draw" "_law_draw" s__law_draw fa fd) (T : Md K mg aPaidError aBadSystem aBadLine) :
    FnOk P w K mg base (L2.CX P w) (k + 1) fa fd ["well", "many"] (spM K (ctb aPaidError aBadSystem aBadLine) 2 (mFn 5 (m__law_draw))) :=
  fn_ok F sc__law_draw fun cdv A outer s H E hr tk pas => by
    let ct : Ctb := ctb aPaidError aBadSystem aBadLine
    exact ((sss_cons (ss_set (i := 2) sc__law_draw.nd rfl (Or.inl rfl) (se_ix (ix_A hr) (se_var 0) se_int (fun _ _ => rfl)))
    (sss_cons (ss_if (st_cmp (op_eqM hr.units) (se_ix (ix_A hr) (se_var 0) se_int (fun _ _ => rfl)) se_int (nomark _)) (sss_cons (ss_set (i := 3) sc__law_draw.nd rfl (Or.inl rfl) se_int)
    (sss_cons (ss_if (st_cmp op_ltM (se_ix (ix_A hr) (se_var 0) se_int (fun _ _ => rfl)) (se_callB cr_len rfl T.z_len PySem.boot_len (sa_cons (se_var 2) sa_nil)) (nomark _)) (sss_one (ss_set (i := 3) sc__law_draw.nd rfl (Or.inl rfl) (se_callB cr_abs rfl T.z_abs (by decide +kernel) (sa_cons (se_ix (ix_A hr) (se_var 2) (se_ix (ix_A hr) (se_var 0) se_int (fun _ _ => rfl)) (fun _ _ => rfl)) sa_nil)))) sss_nil)
    (sss_cons (ss_if (st_cmp op_ltM (se_var 3) (se_op op_powM se_int se_int) (nomark _)) (sss_cons (ss_set (i := 3) sc__law_draw.nd rfl (Or.inl rfl) (se_op op_addM (se_op op_addM (se_op op_addM (se_op op_mulA (se_var 3) se_int) (se_op op_mulA (se_ix (ix_A hr) (se_var 0) se_int (fun _ _ => rfl)) se_int)) se_int) (se_op op_mulA (se_ix (ix_A hr) (se_var 0) se_int (fun _ _ => rfl)) se_int)))
    (sss_one (ss_set (i := 3) sc__law_draw.nd rfl (Or.inl rfl) (se_op op_addM (se_op op_mulA (se_op op_fdivM (se_op op_mulA (se_var 3) (se_var 3)) se_int) se_int) (se_var 3))))) sss_nil)
    (sss_cons (ss_asg (se_var 3) (sg_sub (ct := ct) (W := (fun c d _ H' => E c d H')) (se_var 0) se_int (set_A hr)))
    (sss_cons (ss_augS (se_var 0) se_int get_M se_int ip_addM set_M)
    (sss_one (ss_augS (se_var 0) se_int get_M se_int ip_addM set_M))))))) sss_nil)
    (sss_cons (ss_set (i := 4) sc__law_draw.nd rfl (Or.inl rfl) (se_op op_modM (se_callTy cr_int rfl T.z_int PyProof.Rows.boot_int (sa_cons (se_ix (ix_A hr) (se_var 0) se_int (fun _ _ => rfl)) sa_nil)) (se_var 1)))
    (sss_cons (ss_asg (se_op op_fdivM (se_ix (ix_A hr) (se_var 0) se_int (fun _ _ => rfl)) (se_var 1)) (sg_sub (ct := ct) (W := (fun c d _ H' => E c d H')) (se_var 0) se_int (set_A hr)))
    (sss_one (ss_ret (se_var 4))))))))
abbrev s__law_shared : Stmt := topS 47
theorem sc__law_shared : FnScope ["part", "k"] [] (defScope s__law_shared) := ⟨rfl, rfl, rfl, by decide +kernel, rfl, by decide +kernel, by decide +kernel⟩
noncomputable def m__law_shared : MS :=
    mSeq (mSet 0 (mTup (mCons (mC (.str "least")) (mCons (mTup (mCons (mC (.int 0)) (mCons (mC (.int 1)) (mNil)))) (mNil)))))
    (mSeq (mFor (miRng1 (mC (.int 25))) (gmName 1) (mSet 0 (mTup (mCons (mVar 0) (mCons (mVar 0) (mNil))))))
    (mRet (mVar 0)))
theorem ok__law_shared {P : Program} {w : World} {K : PySem.W.Frag} {mg : Str → Option Value} {base : Heap} {aPaidError aBadSystem aBadLine : Addr} {fa : Addr} {fd : FuncData} {k : Nat} (F : Fun K "_law_shared" "_law_shared" s__law_shared fa fd) (T : Md K mg aPaidError aBadSystem aBadLine) :
    FnOk P w K mg base (L2.CX P w) (k + 1) fa fd [] (spM K (ctb aPaidError aBadSystem aBadLine) 0 (mFn 2 (m__law_shared))) :=
  fn_ok F sc__law_shared fun cdv A outer s H E hr tk pas => by
    let ct : Ctb := ctb aPaidError aBadSystem aBadLine
    exact ((sss_cons (ss_set (i := 0) sc__law_shared.nd rfl (Or.inl rfl) (se_tup (sa_cons se_str (sa_cons (se_tup (sa_cons se_int (sa_cons se_int sa_nil))) sa_nil))))
    (sss_cons (ss_for pas rfl (si_rng1 rfl T.z_range se_int) (sg_name (i := 1) sc__law_shared.nd rfl (Or.inl rfl)) (sss_one (ss_set (i := 0) sc__law_shared.nd rfl (Or.inl rfl) (se_tup (sa_cons (se_var 0) (sa_cons (se_var 0) sa_nil))))))
    (sss_one (ss_ret (se_var 0))))))
abbrev s__law_int : Stmt := topS 48
theorem sc__law_int : FnScope ["thing"] ["thing"] (defScope s__law_int) := ⟨rfl, rfl, rfl, by decide +kernel, rfl, by decide +kernel, by decide +kernel⟩
noncomputable def m__law_int : MS :=
    mRet (mAndV (mIsi "int" (mVar 0)) (mNotV (mIsi "bool" (mVar 0))))
theorem ok__law_int {P : Program} {w : World} {K : PySem.W.Frag} {mg : Str → Option Value} {base : Heap} {aPaidError aBadSystem aBadLine : Addr} {fa : Addr} {fd : FuncData} {k : Nat} (F : Fun K "_law_int" "_law_int" s__law_int fa fd) (T : Md K mg aPaidError aBadSystem aBadLine) :
    FnOk P w K mg base (L2.CX P w) (k + 1) fa fd ["thing"] (spM K (ctb aPaidError aBadSystem aBadLine) 1 (mFn 1 (m__law_int))) :=
  fn_ok F sc__law_int fun cdv A outer s H E hr tk pas => by
    let ct : Ctb := ctb aPaidError aBadSystem aBadLine
    exact ((sss_one (ss_ret (se_and (se_isi (by decide) rfl T.z_isinstance rfl T.z_int PyProof.Rows.boot_int (se_var 0)) (se_and1 (se_not (se_isi (by decide) rfl T.z_isinstance rfl T.z_bool PyProof.Rows.boot_bool (se_var 0))))))))
abbrev s__law_gcd : Stmt := topS 49
theorem sc__law_gcd : FnScope ["a", "b", "rest"] ["a", "b"] (defScope s__law_gcd) := ⟨rfl, rfl, rfl, by decide +kernel, rfl, by decide +kernel, by decide +kernel⟩
noncomputable def m__law_gcd : MS :=
    mSeq (mSet 0 (mB bAbs (mCons (mVar 0) (mNil))))
    (mSeq (mSet 1 (mB bAbs (mCons (mVar 1) (mNil))))
    (mSeq ((fun ρ h => whileL (mTest (mOp oGt (mVar 1) (mC (.int 0)))) (mSeq (mSet 2 (mOp oMod (mB bInt (mCons (mVar 0) (mNil))) (mVar 1)))
    (mSeq (mSet 0 (mVar 1))
    (mSet 1 (mVar 2)))) ((fun ρ _ => (slotInt 1 ρ).toNat + 1) ρ h) ρ h))
    (mRet (mVar 0))))
theorem ok__law_gcd {P : Program} {w : World} {K : PySem.W.Frag} {mg : Str → Option Value} {base : Heap} {aPaidError aBadSystem aBadLine : Addr} {fa : Addr} {fd : FuncData} {k : Nat} (F : Fun K "_law_gcd" "_law_gcd" s__law_gcd fa fd) (T : Md K mg aPaidError aBadSystem aBadLine) :
    FnOk P w K mg base (L2.CX P w) (k + 1) fa fd ["a", "b"] (spM K (ctb aPaidError aBadSystem aBadLine) 2 (mFn 3 (m__law_gcd))) :=
  fn_ok F sc__law_gcd fun cdv A outer s H E hr tk pas => by
    let ct : Ctb := ctb aPaidError aBadSystem aBadLine
    exact ((sss_cons (ss_set (i := 0) sc__law_gcd.nd rfl (Or.inl rfl) (se_callB cr_abs rfl T.z_abs (by decide +kernel) (sa_cons (se_var 0) sa_nil)))
    (sss_cons (ss_set (i := 1) sc__law_gcd.nd rfl (Or.inl rfl) (se_callB cr_abs rfl T.z_abs (by decide +kernel) (sa_cons (se_var 1) sa_nil)))
    (sss_cons (ss_while (fun ρ _ => (slotInt 1 ρ).toNat + 1) pas (st_cmp op_gtM (se_var 1) se_int (nomark _)) (sss_cons (ss_set (i := 2) sc__law_gcd.nd rfl (Or.inl rfl) (se_op op_modM (se_callTy cr_int rfl T.z_int PyProof.Rows.boot_int (sa_cons (se_var 0) sa_nil)) (se_var 1)))
    (sss_cons (ss_set (i := 0) sc__law_gcd.nd rfl (Or.inl rfl) (se_var 1))
    (sss_one (ss_set (i := 1) sc__law_gcd.nd rfl (Or.inl rfl) (se_var 2))))))
    (sss_one (ss_ret (se_var 0)))))))
abbrev s__law_ratio : Stmt := topS 50
theorem sc__law_ratio : FnScope ["thing"] ["thing"] (defScope s__law_ratio) := ⟨rfl, rfl, rfl, by decide +kernel, rfl, by decide +kernel, by decide +kernel⟩
noncomputable def m__law_ratio (f__law_int : FnM) (f__law_gcd : FnM) : MS :=
    mSeq (mIfS (mOr (mNot (mTest (mIsi "tuple" (mVar 0)))) (mTest (mOp oNe (mB bLen (mCons (mVar 0) (mNil))) (mC (.int 2))))) (mRet (mC (.bl false))) (mNx))
    (mSeq (mIfS (mOr (mNot (mTest (mCall 1 f__law_int (mCons (mOp oGet (mVar 0) (mC (.int 0))) (mNil))))) (mOr (mNot (mTest (mCall 1 f__law_int (mCons (mOp oGet (mVar 0) (mC (.int 1))) (mNil))))) (mTest (mOp oLt (mOp oGet (mVar 0) (mC (.int 1))) (mC (.int 1)))))) (mRet (mC (.bl false))) (mNx))
    (mRet (mOp oEq (mCall 2 f__law_gcd (mCons (mOp oGet (mVar 0) (mC (.int 0))) (mCons (mOp oGet (mVar 0) (mC (.int 1))) (mNil)))) (mC (.int 1)))))
theorem ok__law_ratio {P : Program} {w : World} {K : PySem.W.Frag} {mg : Str → Option Value} {base : Heap} {aPaidError aBadSystem aBadLine : Addr} {fa : Addr} {fd : FuncData} {k : Nat} (F : Fun K "_law_ratio" "_law_ratio" s__law_ratio fa fd) (T : Md K mg aPaidError aBadSystem aBadLine) {f__law_int : FnM} {f__law_gcd : FnM} (F__law_int : FnI P w K mg base (ctb aPaidError aBadSystem aBadLine) k "_law_int" ["thing"] f__law_int) (F__law_gcd : FnI P w K mg base (ctb aPaidError aBadSystem aBadLine) k "_law_gcd" ["a", "b"] f__law_gcd) :
    FnOk P w K mg base (L2.CX P w) (k + 1) fa fd ["thing"] (spM K (ctb aPaidError aBadSystem aBadLine) 1 (mFn 1 (m__law_ratio f__law_int f__law_gcd))) :=
  fn_ok F sc__law_ratio fun cdv A outer s H E hr tk pas => by
    let ct : Ctb := ctb aPaidError aBadSystem aBadLine
    exact ((sss_cons (ss_if (st_w (sw_or (st_not (st_val (se_isi (by decide) rfl T.z_isinstance rfl T.z_tuple PyProof.Rows.boot_tuple (se_var 0)))) (sw_or1 (st_cmp (op_neM hr.units) (se_callB cr_len rfl T.z_len PySem.boot_len (sa_cons (se_var 0) sa_nil)) se_int (nomark _))))) (sss_one (ss_ret se_bl)) sss_nil)
    (sss_cons (ss_if (st_w (sw_or (st_not (st_val (se_callI F__law_int rfl hr rfl tk (sa_cons (se_ix (ix_A hr) (se_var 0) se_int (fun _ _ => rfl)) sa_nil)))) (sw_or (st_not (st_val (se_callI F__law_int rfl hr rfl tk (sa_cons (se_ix (ix_A hr) (se_var 0) se_int (fun _ _ => rfl)) sa_nil)))) (sw_or1 (st_cmp op_ltM (se_ix (ix_A hr) (se_var 0) se_int (fun _ _ => rfl)) se_int (nomark _)))))) (sss_one (ss_ret se_bl)) sss_nil)
    (sss_one (ss_ret (se_cmp (op_eqM hr.units) (se_callI F__law_gcd rfl hr rfl tk (sa_cons (se_ix (ix_A hr) (se_var 0) se_int (fun _ _ => rfl)) (sa_cons (se_ix (ix_A hr) (se_var 0) se_int (fun _ _ => rfl)) sa_nil))) se_int (nomark _)))))))
abbrev s__law_value : Stmt := topS 51
theorem sc__law_value : FnScope ["line", "point", "top", "bottom", "unknown", "coefficient"] ["line", "point"] (defScope s__law_value) := ⟨rfl, rfl, rfl, by decide +kernel, rfl, by decide +kernel, by decide +kernel⟩
noncomputable def m__law_value : MS :=
    mSeq (mSet 2 (mOp oGet (mVar 0) (mC (.int 0))))
    (mSeq (mSet 3 (mC (.int 1)))
    (mSeq (mFor (miOf iterA (mOp oGet (mVar 0) (mC (.int 1)))) (gmSeq 2 (gmCons (gmName 4) (gmCons (gmName 5) (gmNil)))) (mSeq (mSet 2 (mOp oAdd (mOp oMulA (mVar 2) (mOp oGet (mOp oGet (mVar 1) (mVar 4)) (mC (.int 1)))) (mOp oMulA (mOp oMulA (mVar 5) (mOp oGet (mOp oGet (mVar 1) (mVar 4)) (mC (.int 0)))) (mVar 3))))
    (mSet 3 (mOp oMulA (mVar 3) (mOp oGet (mOp oGet (mVar 1) (mVar 4)) (mC (.int 1)))))))
    (mRet (mTup (mCons (mVar 2) (mCons (mVar 3) (mNil)))))))
theorem ok__law_value {P : Program} {w : World} {K : PySem.W.Frag} {mg : Str → Option Value} {base : Heap} {aPaidError aBadSystem aBadLine : Addr} {fa : Addr} {fd : FuncData} {k : Nat} (F : Fun K "_law_value" "_law_value" s__law_value fa fd) (T : Md K mg aPaidError aBadSystem aBadLine) :
    FnOk P w K mg base (L2.CX P w) (k + 1) fa fd ["line", "point"] (spM K (ctb aPaidError aBadSystem aBadLine) 2 (mFn 6 (m__law_value))) :=
  fn_ok F sc__law_value fun cdv A outer s H E hr tk pas => by
    let ct : Ctb := ctb aPaidError aBadSystem aBadLine
    exact ((sss_cons (ss_set (i := 2) sc__law_value.nd rfl (Or.inl rfl) (se_ix (ix_A hr) (se_var 0) se_int (fun _ _ => rfl)))
    (sss_cons (ss_set (i := 3) sc__law_value.nd rfl (Or.inl rfl) se_int)
    (sss_cons (ss_for pas rfl (si_any (se_ix (ix_A hr) (se_var 0) se_int (fun _ _ => rfl))) (sg_seq rfl (sgs_cons (sg_name (i := 4) sc__law_value.nd rfl (Or.inl rfl)) (sgs_cons (sg_name (i := 5) sc__law_value.nd rfl (Or.inl rfl)) sgs_nil))) (sss_cons (ss_set (i := 2) sc__law_value.nd rfl (Or.inl rfl) (se_op op_addM (se_op op_mulA (se_var 2) (se_ix (ix_A hr) (se_ix (ix_A hr) (se_var 1) (se_var 4) (fun _ _ => rfl)) se_int (fun _ _ => rfl))) (se_op op_mulA (se_op op_mulA (se_var 5) (se_ix (ix_A hr) (se_ix (ix_A hr) (se_var 1) (se_var 4) (fun _ _ => rfl)) se_int (fun _ _ => rfl))) (se_var 3))))
    (sss_one (ss_set (i := 3) sc__law_value.nd rfl (Or.inl rfl) (se_op op_mulA (se_var 3) (se_ix (ix_A hr) (se_ix (ix_A hr) (se_var 1) (se_var 4) (fun _ _ => rfl)) se_int (fun _ _ => rfl)))))))
    (sss_one (ss_ret (se_tup (sa_cons (se_var 2) (sa_cons (se_var 3) sa_nil)))))))))
abbrev s__law_keeps : Stmt := topS 52
theorem sc__law_keeps : FnScope ["system", "thing", "part", "line", "exact", "top"] ["system", "thing"] (defScope s__law_keeps) := ⟨rfl, rfl, rfl, by decide +kernel, rfl, by decide +kernel, by decide +kernel⟩
noncomputable def m__law_keeps (f__law_ratio : FnM) (f__law_value : FnM) : MS :=
    mSeq (mIfS (mOr (mNot (mTest (mIsi "tuple" (mVar 1)))) (mTest (mOp oNe (mB bLen (mCons (mVar 1) (mNil))) (mOp oGet (mVar 0) (mC (.int 0)))))) (mRet (mC (.bl false))) (mNx))
    (mSeq (mFor (miOf iterA (mVar 1)) (gmName 2) (mIfS (mNot (mTest (mCall 1 f__law_ratio (mCons (mVar 2) (mNil))))) (mRet (mC (.bl false))) (mNx)))
    (mSeq (mFor (miOf iterA (mOp oGet (mVar 0) (mC (.int 1)))) (gmSeq 2 (gmCons (gmName 3) (gmCons (gmName 4) (gmNil)))) (mSeq (mSet 5 (mOp oGet (mCall 2 f__law_value (mCons (mVar 3) (mCons (mVar 1) (mNil)))) (mC (.int 0))))
    (mIfS (mOr (mTest (mOp oLt (mVar 5) (mC (.int 0)))) (mAnd (mTest (mVar 4)) (mTest (mOp oNe (mVar 5) (mC (.int 0)))))) (mRet (mC (.bl false))) (mNx))))
    (mRet (mC (.bl true)))))
theorem ok__law_keeps {P : Program} {w : World} {K : PySem.W.Frag} {mg : Str → Option Value} {base : Heap} {aPaidError aBadSystem aBadLine : Addr} {fa : Addr} {fd : FuncData} {k : Nat} (F : Fun K "_law_keeps" "_law_keeps" s__law_keeps fa fd) (T : Md K mg aPaidError aBadSystem aBadLine) {f__law_ratio : FnM} {f__law_value : FnM} (F__law_ratio : FnI P w K mg base (ctb aPaidError aBadSystem aBadLine) k "_law_ratio" ["thing"] f__law_ratio) (F__law_value : FnI P w K mg base (ctb aPaidError aBadSystem aBadLine) k "_law_value" ["line", "point"] f__law_value) :
    FnOk P w K mg base (L2.CX P w) (k + 1) fa fd ["system", "thing"] (spM K (ctb aPaidError aBadSystem aBadLine) 2 (mFn 6 (m__law_keeps f__law_ratio f__law_value))) :=
  fn_ok F sc__law_keeps fun cdv A outer s H E hr tk pas => by
    let ct : Ctb := ctb aPaidError aBadSystem aBadLine
    exact ((sss_cons (ss_if (st_w (sw_or (st_not (st_val (se_isi (by decide) rfl T.z_isinstance rfl T.z_tuple PyProof.Rows.boot_tuple (se_var 1)))) (sw_or1 (st_cmp (op_neM hr.units) (se_callB cr_len rfl T.z_len PySem.boot_len (sa_cons (se_var 1) sa_nil)) (se_ix (ix_A hr) (se_var 0) se_int (fun _ _ => rfl)) (nomark _))))) (sss_one (ss_ret se_bl)) sss_nil)
    (sss_cons (ss_for pas rfl (si_any (se_var 1)) (sg_name (i := 2) sc__law_keeps.nd rfl (Or.inl rfl)) (sss_one (ss_if (st_not (st_val (se_callI F__law_ratio rfl hr rfl tk (sa_cons (se_var 2) sa_nil)))) (sss_one (ss_ret se_bl)) sss_nil)))
    (sss_cons (ss_for pas rfl (si_any (se_ix (ix_A hr) (se_var 0) se_int (fun _ _ => rfl))) (sg_seq rfl (sgs_cons (sg_name (i := 3) sc__law_keeps.nd rfl (Or.inl rfl)) (sgs_cons (sg_name (i := 4) sc__law_keeps.nd rfl (Or.inl rfl)) sgs_nil))) (sss_cons (ss_set (i := 5) sc__law_keeps.nd rfl (Or.inl rfl) (se_ix (ix_A hr) (se_callI F__law_value rfl hr rfl tk (sa_cons (se_var 3) (sa_cons (se_var 1) sa_nil))) se_int (fun _ _ => rfl)))
    (sss_one (ss_if (st_w (sw_or (st_cmp op_ltM (se_var 5) se_int (nomark _)) (sw_or1 (st_w (sw_and (st_val (se_var 4)) (sw_and1 (st_cmp (op_neM hr.units) (se_var 5) se_int (nomark _)))))))) (sss_one (ss_ret se_bl)) sss_nil))))
    (sss_one (ss_ret se_bl))))))
abbrev s__law_truth : Stmt := topS 53
theorem sc__law_truth : FnScope ["told", "due"] ["told", "due"] (defScope s__law_truth) := ⟨rfl, rfl, rfl, by decide +kernel, rfl, by decide +kernel, by decide +kernel⟩
noncomputable def m__law_truth : MS :=
    mRet (mAndV (mIsi "bool" (mVar 0)) (mOp oEq (mVar 0) (mVar 1)))
theorem ok__law_truth {P : Program} {w : World} {K : PySem.W.Frag} {mg : Str → Option Value} {base : Heap} {aPaidError aBadSystem aBadLine : Addr} {fa : Addr} {fd : FuncData} {k : Nat} (F : Fun K "_law_truth" "_law_truth" s__law_truth fa fd) (T : Md K mg aPaidError aBadSystem aBadLine) :
    FnOk P w K mg base (L2.CX P w) (k + 1) fa fd ["told", "due"] (spM K (ctb aPaidError aBadSystem aBadLine) 2 (mFn 2 (m__law_truth))) :=
  fn_ok F sc__law_truth fun cdv A outer s H E hr tk pas => by
    let ct : Ctb := ctb aPaidError aBadSystem aBadLine
    exact ((sss_one (ss_ret (se_and (se_isi (by decide) rfl T.z_isinstance rfl T.z_bool PyProof.Rows.boot_bool (se_var 0)) (se_and1 (se_cmp (op_eqM hr.units) (se_var 0) (se_var 1) (nomark _)))))))
abbrev s__law_multipliers : Stmt := topS 54
theorem sc__law_multipliers : FnScope ["rows", "thing", "k"] ["rows", "thing"] (defScope s__law_multipliers) := ⟨rfl, rfl, rfl, by decide +kernel, rfl, by decide +kernel, by decide +kernel⟩
noncomputable def m__law_multipliers (f__law_int : FnM) : MS :=
    mSeq (mIfS (mOr (mNot (mTest (mIsi "tuple" (mVar 1)))) (mTest (mOp oNe (mB bLen (mCons (mVar 1) (mNil))) (mB bLen (mCons (mVar 0) (mNil)))))) (mRet (mC (.bl false))) (mNx))
    (mSeq (mFor (miRng1 (mB bLen (mCons (mVar 0) (mNil)))) (gmName 2) (mIfS (mOr (mNot (mTest (mCall 1 f__law_int (mCons (mOp oGet (mVar 1) (mVar 2)) (mNil))))) (mAnd (mTest (mOp oLt (mOp oGet (mVar 1) (mVar 2)) (mC (.int 0)))) (mNot (mTest (mOp oGet (mOp oGet (mVar 0) (mVar 2)) (mC (.int 1))))))) (mRet (mC (.bl false))) (mNx)))
    (mRet (mC (.bl true))))
theorem ok__law_multipliers {P : Program} {w : World} {K : PySem.W.Frag} {mg : Str → Option Value} {base : Heap} {aPaidError aBadSystem aBadLine : Addr} {fa : Addr} {fd : FuncData} {k : Nat} (F : Fun K "_law_multipliers" "_law_multipliers" s__law_multipliers fa fd) (T : Md K mg aPaidError aBadSystem aBadLine) {f__law_int : FnM} (F__law_int : FnI P w K mg base (ctb aPaidError aBadSystem aBadLine) k "_law_int" ["thing"] f__law_int) :
    FnOk P w K mg base (L2.CX P w) (k + 1) fa fd ["rows", "thing"] (spM K (ctb aPaidError aBadSystem aBadLine) 2 (mFn 3 (m__law_multipliers f__law_int))) :=
  fn_ok F sc__law_multipliers fun cdv A outer s H E hr tk pas => by
    let ct : Ctb := ctb aPaidError aBadSystem aBadLine
    exact ((sss_cons (ss_if (st_w (sw_or (st_not (st_val (se_isi (by decide) rfl T.z_isinstance rfl T.z_tuple PyProof.Rows.boot_tuple (se_var 1)))) (sw_or1 (st_cmp (op_neM hr.units) (se_callB cr_len rfl T.z_len PySem.boot_len (sa_cons (se_var 1) sa_nil)) (se_callB cr_len rfl T.z_len PySem.boot_len (sa_cons (se_var 0) sa_nil)) (nomark _))))) (sss_one (ss_ret se_bl)) sss_nil)
    (sss_cons (ss_for pas rfl (si_rng1 rfl T.z_range (se_callB cr_len rfl T.z_len PySem.boot_len (sa_cons (se_var 0) sa_nil))) (sg_name (i := 2) sc__law_multipliers.nd rfl (Or.inl rfl)) (sss_one (ss_if (st_w (sw_or (st_not (st_val (se_callI F__law_int rfl hr rfl tk (sa_cons (se_ix (ix_A hr) (se_var 1) (se_var 2) (fun _ _ => rfl)) sa_nil)))) (sw_or1 (st_w (sw_and (st_cmp op_ltM (se_ix (ix_A hr) (se_var 1) (se_var 2) (fun _ _ => rfl)) se_int (nomark _)) (sw_and1 (st_not (st_val (se_ix (ix_A hr) (se_ix (ix_A hr) (se_var 0) (se_var 2) (fun _ _ => rfl)) se_int (fun _ _ => rfl)))))))))) (sss_one (ss_ret se_bl)) sss_nil)))
    (sss_one (ss_ret se_bl)))))
abbrev s__law_summed : Stmt := topS 55
theorem sc__law_summed : FnScope ["rows", "multipliers", "const", "table", "k", "unknown", "coefficient", "terms"] ["rows", "multipliers"] (defScope s__law_summed) := ⟨rfl, rfl, rfl, by decide +kernel, rfl, by decide +kernel, by decide +kernel⟩
noncomputable def m__law_summed : MS :=
    mSeq (mSet 2 (mC (.int 0)))
    (mSeq (mSet 3 (mDnew))
    (mSeq (mFor (miRng1 (mB bLen (mCons (mVar 0) (mNil)))) (gmName 4) (mSeq (mAug 2 oIAdd (mOp oMulA (mOp oGet (mVar 1) (mVar 4)) (mOp oGet (mOp oGet (mOp oGet (mVar 0) (mVar 4)) (mC (.int 0))) (mC (.int 0)))))
    (mFor (miOf iterA (mOp oGet (mOp oGet (mOp oGet (mVar 0) (mVar 4)) (mC (.int 0))) (mC (.int 1)))) (gmSeq 2 (gmCons (gmName 5) (gmCons (gmName 6) (gmNil)))) (mAsg (mOp oAdd (mGet2 (mVar 3) (mVar 5) (mC (.int 0))) (mOp oMulA (mOp oGet (mVar 1) (mVar 4)) (mVar 6))) (gmSub oPut (mVar 3) (mVar 5))))))
    (mSeq (mSet 7 (mLc (miOf iterA (mB bSortedA (mCons (mVar 3) (mNil)))) (gmName 5) (mTest (mOp oNe (mOp oGet (mVar 3) (mVar 5)) (mC (.int 0)))) (mTup (mCons (mVar 5) (mCons (mOp oGet (mVar 3) (mVar 5)) (mNil)))) [5]))
    (mRet (mTup (mCons (mVar 2) (mCons (mB bTuple (mCons (mVar 7) (mNil))) (mNil))))))))
theorem ok__law_summed {P : Program} {w : World} {K : PySem.W.Frag} {mg : Str → Option Value} {base : Heap} {aPaidError aBadSystem aBadLine : Addr} {fa : Addr} {fd : FuncData} {k : Nat} (F : Fun K "_law_summed" "_law_summed" s__law_summed fa fd) (T : Md K mg aPaidError aBadSystem aBadLine) :
    FnOk P w K mg base (L2.CX P w) (k + 1) fa fd ["rows", "multipliers"] (spM K (ctb aPaidError aBadSystem aBadLine) 2 (mFn 8 (m__law_summed))) :=
  fn_ok F sc__law_summed fun cdv A outer s H E hr tk pas => by
    let ct : Ctb := ctb aPaidError aBadSystem aBadLine
    exact ((sss_cons (ss_set (i := 2) sc__law_summed.nd rfl (Or.inl rfl) se_int)
    (sss_cons (ss_set (i := 3) sc__law_summed.nd rfl (Or.inr rfl) se_dnew)
    (sss_cons (ss_for pas rfl (si_rng1 rfl T.z_range (se_callB cr_len rfl T.z_len PySem.boot_len (sa_cons (se_var 0) sa_nil))) (sg_name (i := 4) sc__law_summed.nd rfl (Or.inl rfl)) (sss_cons (ss_aug (i := 2) sc__law_summed.nd rfl (Or.inl rfl) (se_op op_mulA (se_ix (ix_A hr) (se_var 1) (se_var 4) (fun _ _ => rfl)) (se_ix (ix_A hr) (se_ix (ix_A hr) (se_ix (ix_A hr) (se_var 0) (se_var 4) (fun _ _ => rfl)) se_int (fun _ _ => rfl)) se_int (fun _ _ => rfl))) ip_addM)
    (sss_one (ss_for pas rfl (si_any (se_ix (ix_A hr) (se_ix (ix_A hr) (se_ix (ix_A hr) (se_var 0) (se_var 4) (fun _ _ => rfl)) se_int (fun _ _ => rfl)) se_int (fun _ _ => rfl))) (sg_seq rfl (sgs_cons (sg_name (i := 5) sc__law_summed.nd rfl (Or.inl rfl)) (sgs_cons (sg_name (i := 6) sc__law_summed.nd rfl (Or.inl rfl)) sgs_nil))) (sss_one (ss_asg (se_op op_addM (se_get2 hr (se_var 3) (se_var 5) se_int ⟨rfl, rfl, rfl, rfl⟩) (se_op op_mulA (se_ix (ix_A hr) (se_var 1) (se_var 4) (fun _ _ => rfl)) (se_var 6))) (sg_sub (ct := ct) (W := (fun c d _ H' => E c d H')) (se_var 3) (se_var 5) (set_A hr))))))))
    (sss_cons (ss_setLc (i := 7) [("unknown", 5)] rfl sc__law_summed.nd rfl rfl (sw_true rfl rfl rfl (by decide +kernel)) (si_any (se_callB (cr_sortedA rfl hr) rfl T.z_sorted (by decide +kernel) (sa_cons (se_var 3) sa_nil))) (blkOk_by (own := [("unknown", 5)]) (N := ["rows", "multipliers", "const", "table", "k", "unknown", "coefficient", "terms"]) (sc := defScope s__law_summed) (by decide +kernel)) (fun _ _ _ _ _ => (sgv_name (vs := [5]) (i := 5) sc__law_summed.nd rfl (Or.inl rfl) (by decide))) (fun _ _ _ _ _ => (sts_one (st_cmp (op_neM hr.units) (se_ix (ix_A hr) (se_var 3) (se_var 5) (fun _ _ => rfl)) se_int (nomark _)))) (fun _ _ _ _ _ => (se_tup (sa_cons (se_var 5) (sa_cons (se_ix (ix_A hr) (se_var 3) (se_var 5) (fun _ _ => rfl)) sa_nil)))))
    (sss_one (ss_ret (se_tup (sa_cons (se_var 2) (sa_cons (se_callTy cr_tuple rfl T.z_tuple PyProof.Rows.boot_tuple (sa_cons (se_var 7) sa_nil)) sa_nil))))))))))
abbrev s__law_refutes : Stmt := topS 56
theorem sc__law_refutes : FnScope ["rows", "thing", "const", "terms"] ["rows", "thing"] (defScope s__law_refutes) := ⟨rfl, rfl, rfl, by decide +kernel, rfl, by decide +kernel, by decide +kernel⟩
noncomputable def m__law_refutes (f__law_multipliers : FnM) (f__law_summed : FnM) : MS :=
    mSeq (mIfS (mNot (mTest (mCall 2 f__law_multipliers (mCons (mVar 0) (mCons (mVar 1) (mNil)))))) (mRet (mC (.bl false))) (mNx))
    (mSeq (mAsg (mCall 2 f__law_summed (mCons (mVar 0) (mCons (mVar 1) (mNil)))) (gmSeq 2 (gmCons (gmName 2) (gmCons (gmName 3) (gmNil)))))
    (mRet (mAndV (mOp oLt (mVar 2) (mC (.int 0))) (mOp oEq (mVar 3) (mTup (mNil))))))
theorem ok__law_refutes {P : Program} {w : World} {K : PySem.W.Frag} {mg : Str → Option Value} {base : Heap} {aPaidError aBadSystem aBadLine : Addr} {fa : Addr} {fd : FuncData} {k : Nat} (F : Fun K "_law_refutes" "_law_refutes" s__law_refutes fa fd) (T : Md K mg aPaidError aBadSystem aBadLine) {f__law_multipliers : FnM} {f__law_summed : FnM} (F__law_multipliers : FnI P w K mg base (ctb aPaidError aBadSystem aBadLine) k "_law_multipliers" ["rows", "thing"] f__law_multipliers) (F__law_summed : FnI P w K mg base (ctb aPaidError aBadSystem aBadLine) k "_law_summed" ["rows", "multipliers"] f__law_summed) :
    FnOk P w K mg base (L2.CX P w) (k + 1) fa fd ["rows", "thing"] (spM K (ctb aPaidError aBadSystem aBadLine) 2 (mFn 4 (m__law_refutes f__law_multipliers f__law_summed))) :=
  fn_ok F sc__law_refutes fun cdv A outer s H E hr tk pas => by
    let ct : Ctb := ctb aPaidError aBadSystem aBadLine
    exact ((sss_cons (ss_if (st_not (st_val (se_callI F__law_multipliers rfl hr rfl tk (sa_cons (se_var 0) (sa_cons (se_var 1) sa_nil))))) (sss_one (ss_ret se_bl)) sss_nil)
    (sss_cons (ss_asg (se_callI F__law_summed rfl hr rfl tk (sa_cons (se_var 0) (sa_cons (se_var 1) sa_nil))) (sg_seq rfl (sgs_cons (sg_name (i := 2) sc__law_refutes.nd rfl (Or.inl rfl)) (sgs_cons (sg_name (i := 3) sc__law_refutes.nd rfl (Or.inl rfl)) sgs_nil))))
    (sss_one (ss_ret (se_and (se_cmp op_ltM (se_var 2) se_int (nomark _)) (se_and1 (se_cmp (op_eqM hr.units) (se_var 3) (se_tup sa_nil) (nomark _)))))))))
abbrev s__law_well : Stmt := topS 57
theorem sc__law_well : FnScope ["script", "at"] ["script", "at"] (defScope s__law_well) := ⟨rfl, rfl, rfl, by decide +kernel, rfl, by decide +kernel, by decide +kernel⟩
noncomputable def m__law_well : MS :=
    mRet (mLst (mCons (mC (.int 0)) (mCons (mVar 1) (mCons (mB bList (mCons (mVar 0) (mNil))) (mCons (mC (.int 0)) (mNil))))))
theorem ok__law_well {P : Program} {w : World} {K : PySem.W.Frag} {mg : Str → Option Value} {base : Heap} {aPaidError aBadSystem aBadLine : Addr} {fa : Addr} {fd : FuncData} {k : Nat} (F : Fun K "_law_well" "_law_well" s__law_well fa fd) (T : Md K mg aPaidError aBadSystem aBadLine) :
    FnOk P w K mg base (L2.CX P w) (k + 1) fa fd ["script", "at"] (spM K (ctb aPaidError aBadSystem aBadLine) 2 (mFn 2 (m__law_well))) :=
  fn_ok F sc__law_well fun cdv A outer s H E hr tk pas => by
    let ct : Ctb := ctb aPaidError aBadSystem aBadLine
    exact ((sss_one (ss_ret (se_lst (sa_cons se_int (sa_cons (se_var 1) (sa_cons (se_callTy cr_list rfl T.z_list PyProof.Rows.boot_list (sa_cons (se_var 0) sa_nil)) (sa_cons se_int sa_nil))))))))
abbrev s__law_lowest : Stmt := topS 58
theorem sc__law_lowest : FnScope ["top", "bottom", "common"] ["top", "bottom"] (defScope s__law_lowest) := ⟨rfl, rfl, rfl, by decide +kernel, rfl, by decide +kernel, by decide +kernel⟩
noncomputable def m__law_lowest (f__law_gcd : FnM) : MS :=
    mSeq (mIfS (mTest (mOp oLt (mVar 1) (mC (.int 0)))) (mSeq (mSet 0 (mUn oNeg (mVar 0)))
    (mSet 1 (mUn oNeg (mVar 1)))) (mNx))
    (mSeq (mSet 2 (mCall 2 f__law_gcd (mCons (mVar 0) (mCons (mVar 1) (mNil)))))
    (mRet (mTup (mCons (mOp oFdiv (mVar 0) (mVar 2)) (mCons (mOp oFdiv (mVar 1) (mVar 2)) (mNil))))))
theorem ok__law_lowest {P : Program} {w : World} {K : PySem.W.Frag} {mg : Str → Option Value} {base : Heap} {aPaidError aBadSystem aBadLine : Addr} {fa : Addr} {fd : FuncData} {k : Nat} (F : Fun K "_law_lowest" "_law_lowest" s__law_lowest fa fd) (T : Md K mg aPaidError aBadSystem aBadLine) {f__law_gcd : FnM} (F__law_gcd : FnI P w K mg base (ctb aPaidError aBadSystem aBadLine) k "_law_gcd" ["a", "b"] f__law_gcd) :
    FnOk P w K mg base (L2.CX P w) (k + 1) fa fd ["top", "bottom"] (spM K (ctb aPaidError aBadSystem aBadLine) 2 (mFn 3 (m__law_lowest f__law_gcd))) :=
  fn_ok F sc__law_lowest fun cdv A outer s H E hr tk pas => by
    let ct : Ctb := ctb aPaidError aBadSystem aBadLine
    exact ((sss_cons (ss_if (st_cmp op_ltM (se_var 1) se_int (nomark _)) (sss_cons (ss_set (i := 0) sc__law_lowest.nd rfl (Or.inl rfl) (se_un un_negM (se_var 0)))
    (sss_one (ss_set (i := 1) sc__law_lowest.nd rfl (Or.inl rfl) (se_un un_negM (se_var 1))))) sss_nil)
    (sss_cons (ss_set (i := 2) sc__law_lowest.nd rfl (Or.inl rfl) (se_callI F__law_gcd rfl hr rfl tk (sa_cons (se_var 0) (sa_cons (se_var 1) sa_nil))))
    (sss_one (ss_ret (se_tup (sa_cons (se_op op_fdivM (se_var 0) (se_var 2)) (sa_cons (se_op op_fdivM (se_var 1) (se_var 2)) sa_nil))))))))
abbrev s__law_point : Stmt := topS 59
theorem sc__law_point : FnScope ["well", "count", "point", "k", "bottom", "top"] ["well", "count"] (defScope s__law_point) := ⟨rfl, rfl, rfl, by decide +kernel, rfl, by decide +kernel, by decide +kernel⟩
noncomputable def m__law_point (f__law_draw : FnM) (f__law_lowest : FnM) : MS :=
    mSeq (mSet 2 (mLst (mNil)))
    (mSeq (mFor (miRng1 (mVar 1)) (gmName 3) (mSeq (mSet 4 (mC (.int 1)))
    (mSeq (mIfS (mTest (mOp oEq (mCall 2 f__law_draw (mCons (mVar 0) (mCons (mC (.int 3)) (mNil)))) (mC (.int 0)))) (mSet 4 (mOp oAdd (mC (.int 1)) (mCall 2 f__law_draw (mCons (mVar 0) (mCons (mC (.int 7)) (mNil)))))) (mNx))
    (mSeq (mSet 5 (mOp oSub (mCall 2 f__law_draw (mCons (mVar 0) (mCons (mC (.int 19)) (mNil)))) (mC (.int 9))))
    (mSeq (mIfS (mTest (mOp oEq (mCall 2 f__law_draw (mCons (mVar 0) (mCons (mC (.int 9)) (mNil)))) (mC (.int 0)))) (mSeq (mSet 5 (mOp oSub (mCall 2 f__law_draw (mCons (mVar 0) (mCons (mOp oMulA (mC (.int 2)) (mOp oPow (mC (.int 10)) (mC (.int 20)))) (mNil)))) (mOp oPow (mC (.int 10)) (mC (.int 20)))))
    (mSet 4 (mOp oAdd (mC (.int 1)) (mCall 2 f__law_draw (mCons (mVar 0) (mCons (mOp oPow (mC (.int 10)) (mC (.int 9))) (mNil))))))) (mNx))
    (mDrop (mMset lAppend (mVar 2) (mCons (mCall 2 f__law_lowest (mCons (mVar 5) (mCons (mVar 4) (mNil)))) (mNil)))))))))
    (mRet (mB bTuple (mCons (mVar 2) (mNil)))))
theorem ok__law_point {P : Program} {w : World} {K : PySem.W.Frag} {mg : Str → Option Value} {base : Heap} {aPaidError aBadSystem aBadLine : Addr} {fa : Addr} {fd : FuncData} {k : Nat} (F : Fun K "_law_point" "_law_point" s__law_point fa fd) (T : Md K mg aPaidError aBadSystem aBadLine) {f__law_draw : FnM} {f__law_lowest : FnM} (F__law_draw : FnI P w K mg base (ctb aPaidError aBadSystem aBadLine) k "_law_draw" ["well", "many"] f__law_draw) (F__law_lowest : FnI P w K mg base (ctb aPaidError aBadSystem aBadLine) k "_law_lowest" ["top", "bottom"] f__law_lowest) :
    FnOk P w K mg base (L2.CX P w) (k + 1) fa fd ["well", "count"] (spM K (ctb aPaidError aBadSystem aBadLine) 2 (mFn 6 (m__law_point f__law_draw f__law_lowest))) :=
  fn_ok F sc__law_point fun cdv A outer s H E hr tk pas => by
    let ct : Ctb := ctb aPaidError aBadSystem aBadLine
    exact ((sss_cons (ss_set (i := 2) sc__law_point.nd rfl (Or.inl rfl) (se_lst sa_nil))
    (sss_cons (ss_for pas rfl (si_rng1 rfl T.z_range (se_var 1)) (sg_name (i := 3) sc__law_point.nd rfl (Or.inl rfl)) (sss_cons (ss_set (i := 4) sc__law_point.nd rfl (Or.inl rfl) se_int)
    (sss_cons (ss_if (st_cmp (op_eqM hr.units) (se_callI F__law_draw rfl hr rfl tk (sa_cons (se_var 0) (sa_cons se_int sa_nil))) se_int (nomark _)) (sss_one (ss_set (i := 4) sc__law_point.nd rfl (Or.inl rfl) (se_op op_addM se_int (se_callI F__law_draw rfl hr rfl tk (sa_cons (se_var 0) (sa_cons se_int sa_nil)))))) sss_nil)
    (sss_cons (ss_set (i := 5) sc__law_point.nd rfl (Or.inl rfl) (se_op op_subM (se_callI F__law_draw rfl hr rfl tk (sa_cons (se_var 0) (sa_cons se_int sa_nil))) se_int))
    (sss_cons (ss_if (st_cmp (op_eqM hr.units) (se_callI F__law_draw rfl hr rfl tk (sa_cons (se_var 0) (sa_cons se_int sa_nil))) se_int (nomark _)) (sss_cons (ss_set (i := 5) sc__law_point.nd rfl (Or.inl rfl) (se_op op_subM (se_callI F__law_draw rfl hr rfl tk (sa_cons (se_var 0) (sa_cons (se_op op_mulA se_int (se_op op_powM se_int se_int)) sa_nil))) (se_op op_powM se_int se_int)))
    (sss_one (ss_set (i := 4) sc__law_point.nd rfl (Or.inl rfl) (se_op op_addM se_int (se_callI F__law_draw rfl hr rfl tk (sa_cons (se_var 0) (sa_cons (se_op op_powM se_int se_int) sa_nil))))))) sss_nil)
    (sss_one (ss_expr (se_lm PySem.F.slot_list_append PySem.F.type_list_append mt_appendM (se_var 2) (sa_cons (se_callI F__law_lowest rfl hr rfl tk (sa_cons (se_var 5) (sa_cons (se_var 4) sa_nil))) sa_nil)))))))))
    (sss_one (ss_ret (se_callTy cr_tuple rfl T.z_tuple PyProof.Rows.boot_tuple (sa_cons (se_var 2) sa_nil)))))))
abbrev s__law_terms : Stmt := topS 60
theorem sc__law_terms : FnScope ["well", "count", "most", "terms", "width", "k", "coefficient"] ["well", "count", "most"] (defScope s__law_terms) := ⟨rfl, rfl, rfl, by decide +kernel, rfl, by decide +kernel, by decide +kernel⟩
noncomputable def m__law_terms (f__law_draw : FnM) : MS :=
    mSeq (mSet 3 (mLst (mNil)))
    (mSeq (mSet 4 (mCall 2 f__law_draw (mCons (mVar 0) (mCons (mOp oAdd (mVar 2) (mC (.int 1))) (mNil)))))
    (mSeq (mFor (miRng1 (mVar 1)) (gmName 5) (mIfS (mAnd (mTest (mOp oGt (mVar 4) (mC (.int 0)))) (mTest (mOp oEq (mCall 2 f__law_draw (mCons (mVar 0) (mCons (mB bMax2 (mCons (mC (.int 1)) (mCons (mOp oFdiv (mOp oAdd (mVar 1) (mC (.int 1))) (mVar 4)) (mNil)))) (mNil)))) (mC (.int 0))))) (mSeq (mSet 6 (mOp oSub (mCall 2 f__law_draw (mCons (mVar 0) (mCons (mC (.int 11)) (mNil)))) (mC (.int 5))))
    (mSeq (mIfS (mTest (mOp oEq (mCall 2 f__law_draw (mCons (mVar 0) (mCons (mC (.int 12)) (mNil)))) (mC (.int 0)))) (mSet 6 (mOp oSub (mCall 2 f__law_draw (mCons (mVar 0) (mCons (mOp oMulA (mC (.int 2)) (mOp oPow (mC (.int 10)) (mC (.int 12)))) (mNil)))) (mOp oPow (mC (.int 10)) (mC (.int 12))))) (mNx))
    (mIfS (mTest (mOp oNe (mVar 6) (mC (.int 0)))) (mDrop (mMset lAppend (mVar 3) (mCons (mTup (mCons (mVar 5) (mCons (mVar 6) (mNil)))) (mNil)))) (mNx)))) (mNx)))
    (mRet (mVar 3))))
theorem ok__law_terms {P : Program} {w : World} {K : PySem.W.Frag} {mg : Str → Option Value} {base : Heap} {aPaidError aBadSystem aBadLine : Addr} {fa : Addr} {fd : FuncData} {k : Nat} (F : Fun K "_law_terms" "_law_terms" s__law_terms fa fd) (T : Md K mg aPaidError aBadSystem aBadLine) {f__law_draw : FnM} (F__law_draw : FnI P w K mg base (ctb aPaidError aBadSystem aBadLine) k "_law_draw" ["well", "many"] f__law_draw) :
    FnOk P w K mg base (L2.CX P w) (k + 1) fa fd ["well", "count", "most"] (spM K (ctb aPaidError aBadSystem aBadLine) 3 (mFn 7 (m__law_terms f__law_draw))) :=
  fn_ok F sc__law_terms fun cdv A outer s H E hr tk pas => by
    let ct : Ctb := ctb aPaidError aBadSystem aBadLine
    exact ((sss_cons (ss_set (i := 3) sc__law_terms.nd rfl (Or.inl rfl) (se_lst sa_nil))
    (sss_cons (ss_set (i := 4) sc__law_terms.nd rfl (Or.inl rfl) (se_callI F__law_draw rfl hr rfl tk (sa_cons (se_var 0) (sa_cons (se_op op_addM (se_var 2) se_int) sa_nil))))
    (sss_cons (ss_for pas rfl (si_rng1 rfl T.z_range (se_var 1)) (sg_name (i := 5) sc__law_terms.nd rfl (Or.inl rfl)) (sss_one (ss_if (st_w (sw_and (st_cmp op_gtM (se_var 4) se_int (nomark _)) (sw_and1 (st_cmp (op_eqM hr.units) (se_callI F__law_draw rfl hr rfl tk (sa_cons (se_var 0) (sa_cons (se_callB (cr_max2 rfl) rfl T.z_max PyProof.Rows.boot_max (sa_cons se_int (sa_cons (se_op op_fdivM (se_op op_addM (se_var 1) se_int) (se_var 4)) sa_nil))) sa_nil))) se_int (nomark _))))) (sss_cons (ss_set (i := 6) sc__law_terms.nd rfl (Or.inl rfl) (se_op op_subM (se_callI F__law_draw rfl hr rfl tk (sa_cons (se_var 0) (sa_cons se_int sa_nil))) se_int))
    (sss_cons (ss_if (st_cmp (op_eqM hr.units) (se_callI F__law_draw rfl hr rfl tk (sa_cons (se_var 0) (sa_cons se_int sa_nil))) se_int (nomark _)) (sss_one (ss_set (i := 6) sc__law_terms.nd rfl (Or.inl rfl) (se_op op_subM (se_callI F__law_draw rfl hr rfl tk (sa_cons (se_var 0) (sa_cons (se_op op_mulA se_int (se_op op_powM se_int se_int)) sa_nil))) (se_op op_powM se_int se_int)))) sss_nil)
    (sss_one (ss_if (st_cmp (op_neM hr.units) (se_var 6) se_int (nomark _)) (sss_one (ss_expr (se_lm PySem.F.slot_list_append PySem.F.type_list_append mt_appendM (se_var 3) (sa_cons (se_tup (sa_cons (se_var 5) (sa_cons (se_var 6) sa_nil))) sa_nil)))) sss_nil)))) sss_nil)))
    (sss_one (ss_ret (se_var 3)))))))
abbrev s__law_row_at : Stmt := topS 61
theorem sc__law_row_at : FnScope ["well", "point", "exact", "most", "const", "terms", "unknown", "coefficient"] ["well", "point", "exact", "most"] (defScope s__law_row_at) := ⟨rfl, rfl, rfl, by decide +kernel, rfl, by decide +kernel, by decide +kernel⟩
noncomputable def m__law_row_at (f__law_draw : FnM) (f__law_terms : FnM) : MS :=
    mSeq (mSet 4 (mC (.int 0)))
    (mSeq (mIfS (mAnd (mNot (mTest (mVar 2))) (mTest (mOp oEq (mCall 2 f__law_draw (mCons (mVar 0) (mCons (mC (.int 2)) (mNil)))) (mC (.int 0))))) (mSet 4 (mCall 2 f__law_draw (mCons (mVar 0) (mCons (mC (.int 30)) (mNil))))) (mNx))
    (mSeq (mSet 5 (mLst (mNil)))
    (mSeq (mFor (miOf iterA (mCall 3 f__law_terms (mCons (mVar 0) (mCons (mB bLen (mCons (mVar 1) (mNil))) (mCons (mVar 3) (mNil)))))) (gmSeq 2 (gmCons (gmName 6) (gmCons (gmName 7) (gmNil)))) (mSeq (mDrop (mMset lAppend (mVar 5) (mCons (mTup (mCons (mVar 6) (mCons (mOp oMulA (mVar 7) (mOp oGet (mOp oGet (mVar 1) (mVar 6)) (mC (.int 1)))) (mNil)))) (mNil))))
    (mSet 4 (mOp oSub (mVar 4) (mOp oMulA (mVar 7) (mOp oGet (mOp oGet (mVar 1) (mVar 6)) (mC (.int 0))))))))
    (mRet (mTup (mCons (mTup (mCons (mVar 4) (mCons (mB bTuple (mCons (mVar 5) (mNil))) (mNil)))) (mCons (mVar 2) (mNil))))))))
theorem ok__law_row_at {P : Program} {w : World} {K : PySem.W.Frag} {mg : Str → Option Value} {base : Heap} {aPaidError aBadSystem aBadLine : Addr} {fa : Addr} {fd : FuncData} {k : Nat} (F : Fun K "_law_row_at" "_law_row_at" s__law_row_at fa fd) (T : Md K mg aPaidError aBadSystem aBadLine) {f__law_draw : FnM} {f__law_terms : FnM} (F__law_draw : FnI P w K mg base (ctb aPaidError aBadSystem aBadLine) k "_law_draw" ["well", "many"] f__law_draw) (F__law_terms : FnI P w K mg base (ctb aPaidError aBadSystem aBadLine) k "_law_terms" ["well", "count", "most"] f__law_terms) :
    FnOk P w K mg base (L2.CX P w) (k + 1) fa fd ["well", "point", "exact", "most"] (spM K (ctb aPaidError aBadSystem aBadLine) 4 (mFn 8 (m__law_row_at f__law_draw f__law_terms))) :=
  fn_ok F sc__law_row_at fun cdv A outer s H E hr tk pas => by
    let ct : Ctb := ctb aPaidError aBadSystem aBadLine
    exact ((sss_cons (ss_set (i := 4) sc__law_row_at.nd rfl (Or.inl rfl) se_int)
    (sss_cons (ss_if (st_w (sw_and (st_not (st_val (se_var 2))) (sw_and1 (st_cmp (op_eqM hr.units) (se_callI F__law_draw rfl hr rfl tk (sa_cons (se_var 0) (sa_cons se_int sa_nil))) se_int (nomark _))))) (sss_one (ss_set (i := 4) sc__law_row_at.nd rfl (Or.inl rfl) (se_callI F__law_draw rfl hr rfl tk (sa_cons (se_var 0) (sa_cons se_int sa_nil))))) sss_nil)
    (sss_cons (ss_set (i := 5) sc__law_row_at.nd rfl (Or.inl rfl) (se_lst sa_nil))
    (sss_cons (ss_for pas rfl (si_any (se_callI F__law_terms rfl hr rfl tk (sa_cons (se_var 0) (sa_cons (se_callB cr_len rfl T.z_len PySem.boot_len (sa_cons (se_var 1) sa_nil)) (sa_cons (se_var 3) sa_nil))))) (sg_seq rfl (sgs_cons (sg_name (i := 6) sc__law_row_at.nd rfl (Or.inl rfl)) (sgs_cons (sg_name (i := 7) sc__law_row_at.nd rfl (Or.inl rfl)) sgs_nil))) (sss_cons (ss_expr (se_lm PySem.F.slot_list_append PySem.F.type_list_append mt_appendM (se_var 5) (sa_cons (se_tup (sa_cons (se_var 6) (sa_cons (se_op op_mulA (se_var 7) (se_ix (ix_A hr) (se_ix (ix_A hr) (se_var 1) (se_var 6) (fun _ _ => rfl)) se_int (fun _ _ => rfl))) sa_nil))) sa_nil)))
    (sss_one (ss_set (i := 4) sc__law_row_at.nd rfl (Or.inl rfl) (se_op op_subM (se_var 4) (se_op op_mulA (se_var 7) (se_ix (ix_A hr) (se_ix (ix_A hr) (se_var 1) (se_var 6) (fun _ _ => rfl)) se_int (fun _ _ => rfl))))))))
    (sss_one (ss_ret (se_tup (sa_cons (se_tup (sa_cons (se_var 4) (sa_cons (se_callTy cr_tuple rfl T.z_tuple PyProof.Rows.boot_tuple (sa_cons (se_var 5) sa_nil)) sa_nil))) (sa_cons (se_var 2) sa_nil))))))))))
abbrev s__law_kept_rows : Stmt := topS 62
theorem sc__law_kept_rows : FnScope ["well", "point", "many", "most", "rows", "k"] ["well", "point", "many", "most"] (defScope s__law_kept_rows) := ⟨rfl, rfl, rfl, by decide +kernel, rfl, by decide +kernel, by decide +kernel⟩
noncomputable def m__law_kept_rows (f__law_row_at : FnM) (f__law_draw : FnM) : MS :=
    mSeq (mSet 4 (mLst (mNil)))
    (mSeq (mFor (miRng1 (mVar 2)) (gmName 5) (mDrop (mMset lAppend (mVar 4) (mCons (mCall 4 f__law_row_at (mCons (mVar 0) (mCons (mVar 1) (mCons (mOp oEq (mCall 2 f__law_draw (mCons (mVar 0) (mCons (mC (.int 4)) (mNil)))) (mC (.int 0))) (mCons (mVar 3) (mNil)))))) (mNil)))))
    (mRet (mVar 4)))
theorem ok__law_kept_rows {P : Program} {w : World} {K : PySem.W.Frag} {mg : Str → Option Value} {base : Heap} {aPaidError aBadSystem aBadLine : Addr} {fa : Addr} {fd : FuncData} {k : Nat} (F : Fun K "_law_kept_rows" "_law_kept_rows" s__law_kept_rows fa fd) (T : Md K mg aPaidError aBadSystem aBadLine) {f__law_row_at : FnM} {f__law_draw : FnM} (F__law_row_at : FnI P w K mg base (ctb aPaidError aBadSystem aBadLine) k "_law_row_at" ["well", "point", "exact", "most"] f__law_row_at) (F__law_draw : FnI P w K mg base (ctb aPaidError aBadSystem aBadLine) k "_law_draw" ["well", "many"] f__law_draw) :
    FnOk P w K mg base (L2.CX P w) (k + 1) fa fd ["well", "point", "many", "most"] (spM K (ctb aPaidError aBadSystem aBadLine) 4 (mFn 6 (m__law_kept_rows f__law_row_at f__law_draw))) :=
  fn_ok F sc__law_kept_rows fun cdv A outer s H E hr tk pas => by
    let ct : Ctb := ctb aPaidError aBadSystem aBadLine
    exact ((sss_cons (ss_set (i := 4) sc__law_kept_rows.nd rfl (Or.inl rfl) (se_lst sa_nil))
    (sss_cons (ss_for pas rfl (si_rng1 rfl T.z_range (se_var 2)) (sg_name (i := 5) sc__law_kept_rows.nd rfl (Or.inl rfl)) (sss_one (ss_expr (se_lm PySem.F.slot_list_append PySem.F.type_list_append mt_appendM (se_var 4) (sa_cons (se_callI F__law_row_at rfl hr rfl tk (sa_cons (se_var 0) (sa_cons (se_var 1) (sa_cons (se_cmp (op_eqM hr.units) (se_callI F__law_draw rfl hr rfl tk (sa_cons (se_var 0) (sa_cons se_int sa_nil))) se_int (nomark _)) (sa_cons (se_var 3) sa_nil))))) sa_nil)))))
    (sss_one (ss_ret (se_var 4))))))
abbrev s__law_torn_rows : Stmt := topS 63
theorem sc__law_torn_rows : FnScope ["well", "count", "many", "most", "rows", "numbers", "k", "exact", "number", "const", "terms", "last", "at", "unknown", "c"] ["well", "count", "many", "most"] (defScope s__law_torn_rows) := ⟨rfl, rfl, rfl, by decide +kernel, rfl, by decide +kernel, by decide +kernel⟩
noncomputable def m__law_torn_rows (f__law_draw : FnM) (f__law_terms : FnM) (f__law_summed : FnM) : MS :=
    mSeq (mSet 4 (mLst (mNil)))
    (mSeq (mSet 5 (mLst (mNil)))
    (mSeq (mFor (miRng1 (mVar 2)) (gmName 6) (mSeq (mSet 7 (mOp oEq (mCall 2 f__law_draw (mCons (mVar 0) (mCons (mC (.int 4)) (mNil)))) (mC (.int 0))))
    (mSeq (mSet 8 (mCall 2 f__law_draw (mCons (mVar 0) (mCons (mC (.int 5)) (mNil)))))
    (mSeq (mIfS (mTest (mVar 7)) (mSet 8 (mOp oSub (mVar 8) (mC (.int 2)))) (mNx))
    (mSeq (mDrop (mMset lAppend (mVar 4) (mCons (mTup (mCons (mTup (mCons (mOp oSub (mCall 2 f__law_draw (mCons (mVar 0) (mCons (mC (.int 21)) (mNil)))) (mC (.int 10))) (mCons (mB bTuple (mCons (mCall 3 f__law_terms (mCons (mVar 0) (mCons (mVar 1) (mCons (mVar 3) (mNil))))) (mNil))) (mNil)))) (mCons (mVar 7) (mNil)))) (mNil))))
    (mDrop (mMset lAppend (mVar 5) (mCons (mVar 8) (mNil)))))))))
    (mSeq (mAsg (mCall 2 f__law_summed (mCons (mVar 4) (mCons (mVar 5) (mNil)))) (gmSeq 2 (gmCons (gmName 9) (gmCons (gmName 10) (gmNil)))))
    (mSeq (mSet 11 (mTup (mCons (mOp oSub (mOp oSub (mUn oNeg (mVar 9)) (mC (.int 1))) (mCall 2 f__law_draw (mCons (mVar 0) (mCons (mC (.int 5)) (mNil))))) (mCons (mB bTuple (mCons (mLc (miOf iterA (mVar 10)) (gmTup 2 (gmCons (gmName 13) (gmCons (gmName 14) (gmNil)))) (mYes) (mTup (mCons (mVar 13) (mCons (mUn oNeg (mVar 14)) (mNil)))) [13, 14]) (mNil))) (mNil)))))
    (mSeq (mSet 12 (mCall 2 f__law_draw (mCons (mVar 0) (mCons (mOp oAdd (mVar 2) (mC (.int 1))) (mNil)))))
    (mRet (mTup (mCons (mOp oAdd (mOp oAdd (mSl (mVar 4) (moN) (moS (mVar 12))) (mLst (mCons (mTup (mCons (mVar 11) (mCons (mOp oEq (mCall 2 f__law_draw (mCons (mVar 0) (mCons (mC (.int 4)) (mNil)))) (mC (.int 0))) (mNil)))) (mNil)))) (mSl (mVar 4) (moS (mVar 12)) (moN))) (mCons (mB bTuple (mCons (mOp oAdd (mOp oAdd (mSl (mVar 5) (moN) (moS (mVar 12))) (mLst (mCons (mC (.int 1)) (mNil)))) (mSl (mVar 5) (moS (mVar 12)) (moN))) (mNil))) (mNil))))))))))
theorem ok__law_torn_rows {P : Program} {w : World} {K : PySem.W.Frag} {mg : Str → Option Value} {base : Heap} {aPaidError aBadSystem aBadLine : Addr} {fa : Addr} {fd : FuncData} {k : Nat} (F : Fun K "_law_torn_rows" "_law_torn_rows" s__law_torn_rows fa fd) (T : Md K mg aPaidError aBadSystem aBadLine) {f__law_draw : FnM} {f__law_terms : FnM} {f__law_summed : FnM} (F__law_draw : FnI P w K mg base (ctb aPaidError aBadSystem aBadLine) k "_law_draw" ["well", "many"] f__law_draw) (F__law_terms : FnI P w K mg base (ctb aPaidError aBadSystem aBadLine) k "_law_terms" ["well", "count", "most"] f__law_terms) (F__law_summed : FnI P w K mg base (ctb aPaidError aBadSystem aBadLine) k "_law_summed" ["rows", "multipliers"] f__law_summed) :
    FnOk P w K mg base (L2.CX P w) (k + 1) fa fd ["well", "count", "many", "most"] (spM K (ctb aPaidError aBadSystem aBadLine) 4 (mFn 15 (m__law_torn_rows f__law_draw f__law_terms f__law_summed))) :=
  fn_ok F sc__law_torn_rows fun cdv A outer s H E hr tk pas => by
    let ct : Ctb := ctb aPaidError aBadSystem aBadLine
    exact ((sss_cons (ss_set (i := 4) sc__law_torn_rows.nd rfl (Or.inl rfl) (se_lst sa_nil))
    (sss_cons (ss_set (i := 5) sc__law_torn_rows.nd rfl (Or.inl rfl) (se_lst sa_nil))
    (sss_cons (ss_for pas rfl (si_rng1 rfl T.z_range (se_var 2)) (sg_name (i := 6) sc__law_torn_rows.nd rfl (Or.inl rfl)) (sss_cons (ss_set (i := 7) sc__law_torn_rows.nd rfl (Or.inl rfl) (se_cmp (op_eqM hr.units) (se_callI F__law_draw rfl hr rfl tk (sa_cons (se_var 0) (sa_cons se_int sa_nil))) se_int (nomark _)))
    (sss_cons (ss_set (i := 8) sc__law_torn_rows.nd rfl (Or.inl rfl) (se_callI F__law_draw rfl hr rfl tk (sa_cons (se_var 0) (sa_cons se_int sa_nil))))
    (sss_cons (ss_if (st_val (se_var 7)) (sss_one (ss_set (i := 8) sc__law_torn_rows.nd rfl (Or.inl rfl) (se_op op_subM (se_var 8) se_int))) sss_nil)
    (sss_cons (ss_expr (se_lm PySem.F.slot_list_append PySem.F.type_list_append mt_appendM (se_var 4) (sa_cons (se_tup (sa_cons (se_tup (sa_cons (se_op op_subM (se_callI F__law_draw rfl hr rfl tk (sa_cons (se_var 0) (sa_cons se_int sa_nil))) se_int) (sa_cons (se_callTy cr_tuple rfl T.z_tuple PyProof.Rows.boot_tuple (sa_cons (se_callI F__law_terms rfl hr rfl tk (sa_cons (se_var 0) (sa_cons (se_var 1) (sa_cons (se_var 3) sa_nil)))) sa_nil)) sa_nil))) (sa_cons (se_var 7) sa_nil))) sa_nil)))
    (sss_one (ss_expr (se_lm PySem.F.slot_list_append PySem.F.type_list_append mt_appendM (se_var 5) (sa_cons (se_var 8) sa_nil)))))))))
    (sss_cons (ss_asg (se_callI F__law_summed rfl hr rfl tk (sa_cons (se_var 4) (sa_cons (se_var 5) sa_nil))) (sg_seq rfl (sgs_cons (sg_name (i := 9) sc__law_torn_rows.nd rfl (Or.inl rfl)) (sgs_cons (sg_name (i := 10) sc__law_torn_rows.nd rfl (Or.inl rfl)) sgs_nil))))
    (sss_cons (ss_set (i := 11) sc__law_torn_rows.nd rfl (Or.inl rfl) (se_tup (sa_cons (se_op op_subM (se_op op_subM (se_un un_negM (se_var 9)) se_int) (se_callI F__law_draw rfl hr rfl tk (sa_cons (se_var 0) (sa_cons se_int sa_nil)))) (sa_cons (se_callTy cr_tuple rfl T.z_tuple PyProof.Rows.boot_tuple (sa_cons (se_lc [("unknown", 13), ("c", 14)] rfl sc__law_torn_rows.nd (si_any (se_var 10)) (blkOk_by (own := [("unknown", 13), ("c", 14)]) (N := ["well", "count", "many", "most", "rows", "numbers", "k", "exact", "number", "const", "terms", "last", "at", "unknown", "c"]) (sc := defScope s__law_torn_rows) (by decide +kernel)) (fun _ _ _ _ _ => (sgv_tup rfl (sgvs_cons (sgv_name (vs := [13, 14]) (i := 13) sc__law_torn_rows.nd rfl (Or.inl rfl) (by decide)) (sgvs_cons (sgv_name (vs := [13, 14]) (i := 14) sc__law_torn_rows.nd rfl (Or.inl rfl) (by decide)) sgvs_nil)))) (fun _ _ _ _ _ => sts_nil) (fun _ _ _ _ _ => (se_tup (sa_cons (se_var 13) (sa_cons (se_un un_negM (se_var 14)) sa_nil))))) sa_nil)) sa_nil))))
    (sss_cons (ss_set (i := 12) sc__law_torn_rows.nd rfl (Or.inl rfl) (se_callI F__law_draw rfl hr rfl tk (sa_cons (se_var 0) (sa_cons (se_op op_addM (se_var 2) se_int) sa_nil))))
    (sss_one (ss_ret (se_tup (sa_cons (se_op op_addM (se_op op_addM (se_sl (se_var 4) so_none (so_some (se_var 12))) (se_lst (sa_cons (se_tup (sa_cons (se_var 11) (sa_cons (se_cmp (op_eqM hr.units) (se_callI F__law_draw rfl hr rfl tk (sa_cons (se_var 0) (sa_cons se_int sa_nil))) se_int (nomark _)) sa_nil))) sa_nil))) (se_sl (se_var 4) (so_some (se_var 12)) so_none)) (sa_cons (se_callTy cr_tuple rfl T.z_tuple PyProof.Rows.boot_tuple (sa_cons (se_op op_addM (se_op op_addM (se_sl (se_var 5) so_none (so_some (se_var 12))) (se_lst (sa_cons se_int sa_nil))) (se_sl (se_var 5) (so_some (se_var 12)) so_none)) sa_nil)) sa_nil))))))))))))
abbrev s__law_no_system : Stmt := topS 64
theorem sc__law_no_system : FnScope ["well", "count", "rows", "wide", "good", "rest", "at", "bad", "pick", "whole"] ["well", "count", "rows"] (defScope s__law_no_system) := ⟨rfl, rfl, rfl, by decide +kernel, rfl, by decide +kernel, by decide +kernel⟩
noncomputable def m__law_no_system (f__law_draw : FnM) : MS :=
    mSeq (mSet 3 (mB bMax2 (mCons (mVar 1) (mCons (mC (.int 3)) (mNil)))))
    (mSeq (mSet 4 (mTup (mCons (mTup (mCons (mUn oNeg (mC (.int 3))) (mCons (mTup (mCons (mTup (mCons (mC (.int 0)) (mCons (mC (.int 2)) (mNil)))) (mCons (mTup (mCons (mC (.int 2)) (mCons (mUn oNeg (mC (.int 1))) (mNil)))) (mNil)))) (mNil)))) (mCons (mC (.bl false)) (mNil)))))
    (mSeq (mSet 5 (mB bList (mCons (mVar 2) (mNil))))
    (mSeq (mSet 6 (mCall 2 f__law_draw (mCons (mVar 0) (mCons (mOp oAdd (mB bLen (mCons (mVar 5) (mNil))) (mC (.int 1))) (mNil)))))
    (mSeq (mSet 7 (mLst (mCons (mTup (mCons (mTup (mCons (mC (.int 1)) (mCons (mTup (mCons (mTup (mCons (mVar 3) (mCons (mC (.int 1)) (mNil)))) (mNil))) (mNil)))) (mCons (mC (.bl false)) (mNil)))) (mCons (mTup (mCons (mTup (mCons (mC (.int 1)) (mCons (mTup (mCons (mTup (mCons (mUn oNeg (mC (.int 1))) (mCons (mC (.int 1)) (mNil)))) (mNil))) (mNil)))) (mCons (mC (.bl false)) (mNil)))) (mCons (mTup (mCons (mTup (mCons (mC (.int 1)) (mCons (mTup (mCons (mTup (mCons (mC (.int 0)) (mCons (mC (.int 0)) (mNil)))) (mNil))) (mNil)))) (mCons (mC (.bl false)) (mNil)))) (mCons (mTup (mCons (mTup (mCons (mC (.int 1)) (mCons (mTup (mCons (mTup (mCons (mC (.int 0)) (mCons (mC (.bl true)) (mNil)))) (mNil))) (mNil)))) (mCons (mC (.bl false)) (mNil)))) (mNil)))))))
    (mSeq (mSet 7 (mOp oAdd (mVar 7) (mLst (mCons (mTup (mCons (mTup (mCons (mC (.bl true)) (mCons (mTup (mNil)) (mNil)))) (mCons (mC (.bl false)) (mNil)))) (mCons (mTup (mCons (mTup (mCons (mC (.int 1)) (mCons (mLst (mCons (mTup (mCons (mC (.int 0)) (mCons (mC (.int 1)) (mNil)))) (mNil))) (mNil)))) (mCons (mC (.bl false)) (mNil)))) (mCons (mTup (mCons (mTup (mCons (mC (.int 1)) (mCons (mTup (mCons (mTup (mCons (mC (.int 0)) (mCons (mC (.int 1)) (mNil)))) (mCons (mTup (mCons (mC (.int 0)) (mCons (mC (.int 2)) (mNil)))) (mNil)))) (mNil)))) (mCons (mC (.bl false)) (mNil)))) (mCons (mTup (mCons (mTup (mCons (mC (.int 1)) (mCons (mTup (mNil)) (mNil)))) (mCons (mC (.int 1)) (mNil)))) (mNil))))))))
    (mSeq (mSet 7 (mOp oAdd (mVar 7) (mLst (mCons (mLst (mCons (mTup (mCons (mC (.int 1)) (mCons (mTup (mNil)) (mNil)))) (mCons (mC (.bl false)) (mNil)))) (mCons (mTup (mCons (mTup (mCons (mC (.int 1)) (mCons (mTup (mNil)) (mNil)))) (mNil))) (mCons (mTup (mCons (mTup (mCons (mC (.int 1)) (mCons (mTup (mNil)) (mNil)))) (mCons (mC (.bl false)) (mCons (mC .non) (mNil))))) (mCons (mTup (mCons (mC (.int 1)) (mCons (mC (.bl false)) (mNil)))) (mCons (mTup (mCons (mC .non) (mCons (mC (.bl false)) (mNil)))) (mCons (mTup (mCons (mTup (mCons (mC (.int 1)) (mCons (mTup (mCons (mC (.int 0)) (mCons (mC (.int 1)) (mNil)))) (mNil)))) (mCons (mC (.bl true)) (mNil)))) (mNil))))))))))
    (mSeq (mSet 7 (mOp oAdd (mVar 7) (mLst (mCons (mTup (mCons (mTup (mCons (mC (.int 1)) (mCons (mTup (mCons (mTup (mCons (mC (.bl true)) (mCons (mC (.int 1)) (mNil)))) (mNil))) (mNil)))) (mCons (mC (.bl false)) (mNil)))) (mCons (mTup (mCons (mTup (mCons (mC (.int 1)) (mCons (mTup (mCons (mTup (mCons (mC (.int 1)) (mCons (mC (.int 1)) (mNil)))) (mCons (mTup (mCons (mC (.int 0)) (mCons (mC (.int 1)) (mNil)))) (mNil)))) (mNil)))) (mCons (mC (.bl true)) (mNil)))) (mCons (mTup (mCons (mTup (mCons (mC (.int 1)) (mCons (mTup (mCons (mTup (mCons (mC (.int 0)) (mCons (mC (.int 1)) (mCons (mC (.int 1)) (mNil))))) (mNil))) (mNil)))) (mCons (mC (.bl true)) (mNil)))) (mCons (mTup (mCons (mTup (mCons (mC (.int 1)) (mCons (mTup (mNil)) (mNil)))) (mCons (mC .non) (mNil)))) (mNil))))))))
    (mSeq (mSet 7 (mOp oAdd (mVar 7) (mLst (mCons (mTup (mCons (mTup (mCons (mC (.int 1)) (mCons (mTup (mCons (mC .non) (mNil))) (mNil)))) (mCons (mC (.bl true)) (mNil)))) (mCons (mTup (mCons (mLst (mCons (mC (.int 1)) (mCons (mTup (mNil)) (mNil)))) (mCons (mC (.bl true)) (mNil)))) (mCons (mTup (mCons (mTup (mCons (mC (.int 1)) (mNil))) (mCons (mC (.bl true)) (mNil)))) (mCons (mTup (mCons (mTup (mCons (mC (.int 1)) (mCons (mTup (mNil)) (mCons (mTup (mNil)) (mNil))))) (mCons (mC (.bl false)) (mNil)))) (mCons (mTup (mCons (mTup (mCons (mC (.str "1")) (mCons (mTup (mNil)) (mNil)))) (mCons (mC (.bl true)) (mNil)))) (mCons (mC .non) (mNil))))))))))
    (mSeq (mSet 8 (mCall 2 f__law_draw (mCons (mVar 0) (mCons (mOp oAdd (mB bLen (mCons (mVar 7) (mNil))) (mC (.int 9))) (mNil)))))
    (mSeq (mIfS (mTest (mOp oLt (mVar 8) (mB bLen (mCons (mVar 7) (mNil))))) (mRet (mTup (mCons (mVar 3) (mCons (mB bTuple (mCons (mOp oAdd (mOp oAdd (mOp oAdd (mSl (mVar 5) (moN) (moS (mVar 6))) (mLst (mCons (mOp oGet (mVar 7) (mVar 8)) (mNil)))) (mSl (mVar 5) (moS (mVar 6)) (moN))) (mLst (mCons (mVar 4) (mNil)))) (mNil))) (mNil))))) (mNx))
    (mSeq (mSet 9 (mLst (mCons (mTup (mCons (mC (.bl true)) (mCons (mTup (mNil)) (mNil)))) (mCons (mTup (mCons (mUn oNeg (mC (.int 1))) (mCons (mTup (mNil)) (mNil)))) (mCons (mTup (mCons (mC (.int 4001)) (mCons (mTup (mNil)) (mNil)))) (mCons (mTup (mCons (mC (.int 3)) (mCons (mLst (mCons (mVar 4) (mNil))) (mNil)))) (mCons (mLst (mCons (mC (.int 3)) (mCons (mTup (mCons (mVar 4) (mNil))) (mNil)))) (mCons (mTup (mCons (mC (.int 3)) (mCons (mTup (mCons (mVar 4) (mNil))) (mCons (mTup (mNil)) (mNil))))) (mCons (mTup (mCons (mC (.int 3)) (mNil))) (mCons (mC .non) (mCons (mTup (mCons (mC .non) (mCons (mTup (mNil)) (mNil)))) (mNil))))))))))))
    (mRet (mOp oGet (mVar 9) (mOp oSub (mVar 8) (mB bLen (mCons (mVar 7) (mNil)))))))))))))))))
theorem ok__law_no_system {P : Program} {w : World} {K : PySem.W.Frag} {mg : Str → Option Value} {base : Heap} {aPaidError aBadSystem aBadLine : Addr} {fa : Addr} {fd : FuncData} {k : Nat} (F : Fun K "_law_no_system" "_law_no_system" s__law_no_system fa fd) (T : Md K mg aPaidError aBadSystem aBadLine) {f__law_draw : FnM} (F__law_draw : FnI P w K mg base (ctb aPaidError aBadSystem aBadLine) k "_law_draw" ["well", "many"] f__law_draw) :
    FnOk P w K mg base (L2.CX P w) (k + 1) fa fd ["well", "count", "rows"] (spM K (ctb aPaidError aBadSystem aBadLine) 3 (mFn 10 (m__law_no_system f__law_draw))) :=
  fn_ok F sc__law_no_system fun cdv A outer s H E hr tk pas => by
    let ct : Ctb := ctb aPaidError aBadSystem aBadLine
    exact ((sss_cons (ss_set (i := 3) sc__law_no_system.nd rfl (Or.inl rfl) (se_callB (cr_max2 rfl) rfl T.z_max PyProof.Rows.boot_max (sa_cons (se_var 1) (sa_cons se_int sa_nil))))
    (sss_cons (ss_set (i := 4) sc__law_no_system.nd rfl (Or.inl rfl) (se_tup (sa_cons (se_tup (sa_cons (se_un un_negM se_int) (sa_cons (se_tup (sa_cons (se_tup (sa_cons se_int (sa_cons se_int sa_nil))) (sa_cons (se_tup (sa_cons se_int (sa_cons (se_un un_negM se_int) sa_nil))) sa_nil))) sa_nil))) (sa_cons se_bl sa_nil))))
    (sss_cons (ss_set (i := 5) sc__law_no_system.nd rfl (Or.inl rfl) (se_callTy cr_list rfl T.z_list PyProof.Rows.boot_list (sa_cons (se_var 2) sa_nil)))
    (sss_cons (ss_set (i := 6) sc__law_no_system.nd rfl (Or.inl rfl) (se_callI F__law_draw rfl hr rfl tk (sa_cons (se_var 0) (sa_cons (se_op op_addM (se_callB cr_len rfl T.z_len PySem.boot_len (sa_cons (se_var 5) sa_nil)) se_int) sa_nil))))
    (sss_cons (ss_set (i := 7) sc__law_no_system.nd rfl (Or.inl rfl) (se_lst (sa_cons (se_tup (sa_cons (se_tup (sa_cons se_int (sa_cons (se_tup (sa_cons (se_tup (sa_cons (se_var 3) (sa_cons se_int sa_nil))) sa_nil)) sa_nil))) (sa_cons se_bl sa_nil))) (sa_cons (se_tup (sa_cons (se_tup (sa_cons se_int (sa_cons (se_tup (sa_cons (se_tup (sa_cons (se_un un_negM se_int) (sa_cons se_int sa_nil))) sa_nil)) sa_nil))) (sa_cons se_bl sa_nil))) (sa_cons (se_tup (sa_cons (se_tup (sa_cons se_int (sa_cons (se_tup (sa_cons (se_tup (sa_cons se_int (sa_cons se_int sa_nil))) sa_nil)) sa_nil))) (sa_cons se_bl sa_nil))) (sa_cons (se_tup (sa_cons (se_tup (sa_cons se_int (sa_cons (se_tup (sa_cons (se_tup (sa_cons se_int (sa_cons se_bl sa_nil))) sa_nil)) sa_nil))) (sa_cons se_bl sa_nil))) sa_nil))))))
    (sss_cons (ss_set (i := 7) sc__law_no_system.nd rfl (Or.inl rfl) (se_op op_addM (se_var 7) (se_lst (sa_cons (se_tup (sa_cons (se_tup (sa_cons se_bl (sa_cons (se_tup sa_nil) sa_nil))) (sa_cons se_bl sa_nil))) (sa_cons (se_tup (sa_cons (se_tup (sa_cons se_int (sa_cons (se_lst (sa_cons (se_tup (sa_cons se_int (sa_cons se_int sa_nil))) sa_nil)) sa_nil))) (sa_cons se_bl sa_nil))) (sa_cons (se_tup (sa_cons (se_tup (sa_cons se_int (sa_cons (se_tup (sa_cons (se_tup (sa_cons se_int (sa_cons se_int sa_nil))) (sa_cons (se_tup (sa_cons se_int (sa_cons se_int sa_nil))) sa_nil))) sa_nil))) (sa_cons se_bl sa_nil))) (sa_cons (se_tup (sa_cons (se_tup (sa_cons se_int (sa_cons (se_tup sa_nil) sa_nil))) (sa_cons se_int sa_nil))) sa_nil)))))))
    (sss_cons (ss_set (i := 7) sc__law_no_system.nd rfl (Or.inl rfl) (se_op op_addM (se_var 7) (se_lst (sa_cons (se_lst (sa_cons (se_tup (sa_cons se_int (sa_cons (se_tup sa_nil) sa_nil))) (sa_cons se_bl sa_nil))) (sa_cons (se_tup (sa_cons (se_tup (sa_cons se_int (sa_cons (se_tup sa_nil) sa_nil))) sa_nil)) (sa_cons (se_tup (sa_cons (se_tup (sa_cons se_int (sa_cons (se_tup sa_nil) sa_nil))) (sa_cons se_bl (sa_cons se_non sa_nil)))) (sa_cons (se_tup (sa_cons se_int (sa_cons se_bl sa_nil))) (sa_cons (se_tup (sa_cons se_non (sa_cons se_bl sa_nil))) (sa_cons (se_tup (sa_cons (se_tup (sa_cons se_int (sa_cons (se_tup (sa_cons se_int (sa_cons se_int sa_nil))) sa_nil))) (sa_cons se_bl sa_nil))) sa_nil)))))))))
    (sss_cons (ss_set (i := 7) sc__law_no_system.nd rfl (Or.inl rfl) (se_op op_addM (se_var 7) (se_lst (sa_cons (se_tup (sa_cons (se_tup (sa_cons se_int (sa_cons (se_tup (sa_cons (se_tup (sa_cons se_bl (sa_cons se_int sa_nil))) sa_nil)) sa_nil))) (sa_cons se_bl sa_nil))) (sa_cons (se_tup (sa_cons (se_tup (sa_cons se_int (sa_cons (se_tup (sa_cons (se_tup (sa_cons se_int (sa_cons se_int sa_nil))) (sa_cons (se_tup (sa_cons se_int (sa_cons se_int sa_nil))) sa_nil))) sa_nil))) (sa_cons se_bl sa_nil))) (sa_cons (se_tup (sa_cons (se_tup (sa_cons se_int (sa_cons (se_tup (sa_cons (se_tup (sa_cons se_int (sa_cons se_int (sa_cons se_int sa_nil)))) sa_nil)) sa_nil))) (sa_cons se_bl sa_nil))) (sa_cons (se_tup (sa_cons (se_tup (sa_cons se_int (sa_cons (se_tup sa_nil) sa_nil))) (sa_cons se_non sa_nil))) sa_nil)))))))
    (sss_cons (ss_set (i := 7) sc__law_no_system.nd rfl (Or.inl rfl) (se_op op_addM (se_var 7) (se_lst (sa_cons (se_tup (sa_cons (se_tup (sa_cons se_int (sa_cons (se_tup (sa_cons se_non sa_nil)) sa_nil))) (sa_cons se_bl sa_nil))) (sa_cons (se_tup (sa_cons (se_lst (sa_cons se_int (sa_cons (se_tup sa_nil) sa_nil))) (sa_cons se_bl sa_nil))) (sa_cons (se_tup (sa_cons (se_tup (sa_cons se_int sa_nil)) (sa_cons se_bl sa_nil))) (sa_cons (se_tup (sa_cons (se_tup (sa_cons se_int (sa_cons (se_tup sa_nil) (sa_cons (se_tup sa_nil) sa_nil)))) (sa_cons se_bl sa_nil))) (sa_cons (se_tup (sa_cons (se_tup (sa_cons se_str (sa_cons (se_tup sa_nil) sa_nil))) (sa_cons se_bl sa_nil))) (sa_cons se_non sa_nil)))))))))
    (sss_cons (ss_set (i := 8) sc__law_no_system.nd rfl (Or.inl rfl) (se_callI F__law_draw rfl hr rfl tk (sa_cons (se_var 0) (sa_cons (se_op op_addM (se_callB cr_len rfl T.z_len PySem.boot_len (sa_cons (se_var 7) sa_nil)) se_int) sa_nil))))
    (sss_cons (ss_if (st_cmp op_ltM (se_var 8) (se_callB cr_len rfl T.z_len PySem.boot_len (sa_cons (se_var 7) sa_nil)) (nomark _)) (sss_one (ss_ret (se_tup (sa_cons (se_var 3) (sa_cons (se_callTy cr_tuple rfl T.z_tuple PyProof.Rows.boot_tuple (sa_cons (se_op op_addM (se_op op_addM (se_op op_addM (se_sl (se_var 5) so_none (so_some (se_var 6))) (se_lst (sa_cons (se_ix (ix_A hr) (se_var 7) (se_var 8) (fun _ _ => rfl)) sa_nil))) (se_sl (se_var 5) (so_some (se_var 6)) so_none)) (se_lst (sa_cons (se_var 4) sa_nil))) sa_nil)) sa_nil))))) sss_nil)
    (sss_cons (ss_set (i := 9) sc__law_no_system.nd rfl (Or.inl rfl) (se_lst (sa_cons (se_tup (sa_cons se_bl (sa_cons (se_tup sa_nil) sa_nil))) (sa_cons (se_tup (sa_cons (se_un un_negM se_int) (sa_cons (se_tup sa_nil) sa_nil))) (sa_cons (se_tup (sa_cons se_int (sa_cons (se_tup sa_nil) sa_nil))) (sa_cons (se_tup (sa_cons se_int (sa_cons (se_lst (sa_cons (se_var 4) sa_nil)) sa_nil))) (sa_cons (se_lst (sa_cons se_int (sa_cons (se_tup (sa_cons (se_var 4) sa_nil)) sa_nil))) (sa_cons (se_tup (sa_cons se_int (sa_cons (se_tup (sa_cons (se_var 4) sa_nil)) (sa_cons (se_tup sa_nil) sa_nil)))) (sa_cons (se_tup (sa_cons se_int sa_nil)) (sa_cons se_non (sa_cons (se_tup (sa_cons se_non (sa_cons (se_tup sa_nil) sa_nil))) sa_nil)))))))))))
    (sss_one (ss_ret (se_ix (ix_A hr) (se_var 9) (se_op op_subM (se_var 8) (se_callB cr_len rfl T.z_len PySem.boot_len (sa_cons (se_var 7) sa_nil))) (fun _ _ => rfl)))))))))))))))))
abbrev s__law_swapped : Stmt := topS 65
theorem sc__law_swapped : FnScope ["row", "at", "thing"] ["row", "at", "thing"] (defScope s__law_swapped) := ⟨rfl, rfl, rfl, by decide +kernel, rfl, by decide +kernel, by decide +kernel⟩
noncomputable def m__law_swapped : MS :=
    mRet (mOp oAdd (mOp oAdd (mSl (mVar 0) (moN) (moS (mVar 1))) (mTup (mCons (mVar 2) (mNil)))) (mSl (mVar 0) (moS (mOp oAdd (mVar 1) (mC (.int 1)))) (moN)))
theorem ok__law_swapped {P : Program} {w : World} {K : PySem.W.Frag} {mg : Str → Option Value} {base : Heap} {aPaidError aBadSystem aBadLine : Addr} {fa : Addr} {fd : FuncData} {k : Nat} (F : Fun K "_law_swapped" "_law_swapped" s__law_swapped fa fd) (T : Md K mg aPaidError aBadSystem aBadLine) :
    FnOk P w K mg base (L2.CX P w) (k + 1) fa fd ["row", "at", "thing"] (spM K (ctb aPaidError aBadSystem aBadLine) 3 (mFn 3 (m__law_swapped))) :=
  fn_ok F sc__law_swapped fun cdv A outer s H E hr tk pas => by
    let ct : Ctb := ctb aPaidError aBadSystem aBadLine
    exact ((sss_one (ss_ret (se_op op_addM (se_op op_addM (se_sl (se_var 0) so_none (so_some (se_var 1))) (se_tup (sa_cons (se_var 2) sa_nil))) (se_sl (se_var 0) (so_some (se_op op_addM (se_var 1) se_int)) so_none)))))
abbrev s__law_spoilt_point : Stmt := topS 66
theorem sc__law_spoilt_point : FnScope ["well", "point", "at", "top", "bottom", "things", "pick"] ["well", "point"] (defScope s__law_spoilt_point) := ⟨rfl, rfl, rfl, by decide +kernel, rfl, by decide +kernel, by decide +kernel⟩
noncomputable def m__law_spoilt_point (f__law_draw : FnM) (f__law_swapped : FnM) : MS :=
    mSeq (mIfS (mTest (mOp oEq (mVar 1) (mTup (mNil)))) (mRet (mOp oGet (mLst (mCons (mLst (mNil)) (mCons (mTup (mCons (mTup (mCons (mC (.int 0)) (mCons (mC (.int 1)) (mNil)))) (mNil))) (mCons (mC .non) (mCons (mC (.str "")) (mCons (mC (.int 0)) (mNil))))))) (mCall 2 f__law_draw (mCons (mVar 0) (mCons (mC (.int 5)) (mNil)))))) (mNx))
    (mSeq (mSet 2 (mCall 2 f__law_draw (mCons (mVar 0) (mCons (mB bLen (mCons (mVar 1) (mNil))) (mNil)))))
    (mSeq (mAsg (mOp oGet (mVar 1) (mVar 2)) (gmSeq 2 (gmCons (gmName 3) (gmCons (gmName 4) (gmNil)))))
    (mSeq (mSet 5 (mLst (mCons (mTup (mCons (mOp oAdd (mVar 3) (mC (.int 1))) (mCons (mVar 4) (mNil)))) (mCons (mTup (mCons (mOp oSub (mVar 3) (mC (.int 1))) (mCons (mVar 4) (mNil)))) (mCons (mTup (mCons (mOp oMulA (mC (.int 2)) (mVar 3)) (mCons (mOp oMulA (mC (.int 2)) (mVar 4)) (mNil)))) (mCons (mTup (mCons (mVar 3) (mCons (mC (.int 0)) (mNil)))) (mCons (mTup (mCons (mUn oNeg (mVar 3)) (mCons (mUn oNeg (mVar 4)) (mNil)))) (mCons (mLst (mCons (mVar 3) (mCons (mVar 4) (mNil)))) (mNil)))))))))
    (mSeq (mSet 5 (mOp oAdd (mVar 5) (mLst (mCons (mTup (mCons (mVar 3) (mCons (mVar 4) (mCons (mC (.int 1)) (mNil))))) (mCons (mTup (mCons (mVar 3) (mNil))) (mCons (mC .non) (mCons (mVar 3) (mCons (mTup (mCons (mVar 3) (mCons (mC (.bl true)) (mNil)))) (mCons (mTup (mCons (mC (.bl true)) (mCons (mVar 4) (mNil)))) (mCons (mTup (mCons (mOp oMulA (mC (.int 3)) (mVar 3)) (mCons (mOp oMulA (mC (.int 3)) (mVar 4)) (mNil)))) (mNil)))))))))))
    (mSeq (mSet 6 (mCall 2 f__law_draw (mCons (mVar 0) (mCons (mOp oAdd (mB bLen (mCons (mVar 5) (mNil))) (mC (.int 5))) (mNil)))))
    (mSeq (mIfS (mTest (mOp oLt (mVar 6) (mB bLen (mCons (mVar 5) (mNil))))) (mRet (mCall 3 f__law_swapped (mCons (mVar 1) (mCons (mVar 2) (mCons (mOp oGet (mVar 5) (mVar 6)) (mNil)))))) (mNx))
    (mRet (mOp oGet (mLst (mCons (mB bList (mCons (mVar 1) (mNil))) (mCons (mOp oAdd (mSl (mVar 1) (moN) (moS (mVar 2))) (mSl (mVar 1) (moS (mOp oAdd (mVar 2) (mC (.int 1)))) (moN))) (mCons (mOp oAdd (mVar 1) (mTup (mCons (mTup (mCons (mC (.int 0)) (mCons (mC (.int 1)) (mNil)))) (mNil)))) (mCons (mC .non) (mCons (mTup (mCons (mVar 1) (mNil))) (mNil))))))) (mOp oSub (mVar 6) (mB bLen (mCons (mVar 5) (mNil))))))))))))
theorem ok__law_spoilt_point {P : Program} {w : World} {K : PySem.W.Frag} {mg : Str → Option Value} {base : Heap} {aPaidError aBadSystem aBadLine : Addr} {fa : Addr} {fd : FuncData} {k : Nat} (F : Fun K "_law_spoilt_point" "_law_spoilt_point" s__law_spoilt_point fa fd) (T : Md K mg aPaidError aBadSystem aBadLine) {f__law_draw : FnM} {f__law_swapped : FnM} (F__law_draw : FnI P w K mg base (ctb aPaidError aBadSystem aBadLine) k "_law_draw" ["well", "many"] f__law_draw) (F__law_swapped : FnI P w K mg base (ctb aPaidError aBadSystem aBadLine) k "_law_swapped" ["row", "at", "thing"] f__law_swapped) :
    FnOk P w K mg base (L2.CX P w) (k + 1) fa fd ["well", "point"] (spM K (ctb aPaidError aBadSystem aBadLine) 2 (mFn 7 (m__law_spoilt_point f__law_draw f__law_swapped))) :=
  fn_ok F sc__law_spoilt_point fun cdv A outer s H E hr tk pas => by
    let ct : Ctb := ctb aPaidError aBadSystem aBadLine
    exact ((sss_cons (ss_if (st_cmp (op_eqM hr.units) (se_var 1) (se_tup sa_nil) (nomark _)) (sss_one (ss_ret (se_ix (ix_A hr) (se_lst (sa_cons (se_lst sa_nil) (sa_cons (se_tup (sa_cons (se_tup (sa_cons se_int (sa_cons se_int sa_nil))) sa_nil)) (sa_cons se_non (sa_cons se_str (sa_cons se_int sa_nil)))))) (se_callI F__law_draw rfl hr rfl tk (sa_cons (se_var 0) (sa_cons se_int sa_nil))) (fun _ _ => rfl)))) sss_nil)
    (sss_cons (ss_set (i := 2) sc__law_spoilt_point.nd rfl (Or.inl rfl) (se_callI F__law_draw rfl hr rfl tk (sa_cons (se_var 0) (sa_cons (se_callB cr_len rfl T.z_len PySem.boot_len (sa_cons (se_var 1) sa_nil)) sa_nil))))
    (sss_cons (ss_asg (se_ix (ix_A hr) (se_var 1) (se_var 2) (fun _ _ => rfl)) (sg_seq rfl (sgs_cons (sg_name (i := 3) sc__law_spoilt_point.nd rfl (Or.inl rfl)) (sgs_cons (sg_name (i := 4) sc__law_spoilt_point.nd rfl (Or.inl rfl)) sgs_nil))))
    (sss_cons (ss_set (i := 5) sc__law_spoilt_point.nd rfl (Or.inl rfl) (se_lst (sa_cons (se_tup (sa_cons (se_op op_addM (se_var 3) se_int) (sa_cons (se_var 4) sa_nil))) (sa_cons (se_tup (sa_cons (se_op op_subM (se_var 3) se_int) (sa_cons (se_var 4) sa_nil))) (sa_cons (se_tup (sa_cons (se_op op_mulA se_int (se_var 3)) (sa_cons (se_op op_mulA se_int (se_var 4)) sa_nil))) (sa_cons (se_tup (sa_cons (se_var 3) (sa_cons se_int sa_nil))) (sa_cons (se_tup (sa_cons (se_un un_negM (se_var 3)) (sa_cons (se_un un_negM (se_var 4)) sa_nil))) (sa_cons (se_lst (sa_cons (se_var 3) (sa_cons (se_var 4) sa_nil))) sa_nil))))))))
    (sss_cons (ss_set (i := 5) sc__law_spoilt_point.nd rfl (Or.inl rfl) (se_op op_addM (se_var 5) (se_lst (sa_cons (se_tup (sa_cons (se_var 3) (sa_cons (se_var 4) (sa_cons se_int sa_nil)))) (sa_cons (se_tup (sa_cons (se_var 3) sa_nil)) (sa_cons se_non (sa_cons (se_var 3) (sa_cons (se_tup (sa_cons (se_var 3) (sa_cons se_bl sa_nil))) (sa_cons (se_tup (sa_cons se_bl (sa_cons (se_var 4) sa_nil))) (sa_cons (se_tup (sa_cons (se_op op_mulA se_int (se_var 3)) (sa_cons (se_op op_mulA se_int (se_var 4)) sa_nil))) sa_nil))))))))))
    (sss_cons (ss_set (i := 6) sc__law_spoilt_point.nd rfl (Or.inl rfl) (se_callI F__law_draw rfl hr rfl tk (sa_cons (se_var 0) (sa_cons (se_op op_addM (se_callB cr_len rfl T.z_len PySem.boot_len (sa_cons (se_var 5) sa_nil)) se_int) sa_nil))))
    (sss_cons (ss_if (st_cmp op_ltM (se_var 6) (se_callB cr_len rfl T.z_len PySem.boot_len (sa_cons (se_var 5) sa_nil)) (nomark _)) (sss_one (ss_ret (se_callI F__law_swapped rfl hr rfl tk (sa_cons (se_var 1) (sa_cons (se_var 2) (sa_cons (se_ix (ix_A hr) (se_var 5) (se_var 6) (fun _ _ => rfl)) sa_nil)))))) sss_nil)
    (sss_one (ss_ret (se_ix (ix_A hr) (se_lst (sa_cons (se_callTy cr_list rfl T.z_list PyProof.Rows.boot_list (sa_cons (se_var 1) sa_nil)) (sa_cons (se_op op_addM (se_sl (se_var 1) so_none (so_some (se_var 2))) (se_sl (se_var 1) (so_some (se_op op_addM (se_var 2) se_int)) so_none)) (sa_cons (se_op op_addM (se_var 1) (se_tup (sa_cons (se_tup (sa_cons se_int (sa_cons se_int sa_nil))) sa_nil))) (sa_cons se_non (sa_cons (se_tup (sa_cons (se_var 1) sa_nil)) sa_nil)))))) (se_op op_subM (se_var 6) (se_callB cr_len rfl T.z_len PySem.boot_len (sa_cons (se_var 5) sa_nil))) (fun _ _ => rfl))))))))))))
abbrev s__law_spoilt_numbers : Stmt := topS 67
theorem sc__law_spoilt_numbers : FnScope ["well", "numbers", "at", "n", "things", "pick", "made", "number"] ["well", "numbers"] (defScope s__law_spoilt_numbers) := ⟨rfl, rfl, rfl, by decide +kernel, rfl, by decide +kernel, by decide +kernel⟩
noncomputable def m__law_spoilt_numbers (f__law_draw : FnM) (f__law_swapped : FnM) : MS :=
    mSeq (mSet 2 (mCall 2 f__law_draw (mCons (mVar 0) (mCons (mB bLen (mCons (mVar 1) (mNil))) (mNil)))))
    (mSeq (mSet 3 (mOp oGet (mVar 1) (mVar 2)))
    (mSeq (mSet 4 (mLst (mCons (mOp oAdd (mVar 3) (mC (.int 1))) (mCons (mOp oSub (mVar 3) (mC (.int 1))) (mCons (mUn oNeg (mVar 3)) (mCons (mOp oEq (mVar 3) (mC (.int 1))) (mCons (mC .non) (mCons (mTup (mCons (mVar 3) (mNil))) (mCons (mOp oSub (mUn oNeg (mC (.int 1))) (mVar 3)) (mCons (mOp oAdd (mVar 3) (mOp oPow (mC (.int 10)) (mC (.int 30)))) (mCons (mC (.str "1")) (mCons (mC (.int 0)) (mNil)))))))))))))
    (mSeq (mSet 5 (mCall 2 f__law_draw (mCons (mVar 0) (mCons (mOp oAdd (mB bLen (mCons (mVar 4) (mNil))) (mC (.int 6))) (mNil)))))
    (mSeq (mIfS (mTest (mOp oLt (mVar 5) (mB bLen (mCons (mVar 4) (mNil))))) (mRet (mCall 3 f__law_swapped (mCons (mVar 1) (mCons (mVar 2) (mCons (mOp oGet (mVar 4) (mVar 5)) (mNil)))))) (mNx))
    (mSeq (mSet 6 (mLst (mCons (mB bList (mCons (mVar 1) (mNil))) (mCons (mOp oAdd (mSl (mVar 1) (moN) (moS (mVar 2))) (mSl (mVar 1) (moS (mOp oAdd (mVar 2) (mC (.int 1)))) (moN))) (mCons (mOp oAdd (mVar 1) (mTup (mCons (mC (.int 0)) (mNil)))) (mCons (mC .non) (mNil)))))))
    (mSeq (mSet 6 (mOp oAdd (mVar 6) (mLst (mCons (mB bTuple (mCons (mLc (miOf iterA (mVar 1)) (gmName 7) (mYes) (mOp oMulA (mC (.int 3)) (mVar 7)) [7]) (mNil))) (mCons (mB bTuple (mCons (mLc (miOf iterA (mVar 1)) (gmName 7) (mYes) (mC (.int 0)) [7]) (mNil))) (mNil))))))
    (mRet (mOp oGet (mVar 6) (mOp oSub (mVar 5) (mB bLen (mCons (mVar 4) (mNil))))))))))))
theorem ok__law_spoilt_numbers {P : Program} {w : World} {K : PySem.W.Frag} {mg : Str → Option Value} {base : Heap} {aPaidError aBadSystem aBadLine : Addr} {fa : Addr} {fd : FuncData} {k : Nat} (F : Fun K "_law_spoilt_numbers" "_law_spoilt_numbers" s__law_spoilt_numbers fa fd) (T : Md K mg aPaidError aBadSystem aBadLine) {f__law_draw : FnM} {f__law_swapped : FnM} (F__law_draw : FnI P w K mg base (ctb aPaidError aBadSystem aBadLine) k "_law_draw" ["well", "many"] f__law_draw) (F__law_swapped : FnI P w K mg base (ctb aPaidError aBadSystem aBadLine) k "_law_swapped" ["row", "at", "thing"] f__law_swapped) :
    FnOk P w K mg base (L2.CX P w) (k + 1) fa fd ["well", "numbers"] (spM K (ctb aPaidError aBadSystem aBadLine) 2 (mFn 8 (m__law_spoilt_numbers f__law_draw f__law_swapped))) :=
  fn_ok F sc__law_spoilt_numbers fun cdv A outer s H E hr tk pas => by
    let ct : Ctb := ctb aPaidError aBadSystem aBadLine
    exact ((sss_cons (ss_set (i := 2) sc__law_spoilt_numbers.nd rfl (Or.inl rfl) (se_callI F__law_draw rfl hr rfl tk (sa_cons (se_var 0) (sa_cons (se_callB cr_len rfl T.z_len PySem.boot_len (sa_cons (se_var 1) sa_nil)) sa_nil))))
    (sss_cons (ss_set (i := 3) sc__law_spoilt_numbers.nd rfl (Or.inl rfl) (se_ix (ix_A hr) (se_var 1) (se_var 2) (fun _ _ => rfl)))
    (sss_cons (ss_set (i := 4) sc__law_spoilt_numbers.nd rfl (Or.inl rfl) (se_lst (sa_cons (se_op op_addM (se_var 3) se_int) (sa_cons (se_op op_subM (se_var 3) se_int) (sa_cons (se_un un_negM (se_var 3)) (sa_cons (se_cmp (op_eqM hr.units) (se_var 3) se_int (nomark _)) (sa_cons se_non (sa_cons (se_tup (sa_cons (se_var 3) sa_nil)) (sa_cons (se_op op_subM (se_un un_negM se_int) (se_var 3)) (sa_cons (se_op op_addM (se_var 3) (se_op op_powM se_int se_int)) (sa_cons se_str (sa_cons se_int sa_nil))))))))))))
    (sss_cons (ss_set (i := 5) sc__law_spoilt_numbers.nd rfl (Or.inl rfl) (se_callI F__law_draw rfl hr rfl tk (sa_cons (se_var 0) (sa_cons (se_op op_addM (se_callB cr_len rfl T.z_len PySem.boot_len (sa_cons (se_var 4) sa_nil)) se_int) sa_nil))))
    (sss_cons (ss_if (st_cmp op_ltM (se_var 5) (se_callB cr_len rfl T.z_len PySem.boot_len (sa_cons (se_var 4) sa_nil)) (nomark _)) (sss_one (ss_ret (se_callI F__law_swapped rfl hr rfl tk (sa_cons (se_var 1) (sa_cons (se_var 2) (sa_cons (se_ix (ix_A hr) (se_var 4) (se_var 5) (fun _ _ => rfl)) sa_nil)))))) sss_nil)
    (sss_cons (ss_set (i := 6) sc__law_spoilt_numbers.nd rfl (Or.inl rfl) (se_lst (sa_cons (se_callTy cr_list rfl T.z_list PyProof.Rows.boot_list (sa_cons (se_var 1) sa_nil)) (sa_cons (se_op op_addM (se_sl (se_var 1) so_none (so_some (se_var 2))) (se_sl (se_var 1) (so_some (se_op op_addM (se_var 2) se_int)) so_none)) (sa_cons (se_op op_addM (se_var 1) (se_tup (sa_cons se_int sa_nil))) (sa_cons se_non sa_nil))))))
    (sss_cons (ss_set (i := 6) sc__law_spoilt_numbers.nd rfl (Or.inl rfl) (se_op op_addM (se_var 6) (se_lst (sa_cons (se_callTy cr_tuple rfl T.z_tuple PyProof.Rows.boot_tuple (sa_cons (se_lc [("number", 7)] rfl sc__law_spoilt_numbers.nd (si_any (se_var 1)) (blkOk_by (own := [("number", 7)]) (N := ["well", "numbers", "at", "n", "things", "pick", "made", "number"]) (sc := defScope s__law_spoilt_numbers) (by decide +kernel)) (fun _ _ _ _ _ => (sgv_name (vs := [7]) (i := 7) sc__law_spoilt_numbers.nd rfl (Or.inl rfl) (by decide))) (fun _ _ _ _ _ => sts_nil) (fun _ _ _ _ _ => (se_op op_mulA se_int (se_var 7)))) sa_nil)) (sa_cons (se_callTy cr_tuple rfl T.z_tuple PyProof.Rows.boot_tuple (sa_cons (se_lc [("number", 7)] rfl sc__law_spoilt_numbers.nd (si_any (se_var 1)) (blkOk_by (own := [("number", 7)]) (N := ["well", "numbers", "at", "n", "things", "pick", "made", "number"]) (sc := defScope s__law_spoilt_numbers) (by decide +kernel)) (fun _ _ _ _ _ => (sgv_name (vs := [7]) (i := 7) sc__law_spoilt_numbers.nd rfl (Or.inl rfl) (by decide))) (fun _ _ _ _ _ => sts_nil) (fun _ _ _ _ _ => se_int)) sa_nil)) sa_nil)))))
    (sss_one (ss_ret (se_ix (ix_A hr) (se_var 6) (se_op op_subM (se_var 5) (se_callB cr_len rfl T.z_len PySem.boot_len (sa_cons (se_var 4) sa_nil))) (fun _ _ => rfl))))))))))))
abbrev s__law_word : Stmt := topS 68
theorem sc__law_word : FnScope ["pick", "system", "thing", "word", "e"] ["pick", "system", "thing"] (defScope s__law_word) := ⟨rfl, rfl, rfl, by decide +kernel, rfl, by decide +kernel, by decide +kernel⟩
noncomputable def m__law_word (f_keeps : FnM) (f_refutes : FnM) (f_solve : FnM) (f_least : FnM) (f_is_least : FnM) : MS :=
    mSeq (mSet 3 (mC (.str "none")))
    (mSeq (mTry sb (mIfS (mTest (mOp oEq (mVar 0) (mC (.int 0)))) (mDrop (mCall 2 f_keeps (mCons (mVar 1) (mCons (mVar 2) (mNil))))) (mIfS (mTest (mOp oEq (mVar 0) (mC (.int 1)))) (mDrop (mCall 2 f_refutes (mCons (mVar 1) (mCons (mVar 2) (mNil))))) (mIfS (mTest (mOp oEq (mVar 0) (mC (.int 2)))) (mDrop (mCall 1 f_solve (mCons (mVar 1) (mNil)))) (mIfS (mTest (mOp oEq (mVar 0) (mC (.int 3)))) (mDrop (mCall 2 f_least (mCons (mVar 1) (mCons (mVar 2) (mNil))))) (mDrop (mCall 3 f_is_least (mCons (mVar 1) (mCons (mVar 2) (mCons (mVar 2) (mNil)))))))))) (("BadSystem", some 4, fun a e => mSeq (mSet 3 (mC (.str "bad")))
    (mIfS (mOr (mNot (mTest (mIsE 4 a e (isb "PaidError" e.cls)))) (mOr (mNot (mTest (mIsE 4 a e (isb "ValueError" e.cls)))) (mTest (mIsE 4 a e (isb "BadLine" e.cls))))) (mSet 3 (mC (.str "wrong"))) (mNx))) :: []))
    (mRet (mVar 3)))
theorem ok__law_word {P : Program} {w : World} {K : PySem.W.Frag} {mg : Str → Option Value} {base : Heap} {aPaidError aBadSystem aBadLine : Addr} {fa : Addr} {fd : FuncData} {k : Nat} (F : Fun K "_law_word" "_law_word" s__law_word fa fd) (T : Md K mg aPaidError aBadSystem aBadLine) {f_keeps : FnM} {f_refutes : FnM} {f_solve : FnM} {f_least : FnM} {f_is_least : FnM} (F_keeps : FnI P w K mg base (ctb aPaidError aBadSystem aBadLine) k "keeps" ["system", "thing"] f_keeps) (F_refutes : FnI P w K mg base (ctb aPaidError aBadSystem aBadLine) k "refutes" ["system", "thing"] f_refutes) (F_solve : FnI P w K mg base (ctb aPaidError aBadSystem aBadLine) k "solve" ["system"] f_solve) (F_least : FnI P w K mg base (ctb aPaidError aBadSystem aBadLine) k "least" ["system", "line"] f_least) (F_is_least : FnI P w K mg base (ctb aPaidError aBadSystem aBadLine) k "is_least" ["system", "line", "thing"] f_is_least) :
    FnOk P w K mg base (L2.CX P w) (k + 1) fa fd ["pick", "system", "thing"] (spM K (ctb aPaidError aBadSystem aBadLine) 3 (mFn 5 (m__law_word f_keeps f_refutes f_solve f_least f_is_least))) :=
  fn_ok F sc__law_word fun cdv A outer s H E hr tk pas => by
    let ct : Ctb := ctb aPaidError aBadSystem aBadLine
    exact ((sss_cons (ss_set (i := 3) sc__law_word.nd rfl (Or.inl rfl) se_str)
    (sss_cons (ss_try (sb := sb) rfl rfl sc__law_word.nd tk (fun W2 pn2 xe2 tk2 pas2 => (sss_one (ss_if (st_cmp (op_eqM hr.units) (se_var 0) se_int (nomark _)) (sss_one (ss_expr (se_callI F_keeps rfl hr rfl tk2 (sa_cons (se_var 1) (sa_cons (se_var 2) sa_nil))))) (sss_one (ss_if (st_cmp (op_eqM hr.units) (se_var 0) se_int (nomark _)) (sss_one (ss_expr (se_callI F_refutes rfl hr rfl tk2 (sa_cons (se_var 1) (sa_cons (se_var 2) sa_nil))))) (sss_one (ss_if (st_cmp (op_eqM hr.units) (se_var 0) se_int (nomark _)) (sss_one (ss_expr (se_callI F_solve rfl hr rfl tk2 (sa_cons (se_var 1) sa_nil)))) (sss_one (ss_if (st_cmp (op_eqM hr.units) (se_var 0) se_int (nomark _)) (sss_one (ss_expr (se_callI F_least rfl hr rfl tk2 (sa_cons (se_var 1) (sa_cons (se_var 2) sa_nil))))) (sss_one (ss_expr (se_callI F_is_least rfl hr rfl tk2 (sa_cons (se_var 1) (sa_cons (se_var 2) (sa_cons (se_var 2) sa_nil))))))))))))))) (.named (i := 4) rfl rfl ⟨rfl, by decide, .inl T.e_BadSystem.g⟩ T.sb_BadSystem (fun a oe cls d pn e hz hf hcl hd => (sss_cons (ss_set (i := 3) sc__law_word.nd rfl (Or.inl rfl) se_str)
    (sss_one (ss_if (st_w (sw_or (st_not (st_val (se_isE hz hf hcl hd T.is_PaidError (i := 4) rfl (Or.inl rfl) rfl T.z_isinstance (pe_glob (v := .ref aPaidError) rfl T.e_PaidError.g rfl) (fun u z => z)))) (sw_or (st_not (st_val (se_isE hz hf hcl hd T.is_ValueError (i := 4) rfl (Or.inl rfl) rfl T.z_isinstance (pe_bltn (v := .ty "ValueError") rfl T.z_ValueError (by decide +kernel) rfl) (fun u z => z)))) (sw_or1 (st_val (se_isE hz hf hcl hd T.is_BadLine (i := 4) rfl (Or.inl rfl) rfl T.z_isinstance (pe_glob (v := .ref aBadLine) rfl T.e_BadLine.g rfl) (fun u z => z))))))) (sss_one (ss_set (i := 3) sc__law_word.nd rfl (Or.inl rfl) se_str)) sss_nil)))) .nil))
    (sss_one (ss_ret (se_var 3))))))
abbrev s__law_asked : Stmt := topS 69
theorem sc__law_asked : FnScope ["well", "system", "point", "numbers", "thing", "due", "some"] ["well", "system", "point", "numbers"] (defScope s__law_asked) := ⟨rfl, rfl, rfl, by decide +kernel, rfl, by decide +kernel, by decide +kernel⟩
noncomputable def m__law_asked (f__law_spoilt_point : FnM) (f__law_shared : FnM) (f__law_keeps : FnM) (f__law_truth : FnM) (f_keeps : FnM) (f__law_spoilt_numbers : FnM) (f__law_refutes : FnM) (f_refutes : FnM) : MS :=
    mSeq (mFor (miOf iterA (mLst (mCons (mVar 2) (mCons (mCall 2 f__law_spoilt_point (mCons (mVar 0) (mCons (mVar 2) (mNil)))) (mCons (mCall 2 f__law_spoilt_point (mCons (mVar 0) (mCons (mVar 2) (mNil)))) (mCons (mVar 2) (mCons (mTup (mNil)) (mCons (mCall 0 f__law_shared mNil) (mNil))))))))) (gmName 4) (mSeq (mSet 5 (mCall 2 f__law_keeps (mCons (mVar 1) (mCons (mVar 4) (mNil)))))
    (mIfS (mOr (mNot (mTest (mCall 2 f__law_truth (mCons (mCall 2 f_keeps (mCons (mVar 1) (mCons (mVar 4) (mNil)))) (mCons (mVar 5) (mNil)))))) (mNot (mTest (mCall 2 f__law_truth (mCons (mCallK 2 [1, 0] f_keeps (mCons (mVar 4) (mCons (mVar 1) (mNil)))) (mCons (mVar 5) (mNil))))))) (mRet (mC (.bl false))) (mNx))))
    (mSeq (mSet 6 (mLst (mCons (mCall 2 f__law_spoilt_numbers (mCons (mVar 0) (mCons (mVar 3) (mNil)))) (mCons (mCall 2 f__law_spoilt_numbers (mCons (mVar 0) (mCons (mVar 3) (mNil)))) (mNil)))))
    (mSeq (mFor (miOf iterA (mOp oAdd (mOp oAdd (mLst (mCons (mVar 3) (mNil))) (mVar 6)) (mLst (mCons (mVar 3) (mCons (mCall 0 f__law_shared mNil) (mNil)))))) (gmName 4) (mSeq (mSet 5 (mCall 2 f__law_refutes (mCons (mOp oGet (mVar 1) (mC (.int 1))) (mCons (mVar 4) (mNil)))))
    (mIfS (mOr (mNot (mTest (mCall 2 f__law_truth (mCons (mCall 2 f_refutes (mCons (mVar 1) (mCons (mVar 4) (mNil)))) (mCons (mVar 5) (mNil)))))) (mNot (mTest (mCall 2 f__law_truth (mCons (mCallK 2 [1, 0] f_refutes (mCons (mVar 4) (mCons (mVar 1) (mNil)))) (mCons (mVar 5) (mNil))))))) (mRet (mC (.bl false))) (mNx))))
    (mRet (mC (.bl true)))))
theorem ok__law_asked {P : Program} {w : World} {K : PySem.W.Frag} {mg : Str → Option Value} {base : Heap} {aPaidError aBadSystem aBadLine : Addr} {fa : Addr} {fd : FuncData} {k : Nat} (F : Fun K "_law_asked" "_law_asked" s__law_asked fa fd) (T : Md K mg aPaidError aBadSystem aBadLine) {f__law_spoilt_point : FnM} {f__law_shared : FnM} {f__law_keeps : FnM} {f__law_truth : FnM} {f_keeps : FnM} {f__law_spoilt_numbers : FnM} {f__law_refutes : FnM} {f_refutes : FnM} (F__law_spoilt_point : FnI P w K mg base (ctb aPaidError aBadSystem aBadLine) k "_law_spoilt_point" ["well", "point"] f__law_spoilt_point) (F__law_shared : FnI P w K mg base (ctb aPaidError aBadSystem aBadLine) k "_law_shared" [] f__law_shared) (F__law_keeps : FnI P w K mg base (ctb aPaidError aBadSystem aBadLine) k "_law_keeps" ["system", "thing"] f__law_keeps) (F__law_truth : FnI P w K mg base (ctb aPaidError aBadSystem aBadLine) k "_law_truth" ["told", "due"] f__law_truth) (F_keeps : FnI P w K mg base (ctb aPaidError aBadSystem aBadLine) k "keeps" ["system", "thing"] f_keeps) (F__law_spoilt_numbers : FnI P w K mg base (ctb aPaidError aBadSystem aBadLine) k "_law_spoilt_numbers" ["well", "numbers"] f__law_spoilt_numbers) (F__law_refutes : FnI P w K mg base (ctb aPaidError aBadSystem aBadLine) k "_law_refutes" ["rows", "thing"] f__law_refutes) (F_refutes : FnI P w K mg base (ctb aPaidError aBadSystem aBadLine) k "refutes" ["system", "thing"] f_refutes) (K_keeps_thing_system : FnK P w K mg base (ctb aPaidError aBadSystem aBadLine) k "keeps" ["system", "thing"] ["thing", "system"] [1, 0] f_keeps) (K_refutes_thing_system : FnK P w K mg base (ctb aPaidError aBadSystem aBadLine) k "refutes" ["system", "thing"] ["thing", "system"] [1, 0] f_refutes) :
    FnOk P w K mg base (L2.CX P w) (k + 1) fa fd ["well", "system", "point", "numbers"] (spM K (ctb aPaidError aBadSystem aBadLine) 4 (mFn 7 (m__law_asked f__law_spoilt_point f__law_shared f__law_keeps f__law_truth f_keeps f__law_spoilt_numbers f__law_refutes f_refutes))) :=
  fn_ok F sc__law_asked fun cdv A outer s H E hr tk pas => by
    let ct : Ctb := ctb aPaidError aBadSystem aBadLine
    exact ((sss_cons (ss_for pas rfl (si_any (se_lst (sa_cons (se_var 2) (sa_cons (se_callI F__law_spoilt_point rfl hr rfl tk (sa_cons (se_var 0) (sa_cons (se_var 2) sa_nil))) (sa_cons (se_callI F__law_spoilt_point rfl hr rfl tk (sa_cons (se_var 0) (sa_cons (se_var 2) sa_nil))) (sa_cons (se_var 2) (sa_cons (se_tup sa_nil) (sa_cons (se_callI0 F__law_shared hr rfl tk) sa_nil)))))))) (sg_name (i := 4) sc__law_asked.nd rfl (Or.inl rfl)) (sss_cons (ss_set (i := 5) sc__law_asked.nd rfl (Or.inl rfl) (se_callI F__law_keeps rfl hr rfl tk (sa_cons (se_var 1) (sa_cons (se_var 4) sa_nil))))
    (sss_one (ss_if (st_w (sw_or (st_not (st_val (se_callI F__law_truth rfl hr rfl tk (sa_cons (se_callI F_keeps rfl hr rfl tk (sa_cons (se_var 1) (sa_cons (se_var 4) sa_nil))) (sa_cons (se_var 5) sa_nil))))) (sw_or1 (st_not (st_val (se_callI F__law_truth rfl hr rfl tk (sa_cons (se_callKI K_keeps_thing_system rfl hr rfl tk (sk_cons (se_var 4) (sk_cons (se_var 1) sk_nil))) (sa_cons (se_var 5) sa_nil)))))))) (sss_one (ss_ret se_bl)) sss_nil))))
    (sss_cons (ss_set (i := 6) sc__law_asked.nd rfl (Or.inl rfl) (se_lst (sa_cons (se_callI F__law_spoilt_numbers rfl hr rfl tk (sa_cons (se_var 0) (sa_cons (se_var 3) sa_nil))) (sa_cons (se_callI F__law_spoilt_numbers rfl hr rfl tk (sa_cons (se_var 0) (sa_cons (se_var 3) sa_nil))) sa_nil))))
    (sss_cons (ss_for pas rfl (si_any (se_op op_addM (se_op op_addM (se_lst (sa_cons (se_var 3) sa_nil)) (se_var 6)) (se_lst (sa_cons (se_var 3) (sa_cons (se_callI0 F__law_shared hr rfl tk) sa_nil))))) (sg_name (i := 4) sc__law_asked.nd rfl (Or.inl rfl)) (sss_cons (ss_set (i := 5) sc__law_asked.nd rfl (Or.inl rfl) (se_callI F__law_refutes rfl hr rfl tk (sa_cons (se_ix (ix_A hr) (se_var 1) se_int (fun _ _ => rfl)) (sa_cons (se_var 4) sa_nil))))
    (sss_one (ss_if (st_w (sw_or (st_not (st_val (se_callI F__law_truth rfl hr rfl tk (sa_cons (se_callI F_refutes rfl hr rfl tk (sa_cons (se_var 1) (sa_cons (se_var 4) sa_nil))) (sa_cons (se_var 5) sa_nil))))) (sw_or1 (st_not (st_val (se_callI F__law_truth rfl hr rfl tk (sa_cons (se_callKI K_refutes_thing_system rfl hr rfl tk (sk_cons (se_var 4) (sk_cons (se_var 1) sk_nil))) (sa_cons (se_var 5) sa_nil)))))))) (sss_one (ss_ret se_bl)) sss_nil))))
    (sss_one (ss_ret se_bl))))))
abbrev s_law : Stmt := topS 70
theorem sc_law : FnScope ["script", "well", "count", "point", "rows", "torn", "numbers", "wide", "one", "two", "more", "both", "bad", "pick", "row"] ["script"] (defScope s_law) := ⟨rfl, rfl, rfl, by decide +kernel, rfl, by decide +kernel, by decide +kernel⟩
noncomputable def m_law (f__law_well : FnM) (f__law_draw : FnM) (f__law_point : FnM) (f__law_kept_rows : FnM) (f__law_torn_rows : FnM) (f__law_keeps : FnM) (f__law_refutes : FnM) (f__law_asked : FnM) (f__law_no_system : FnM) (f__law_word : FnM) (f__law_truth : FnM) (f_keeps : FnM) : MS :=
    mSeq (mSet 1 (mCall 2 f__law_well (mCons (mVar 0) (mCons (mC (.int 0)) (mNil)))))
    (mSeq (mSet 2 (mCall 2 f__law_draw (mCons (mVar 1) (mCons (mC (.int 7)) (mNil)))))
    (mSeq (mSet 3 (mCall 2 f__law_point (mCons (mVar 1) (mCons (mVar 2) (mNil)))))
    (mSeq (mSet 4 (mCall 4 f__law_kept_rows (mCons (mVar 1) (mCons (mVar 3) (mCons (mCall 2 f__law_draw (mCons (mVar 1) (mCons (mC (.int 8)) (mNil)))) (mCons (mC (.int 3)) (mNil)))))))
    (mSeq (mAsg (mCall 4 f__law_torn_rows (mCons (mVar 1) (mCons (mVar 2) (mCons (mCall 2 f__law_draw (mCons (mVar 1) (mCons (mC (.int 6)) (mNil)))) (mCons (mC (.int 3)) (mNil)))))) (gmSeq 2 (gmCons (gmName 5) (gmCons (gmName 6) (gmNil)))))
    (mSeq (mSet 7 (mVar 2))
    (mSeq (mIfS (mTest (mOp oEq (mCall 2 f__law_draw (mCons (mVar 1) (mCons (mC (.int 40)) (mNil)))) (mC (.int 0)))) (mSet 7 (mC (.int 4000))) (mNx))
    (mSeq (mSet 3 (mOp oAdd (mVar 3) (mOp oMulA (mTup (mCons (mTup (mCons (mC (.int 0)) (mCons (mC (.int 1)) (mNil)))) (mNil))) (mOp oSub (mVar 7) (mVar 2)))))
    (mSeq (mSet 8 (mTup (mCons (mVar 7) (mCons (mB bTuple (mCons (mVar 4) (mNil))) (mNil)))))
    (mSeq (mSet 9 (mTup (mCons (mVar 7) (mCons (mB bTuple (mCons (mVar 5) (mNil))) (mNil)))))
    (mSeq (mIfS (mOr (mNot (mTest (mCall 2 f__law_keeps (mCons (mVar 8) (mCons (mVar 3) (mNil)))))) (mNot (mTest (mCall 2 f__law_refutes (mCons (mOp oGet (mVar 9) (mC (.int 1))) (mCons (mVar 6) (mNil))))))) (mRet (mC (.bl false))) (mNx))
    (mSeq (mSet 10 (mOp oAdd (mVar 6) (mOp oMulA (mTup (mCons (mC (.int 0)) (mNil))) (mOp oSub (mB bLen (mCons (mVar 4) (mNil))) (mB bLen (mCons (mVar 6) (mNil)))))))
    (mSeq (mIfS (mOr (mNot (mTest (mCall 4 f__law_asked (mCons (mVar 1) (mCons (mVar 8) (mCons (mVar 3) (mCons (mSl (mVar 10) (moN) (moS (mB bMax2 (mCons (mC (.int 1)) (mCons (mB bLen (mCons (mVar 4) (mNil))) (mNil)))))) (mNil)))))))) (mNot (mTest (mCall 4 f__law_asked (mCons (mVar 1) (mCons (mVar 9) (mCons (mVar 3) (mCons (mVar 6) (mNil))))))))) (mRet (mC (.bl false))) (mNx))
    (mSeq (mSet 11 (mTup (mCons (mVar 7) (mCons (mOp oAdd (mOp oGet (mVar 8) (mC (.int 1))) (mOp oGet (mVar 9) (mC (.int 1)))) (mNil)))))
    (mSeq (mIfS (mNot (mTest (mCall 4 f__law_asked (mCons (mVar 1) (mCons (mVar 11) (mCons (mVar 3) (mCons (mOp oAdd (mOp oMulA (mTup (mCons (mC (.int 0)) (mNil))) (mB bLen (mCons (mVar 4) (mNil)))) (mVar 6)) (mNil)))))))) (mRet (mC (.bl false))) (mNx))
    (mSeq (mSet 12 (mCall 3 f__law_no_system (mCons (mVar 1) (mCons (mVar 2) (mCons (mVar 4) (mNil))))))
    (mSeq (mFor (miRng1 (mC (.int 5))) (gmName 13) (mIfS (mTest (mOp oNe (mCall 3 f__law_word (mCons (mVar 13) (mCons (mVar 12) (mCons (mOp oGet (mLst (mCons (mVar 3) (mCons (mC .non) (mCons (mTup (mCons (mC (.int 0)) (mCons (mTup (mNil)) (mNil)))) (mCons (mC (.int 7)) (mNil)))))) (mCall 2 f__law_draw (mCons (mVar 1) (mCons (mC (.int 4)) (mNil))))) (mNil))))) (mC (.str "bad")))) (mRet (mC (.bl false))) (mNx)))
    (mSeq (mIfS (mTest (mOp oEq (mCall 2 f__law_draw (mCons (mVar 1) (mCons (mC (.int 16)) (mNil)))) (mC (.int 0)))) (mSeq (mSet 14 (mTup (mCons (mTup (mCons (mCall 2 f__law_draw (mCons (mVar 1) (mCons (mC (.int 3)) (mNil)))) (mCons (mTup (mNil)) (mNil)))) (mCons (mC (.bl false)) (mNil)))))
    (mSeq (mIfS (mNot (mTest (mCall 2 f__law_truth (mCons (mCall 2 f_keeps (mCons (mTup (mCons (mC (.int 0)) (mCons (mOp oMulA (mTup (mCons (mVar 14) (mNil))) (mC (.int 12000))) (mNil)))) (mCons (mTup (mNil)) (mNil)))) (mCons (mC (.bl true)) (mNil)))))) (mRet (mC (.bl false))) (mNx))
    (mIfS (mOr (mTest (mOp oNe (mCall 3 f__law_word (mCons (mC (.int 0)) (mCons (mTup (mCons (mC (.int 0)) (mCons (mOp oMulA (mTup (mCons (mVar 14) (mNil))) (mC (.int 12001))) (mNil)))) (mCons (mTup (mNil)) (mNil))))) (mC (.str "bad")))) (mTest (mOp oNe (mCall 3 f__law_word (mCons (mC (.int 1)) (mCons (mTup (mCons (mC (.int 0)) (mCons (mOp oMulA (mTup (mCons (mVar 14) (mNil))) (mC (.int 12001))) (mNil)))) (mCons (mTup (mNil)) (mNil))))) (mC (.str "bad"))))) (mRet (mC (.bl false))) (mNx)))) (mNx))
    (mRet (mAndV (mOp oEq (mCall 3 f__law_word (mCons (mC (.int 0)) (mCons (mVar 8) (mCons (mC .non) (mNil))))) (mC (.str "none"))) (mOp oEq (mCall 3 f__law_word (mCons (mC (.int 1)) (mCons (mVar 9) (mCons (mC .non) (mNil))))) (mC (.str "none"))))))))))))))))))))))
theorem ok_law {P : Program} {w : World} {K : PySem.W.Frag} {mg : Str → Option Value} {base : Heap} {aPaidError aBadSystem aBadLine : Addr} {fa : Addr} {fd : FuncData} {k : Nat} (F : Fun K "law" "law" s_law fa fd) (T : Md K mg aPaidError aBadSystem aBadLine) {f__law_well : FnM} {f__law_draw : FnM} {f__law_point : FnM} {f__law_kept_rows : FnM} {f__law_torn_rows : FnM} {f__law_keeps : FnM} {f__law_refutes : FnM} {f__law_asked : FnM} {f__law_no_system : FnM} {f__law_word : FnM} {f__law_truth : FnM} {f_keeps : FnM} (F__law_well : FnI P w K mg base (ctb aPaidError aBadSystem aBadLine) k "_law_well" ["script", "at"] f__law_well) (F__law_draw : FnI P w K mg base (ctb aPaidError aBadSystem aBadLine) k "_law_draw" ["well", "many"] f__law_draw) (F__law_point : FnI P w K mg base (ctb aPaidError aBadSystem aBadLine) k "_law_point" ["well", "count"] f__law_point) (F__law_kept_rows : FnI P w K mg base (ctb aPaidError aBadSystem aBadLine) k "_law_kept_rows" ["well", "point", "many", "most"] f__law_kept_rows) (F__law_torn_rows : FnI P w K mg base (ctb aPaidError aBadSystem aBadLine) k "_law_torn_rows" ["well", "count", "many", "most"] f__law_torn_rows) (F__law_keeps : FnI P w K mg base (ctb aPaidError aBadSystem aBadLine) k "_law_keeps" ["system", "thing"] f__law_keeps) (F__law_refutes : FnI P w K mg base (ctb aPaidError aBadSystem aBadLine) k "_law_refutes" ["rows", "thing"] f__law_refutes) (F__law_asked : FnI P w K mg base (ctb aPaidError aBadSystem aBadLine) k "_law_asked" ["well", "system", "point", "numbers"] f__law_asked) (F__law_no_system : FnI P w K mg base (ctb aPaidError aBadSystem aBadLine) k "_law_no_system" ["well", "count", "rows"] f__law_no_system) (F__law_word : FnI P w K mg base (ctb aPaidError aBadSystem aBadLine) k "_law_word" ["pick", "system", "thing"] f__law_word) (F__law_truth : FnI P w K mg base (ctb aPaidError aBadSystem aBadLine) k "_law_truth" ["told", "due"] f__law_truth) (F_keeps : FnI P w K mg base (ctb aPaidError aBadSystem aBadLine) k "keeps" ["system", "thing"] f_keeps) :
    FnOk P w K mg base (L2.CX P w) (k + 1) fa fd ["script"] (spM K (ctb aPaidError aBadSystem aBadLine) 1 (mFn 15 (m_law f__law_well f__law_draw f__law_point f__law_kept_rows f__law_torn_rows f__law_keeps f__law_refutes f__law_asked f__law_no_system f__law_word f__law_truth f_keeps))) :=
  fn_ok F sc_law fun cdv A outer s H E hr tk pas => by
    let ct : Ctb := ctb aPaidError aBadSystem aBadLine
    exact ((sss_cons (ss_set (i := 1) sc_law.nd rfl (Or.inl rfl) (se_callI F__law_well rfl hr rfl tk (sa_cons (se_var 0) (sa_cons se_int sa_nil))))
    (sss_cons (ss_set (i := 2) sc_law.nd rfl (Or.inl rfl) (se_callI F__law_draw rfl hr rfl tk (sa_cons (se_var 1) (sa_cons se_int sa_nil))))
    (sss_cons (ss_set (i := 3) sc_law.nd rfl (Or.inl rfl) (se_callI F__law_point rfl hr rfl tk (sa_cons (se_var 1) (sa_cons (se_var 2) sa_nil))))
    (sss_cons (ss_set (i := 4) sc_law.nd rfl (Or.inl rfl) (se_callI F__law_kept_rows rfl hr rfl tk (sa_cons (se_var 1) (sa_cons (se_var 3) (sa_cons (se_callI F__law_draw rfl hr rfl tk (sa_cons (se_var 1) (sa_cons se_int sa_nil))) (sa_cons se_int sa_nil))))))
    (sss_cons (ss_asg (se_callI F__law_torn_rows rfl hr rfl tk (sa_cons (se_var 1) (sa_cons (se_var 2) (sa_cons (se_callI F__law_draw rfl hr rfl tk (sa_cons (se_var 1) (sa_cons se_int sa_nil))) (sa_cons se_int sa_nil))))) (sg_seq rfl (sgs_cons (sg_name (i := 5) sc_law.nd rfl (Or.inl rfl)) (sgs_cons (sg_name (i := 6) sc_law.nd rfl (Or.inl rfl)) sgs_nil))))
    (sss_cons (ss_set (i := 7) sc_law.nd rfl (Or.inl rfl) (se_var 2))
    (sss_cons (ss_if (st_cmp (op_eqM hr.units) (se_callI F__law_draw rfl hr rfl tk (sa_cons (se_var 1) (sa_cons se_int sa_nil))) se_int (nomark _)) (sss_one (ss_set (i := 7) sc_law.nd rfl (Or.inl rfl) se_int)) sss_nil)
    (sss_cons (ss_set (i := 3) sc_law.nd rfl (Or.inl rfl) (se_op op_addM (se_var 3) (se_op op_mulA (se_tup (sa_cons (se_tup (sa_cons se_int (sa_cons se_int sa_nil))) sa_nil)) (se_op op_subM (se_var 7) (se_var 2)))))
    (sss_cons (ss_set (i := 8) sc_law.nd rfl (Or.inl rfl) (se_tup (sa_cons (se_var 7) (sa_cons (se_callTy cr_tuple rfl T.z_tuple PyProof.Rows.boot_tuple (sa_cons (se_var 4) sa_nil)) sa_nil))))
    (sss_cons (ss_set (i := 9) sc_law.nd rfl (Or.inl rfl) (se_tup (sa_cons (se_var 7) (sa_cons (se_callTy cr_tuple rfl T.z_tuple PyProof.Rows.boot_tuple (sa_cons (se_var 5) sa_nil)) sa_nil))))
    (sss_cons (ss_if (st_w (sw_or (st_not (st_val (se_callI F__law_keeps rfl hr rfl tk (sa_cons (se_var 8) (sa_cons (se_var 3) sa_nil))))) (sw_or1 (st_not (st_val (se_callI F__law_refutes rfl hr rfl tk (sa_cons (se_ix (ix_A hr) (se_var 9) se_int (fun _ _ => rfl)) (sa_cons (se_var 6) sa_nil)))))))) (sss_one (ss_ret se_bl)) sss_nil)
    (sss_cons (ss_set (i := 10) sc_law.nd rfl (Or.inl rfl) (se_op op_addM (se_var 6) (se_op op_mulA (se_tup (sa_cons se_int sa_nil)) (se_op op_subM (se_callB cr_len rfl T.z_len PySem.boot_len (sa_cons (se_var 4) sa_nil)) (se_callB cr_len rfl T.z_len PySem.boot_len (sa_cons (se_var 6) sa_nil))))))
    (sss_cons (ss_if (st_w (sw_or (st_not (st_val (se_callI F__law_asked rfl hr rfl tk (sa_cons (se_var 1) (sa_cons (se_var 8) (sa_cons (se_var 3) (sa_cons (se_sl (se_var 10) so_none (so_some (se_callB (cr_max2 rfl) rfl T.z_max PyProof.Rows.boot_max (sa_cons se_int (sa_cons (se_callB cr_len rfl T.z_len PySem.boot_len (sa_cons (se_var 4) sa_nil)) sa_nil))))) sa_nil))))))) (sw_or1 (st_not (st_val (se_callI F__law_asked rfl hr rfl tk (sa_cons (se_var 1) (sa_cons (se_var 9) (sa_cons (se_var 3) (sa_cons (se_var 6) sa_nil)))))))))) (sss_one (ss_ret se_bl)) sss_nil)
    (sss_cons (ss_set (i := 11) sc_law.nd rfl (Or.inl rfl) (se_tup (sa_cons (se_var 7) (sa_cons (se_op op_addM (se_ix (ix_A hr) (se_var 8) se_int (fun _ _ => rfl)) (se_ix (ix_A hr) (se_var 9) se_int (fun _ _ => rfl))) sa_nil))))
    (sss_cons (ss_if (st_not (st_val (se_callI F__law_asked rfl hr rfl tk (sa_cons (se_var 1) (sa_cons (se_var 11) (sa_cons (se_var 3) (sa_cons (se_op op_addM (se_op op_mulA (se_tup (sa_cons se_int sa_nil)) (se_callB cr_len rfl T.z_len PySem.boot_len (sa_cons (se_var 4) sa_nil))) (se_var 6)) sa_nil))))))) (sss_one (ss_ret se_bl)) sss_nil)
    (sss_cons (ss_set (i := 12) sc_law.nd rfl (Or.inl rfl) (se_callI F__law_no_system rfl hr rfl tk (sa_cons (se_var 1) (sa_cons (se_var 2) (sa_cons (se_var 4) sa_nil)))))
    (sss_cons (ss_for pas rfl (si_rng1 rfl T.z_range se_int) (sg_name (i := 13) sc_law.nd rfl (Or.inl rfl)) (sss_one (ss_if (st_cmp (op_neM hr.units) (se_callI F__law_word rfl hr rfl tk (sa_cons (se_var 13) (sa_cons (se_var 12) (sa_cons (se_ix (ix_A hr) (se_lst (sa_cons (se_var 3) (sa_cons se_non (sa_cons (se_tup (sa_cons se_int (sa_cons (se_tup sa_nil) sa_nil))) (sa_cons se_int sa_nil))))) (se_callI F__law_draw rfl hr rfl tk (sa_cons (se_var 1) (sa_cons se_int sa_nil))) (fun _ _ => rfl)) sa_nil)))) se_str (nomark _)) (sss_one (ss_ret se_bl)) sss_nil)))
    (sss_cons (ss_if (st_cmp (op_eqM hr.units) (se_callI F__law_draw rfl hr rfl tk (sa_cons (se_var 1) (sa_cons se_int sa_nil))) se_int (nomark _)) (sss_cons (ss_set (i := 14) sc_law.nd rfl (Or.inl rfl) (se_tup (sa_cons (se_tup (sa_cons (se_callI F__law_draw rfl hr rfl tk (sa_cons (se_var 1) (sa_cons se_int sa_nil))) (sa_cons (se_tup sa_nil) sa_nil))) (sa_cons se_bl sa_nil))))
    (sss_cons (ss_if (st_not (st_val (se_callI F__law_truth rfl hr rfl tk (sa_cons (se_callI F_keeps rfl hr rfl tk (sa_cons (se_tup (sa_cons se_int (sa_cons (se_op op_mulA (se_tup (sa_cons (se_var 14) sa_nil)) se_int) sa_nil))) (sa_cons (se_tup sa_nil) sa_nil))) (sa_cons se_bl sa_nil))))) (sss_one (ss_ret se_bl)) sss_nil)
    (sss_one (ss_if (st_w (sw_or (st_cmp (op_neM hr.units) (se_callI F__law_word rfl hr rfl tk (sa_cons se_int (sa_cons (se_tup (sa_cons se_int (sa_cons (se_op op_mulA (se_tup (sa_cons (se_var 14) sa_nil)) se_int) sa_nil))) (sa_cons (se_tup sa_nil) sa_nil)))) se_str (nomark _)) (sw_or1 (st_cmp (op_neM hr.units) (se_callI F__law_word rfl hr rfl tk (sa_cons se_int (sa_cons (se_tup (sa_cons se_int (sa_cons (se_op op_mulA (se_tup (sa_cons (se_var 14) sa_nil)) se_int) sa_nil))) (sa_cons (se_tup sa_nil) sa_nil)))) se_str (nomark _))))) (sss_one (ss_ret se_bl)) sss_nil)))) sss_nil)
    (sss_one (ss_ret (se_and (se_cmp (op_eqM hr.units) (se_callI F__law_word rfl hr rfl tk (sa_cons se_int (sa_cons (se_var 8) (sa_cons se_non sa_nil)))) se_str (nomark _)) (se_and1 (se_cmp (op_eqM hr.units) (se_callI F__law_word rfl hr rfl tk (sa_cons se_int (sa_cons (se_var 9) (sa_cons se_non sa_nil)))) se_str (nomark _)))))))))))))))))))))))))
/-- all that the top has written -/
structure Tx (K : PySem.W.Frag) (mg : Str → Option Value) (aPaidError aBadSystem aBadLine : Addr) : Prop where
  md : Md K mg aPaidError aBadSystem aBadLine
  d_is_int : DefI K mg "is_int" s_is_int ["x"] []
  d_lowest : DefI K mg "lowest" s_lowest ["top", "bottom"] []
  d_is_ratio : DefI K mg "is_ratio" s_is_ratio ["thing"] []
  d_is_line : DefI K mg "is_line" s_is_line ["count", "thing"] []
  d_is_system : DefI K mg "is_system" s_is_system ["thing"] []
  d_need_system : DefI K mg "need_system" s_need_system ["thing"] []
  d_is_point : DefI K mg "is_point" s_is_point ["count", "thing"] []
  d_is_multipliers : DefI K mg "is_multipliers" s_is_multipliers ["rows", "thing"] []
  d_value_at : DefI K mg "value_at" s_value_at ["line", "point"] []
  d_keeps_rows : DefI K mg "keeps_rows" s_keeps_rows ["rows", "point"] []
  d_gathered : DefI K mg "gathered" s_gathered ["rows", "multipliers"] []
  d_refutes_rows : DefI K mg "refutes_rows" s_refutes_rows ["rows", "thing"] []
  d_keeps : DefI K mg "keeps" s_keeps ["system", "thing"] [(["thing", "system"], [1, 0])]
  d_refutes : DefI K mg "refutes" s_refutes ["system", "thing"] [(["thing", "system"], [1, 0])]
  d_solve : DefI K mg "solve" s_solve ["system"] []
  d_need_line : DefI K mg "need_line" s_need_line ["system", "line"] []
  d_least : DefI K mg "least" s_least ["system", "line"] []
  d_is_least : DefI K mg "is_least" s_is_least ["system", "line", "thing"] []
  d__law_draw : DefI K mg "_law_draw" s__law_draw ["well", "many"] []
  d__law_shared : DefI K mg "_law_shared" s__law_shared [] []
  d__law_int : DefI K mg "_law_int" s__law_int ["thing"] []
  d__law_gcd : DefI K mg "_law_gcd" s__law_gcd ["a", "b"] []
  d__law_ratio : DefI K mg "_law_ratio" s__law_ratio ["thing"] []
  d__law_value : DefI K mg "_law_value" s__law_value ["line", "point"] []
  d__law_keeps : DefI K mg "_law_keeps" s__law_keeps ["system", "thing"] []
  d__law_truth : DefI K mg "_law_truth" s__law_truth ["told", "due"] []
  d__law_multipliers : DefI K mg "_law_multipliers" s__law_multipliers ["rows", "thing"] []
  d__law_summed : DefI K mg "_law_summed" s__law_summed ["rows", "multipliers"] []
  d__law_refutes : DefI K mg "_law_refutes" s__law_refutes ["rows", "thing"] []
  d__law_well : DefI K mg "_law_well" s__law_well ["script", "at"] []
  d__law_lowest : DefI K mg "_law_lowest" s__law_lowest ["top", "bottom"] []
  d__law_point : DefI K mg "_law_point" s__law_point ["well", "count"] []
  d__law_terms : DefI K mg "_law_terms" s__law_terms ["well", "count", "most"] []
  d__law_row_at : DefI K mg "_law_row_at" s__law_row_at ["well", "point", "exact", "most"] []
  d__law_kept_rows : DefI K mg "_law_kept_rows" s__law_kept_rows ["well", "point", "many", "most"] []
  d__law_torn_rows : DefI K mg "_law_torn_rows" s__law_torn_rows ["well", "count", "many", "most"] []
  d__law_no_system : DefI K mg "_law_no_system" s__law_no_system ["well", "count", "rows"] []
  d__law_swapped : DefI K mg "_law_swapped" s__law_swapped ["row", "at", "thing"] []
  d__law_spoilt_point : DefI K mg "_law_spoilt_point" s__law_spoilt_point ["well", "point"] []
  d__law_spoilt_numbers : DefI K mg "_law_spoilt_numbers" s__law_spoilt_numbers ["well", "numbers"] []
  d__law_word : DefI K mg "_law_word" s__law_word ["pick", "system", "thing"] []
  d__law_asked : DefI K mg "_law_asked" s__law_asked ["well", "system", "point", "numbers"] []
  d_law : DefI K mg "law" s_law ["script"] []
noncomputable def F_is_int : FnM := mFn 1 (m_is_int)
noncomputable def F_lowest : FnM := mFn 3 (m_lowest)
noncomputable def F_is_ratio : FnM := mFn 1 (m_is_ratio F_is_int)
noncomputable def F_is_line : FnM := mFn 4 (m_is_line F_is_int)
noncomputable def F_is_system : FnM := mFn 4 (m_is_system F_is_int F_is_line)
noncomputable def F_need_system : FnM := mFn 1 (m_need_system F_is_system)
noncomputable def F_is_point : FnM := mFn 3 (m_is_point F_is_ratio)
noncomputable def F_is_multipliers : FnM := mFn 4 (m_is_multipliers F_is_int)
noncomputable def F_value_at : FnM := mFn 7 (m_value_at F_lowest)
noncomputable def F_keeps_rows : FnM := mFn 5 (m_keeps_rows F_value_at)
noncomputable def F_gathered : FnM := mFn 9 (m_gathered)
noncomputable def F_refutes_rows : FnM := mFn 5 (m_refutes_rows F_is_multipliers F_gathered)
noncomputable def F_keeps : FnM := mFn 2 (m_keeps F_need_system F_is_point F_keeps_rows)
noncomputable def F_refutes : FnM := mFn 2 (m_refutes F_need_system F_refutes_rows)
noncomputable def F_solve : FnM := mFn 2 (m_solve F_need_system)
noncomputable def F_need_line : FnM := mFn 2 (m_need_line F_is_line)
noncomputable def F_least : FnM := mFn 2 (m_least F_need_system F_need_line)
noncomputable def F_is_least : FnM := mFn 5 (m_is_least F_need_system F_need_line F_refutes_rows F_is_point F_keeps_rows)
noncomputable def F__law_draw : FnM := mFn 5 (m__law_draw)
noncomputable def F__law_shared : FnM := mFn 2 (m__law_shared)
noncomputable def F__law_int : FnM := mFn 1 (m__law_int)
noncomputable def F__law_gcd : FnM := mFn 3 (m__law_gcd)
noncomputable def F__law_ratio : FnM := mFn 1 (m__law_ratio F__law_int F__law_gcd)
noncomputable def F__law_value : FnM := mFn 6 (m__law_value)
noncomputable def F__law_keeps : FnM := mFn 6 (m__law_keeps F__law_ratio F__law_value)
noncomputable def F__law_truth : FnM := mFn 2 (m__law_truth)
noncomputable def F__law_multipliers : FnM := mFn 3 (m__law_multipliers F__law_int)
noncomputable def F__law_summed : FnM := mFn 8 (m__law_summed)
noncomputable def F__law_refutes : FnM := mFn 4 (m__law_refutes F__law_multipliers F__law_summed)
noncomputable def F__law_well : FnM := mFn 2 (m__law_well)
noncomputable def F__law_lowest : FnM := mFn 3 (m__law_lowest F__law_gcd)
noncomputable def F__law_point : FnM := mFn 6 (m__law_point F__law_draw F__law_lowest)
noncomputable def F__law_terms : FnM := mFn 7 (m__law_terms F__law_draw)
noncomputable def F__law_row_at : FnM := mFn 8 (m__law_row_at F__law_draw F__law_terms)
noncomputable def F__law_kept_rows : FnM := mFn 6 (m__law_kept_rows F__law_row_at F__law_draw)
noncomputable def F__law_torn_rows : FnM := mFn 15 (m__law_torn_rows F__law_draw F__law_terms F__law_summed)
noncomputable def F__law_no_system : FnM := mFn 10 (m__law_no_system F__law_draw)
noncomputable def F__law_swapped : FnM := mFn 3 (m__law_swapped)
noncomputable def F__law_spoilt_point : FnM := mFn 7 (m__law_spoilt_point F__law_draw F__law_swapped)
noncomputable def F__law_spoilt_numbers : FnM := mFn 8 (m__law_spoilt_numbers F__law_draw F__law_swapped)
noncomputable def F__law_word : FnM := mFn 5 (m__law_word F_keeps F_refutes F_solve F_least F_is_least)
noncomputable def F__law_asked : FnM := mFn 7 (m__law_asked F__law_spoilt_point F__law_shared F__law_keeps F__law_truth F_keeps F__law_spoilt_numbers F__law_refutes F_refutes)
noncomputable def F_law : FnM := mFn 15 (m_law F__law_well F__law_draw F__law_point F__law_kept_rows F__law_torn_rows F__law_keeps F__law_refutes F__law_asked F__law_no_system F__law_word F__law_truth F_keeps)
theorem o_is_int {P : Program} {w : World} {K : PySem.W.Frag} {mg : Str → Option Value} {base : Heap} {aPaidError aBadSystem aBadLine : Addr} (T : Tx K mg aPaidError aBadSystem aBadLine) {fa : Addr} {fd : FuncData} (F : Fun K "is_int" "is_int" s_is_int fa fd) : FnOk P w K mg base (L2.CX P w) 1 fa fd ["x"] (spM K (ctb aPaidError aBadSystem aBadLine) 1 F_is_int) := ok_is_int (k := 0) F T.md
theorem w_is_int {P : Program} {w : World} {K : PySem.W.Frag} {mg : Str → Option Value} {base : Heap} {aPaidError aBadSystem aBadLine : Addr} (T : Tx K mg aPaidError aBadSystem aBadLine) : FnI P w K mg base (ctb aPaidError aBadSystem aBadLine) 1 "is_int" ["x"] F_is_int := T.d_is_int.fn (fun F => o_is_int T F)
theorem o_lowest {P : Program} {w : World} {K : PySem.W.Frag} {mg : Str → Option Value} {base : Heap} {aPaidError aBadSystem aBadLine : Addr} (T : Tx K mg aPaidError aBadSystem aBadLine) {fa : Addr} {fd : FuncData} (F : Fun K "lowest" "lowest" s_lowest fa fd) : FnOk P w K mg base (L2.CX P w) 1 fa fd ["top", "bottom"] (spM K (ctb aPaidError aBadSystem aBadLine) 2 F_lowest) := ok_lowest (k := 0) F T.md
theorem w_lowest {P : Program} {w : World} {K : PySem.W.Frag} {mg : Str → Option Value} {base : Heap} {aPaidError aBadSystem aBadLine : Addr} (T : Tx K mg aPaidError aBadSystem aBadLine) : FnI P w K mg base (ctb aPaidError aBadSystem aBadLine) 1 "lowest" ["top", "bottom"] F_lowest := T.d_lowest.fn (fun F => o_lowest T F)
theorem o_is_ratio {P : Program} {w : World} {K : PySem.W.Frag} {mg : Str → Option Value} {base : Heap} {aPaidError aBadSystem aBadLine : Addr} (T : Tx K mg aPaidError aBadSystem aBadLine) {fa : Addr} {fd : FuncData} (F : Fun K "is_ratio" "is_ratio" s_is_ratio fa fd) : FnOk P w K mg base (L2.CX P w) 2 fa fd ["thing"] (spM K (ctb aPaidError aBadSystem aBadLine) 1 F_is_ratio) := ok_is_ratio (k := 1) F T.md ((w_is_int T).mono (by decide))
theorem w_is_ratio {P : Program} {w : World} {K : PySem.W.Frag} {mg : Str → Option Value} {base : Heap} {aPaidError aBadSystem aBadLine : Addr} (T : Tx K mg aPaidError aBadSystem aBadLine) : FnI P w K mg base (ctb aPaidError aBadSystem aBadLine) 2 "is_ratio" ["thing"] F_is_ratio := T.d_is_ratio.fn (fun F => o_is_ratio T F)
theorem o_is_line {P : Program} {w : World} {K : PySem.W.Frag} {mg : Str → Option Value} {base : Heap} {aPaidError aBadSystem aBadLine : Addr} (T : Tx K mg aPaidError aBadSystem aBadLine) {fa : Addr} {fd : FuncData} (F : Fun K "is_line" "is_line" s_is_line fa fd) : FnOk P w K mg base (L2.CX P w) 2 fa fd ["count", "thing"] (spM K (ctb aPaidError aBadSystem aBadLine) 2 F_is_line) := ok_is_line (k := 1) F T.md ((w_is_int T).mono (by decide))
theorem w_is_line {P : Program} {w : World} {K : PySem.W.Frag} {mg : Str → Option Value} {base : Heap} {aPaidError aBadSystem aBadLine : Addr} (T : Tx K mg aPaidError aBadSystem aBadLine) : FnI P w K mg base (ctb aPaidError aBadSystem aBadLine) 2 "is_line" ["count", "thing"] F_is_line := T.d_is_line.fn (fun F => o_is_line T F)
theorem o_is_system {P : Program} {w : World} {K : PySem.W.Frag} {mg : Str → Option Value} {base : Heap} {aPaidError aBadSystem aBadLine : Addr} (T : Tx K mg aPaidError aBadSystem aBadLine) {fa : Addr} {fd : FuncData} (F : Fun K "is_system" "is_system" s_is_system fa fd) : FnOk P w K mg base (L2.CX P w) 3 fa fd ["thing"] (spM K (ctb aPaidError aBadSystem aBadLine) 1 F_is_system) := ok_is_system (k := 2) F T.md ((w_is_int T).mono (by decide)) ((w_is_line T).mono (by decide))
theorem w_is_system {P : Program} {w : World} {K : PySem.W.Frag} {mg : Str → Option Value} {base : Heap} {aPaidError aBadSystem aBadLine : Addr} (T : Tx K mg aPaidError aBadSystem aBadLine) : FnI P w K mg base (ctb aPaidError aBadSystem aBadLine) 3 "is_system" ["thing"] F_is_system := T.d_is_system.fn (fun F => o_is_system T F)
theorem o_need_system {P : Program} {w : World} {K : PySem.W.Frag} {mg : Str → Option Value} {base : Heap} {aPaidError aBadSystem aBadLine : Addr} (T : Tx K mg aPaidError aBadSystem aBadLine) {fa : Addr} {fd : FuncData} (F : Fun K "need_system" "need_system" s_need_system fa fd) : FnOk P w K mg base (L2.CX P w) 4 fa fd ["thing"] (spM K (ctb aPaidError aBadSystem aBadLine) 1 F_need_system) := ok_need_system (k := 3) F T.md ((w_is_system T).mono (by decide))
theorem w_need_system {P : Program} {w : World} {K : PySem.W.Frag} {mg : Str → Option Value} {base : Heap} {aPaidError aBadSystem aBadLine : Addr} (T : Tx K mg aPaidError aBadSystem aBadLine) : FnI P w K mg base (ctb aPaidError aBadSystem aBadLine) 4 "need_system" ["thing"] F_need_system := T.d_need_system.fn (fun F => o_need_system T F)
theorem o_is_point {P : Program} {w : World} {K : PySem.W.Frag} {mg : Str → Option Value} {base : Heap} {aPaidError aBadSystem aBadLine : Addr} (T : Tx K mg aPaidError aBadSystem aBadLine) {fa : Addr} {fd : FuncData} (F : Fun K "is_point" "is_point" s_is_point fa fd) : FnOk P w K mg base (L2.CX P w) 3 fa fd ["count", "thing"] (spM K (ctb aPaidError aBadSystem aBadLine) 2 F_is_point) := ok_is_point (k := 2) F T.md ((w_is_ratio T).mono (by decide))
theorem w_is_point {P : Program} {w : World} {K : PySem.W.Frag} {mg : Str → Option Value} {base : Heap} {aPaidError aBadSystem aBadLine : Addr} (T : Tx K mg aPaidError aBadSystem aBadLine) : FnI P w K mg base (ctb aPaidError aBadSystem aBadLine) 3 "is_point" ["count", "thing"] F_is_point := T.d_is_point.fn (fun F => o_is_point T F)
theorem o_is_multipliers {P : Program} {w : World} {K : PySem.W.Frag} {mg : Str → Option Value} {base : Heap} {aPaidError aBadSystem aBadLine : Addr} (T : Tx K mg aPaidError aBadSystem aBadLine) {fa : Addr} {fd : FuncData} (F : Fun K "is_multipliers" "is_multipliers" s_is_multipliers fa fd) : FnOk P w K mg base (L2.CX P w) 2 fa fd ["rows", "thing"] (spM K (ctb aPaidError aBadSystem aBadLine) 2 F_is_multipliers) := ok_is_multipliers (k := 1) F T.md ((w_is_int T).mono (by decide))
theorem w_is_multipliers {P : Program} {w : World} {K : PySem.W.Frag} {mg : Str → Option Value} {base : Heap} {aPaidError aBadSystem aBadLine : Addr} (T : Tx K mg aPaidError aBadSystem aBadLine) : FnI P w K mg base (ctb aPaidError aBadSystem aBadLine) 2 "is_multipliers" ["rows", "thing"] F_is_multipliers := T.d_is_multipliers.fn (fun F => o_is_multipliers T F)
theorem o_value_at {P : Program} {w : World} {K : PySem.W.Frag} {mg : Str → Option Value} {base : Heap} {aPaidError aBadSystem aBadLine : Addr} (T : Tx K mg aPaidError aBadSystem aBadLine) {fa : Addr} {fd : FuncData} (F : Fun K "value_at" "value_at" s_value_at fa fd) : FnOk P w K mg base (L2.CX P w) 2 fa fd ["line", "point"] (spM K (ctb aPaidError aBadSystem aBadLine) 2 F_value_at) := ok_value_at (k := 1) F T.md ((w_lowest T).mono (by decide))
theorem w_value_at {P : Program} {w : World} {K : PySem.W.Frag} {mg : Str → Option Value} {base : Heap} {aPaidError aBadSystem aBadLine : Addr} (T : Tx K mg aPaidError aBadSystem aBadLine) : FnI P w K mg base (ctb aPaidError aBadSystem aBadLine) 2 "value_at" ["line", "point"] F_value_at := T.d_value_at.fn (fun F => o_value_at T F)
theorem o_keeps_rows {P : Program} {w : World} {K : PySem.W.Frag} {mg : Str → Option Value} {base : Heap} {aPaidError aBadSystem aBadLine : Addr} (T : Tx K mg aPaidError aBadSystem aBadLine) {fa : Addr} {fd : FuncData} (F : Fun K "keeps_rows" "keeps_rows" s_keeps_rows fa fd) : FnOk P w K mg base (L2.CX P w) 3 fa fd ["rows", "point"] (spM K (ctb aPaidError aBadSystem aBadLine) 2 F_keeps_rows) := ok_keeps_rows (k := 2) F T.md ((w_value_at T).mono (by decide))
theorem w_keeps_rows {P : Program} {w : World} {K : PySem.W.Frag} {mg : Str → Option Value} {base : Heap} {aPaidError aBadSystem aBadLine : Addr} (T : Tx K mg aPaidError aBadSystem aBadLine) : FnI P w K mg base (ctb aPaidError aBadSystem aBadLine) 3 "keeps_rows" ["rows", "point"] F_keeps_rows := T.d_keeps_rows.fn (fun F => o_keeps_rows T F)
theorem o_gathered {P : Program} {w : World} {K : PySem.W.Frag} {mg : Str → Option Value} {base : Heap} {aPaidError aBadSystem aBadLine : Addr} (T : Tx K mg aPaidError aBadSystem aBadLine) {fa : Addr} {fd : FuncData} (F : Fun K "gathered" "gathered" s_gathered fa fd) : FnOk P w K mg base (L2.CX P w) 1 fa fd ["rows", "multipliers"] (spM K (ctb aPaidError aBadSystem aBadLine) 2 F_gathered) := ok_gathered (k := 0) F T.md
theorem w_gathered {P : Program} {w : World} {K : PySem.W.Frag} {mg : Str → Option Value} {base : Heap} {aPaidError aBadSystem aBadLine : Addr} (T : Tx K mg aPaidError aBadSystem aBadLine) : FnI P w K mg base (ctb aPaidError aBadSystem aBadLine) 1 "gathered" ["rows", "multipliers"] F_gathered := T.d_gathered.fn (fun F => o_gathered T F)
theorem o_refutes_rows {P : Program} {w : World} {K : PySem.W.Frag} {mg : Str → Option Value} {base : Heap} {aPaidError aBadSystem aBadLine : Addr} (T : Tx K mg aPaidError aBadSystem aBadLine) {fa : Addr} {fd : FuncData} (F : Fun K "refutes_rows" "refutes_rows" s_refutes_rows fa fd) : FnOk P w K mg base (L2.CX P w) 3 fa fd ["rows", "thing"] (spM K (ctb aPaidError aBadSystem aBadLine) 2 F_refutes_rows) := ok_refutes_rows (k := 2) F T.md ((w_is_multipliers T).mono (by decide)) ((w_gathered T).mono (by decide))
theorem w_refutes_rows {P : Program} {w : World} {K : PySem.W.Frag} {mg : Str → Option Value} {base : Heap} {aPaidError aBadSystem aBadLine : Addr} (T : Tx K mg aPaidError aBadSystem aBadLine) : FnI P w K mg base (ctb aPaidError aBadSystem aBadLine) 3 "refutes_rows" ["rows", "thing"] F_refutes_rows := T.d_refutes_rows.fn (fun F => o_refutes_rows T F)
theorem o_keeps {P : Program} {w : World} {K : PySem.W.Frag} {mg : Str → Option Value} {base : Heap} {aPaidError aBadSystem aBadLine : Addr} (T : Tx K mg aPaidError aBadSystem aBadLine) {fa : Addr} {fd : FuncData} (F : Fun K "keeps" "keeps" s_keeps fa fd) : FnOk P w K mg base (L2.CX P w) 5 fa fd ["system", "thing"] (spM K (ctb aPaidError aBadSystem aBadLine) 2 F_keeps) := ok_keeps (k := 4) F T.md ((w_need_system T).mono (by decide)) ((w_is_point T).mono (by decide)) ((w_keeps_rows T).mono (by decide))
theorem w_keeps {P : Program} {w : World} {K : PySem.W.Frag} {mg : Str → Option Value} {base : Heap} {aPaidError aBadSystem aBadLine : Addr} (T : Tx K mg aPaidError aBadSystem aBadLine) : FnI P w K mg base (ctb aPaidError aBadSystem aBadLine) 5 "keeps" ["system", "thing"] F_keeps := T.d_keeps.fn (fun F => o_keeps T F)
theorem wK_keeps_thing_system {P : Program} {w : World} {K : PySem.W.Frag} {mg : Str → Option Value} {base : Heap} {aPaidError aBadSystem aBadLine : Addr} (T : Tx K mg aPaidError aBadSystem aBadLine) : FnK P w K mg base (ctb aPaidError aBadSystem aBadLine) 5 "keeps" ["system", "thing"] ["thing", "system"] [1, 0] F_keeps := T.d_keeps.kw (ks := ["thing", "system"]) (pl := [1, 0]) (by simp) (fun F => o_keeps T F)
theorem o_refutes {P : Program} {w : World} {K : PySem.W.Frag} {mg : Str → Option Value} {base : Heap} {aPaidError aBadSystem aBadLine : Addr} (T : Tx K mg aPaidError aBadSystem aBadLine) {fa : Addr} {fd : FuncData} (F : Fun K "refutes" "refutes" s_refutes fa fd) : FnOk P w K mg base (L2.CX P w) 5 fa fd ["system", "thing"] (spM K (ctb aPaidError aBadSystem aBadLine) 2 F_refutes) := ok_refutes (k := 4) F T.md ((w_need_system T).mono (by decide)) ((w_refutes_rows T).mono (by decide))
theorem w_refutes {P : Program} {w : World} {K : PySem.W.Frag} {mg : Str → Option Value} {base : Heap} {aPaidError aBadSystem aBadLine : Addr} (T : Tx K mg aPaidError aBadSystem aBadLine) : FnI P w K mg base (ctb aPaidError aBadSystem aBadLine) 5 "refutes" ["system", "thing"] F_refutes := T.d_refutes.fn (fun F => o_refutes T F)
theorem wK_refutes_thing_system {P : Program} {w : World} {K : PySem.W.Frag} {mg : Str → Option Value} {base : Heap} {aPaidError aBadSystem aBadLine : Addr} (T : Tx K mg aPaidError aBadSystem aBadLine) : FnK P w K mg base (ctb aPaidError aBadSystem aBadLine) 5 "refutes" ["system", "thing"] ["thing", "system"] [1, 0] F_refutes := T.d_refutes.kw (ks := ["thing", "system"]) (pl := [1, 0]) (by simp) (fun F => o_refutes T F)
theorem o_solve {P : Program} {w : World} {K : PySem.W.Frag} {mg : Str → Option Value} {base : Heap} {aPaidError aBadSystem aBadLine : Addr} (T : Tx K mg aPaidError aBadSystem aBadLine) {fa : Addr} {fd : FuncData} (F : Fun K "solve" "solve" s_solve fa fd) : FnOk P w K mg base (L2.CX P w) 5 fa fd ["system"] (spM K (ctb aPaidError aBadSystem aBadLine) 1 F_solve) := ok_solve (k := 4) F T.md ((w_need_system T).mono (by decide))
theorem w_solve {P : Program} {w : World} {K : PySem.W.Frag} {mg : Str → Option Value} {base : Heap} {aPaidError aBadSystem aBadLine : Addr} (T : Tx K mg aPaidError aBadSystem aBadLine) : FnI P w K mg base (ctb aPaidError aBadSystem aBadLine) 5 "solve" ["system"] F_solve := T.d_solve.fn (fun F => o_solve T F)
theorem o_need_line {P : Program} {w : World} {K : PySem.W.Frag} {mg : Str → Option Value} {base : Heap} {aPaidError aBadSystem aBadLine : Addr} (T : Tx K mg aPaidError aBadSystem aBadLine) {fa : Addr} {fd : FuncData} (F : Fun K "need_line" "need_line" s_need_line fa fd) : FnOk P w K mg base (L2.CX P w) 3 fa fd ["system", "line"] (spM K (ctb aPaidError aBadSystem aBadLine) 2 F_need_line) := ok_need_line (k := 2) F T.md ((w_is_line T).mono (by decide))
theorem w_need_line {P : Program} {w : World} {K : PySem.W.Frag} {mg : Str → Option Value} {base : Heap} {aPaidError aBadSystem aBadLine : Addr} (T : Tx K mg aPaidError aBadSystem aBadLine) : FnI P w K mg base (ctb aPaidError aBadSystem aBadLine) 3 "need_line" ["system", "line"] F_need_line := T.d_need_line.fn (fun F => o_need_line T F)
theorem o_least {P : Program} {w : World} {K : PySem.W.Frag} {mg : Str → Option Value} {base : Heap} {aPaidError aBadSystem aBadLine : Addr} (T : Tx K mg aPaidError aBadSystem aBadLine) {fa : Addr} {fd : FuncData} (F : Fun K "least" "least" s_least fa fd) : FnOk P w K mg base (L2.CX P w) 5 fa fd ["system", "line"] (spM K (ctb aPaidError aBadSystem aBadLine) 2 F_least) := ok_least (k := 4) F T.md ((w_need_system T).mono (by decide)) ((w_need_line T).mono (by decide))
theorem w_least {P : Program} {w : World} {K : PySem.W.Frag} {mg : Str → Option Value} {base : Heap} {aPaidError aBadSystem aBadLine : Addr} (T : Tx K mg aPaidError aBadSystem aBadLine) : FnI P w K mg base (ctb aPaidError aBadSystem aBadLine) 5 "least" ["system", "line"] F_least := T.d_least.fn (fun F => o_least T F)
theorem o_is_least {P : Program} {w : World} {K : PySem.W.Frag} {mg : Str → Option Value} {base : Heap} {aPaidError aBadSystem aBadLine : Addr} (T : Tx K mg aPaidError aBadSystem aBadLine) {fa : Addr} {fd : FuncData} (F : Fun K "is_least" "is_least" s_is_least fa fd) : FnOk P w K mg base (L2.CX P w) 5 fa fd ["system", "line", "thing"] (spM K (ctb aPaidError aBadSystem aBadLine) 3 F_is_least) := ok_is_least (k := 4) F T.md ((w_need_system T).mono (by decide)) ((w_need_line T).mono (by decide)) ((w_refutes_rows T).mono (by decide)) ((w_is_point T).mono (by decide)) ((w_keeps_rows T).mono (by decide))
theorem w_is_least {P : Program} {w : World} {K : PySem.W.Frag} {mg : Str → Option Value} {base : Heap} {aPaidError aBadSystem aBadLine : Addr} (T : Tx K mg aPaidError aBadSystem aBadLine) : FnI P w K mg base (ctb aPaidError aBadSystem aBadLine) 5 "is_least" ["system", "line", "thing"] F_is_least := T.d_is_least.fn (fun F => o_is_least T F)
theorem o__law_draw {P : Program} {w : World} {K : PySem.W.Frag} {mg : Str → Option Value} {base : Heap} {aPaidError aBadSystem aBadLine : Addr} (T : Tx K mg aPaidError aBadSystem aBadLine) {fa : Addr} {fd : FuncData} (F : Fun K "_law_draw" "_law_draw" s__law_draw fa fd) : FnOk P w K mg base (L2.CX P w) 1 fa fd ["well", "many"] (spM K (ctb aPaidError aBadSystem aBadLine) 2 F__law_draw) := ok__law_draw (k := 0) F T.md
theorem w__law_draw {P : Program} {w : World} {K : PySem.W.Frag} {mg : Str → Option Value} {base : Heap} {aPaidError aBadSystem aBadLine : Addr} (T : Tx K mg aPaidError aBadSystem aBadLine) : FnI P w K mg base (ctb aPaidError aBadSystem aBadLine) 1 "_law_draw" ["well", "many"] F__law_draw := T.d__law_draw.fn (fun F => o__law_draw T F)
theorem o__law_shared {P : Program} {w : World} {K : PySem.W.Frag} {mg : Str → Option Value} {base : Heap} {aPaidError aBadSystem aBadLine : Addr} (T : Tx K mg aPaidError aBadSystem aBadLine) {fa : Addr} {fd : FuncData} (F : Fun K "_law_shared" "_law_shared" s__law_shared fa fd) : FnOk P w K mg base (L2.CX P w) 1 fa fd [] (spM K (ctb aPaidError aBadSystem aBadLine) 0 F__law_shared) := ok__law_shared (k := 0) F T.md
theorem w__law_shared {P : Program} {w : World} {K : PySem.W.Frag} {mg : Str → Option Value} {base : Heap} {aPaidError aBadSystem aBadLine : Addr} (T : Tx K mg aPaidError aBadSystem aBadLine) : FnI P w K mg base (ctb aPaidError aBadSystem aBadLine) 1 "_law_shared" [] F__law_shared := T.d__law_shared.fn (fun F => o__law_shared T F)
theorem o__law_int {P : Program} {w : World} {K : PySem.W.Frag} {mg : Str → Option Value} {base : Heap} {aPaidError aBadSystem aBadLine : Addr} (T : Tx K mg aPaidError aBadSystem aBadLine) {fa : Addr} {fd : FuncData} (F : Fun K "_law_int" "_law_int" s__law_int fa fd) : FnOk P w K mg base (L2.CX P w) 1 fa fd ["thing"] (spM K (ctb aPaidError aBadSystem aBadLine) 1 F__law_int) := ok__law_int (k := 0) F T.md
theorem w__law_int {P : Program} {w : World} {K : PySem.W.Frag} {mg : Str → Option Value} {base : Heap} {aPaidError aBadSystem aBadLine : Addr} (T : Tx K mg aPaidError aBadSystem aBadLine) : FnI P w K mg base (ctb aPaidError aBadSystem aBadLine) 1 "_law_int" ["thing"] F__law_int := T.d__law_int.fn (fun F => o__law_int T F)
theorem o__law_gcd {P : Program} {w : World} {K : PySem.W.Frag} {mg : Str → Option Value} {base : Heap} {aPaidError aBadSystem aBadLine : Addr} (T : Tx K mg aPaidError aBadSystem aBadLine) {fa : Addr} {fd : FuncData} (F : Fun K "_law_gcd" "_law_gcd" s__law_gcd fa fd) : FnOk P w K mg base (L2.CX P w) 1 fa fd ["a", "b"] (spM K (ctb aPaidError aBadSystem aBadLine) 2 F__law_gcd) := ok__law_gcd (k := 0) F T.md
theorem w__law_gcd {P : Program} {w : World} {K : PySem.W.Frag} {mg : Str → Option Value} {base : Heap} {aPaidError aBadSystem aBadLine : Addr} (T : Tx K mg aPaidError aBadSystem aBadLine) : FnI P w K mg base (ctb aPaidError aBadSystem aBadLine) 1 "_law_gcd" ["a", "b"] F__law_gcd := T.d__law_gcd.fn (fun F => o__law_gcd T F)
theorem o__law_ratio {P : Program} {w : World} {K : PySem.W.Frag} {mg : Str → Option Value} {base : Heap} {aPaidError aBadSystem aBadLine : Addr} (T : Tx K mg aPaidError aBadSystem aBadLine) {fa : Addr} {fd : FuncData} (F : Fun K "_law_ratio" "_law_ratio" s__law_ratio fa fd) : FnOk P w K mg base (L2.CX P w) 2 fa fd ["thing"] (spM K (ctb aPaidError aBadSystem aBadLine) 1 F__law_ratio) := ok__law_ratio (k := 1) F T.md ((w__law_int T).mono (by decide)) ((w__law_gcd T).mono (by decide))
theorem w__law_ratio {P : Program} {w : World} {K : PySem.W.Frag} {mg : Str → Option Value} {base : Heap} {aPaidError aBadSystem aBadLine : Addr} (T : Tx K mg aPaidError aBadSystem aBadLine) : FnI P w K mg base (ctb aPaidError aBadSystem aBadLine) 2 "_law_ratio" ["thing"] F__law_ratio := T.d__law_ratio.fn (fun F => o__law_ratio T F)
theorem o__law_value {P : Program} {w : World} {K : PySem.W.Frag} {mg : Str → Option Value} {base : Heap} {aPaidError aBadSystem aBadLine : Addr} (T : Tx K mg aPaidError aBadSystem aBadLine) {fa : Addr} {fd : FuncData} (F : Fun K "_law_value" "_law_value" s__law_value fa fd) : FnOk P w K mg base (L2.CX P w) 1 fa fd ["line", "point"] (spM K (ctb aPaidError aBadSystem aBadLine) 2 F__law_value) := ok__law_value (k := 0) F T.md
theorem w__law_value {P : Program} {w : World} {K : PySem.W.Frag} {mg : Str → Option Value} {base : Heap} {aPaidError aBadSystem aBadLine : Addr} (T : Tx K mg aPaidError aBadSystem aBadLine) : FnI P w K mg base (ctb aPaidError aBadSystem aBadLine) 1 "_law_value" ["line", "point"] F__law_value := T.d__law_value.fn (fun F => o__law_value T F)
theorem o__law_keeps {P : Program} {w : World} {K : PySem.W.Frag} {mg : Str → Option Value} {base : Heap} {aPaidError aBadSystem aBadLine : Addr} (T : Tx K mg aPaidError aBadSystem aBadLine) {fa : Addr} {fd : FuncData} (F : Fun K "_law_keeps" "_law_keeps" s__law_keeps fa fd) : FnOk P w K mg base (L2.CX P w) 3 fa fd ["system", "thing"] (spM K (ctb aPaidError aBadSystem aBadLine) 2 F__law_keeps) := ok__law_keeps (k := 2) F T.md ((w__law_ratio T).mono (by decide)) ((w__law_value T).mono (by decide))
theorem w__law_keeps {P : Program} {w : World} {K : PySem.W.Frag} {mg : Str → Option Value} {base : Heap} {aPaidError aBadSystem aBadLine : Addr} (T : Tx K mg aPaidError aBadSystem aBadLine) : FnI P w K mg base (ctb aPaidError aBadSystem aBadLine) 3 "_law_keeps" ["system", "thing"] F__law_keeps := T.d__law_keeps.fn (fun F => o__law_keeps T F)
theorem o__law_truth {P : Program} {w : World} {K : PySem.W.Frag} {mg : Str → Option Value} {base : Heap} {aPaidError aBadSystem aBadLine : Addr} (T : Tx K mg aPaidError aBadSystem aBadLine) {fa : Addr} {fd : FuncData} (F : Fun K "_law_truth" "_law_truth" s__law_truth fa fd) : FnOk P w K mg base (L2.CX P w) 1 fa fd ["told", "due"] (spM K (ctb aPaidError aBadSystem aBadLine) 2 F__law_truth) := ok__law_truth (k := 0) F T.md
theorem w__law_truth {P : Program} {w : World} {K : PySem.W.Frag} {mg : Str → Option Value} {base : Heap} {aPaidError aBadSystem aBadLine : Addr} (T : Tx K mg aPaidError aBadSystem aBadLine) : FnI P w K mg base (ctb aPaidError aBadSystem aBadLine) 1 "_law_truth" ["told", "due"] F__law_truth := T.d__law_truth.fn (fun F => o__law_truth T F)
theorem o__law_multipliers {P : Program} {w : World} {K : PySem.W.Frag} {mg : Str → Option Value} {base : Heap} {aPaidError aBadSystem aBadLine : Addr} (T : Tx K mg aPaidError aBadSystem aBadLine) {fa : Addr} {fd : FuncData} (F : Fun K "_law_multipliers" "_law_multipliers" s__law_multipliers fa fd) : FnOk P w K mg base (L2.CX P w) 2 fa fd ["rows", "thing"] (spM K (ctb aPaidError aBadSystem aBadLine) 2 F__law_multipliers) := ok__law_multipliers (k := 1) F T.md ((w__law_int T).mono (by decide))
theorem w__law_multipliers {P : Program} {w : World} {K : PySem.W.Frag} {mg : Str → Option Value} {base : Heap} {aPaidError aBadSystem aBadLine : Addr} (T : Tx K mg aPaidError aBadSystem aBadLine) : FnI P w K mg base (ctb aPaidError aBadSystem aBadLine) 2 "_law_multipliers" ["rows", "thing"] F__law_multipliers := T.d__law_multipliers.fn (fun F => o__law_multipliers T F)
theorem o__law_summed {P : Program} {w : World} {K : PySem.W.Frag} {mg : Str → Option Value} {base : Heap} {aPaidError aBadSystem aBadLine : Addr} (T : Tx K mg aPaidError aBadSystem aBadLine) {fa : Addr} {fd : FuncData} (F : Fun K "_law_summed" "_law_summed" s__law_summed fa fd) : FnOk P w K mg base (L2.CX P w) 1 fa fd ["rows", "multipliers"] (spM K (ctb aPaidError aBadSystem aBadLine) 2 F__law_summed) := ok__law_summed (k := 0) F T.md
theorem w__law_summed {P : Program} {w : World} {K : PySem.W.Frag} {mg : Str → Option Value} {base : Heap} {aPaidError aBadSystem aBadLine : Addr} (T : Tx K mg aPaidError aBadSystem aBadLine) : FnI P w K mg base (ctb aPaidError aBadSystem aBadLine) 1 "_law_summed" ["rows", "multipliers"] F__law_summed := T.d__law_summed.fn (fun F => o__law_summed T F)
theorem o__law_refutes {P : Program} {w : World} {K : PySem.W.Frag} {mg : Str → Option Value} {base : Heap} {aPaidError aBadSystem aBadLine : Addr} (T : Tx K mg aPaidError aBadSystem aBadLine) {fa : Addr} {fd : FuncData} (F : Fun K "_law_refutes" "_law_refutes" s__law_refutes fa fd) : FnOk P w K mg base (L2.CX P w) 3 fa fd ["rows", "thing"] (spM K (ctb aPaidError aBadSystem aBadLine) 2 F__law_refutes) := ok__law_refutes (k := 2) F T.md ((w__law_multipliers T).mono (by decide)) ((w__law_summed T).mono (by decide))
theorem w__law_refutes {P : Program} {w : World} {K : PySem.W.Frag} {mg : Str → Option Value} {base : Heap} {aPaidError aBadSystem aBadLine : Addr} (T : Tx K mg aPaidError aBadSystem aBadLine) : FnI P w K mg base (ctb aPaidError aBadSystem aBadLine) 3 "_law_refutes" ["rows", "thing"] F__law_refutes := T.d__law_refutes.fn (fun F => o__law_refutes T F)
theorem o__law_well {P : Program} {w : World} {K : PySem.W.Frag} {mg : Str → Option Value} {base : Heap} {aPaidError aBadSystem aBadLine : Addr} (T : Tx K mg aPaidError aBadSystem aBadLine) {fa : Addr} {fd : FuncData} (F : Fun K "_law_well" "_law_well" s__law_well fa fd) : FnOk P w K mg base (L2.CX P w) 1 fa fd ["script", "at"] (spM K (ctb aPaidError aBadSystem aBadLine) 2 F__law_well) := ok__law_well (k := 0) F T.md
theorem w__law_well {P : Program} {w : World} {K : PySem.W.Frag} {mg : Str → Option Value} {base : Heap} {aPaidError aBadSystem aBadLine : Addr} (T : Tx K mg aPaidError aBadSystem aBadLine) : FnI P w K mg base (ctb aPaidError aBadSystem aBadLine) 1 "_law_well" ["script", "at"] F__law_well := T.d__law_well.fn (fun F => o__law_well T F)
theorem o__law_lowest {P : Program} {w : World} {K : PySem.W.Frag} {mg : Str → Option Value} {base : Heap} {aPaidError aBadSystem aBadLine : Addr} (T : Tx K mg aPaidError aBadSystem aBadLine) {fa : Addr} {fd : FuncData} (F : Fun K "_law_lowest" "_law_lowest" s__law_lowest fa fd) : FnOk P w K mg base (L2.CX P w) 2 fa fd ["top", "bottom"] (spM K (ctb aPaidError aBadSystem aBadLine) 2 F__law_lowest) := ok__law_lowest (k := 1) F T.md ((w__law_gcd T).mono (by decide))
theorem w__law_lowest {P : Program} {w : World} {K : PySem.W.Frag} {mg : Str → Option Value} {base : Heap} {aPaidError aBadSystem aBadLine : Addr} (T : Tx K mg aPaidError aBadSystem aBadLine) : FnI P w K mg base (ctb aPaidError aBadSystem aBadLine) 2 "_law_lowest" ["top", "bottom"] F__law_lowest := T.d__law_lowest.fn (fun F => o__law_lowest T F)
theorem o__law_point {P : Program} {w : World} {K : PySem.W.Frag} {mg : Str → Option Value} {base : Heap} {aPaidError aBadSystem aBadLine : Addr} (T : Tx K mg aPaidError aBadSystem aBadLine) {fa : Addr} {fd : FuncData} (F : Fun K "_law_point" "_law_point" s__law_point fa fd) : FnOk P w K mg base (L2.CX P w) 3 fa fd ["well", "count"] (spM K (ctb aPaidError aBadSystem aBadLine) 2 F__law_point) := ok__law_point (k := 2) F T.md ((w__law_draw T).mono (by decide)) ((w__law_lowest T).mono (by decide))
theorem w__law_point {P : Program} {w : World} {K : PySem.W.Frag} {mg : Str → Option Value} {base : Heap} {aPaidError aBadSystem aBadLine : Addr} (T : Tx K mg aPaidError aBadSystem aBadLine) : FnI P w K mg base (ctb aPaidError aBadSystem aBadLine) 3 "_law_point" ["well", "count"] F__law_point := T.d__law_point.fn (fun F => o__law_point T F)
theorem o__law_terms {P : Program} {w : World} {K : PySem.W.Frag} {mg : Str → Option Value} {base : Heap} {aPaidError aBadSystem aBadLine : Addr} (T : Tx K mg aPaidError aBadSystem aBadLine) {fa : Addr} {fd : FuncData} (F : Fun K "_law_terms" "_law_terms" s__law_terms fa fd) : FnOk P w K mg base (L2.CX P w) 2 fa fd ["well", "count", "most"] (spM K (ctb aPaidError aBadSystem aBadLine) 3 F__law_terms) := ok__law_terms (k := 1) F T.md ((w__law_draw T).mono (by decide))
theorem w__law_terms {P : Program} {w : World} {K : PySem.W.Frag} {mg : Str → Option Value} {base : Heap} {aPaidError aBadSystem aBadLine : Addr} (T : Tx K mg aPaidError aBadSystem aBadLine) : FnI P w K mg base (ctb aPaidError aBadSystem aBadLine) 2 "_law_terms" ["well", "count", "most"] F__law_terms := T.d__law_terms.fn (fun F => o__law_terms T F)
theorem o__law_row_at {P : Program} {w : World} {K : PySem.W.Frag} {mg : Str → Option Value} {base : Heap} {aPaidError aBadSystem aBadLine : Addr} (T : Tx K mg aPaidError aBadSystem aBadLine) {fa : Addr} {fd : FuncData} (F : Fun K "_law_row_at" "_law_row_at" s__law_row_at fa fd) : FnOk P w K mg base (L2.CX P w) 3 fa fd ["well", "point", "exact", "most"] (spM K (ctb aPaidError aBadSystem aBadLine) 4 F__law_row_at) := ok__law_row_at (k := 2) F T.md ((w__law_draw T).mono (by decide)) ((w__law_terms T).mono (by decide))
theorem w__law_row_at {P : Program} {w : World} {K : PySem.W.Frag} {mg : Str → Option Value} {base : Heap} {aPaidError aBadSystem aBadLine : Addr} (T : Tx K mg aPaidError aBadSystem aBadLine) : FnI P w K mg base (ctb aPaidError aBadSystem aBadLine) 3 "_law_row_at" ["well", "point", "exact", "most"] F__law_row_at := T.d__law_row_at.fn (fun F => o__law_row_at T F)
theorem o__law_kept_rows {P : Program} {w : World} {K : PySem.W.Frag} {mg : Str → Option Value} {base : Heap} {aPaidError aBadSystem aBadLine : Addr} (T : Tx K mg aPaidError aBadSystem aBadLine) {fa : Addr} {fd : FuncData} (F : Fun K "_law_kept_rows" "_law_kept_rows" s__law_kept_rows fa fd) : FnOk P w K mg base (L2.CX P w) 4 fa fd ["well", "point", "many", "most"] (spM K (ctb aPaidError aBadSystem aBadLine) 4 F__law_kept_rows) := ok__law_kept_rows (k := 3) F T.md ((w__law_row_at T).mono (by decide)) ((w__law_draw T).mono (by decide))
theorem w__law_kept_rows {P : Program} {w : World} {K : PySem.W.Frag} {mg : Str → Option Value} {base : Heap} {aPaidError aBadSystem aBadLine : Addr} (T : Tx K mg aPaidError aBadSystem aBadLine) : FnI P w K mg base (ctb aPaidError aBadSystem aBadLine) 4 "_law_kept_rows" ["well", "point", "many", "most"] F__law_kept_rows := T.d__law_kept_rows.fn (fun F => o__law_kept_rows T F)
theorem o__law_torn_rows {P : Program} {w : World} {K : PySem.W.Frag} {mg : Str → Option Value} {base : Heap} {aPaidError aBadSystem aBadLine : Addr} (T : Tx K mg aPaidError aBadSystem aBadLine) {fa : Addr} {fd : FuncData} (F : Fun K "_law_torn_rows" "_law_torn_rows" s__law_torn_rows fa fd) : FnOk P w K mg base (L2.CX P w) 3 fa fd ["well", "count", "many", "most"] (spM K (ctb aPaidError aBadSystem aBadLine) 4 F__law_torn_rows) := ok__law_torn_rows (k := 2) F T.md ((w__law_draw T).mono (by decide)) ((w__law_terms T).mono (by decide)) ((w__law_summed T).mono (by decide))
theorem w__law_torn_rows {P : Program} {w : World} {K : PySem.W.Frag} {mg : Str → Option Value} {base : Heap} {aPaidError aBadSystem aBadLine : Addr} (T : Tx K mg aPaidError aBadSystem aBadLine) : FnI P w K mg base (ctb aPaidError aBadSystem aBadLine) 3 "_law_torn_rows" ["well", "count", "many", "most"] F__law_torn_rows := T.d__law_torn_rows.fn (fun F => o__law_torn_rows T F)
theorem o__law_no_system {P : Program} {w : World} {K : PySem.W.Frag} {mg : Str → Option Value} {base : Heap} {aPaidError aBadSystem aBadLine : Addr} (T : Tx K mg aPaidError aBadSystem aBadLine) {fa : Addr} {fd : FuncData} (F : Fun K "_law_no_system" "_law_no_system" s__law_no_system fa fd) : FnOk P w K mg base (L2.CX P w) 2 fa fd ["well", "count", "rows"] (spM K (ctb aPaidError aBadSystem aBadLine) 3 F__law_no_system) := ok__law_no_system (k := 1) F T.md ((w__law_draw T).mono (by decide))
theorem w__law_no_system {P : Program} {w : World} {K : PySem.W.Frag} {mg : Str → Option Value} {base : Heap} {aPaidError aBadSystem aBadLine : Addr} (T : Tx K mg aPaidError aBadSystem aBadLine) : FnI P w K mg base (ctb aPaidError aBadSystem aBadLine) 2 "_law_no_system" ["well", "count", "rows"] F__law_no_system := T.d__law_no_system.fn (fun F => o__law_no_system T F)
theorem o__law_swapped {P : Program} {w : World} {K : PySem.W.Frag} {mg : Str → Option Value} {base : Heap} {aPaidError aBadSystem aBadLine : Addr} (T : Tx K mg aPaidError aBadSystem aBadLine) {fa : Addr} {fd : FuncData} (F : Fun K "_law_swapped" "_law_swapped" s__law_swapped fa fd) : FnOk P w K mg base (L2.CX P w) 1 fa fd ["row", "at", "thing"] (spM K (ctb aPaidError aBadSystem aBadLine) 3 F__law_swapped) := ok__law_swapped (k := 0) F T.md
theorem w__law_swapped {P : Program} {w : World} {K : PySem.W.Frag} {mg : Str → Option Value} {base : Heap} {aPaidError aBadSystem aBadLine : Addr} (T : Tx K mg aPaidError aBadSystem aBadLine) : FnI P w K mg base (ctb aPaidError aBadSystem aBadLine) 1 "_law_swapped" ["row", "at", "thing"] F__law_swapped := T.d__law_swapped.fn (fun F => o__law_swapped T F)
theorem o__law_spoilt_point {P : Program} {w : World} {K : PySem.W.Frag} {mg : Str → Option Value} {base : Heap} {aPaidError aBadSystem aBadLine : Addr} (T : Tx K mg aPaidError aBadSystem aBadLine) {fa : Addr} {fd : FuncData} (F : Fun K "_law_spoilt_point" "_law_spoilt_point" s__law_spoilt_point fa fd) : FnOk P w K mg base (L2.CX P w) 2 fa fd ["well", "point"] (spM K (ctb aPaidError aBadSystem aBadLine) 2 F__law_spoilt_point) := ok__law_spoilt_point (k := 1) F T.md ((w__law_draw T).mono (by decide)) ((w__law_swapped T).mono (by decide))
theorem w__law_spoilt_point {P : Program} {w : World} {K : PySem.W.Frag} {mg : Str → Option Value} {base : Heap} {aPaidError aBadSystem aBadLine : Addr} (T : Tx K mg aPaidError aBadSystem aBadLine) : FnI P w K mg base (ctb aPaidError aBadSystem aBadLine) 2 "_law_spoilt_point" ["well", "point"] F__law_spoilt_point := T.d__law_spoilt_point.fn (fun F => o__law_spoilt_point T F)
theorem o__law_spoilt_numbers {P : Program} {w : World} {K : PySem.W.Frag} {mg : Str → Option Value} {base : Heap} {aPaidError aBadSystem aBadLine : Addr} (T : Tx K mg aPaidError aBadSystem aBadLine) {fa : Addr} {fd : FuncData} (F : Fun K "_law_spoilt_numbers" "_law_spoilt_numbers" s__law_spoilt_numbers fa fd) : FnOk P w K mg base (L2.CX P w) 2 fa fd ["well", "numbers"] (spM K (ctb aPaidError aBadSystem aBadLine) 2 F__law_spoilt_numbers) := ok__law_spoilt_numbers (k := 1) F T.md ((w__law_draw T).mono (by decide)) ((w__law_swapped T).mono (by decide))
theorem w__law_spoilt_numbers {P : Program} {w : World} {K : PySem.W.Frag} {mg : Str → Option Value} {base : Heap} {aPaidError aBadSystem aBadLine : Addr} (T : Tx K mg aPaidError aBadSystem aBadLine) : FnI P w K mg base (ctb aPaidError aBadSystem aBadLine) 2 "_law_spoilt_numbers" ["well", "numbers"] F__law_spoilt_numbers := T.d__law_spoilt_numbers.fn (fun F => o__law_spoilt_numbers T F)
theorem o__law_word {P : Program} {w : World} {K : PySem.W.Frag} {mg : Str → Option Value} {base : Heap} {aPaidError aBadSystem aBadLine : Addr} (T : Tx K mg aPaidError aBadSystem aBadLine) {fa : Addr} {fd : FuncData} (F : Fun K "_law_word" "_law_word" s__law_word fa fd) : FnOk P w K mg base (L2.CX P w) 6 fa fd ["pick", "system", "thing"] (spM K (ctb aPaidError aBadSystem aBadLine) 3 F__law_word) := ok__law_word (k := 5) F T.md ((w_keeps T).mono (by decide)) ((w_refutes T).mono (by decide)) ((w_solve T).mono (by decide)) ((w_least T).mono (by decide)) ((w_is_least T).mono (by decide))
theorem w__law_word {P : Program} {w : World} {K : PySem.W.Frag} {mg : Str → Option Value} {base : Heap} {aPaidError aBadSystem aBadLine : Addr} (T : Tx K mg aPaidError aBadSystem aBadLine) : FnI P w K mg base (ctb aPaidError aBadSystem aBadLine) 6 "_law_word" ["pick", "system", "thing"] F__law_word := T.d__law_word.fn (fun F => o__law_word T F)
theorem o__law_asked {P : Program} {w : World} {K : PySem.W.Frag} {mg : Str → Option Value} {base : Heap} {aPaidError aBadSystem aBadLine : Addr} (T : Tx K mg aPaidError aBadSystem aBadLine) {fa : Addr} {fd : FuncData} (F : Fun K "_law_asked" "_law_asked" s__law_asked fa fd) : FnOk P w K mg base (L2.CX P w) 6 fa fd ["well", "system", "point", "numbers"] (spM K (ctb aPaidError aBadSystem aBadLine) 4 F__law_asked) := ok__law_asked (k := 5) F T.md ((w__law_spoilt_point T).mono (by decide)) ((w__law_shared T).mono (by decide)) ((w__law_keeps T).mono (by decide)) ((w__law_truth T).mono (by decide)) ((w_keeps T).mono (by decide)) ((w__law_spoilt_numbers T).mono (by decide)) ((w__law_refutes T).mono (by decide)) ((w_refutes T).mono (by decide)) ((wK_keeps_thing_system T).mono (by decide)) ((wK_refutes_thing_system T).mono (by decide))
theorem w__law_asked {P : Program} {w : World} {K : PySem.W.Frag} {mg : Str → Option Value} {base : Heap} {aPaidError aBadSystem aBadLine : Addr} (T : Tx K mg aPaidError aBadSystem aBadLine) : FnI P w K mg base (ctb aPaidError aBadSystem aBadLine) 6 "_law_asked" ["well", "system", "point", "numbers"] F__law_asked := T.d__law_asked.fn (fun F => o__law_asked T F)
theorem o_law {P : Program} {w : World} {K : PySem.W.Frag} {mg : Str → Option Value} {base : Heap} {aPaidError aBadSystem aBadLine : Addr} (T : Tx K mg aPaidError aBadSystem aBadLine) {fa : Addr} {fd : FuncData} (F : Fun K "law" "law" s_law fa fd) : FnOk P w K mg base (L2.CX P w) 7 fa fd ["script"] (spM K (ctb aPaidError aBadSystem aBadLine) 1 F_law) := ok_law (k := 6) F T.md ((w__law_well T).mono (by decide)) ((w__law_draw T).mono (by decide)) ((w__law_point T).mono (by decide)) ((w__law_kept_rows T).mono (by decide)) ((w__law_torn_rows T).mono (by decide)) ((w__law_keeps T).mono (by decide)) ((w__law_refutes T).mono (by decide)) ((w__law_asked T).mono (by decide)) ((w__law_no_system T).mono (by decide)) ((w__law_word T).mono (by decide)) ((w__law_truth T).mono (by decide)) ((w_keeps T).mono (by decide))
theorem w_law {P : Program} {w : World} {K : PySem.W.Frag} {mg : Str → Option Value} {base : Heap} {aPaidError aBadSystem aBadLine : Addr} (T : Tx K mg aPaidError aBadSystem aBadLine) : FnI P w K mg base (ctb aPaidError aBadSystem aBadLine) 7 "law" ["script"] F_law := T.d_law.fn (fun F => o_law T F)
theorem law_ok {P : Program} {w : World} {K : PySem.W.Frag} {mg : Str → Option Value} {base : Heap} {aPaidError aBadSystem aBadLine : Addr} (T : Tx K mg aPaidError aBadSystem aBadLine) {fa : Addr} {fd : FuncData} (F : Fun K "law" "law" s_law fa fd) : FnOk P w K mg base (L2.CX P w) 60 fa fd ["script"] (spM K (ctb aPaidError aBadSystem aBadLine) 1 F_law) := (o_law T F).mono (by decide)
end K64
namespace K64
open PySem PySem.Spec L2 PI
open PyProof.Rows hiding St
/-! ### numbers -/
abbrev Rt := Int × Int
def ratD (p : Rt) : D := .tup [.int p.1, .int p.2]
def isRat (p : Rt) : Prop := 1 ≤ p.2 ∧ Nat.gcd p.1.natAbs p.2.natAbs = 1
instance (p : Rt) : Decidable (isRat p) := by unfold isRat; infer_instance
/-- the pair in lowest terms -/
def low (t b : Int) : Rt := ((if b < 0 then -t else t) / (Nat.gcd t.natAbs b.natAbs : Int), (if b < 0 then -b else b) / (Nat.gcd t.natAbs b.natAbs : Int))
def lt2 (n : Nat) (x : Int) : Prop := x.natAbs < 2 ^ n
theorem lt2.up {n m : Nat} {x : Int} (h : lt2 n x) (l : n ≤ m) : lt2 m x := Nat.lt_of_lt_of_le h (Nat.pow_le_pow_right (by decide) l)
theorem lt2.mul {n m : Nat} {x y : Int} (a : lt2 n x) (b : lt2 m y) : lt2 (n + m) (x * y) := wide_lt a b
theorem lt2.ok {n m : Nat} {x y : Int} (a : lt2 n x) (b : lt2 m y) (l : n + m ≤ 900000) : mulOk x y = true := by
  have a' := a.up (m := n + 1) (by omega)
  have b' := b.up (m := m + 1) (by omega)
  exact mulOk_w (wide_mul a' b' (by omega) (by omega) (by omega))
theorem lt2.add {n m : Nat} {x y : Int} (a : lt2 n x) (b : lt2 m y) : lt2 (max n m + 1) (x + y) := by
  have a' := a.up (m := max n m) (by omega)
  have b' := b.up (m := max n m) (by omega)
  unfold lt2 at *
  rw [Nat.pow_succ]
  omega
theorem gcd_pos {t b : Int} (h : b ≠ 0) : 0 < Nat.gcd t.natAbs b.natAbs := Nat.gcd_pos_of_pos_right _ (by omega)
theorem divG {a : Nat} {t b : Int} (h : b ≠ 0) (hb : lt2 a b) (h9 : a < 9000) : divOk (Nat.gcd t.natAbs b.natAbs : Int) = true := by
  have h1 := gcd_pos (t := t) h
  have h2 : Nat.gcd t.natAbs b.natAbs ≤ b.natAbs := Nat.gcd_le_right _ (by omega)
  have hb' := hb.up (m := a + 1) (by omega)
  unfold lt2 at hb'
  have h3 := wide_div (i := 0) (j := (Nat.gcd t.natAbs b.natAbs : Int)) (b := a + 1) (by omega) (by rw [Int.natAbs_natCast]; omega) (by omega) (by omega)
  exact divOk_w h3.1 h3.2
theorem low_rat {t b : Int} (h : b ≠ 0) : isRat (low t b) := by
  have hg := gcd_pos (t := t) h
  have e1 : (if b < 0 then -t else t).natAbs = t.natAbs := by split <;> simp
  have e2 : (if b < 0 then -b else b) = (b.natAbs : Int) := by split <;> omega
  have d1 : (Nat.gcd t.natAbs b.natAbs : Int) ∣ (if b < 0 then -t else t) := by
    rw [Int.ofNat_dvd_left, e1]; exact Nat.gcd_dvd_left _ _
  unfold isRat low
  rw [e2]
  refine ⟨?_, ?_⟩
  · show 1 ≤ (b.natAbs : Int) / (Nat.gcd t.natAbs b.natAbs : Int)
    rw [← Int.natCast_ediv]
    have : 0 < b.natAbs / Nat.gcd t.natAbs b.natAbs := Nat.div_pos (Nat.gcd_le_right _ (by omega)) hg
    omega
  · show Nat.gcd ((if b < 0 then -t else t) / (Nat.gcd t.natAbs b.natAbs : Int)).natAbs ((b.natAbs : Int) / (Nat.gcd t.natAbs b.natAbs : Int)).natAbs = 1
    rw [← Int.natCast_ediv, Int.natAbs_natCast, Int.natAbs_ediv_of_dvd d1, e1, Int.natAbs_natCast]
    rw [Nat.gcd_div (Nat.gcd_dvd_left _ _) (Nat.gcd_dvd_right _ _)]
    exact Nat.div_self hg
theorem low_bd {a : Nat} {t b : Int} (h1 : lt2 a t) (h2 : lt2 a b) : lt2 a (low t b).1 ∧ lt2 a (low t b).2 := by
  have e1 : (if b < 0 then -t else t).natAbs = t.natAbs := by split <;> simp
  have e2 : (if b < 0 then -b else b).natAbs = b.natAbs := by split <;> simp
  unfold low
  refine ⟨Nat.lt_of_le_of_lt (Int.natAbs_ediv_le_natAbs _ _) (by rw [e1]; exact h1), Nat.lt_of_le_of_lt (Int.natAbs_ediv_le_natAbs _ _) (by rw [e2]; exact h2)⟩
/-- low is the pair cut by what is above 0 -/
theorem low_cut {t b : Int} (h : 0 < b) : ∃ g : Int, 0 < g ∧ t = (low t b).1 * g ∧ b = (low t b).2 * g := by
  have hg := gcd_pos (t := t) (show b ≠ 0 by omega)
  have n : ¬ b < 0 := by omega
  refine ⟨(Nat.gcd t.natAbs b.natAbs : Int), by omega, ?_, ?_⟩
  · unfold low
    rw [if_neg n]
    exact (Int.ediv_mul_cancel (a := t) (b := (Nat.gcd t.natAbs b.natAbs : Int)) (by rw [Int.ofNat_dvd_left]; exact Nat.gcd_dvd_left _ _)).symm
  · unfold low
    rw [if_neg n, if_neg n]
    exact (Int.ediv_mul_cancel (a := b) (b := (Nat.gcd t.natAbs b.natAbs : Int)) (by rw [Int.ofNat_dvd_left]; exact Nat.gcd_dvd_right _ _)).symm
theorem atI_of {α : Type} {xs : List α} {i : Nat} {x : α} (e : xs[i]? = some x) : atI xs (i : Int) = some x := atI_nat e
theorem map_at {α β : Type} {f : α → β} {xs : List α} {i : Nat} {x : α} (e : xs[i]? = some x) : (xs.map f)[i]? = some (f x) := by rw [List.getElem?_map, e]; rfl
theorem take_succ {α : Type} {xs : List α} {i : Nat} {x : α} (e : xs[i]? = some x) : xs.take (i + 1) = xs.take i ++ [x] := by rw [List.take_add_one, e]; rfl
section
variable {h : Hh}
theorem is_int_int (i : Int) : F_is_int [.int i] h = .ok (.bl true) h := by
  simp -implicitDefEqProofs [F_is_int, mFn, m_is_int, tyD, subT]
theorem is_int_ty {d : D} {t : String} (e : tyD h d = some t) (n : t ≠ "int") : F_is_int [d] h = .ok (.bl false) h := by
  by_cases h2 : t = "bool"
  · subst h2; simp -implicitDefEqProofs [F_is_int, mFn, m_is_int, e, subT]
  · simp -implicitDefEqProofs [F_is_int, mFn, m_is_int, e, subT, n, h2]
def isI : D → Bool
  | .int _ => true
  | _ => false
theorem tyD_int {d : D} (e : tyD h d = some "int") : ∃ i, d = .int i := by
  cases d with
  | int i => exact ⟨i, rfl⟩
  | ref r =>
    simp only [tyD] at e
    split at e <;> simp at e
  | _ => simp [tyD] at e
theorem isI_ty {d : D} {t : String} (e : tyD h d = some t) : isI d = decide (t = "int") := by
  by_cases n : t = "int"
  · subst n
    obtain ⟨i, rfl⟩ := tyD_int e
    rfl
  · rw [decide_eq_false n]
    cases d with
    | int i => simp [tyD] at e; exact absurd e.symm n
    | _ => rfl
theorem is_int_d {d : D} {t : String} (e : tyD h d = some t) : F_is_int [d] h = .ok (.bl (isI d)) h := by
  rw [isI_ty e]
  by_cases n : t = "int"
  · subst n
    obtain ⟨i, rfl⟩ := tyD_int e
    rw [is_int_int]
    simp
  · rw [is_int_ty e n, decide_eq_false n]
theorem law_int_d {d : D} {t : String} (e : tyD h d = some t) : F__law_int [d] h = .ok (.bl (isI d)) h := by
  rw [isI_ty e]
  by_cases n : t = "int"
  · subst n
    simp -implicitDefEqProofs [F__law_int, mFn, m__law_int, e, subT]
  · by_cases h2 : t = "bool"
    · subst h2; simp -implicitDefEqProofs [F__law_int, mFn, m__law_int, e, subT]
    · simp -implicitDefEqProofs [F__law_int, mFn, m__law_int, e, subT, n, h2]
theorem lowest_eq (t b : Int) (hd : divOk (Nat.gcd t.natAbs b.natAbs : Int) = true) : F_lowest [.int t, .int b] h = .ok (ratD (low t b)) h := by
  by_cases hb : b < 0 <;> simp -implicitDefEqProofs [F_lowest, mFn, m_lowest, low, ratD, hb, hd]
theorem gcd_loop : ∀ (n : Nat) (a b : Int) (r : Option D) (h : Hh), 0 ≤ a → 0 ≤ b → b.toNat < n → ∃ ρ, whileL (mTest (mOp oGt (mVar 1) (mC (.int 0)))) (mSeq (mSet 2 (mOp oMod (mB bInt (mCons (mVar 0) (mNil))) (mVar 1)))
    (mSeq (mSet 0 (mVar 1))
    (mSet 1 (mVar 2)))) n [some (.int a), some (.int b), r] h = .nx (some (.int (Nat.gcd a.natAbs b.natAbs : Int)) :: ρ) h
  | 0, a, b, r, h, _, _, hl => by omega
  | n + 1, a, b, r, h, ha, hb, hl => by
    by_cases h0 : 0 < b
    · have hm : 0 ≤ a % b := Int.emod_nonneg _ (by omega)
      have hlt : a % b < b := Int.emod_lt_of_pos _ h0
      obtain ⟨ρ, e⟩ := gcd_loop n b (a % b) (some (.int (a % b))) h hb hm (by omega)
      refine ⟨ρ, ?_⟩
      have e2 : Nat.gcd a.natAbs b.natAbs = Nat.gcd b.natAbs (a % b).natAbs := by
        have : (a % b).natAbs = a.natAbs % b.natAbs := by
          rw [Int.natAbs_emod_of_nonneg ha]
        rw [this, Nat.gcd_comm a.natAbs, Nat.gcd_rec b.natAbs, Nat.gcd_comm]
      rw [e2]
      unfold whileL
      simp -implicitDefEqProofs [h0, e]
    · have : b = 0 := by omega
      subst this
      refine ⟨[some (.int 0), r], ?_⟩
      unfold whileL
      simp -implicitDefEqProofs
      omega
theorem law_gcd_eq (a b : Int) : F__law_gcd [.int a, .int b] h = .ok (.int (Nat.gcd a.natAbs b.natAbs : Int)) h := by
  have ea : (if a < 0 then -a else a) = (a.natAbs : Int) := by split <;> omega
  have eb : (if b < 0 then -b else b) = (b.natAbs : Int) := by split <;> omega
  obtain ⟨ρ, e⟩ := gcd_loop ((b.natAbs : Int).toNat + 1) a.natAbs b.natAbs none h (by omega) (by omega) (by omega)
  simp -implicitDefEqProofs [F__law_gcd, mFn, m__law_gcd, ea, eb, slotInt] at e ⊢
  simp -implicitDefEqProofs [e]
theorem law_lowest_eq (t b : Int) (hd : divOk (Nat.gcd t.natAbs b.natAbs : Int) = true) : F__law_lowest [.int t, .int b] h = .ok (ratD (low t b)) h := by
  unfold F__law_lowest
  have e := fun t b => law_gcd_eq (h := h) t b
  generalize F__law_gcd = gg at e
  by_cases hb : b < 0 <;> simp -implicitDefEqProofs [mFn, m__law_lowest, low, ratD, hb, hd, e]
/-- a part of a point -/
inductive PartD (h : Hh) : D → Prop
  | other {d : D} {t : String} : tyD h d = some t → t ≠ "tuple" → PartD h d
  | len {xs : List D} : xs.length ≠ 2 → PartD h (.tup xs)
  | pair {a b : D} {t s : String} : tyD h a = some t → tyD h b = some s → (∀ i, a = .int i → lt2 200 i) → (∀ i, b = .int i → lt2 200 i) → PartD h (.tup [a, b])
def ratB : D → Bool
  | .tup [.int a, .int b] => decide (isRat (a, b))
  | _ => false
theorem ratB_of {d : D} (e : ratB d = true) : ∃ p : Rt, d = ratD p ∧ isRat p := by
  unfold ratB at e
  split at e
  · exact ⟨_, rfl, by simpa using e⟩
  · cases e
theorem ratB_rat {p : Rt} : ratB (ratD p) = decide (isRat p) := rfl
theorem isI_int {d : D} (e : isI d = true) : ∃ i, d = .int i := by
  cases d with
  | int i => exact ⟨i, rfl⟩
  | _ => cases e
theorem ty_ne {t : String} (n : t ≠ "tuple") : subT t "tuple" = false := by simp [subT, n]
theorem ty_tup {xs : List D} : tyD h (.tup xs) = some "tuple" := rfl
theorem gcd_one {a b : Int} (h1 : 1 ≤ b) : (((Nat.gcd a.natAbs b.natAbs : Nat) : Int) == 1) = decide (isRat (a, b)) := by
  by_cases e : Nat.gcd a.natAbs b.natAbs = 1
  · have : isRat (a, b) := ⟨h1, e⟩
    simp [this, e]
  · have : ¬ isRat (a, b) := fun z => e z.2
    simp [this]
    omega
theorem ratB_other {d : D} {t : String} (e : tyD h d = some t) (n : t ≠ "tuple") : ratB d = false := by
  cases d with
  | tup xs => simp [tyD] at e; exact absurd e.symm n
  | _ => rfl
theorem ratB_len {xs : List D} (n : xs.length ≠ 2) : ratB (.tup xs) = false := by
  unfold ratB
  split
  · rename_i e; cases e; simp at n
  · rfl
theorem ratB_no {a b : D} (n : isI a = false ∨ isI b = false) : ratB (.tup [a, b]) = false := by
  unfold ratB
  split
  · rename_i e; cases e; simp [isI] at n
  · rfl
theorem is_ratio_d {d : D} (P : PartD h d) : F_is_ratio [d] h = .ok (.bl (ratB d)) h := by
  unfold F_is_ratio
  have I : ∀ (d : D) (t : String), tyD h d = some t → F_is_int [d] h = .ok (.bl (isI d)) h := fun d t => is_int_d
  generalize F_is_int = gi at I
  cases P with
  | other e n =>
    simp -implicitDefEqProofs [mFn, m_is_ratio, e, ty_ne n, ratB_other e n]
  | @len xs n =>
    have n' : ¬ ((xs.length : Int) = 2) := by omega
    simp -implicitDefEqProofs [mFn, m_is_ratio, ty_tup, subT, n', ratB_len n]
  | @pair a b t s e1 e2 b1 b2 =>
    cases i1 : isI a with
    | false => simp -implicitDefEqProofs [mFn, m_is_ratio, ty_tup, subT, I a t e1, i1, ratB_no (.inl i1)]
    | true => cases i2 : isI b with
      | false => simp -implicitDefEqProofs [mFn, m_is_ratio, ty_tup, subT, I a t e1, I b s e2, i1, i2, ratB_no (.inr i2)]
      | true =>
        obtain ⟨x, rfl⟩ := isI_int i1
        obtain ⟨y, rfl⟩ := isI_int i2
        have r : ratB (.tup [.int x, .int y]) = decide (isRat (x, y)) := rfl
        by_cases y1 : y < 1
        · have : ¬ isRat (x, y) := fun z => by have := z.1; dsimp only at this; omega
          simp -implicitDefEqProofs [mFn, m_is_ratio, ty_tup, subT, I _ _ e1, I _ _ e2, i1, i2, y1, r, this]
        · have e := gcd_one (a := x) (b := y) (by omega)
          simp -implicitDefEqProofs [mFn, m_is_ratio, ty_tup, subT, I _ _ e1, I _ _ e2, i1, i2, y1, r, e]
theorem law_ratio_d {d : D} (P : PartD h d) : F__law_ratio [d] h = .ok (.bl (ratB d)) h := by
  unfold F__law_ratio
  have I : ∀ (d : D) (t : String), tyD h d = some t → F__law_int [d] h = .ok (.bl (isI d)) h := fun d t => law_int_d
  generalize F__law_int = gi at I
  have gq := fun a b => law_gcd_eq (h := h) a b
  generalize F__law_gcd = gg at gq
  cases P with
  | other e n =>
    simp -implicitDefEqProofs [mFn, m__law_ratio, e, ty_ne n, ratB_other e n]
  | @len xs n =>
    have n' : ¬ ((xs.length : Int) = 2) := by omega
    simp -implicitDefEqProofs [mFn, m__law_ratio, ty_tup, subT, n', ratB_len n]
  | @pair a b t s e1 e2 b1 b2 =>
    cases i1 : isI a with
    | false => simp -implicitDefEqProofs [mFn, m__law_ratio, ty_tup, subT, I a t e1, i1, ratB_no (.inl i1)]
    | true => cases i2 : isI b with
      | false => simp -implicitDefEqProofs [mFn, m__law_ratio, ty_tup, subT, I a t e1, I b s e2, i1, i2, ratB_no (.inr i2)]
      | true =>
        obtain ⟨x, rfl⟩ := isI_int i1
        obtain ⟨y, rfl⟩ := isI_int i2
        have r : ratB (.tup [.int x, .int y]) = decide (isRat (x, y)) := rfl
        by_cases y1 : y < 1
        · have : ¬ isRat (x, y) := fun z => by have := z.1; dsimp only at this; omega
          simp -implicitDefEqProofs [mFn, m__law_ratio, ty_tup, subT, I _ _ e1, I _ _ e2, i1, i2, y1, r, this]
        · have e := gcd_one (a := x) (b := y) (by omega)
          simp -implicitDefEqProofs [mFn, m__law_ratio, ty_tup, subT, I _ _ e1, I _ _ e2, i1, i2, y1, r, e, gq]
end
end K64
namespace K64
open PySem PySem.Spec L2 PI
open PyProof.Rows hiding St
/-! ### lines, systems -/
abbrev Trm := Int × Int
def termD (t : Trm) : D := .tup [.int t.1, .int t.2]
abbrev Lin := Int × List Trm
def linD (l : Lin) : D := .tup [.int l.1, .tup (l.2.map termD)]
abbrev Row := Lin × Bool
def rowD (r : Row) : D := .tup [linD r.1, .bl r.2]
abbrev Sys := Int × List Row
def sysD (s : Sys) : D := .tup [.int s.1, .tup (s.2.map rowD)]
structure okL (c : Int) (l : Lin) : Prop where
  k : lt2 200 l.1
  t : ∀ t ∈ l.2, (0 ≤ t.1 ∧ t.1 < c) ∧ t.2 ≠ 0 ∧ lt2 200 t.2
  o : l.2.Pairwise fun s t => s.1 < t.1
  n : l.2.length ≤ 8
structure okS (s : Sys) : Prop where
  c : 0 ≤ s.1 ∧ s.1 ≤ 4000
  n : s.2.length ≤ 12000
  r : ∀ r ∈ s.2, okL s.1 r.1
section
variable {h : Hh}
theorem is_line_eq {c : Int} {l : Lin} (ok : okL c l) : F_is_line [.int c, linD l] h = .ok (.bl true) h := by
  have w : spec (F_is_line [.int c, linD l] h) (fun d h' => d = .bl true ∧ h' = h) := by
    unfold F_is_line
    have I : ∀ i, F_is_int [.int i] h = .ok (.bl true) h := is_int_int
    generalize F_is_int = gi at I
    apply wO_fn
    have er : l.2.length < 1000000000 := by have := ok.n; omega
    simp -implicitDefEqProofs [m_is_line, linD, ty_tup, subT, I, er]
    refine wS.loop (fun i ρ h' => h' = h ∧ ∃ j o3, ρ = [some (.int c), some (.tup [.int l.1, .tup (l.2.map termD)]), some (.int j), o3] ∧ ∀ t, l.2[i]? = some t → j < t.1) ⟨rfl, -1, none, rfl, fun t et => by have := (ok.t t (List.mem_of_getElem? et)).1.1; omega⟩ ?_ ?_
    · rintro _ h' ⟨rfl, j, o3, rfl, _⟩
      exact ⟨by simp, by simp -implicitDefEqProofs; exact ⟨rfl, rfl⟩⟩
    · rintro i _ h' hi ⟨rfl, j, o3, rfl, lo⟩
      obtain ⟨t, et⟩ : ∃ t, l.2[i]? = some t := ⟨_, List.getElem?_eq_getElem hi⟩
      refine ⟨termD t, _, _, by simp [et], rfl, ?_⟩
      obtain ⟨t01, nz, _⟩ := ok.t t (List.mem_of_getElem? et)
      have t0 : oGet (termD t) (.int 0) h' = some (.int t.1, h') := by simp [termD]
      have t1 : oGet (termD t) (.int 1) h' = some (.int t.2, h') := by simp [termD]
      have tt : tyD h' (termD t) = some "tuple" := rfl
      have tl : bLen [termD t] h' = some (.int 2, h') := rfl
      have i1 := I t.1
      have i2 := I t.2
      have lj : ¬ t.1 ≤ j := by have := lo t et; omega
      have lc : ¬ c ≤ t.1 := by omega
      simp -implicitDefEqProofs [t0, t1, tt, tl, i1, i2, subT, nz, lj, lc, oGeA, oLe]
      refine ⟨rfl, _, _, rfl, fun u eu => ?_⟩
      obtain ⟨hi2, eu'⟩ := List.getElem?_eq_some_iff.mp eu
      obtain ⟨_, et'⟩ := List.getElem?_eq_some_iff.mp et
      have := List.pairwise_iff_getElem.mp ok.o i (i + 1) hi hi2 (by omega)
      rw [et', eu'] at this
      exact this
  obtain ⟨_, _, e, rfl, rfl⟩ := w.ex
  exact e
theorem is_system_eq {s : Sys} (ok : okS s) : F_is_system [sysD s] h = .ok (.bl true) h := by
  have w : spec (F_is_system [sysD s] h) (fun d h' => d = .bl true ∧ h' = h) := by
    unfold F_is_system
    have I : ∀ i, F_is_int [.int i] h = .ok (.bl true) h := is_int_int
    generalize F_is_int = gi at I
    have L : ∀ r ∈ s.2, F_is_line [.int s.1, linD r.1] h = .ok (.bl true) h := fun r hr => is_line_eq (ok.r r hr)
    generalize F_is_line = gl at L
    apply wO_fn
    have c := ok.c
    have n := ok.n
    have c1 : ¬ s.1 < 0 := by omega
    have c2 : ¬ 4000 < s.1 := by omega
    have c3 : ¬ (12000 : Int) < s.2.length := by omega
    have er : s.2.length < 1000000000 := by omega
    simp -implicitDefEqProofs [m_is_system, sysD, ty_tup, subT, I, c1, c2, c3, er, oGt]
    refine wS.loop (fun i ρ h' => h' = h ∧ ∃ o3, ρ = [some (.tup [.int s.1, .tup (s.2.map rowD)]), some (.int s.1), some (.tup (s.2.map rowD)), o3]) ⟨rfl, none, rfl⟩ ?_ ?_
    · rintro _ h' ⟨rfl, o3, rfl⟩
      exact ⟨by simp, by simp -implicitDefEqProofs; exact ⟨rfl, rfl⟩⟩
    · rintro i _ h' hi ⟨rfl, o3, rfl⟩
      obtain ⟨r, et⟩ : ∃ r, s.2[i]? = some r := ⟨_, List.getElem?_eq_getElem hi⟩
      refine ⟨rowD r, _, _, by simp [et], rfl, ?_⟩
      have t0 : oGet (rowD r) (.int 0) h' = some (linD r.1, h') := by simp [rowD]
      have t1 : oGet (rowD r) (.int 1) h' = some (.bl r.2, h') := by simp [rowD]
      have tt : tyD h' (rowD r) = some "tuple" := rfl
      have tb : tyD h' (.bl r.2) = some "bool" := rfl
      have tl : bLen [rowD r] h' = some (.int 2, h') := rfl
      have l1 := L r (List.mem_of_getElem? et)
      simp -implicitDefEqProofs [t0, t1, tt, tb, tl, l1, subT]
      exact ⟨rfl, _, rfl⟩
  obtain ⟨_, _, e, rfl, rfl⟩ := w.ex
  exact e
theorem need_system_eq {s : Sys} (ok : okS s) : F_need_system [sysD s] h = .ok .non h := by
  unfold F_need_system
  have e1 := is_system_eq (h := h) ok
  generalize F_is_system = gf at e1
  simp -implicitDefEqProofs [mFn, m_need_system, e1]
/-! ### keeps -/
/-- a thing asked of keeps -/
inductive PtD (h : Hh) : D → Prop
  | other {d : D} {t : String} : tyD h d = some t → t ≠ "tuple" → PtD h d
  | tup {xs : List D} : xs.length < 1000000 → (∀ x ∈ xs, PartD h x) → PtD h (.tup xs)
def stepV (ps : List Rt) (v : Int × Int) (t : Trm) : Int × Int := let p := ps.getD t.1.toNat (0, 1); (v.1 * p.2 + t.2 * p.1 * v.2, v.2 * p.2)
/-- the value at a point, not cut -/
def valV (l : Lin) (ps : List Rt) : Int × Int := l.2.foldl (stepV ps) (l.1, 1)
def rowKept (ps : List Rt) (r : Row) : Prop := 0 ≤ (valV r.1 ps).1 ∧ (r.2 = true → (valV r.1 ps).1 = 0)
instance (ps : List Rt) (r : Row) : Decidable (rowKept ps r) := by unfold rowKept; infer_instance
structure Kept (s : Sys) (d : D) (ps : List Rt) : Prop where
  e : d = .tup (ps.map ratD)
  n : (ps.length : Int) = s.1
  r : ∀ p ∈ ps, isRat p
  k : ∀ r ∈ s.2, rowKept ps r
def KeptP (s : Sys) (d : D) : Prop := ∃ ps, Kept s d ps
def bdP (ps : List Rt) : Prop := ∀ p ∈ ps, lt2 200 p.1 ∧ lt2 200 p.2
theorem PtD.bd {ps : List Rt} (P : PtD h (.tup (ps.map ratD))) : bdP ps := by
  intro p hp
  generalize e : D.tup (ps.map ratD) = d at P
  cases P with
  | other t n => subst e; simp [tyD] at t; exact absurd t.symm n
  | tup l P =>
    cases e
    have := P (ratD p) (List.mem_map.mpr ⟨p, hp, rfl⟩)
    unfold ratD at this
    generalize e : D.tup [D.int p.1, D.int p.2] = d at this
    cases this with
    | other t n => subst e; simp [tyD] at t; exact absurd t.symm n
    | len n => cases e; simp at n
    | pair t1 t2 b1 b2 => cases e; exact ⟨b1 _ rfl, b2 _ rfl⟩
end
end K64
namespace K64
open PySem PySem.Spec L2 PI
open PyProof.Rows hiding St
/-! ### the value of a line at a point -/
section
variable {h : Hh}
theorem step_eq {a b p1 p2 c t1 t2 : Int} (e : t1 * b = a * t2) : (t1 * p2 + c * p1 * t2) * (b * p2) = (a * p2 + c * p1 * b) * (t2 * p2) := by
  have e1 : (t1 * p2 + c * p1 * t2) * (b * p2) = (t1 * b) * (p2 * p2) + c * p1 * t2 * b * p2 := by
    simp only [Int.add_mul]
    ac_rfl
  have e2 : (a * p2 + c * p1 * b) * (t2 * p2) = (a * t2) * (p2 * p2) + c * p1 * t2 * b * p2 := by
    simp only [Int.add_mul]
    ac_rfl
  rw [e1, e2, e]
theorem cut_eq {x y g a b : Int} (g0 : 0 < g) (e : (x * g) * b = a * (y * g)) : x * b = a * y := by
  have : (x * b) * g = (a * y) * g := by
    calc (x * b) * g = (x * g) * b := by ac_rfl
      _ = a * (y * g) := e
      _ = (a * y) * g := by ac_rfl
  exact Int.eq_of_mul_eq_mul_right (by omega) this
structure VInv (ps : List Rt) (V : Int × Int) (i : Nat) (x y : Int) : Prop where
  y0 : 0 < y
  v0 : 0 < V.2
  e : x * V.2 = V.1 * y
  x1 : lt2 (200 + 401 * i) x
  y1 : lt2 (200 + 401 * i) y
  v1 : lt2 (200 + 401 * i) V.1
  v2 : lt2 (200 + 401 * i) V.2
theorem lt2_one {n : Nat} (h : 0 < n) : lt2 n 1 := by
  unfold lt2
  have : 2 ^ 1 ≤ 2 ^ n := Nat.pow_le_pow_right (by decide) h
  simp
  omega
structure Bds (i : Nat) (p : Rt) (t : Trm) (x y : Int) : Prop where
  a : mulOk x p.2 = true
  b : mulOk t.2 p.1 = true
  c : mulOk (t.2 * p.1) y = true
  d : mulOk y p.2 = true
  x1 : lt2 (200 + 401 * (i + 1)) (x * p.2 + t.2 * p.1 * y)
  y1 : lt2 (200 + 401 * (i + 1)) (y * p.2)
theorem bds {i : Nat} {p : Rt} {t : Trm} {x y : Int} (hi : i ≤ 8) (x1 : lt2 (200 + 401 * i) x) (y1 : lt2 (200 + 401 * i) y) (p1 : lt2 200 p.1) (p2 : lt2 200 p.2) (t2 : lt2 200 t.2) : Bds i p t x y :=
  ⟨x1.ok p2 (by omega), t2.ok p1 (by omega), (t2.mul p1).ok y1 (by omega), y1.ok p2 (by omega), ((x1.mul p2).add ((t2.mul p1).mul y1)).up (by omega), (y1.mul p2).up (by omega)⟩
theorem value_at_ok {c : Int} {l : Lin} {ps : List Rt} (ok : okL c l) (n : (ps.length : Int) = c) (hr : ∀ p ∈ ps, isRat p) (hb : bdP ps) :
    spec (F_value_at [linD l, .tup (ps.map ratD)] h) fun d h' => h' = h ∧ ∃ q : Rt, d = ratD q ∧ 0 < q.2 ∧ 0 < (valV l ps).2 ∧ q.1 * (valV l ps).2 = (valV l ps).1 * q.2 := by
  unfold F_value_at
  have L := fun t b hd => lowest_eq (h := h) t b hd
  generalize F_lowest = gl at L
  apply wO_fn
  have er : l.2.length < 1000000000 := by have := ok.n; omega
  simp -implicitDefEqProofs [m_value_at, linD, er]
  refine wS.loop (fun i ρ h' => h' = h ∧ ∃ x y o4 o5 o6, ρ = [some (linD l), some (.tup (ps.map ratD)), some (.int x), some (.int y), o4, o5, o6] ∧ VInv ps ((l.2.take i).foldl (stepV ps) (l.1, 1)) i x y) ⟨rfl, l.1, 1, none, none, none, rfl, ⟨Int.one_pos, Int.one_pos, by simp, ok.k, lt2_one (by omega), ok.k, lt2_one (by omega)⟩⟩ ?_ ?_
  · rintro _ h' ⟨rfl, x, y, o4, o5, o6, rfl, V⟩
    rw [List.take_length] at V
    refine ⟨by simp, ?_⟩
    simp -implicitDefEqProofs
    exact ⟨rfl, (x, y), rfl, V.y0, V.v0, V.e⟩
  · rintro i _ h' hi ⟨rfl, x, y, o4, o5, o6, rfl, V⟩
    obtain ⟨t, et⟩ : ∃ t, l.2[i]? = some t := ⟨_, List.getElem?_eq_getElem hi⟩
    obtain ⟨⟨t0, t1⟩, nz, tb⟩ := ok.t t (List.mem_of_getElem? et)
    refine ⟨termD t, _, _, by simp [et], rfl, ?_⟩
    obtain ⟨p, ep⟩ : ∃ p, ps[t.1.toNat]? = some p := ⟨_, List.getElem?_eq_getElem (by omega)⟩
    have pm := List.mem_of_getElem? ep
    have eg : ps.getD t.1.toNat (0, 1) = p := by simp [ep]
    have ap : atI (ps.map ratD) t.1 = some (ratD p) := by
      have := atI_of (map_at (f := ratD) ep)
      rw [Int.toNat_of_nonneg t0] at this
      exact this
    have B := bds (p := p) (t := t) (by have := ok.n; omega) V.x1 V.y1 (hb p pm).1 (hb p pm).2 tb
    have BV := bds (p := p) (t := t) (by have := ok.n; omega) V.v1 V.v2 (hb p pm).1 (hb p pm).2 tb
    have p2 : 0 < p.2 := by have := (hr p pm).1; omega
    have b0 : 0 < y * p.2 := Int.mul_pos V.y0 p2
    have Lq := L (x * p.2 + t.2 * p.1 * y) (y * p.2) (divG (by omega) B.y1 (by have := ok.n; omega))
    have g0 : oGet (ratD p) (.int 0) h' = some (.int p.1, h') := by simp [ratD]
    have g1 : oGet (ratD p) (.int 1) h' = some (.int p.2, h') := by simp [ratD]
    simp -implicitDefEqProofs [termD, ap, g0, g1, B.a, B.b, B.c, B.d, Lq]
    have lb := low_bd B.x1 B.y1
    obtain ⟨g, gp, cx, cy⟩ := low_cut (t := x * p.2 + t.2 * p.1 * y) b0
    generalize low (x * p.2 + t.2 * p.1 * y) (y * p.2) = q at lb cx cy ⊢
    simp -implicitDefEqProofs [ratD]
    refine ⟨rfl, _, _, _, _, _, rfl, ?_⟩
    rw [take_succ et, List.foldl_append]
    have es : ∀ W : Int × Int, [t].foldl (stepV ps) W = (W.1 * p.2 + t.2 * p.1 * W.2, W.2 * p.2) := fun W => by simp [stepV, ep]
    rw [es]
    refine ⟨?_, Int.mul_pos V.v0 p2, ?_, lb.1, lb.2, BV.x1, BV.y1⟩
    · by_cases z : 0 < q.2
      · exact z
      · have : q.2 * g ≤ 0 := Int.mul_nonpos_of_nonpos_of_nonneg (by omega) (by omega)
        omega
    · refine cut_eq gp ?_
      rw [← cx, ← cy]
      exact step_eq V.e
theorem law_value_ok {c : Int} {l : Lin} {ps : List Rt} (ok : okL c l) (n : (ps.length : Int) = c) (hb : bdP ps) :
    spec (F__law_value [linD l, .tup (ps.map ratD)] h) fun d h' => h' = h ∧ d = ratD (valV l ps) := by
  unfold F__law_value
  apply wO_fn
  have er : l.2.length < 1000000000 := by have := ok.n; omega
  simp -implicitDefEqProofs [m__law_value, linD, er]
  refine wS.loop (fun i ρ h' => h' = h ∧ ∃ V o4 o5, ρ = [some (linD l), some (.tup (ps.map ratD)), some (.int V.1), some (.int V.2), o4, o5] ∧ V = (l.2.take i).foldl (stepV ps) (l.1, 1) ∧ lt2 (200 + 401 * i) V.1 ∧ lt2 (200 + 401 * i) V.2) ⟨rfl, (l.1, 1), none, none, rfl, rfl, ok.k, lt2_one (by omega)⟩ ?_ ?_
  · rintro _ h' ⟨rfl, V, o4, o5, rfl, e, _⟩
    rw [List.take_length] at e
    refine ⟨by simp, ?_⟩
    simp -implicitDefEqProofs
    exact ⟨rfl, by rw [e]; rfl⟩
  · rintro i _ h' hi ⟨rfl, V, o4, o5, rfl, e, v1, v2⟩
    obtain ⟨t, et⟩ : ∃ t, l.2[i]? = some t := ⟨_, List.getElem?_eq_getElem hi⟩
    obtain ⟨⟨t0, t1⟩, nz, tb⟩ := ok.t t (List.mem_of_getElem? et)
    refine ⟨termD t, _, _, by simp [et], rfl, ?_⟩
    obtain ⟨p, ep⟩ : ∃ p, ps[t.1.toNat]? = some p := ⟨_, List.getElem?_eq_getElem (by omega)⟩
    have pm := List.mem_of_getElem? ep
    have ap : atI (ps.map ratD) t.1 = some (ratD p) := by
      have := atI_of (map_at (f := ratD) ep)
      rw [Int.toNat_of_nonneg t0] at this
      exact this
    have B := bds (p := p) (t := t) (by have := ok.n; omega) v1 v2 (hb p pm).1 (hb p pm).2 tb
    have g0 : oGet (ratD p) (.int 0) h' = some (.int p.1, h') := by simp [ratD]
    have g1 : oGet (ratD p) (.int 1) h' = some (.int p.2, h') := by simp [ratD]
    simp -implicitDefEqProofs [termD, ap, g0, g1, B.a, B.b, B.c, B.d]
    refine ⟨rfl, (V.1 * p.2 + t.2 * p.1 * V.2, V.2 * p.2), _, _, rfl, ?_, B.x1, B.y1⟩
    rw [take_succ et, List.foldl_append, ← e]
    simp [stepV, ep]
end
end K64
namespace K64
open PySem PySem.Spec L2 PI
open PyProof.Rows hiding St
section
variable {h h1 : Hh}
theorem tyD_ext {d : D} {t : String} (E : Ext noS h h1) (e : tyD h d = some t) : tyD h1 d = some t := by
  cases d with
  | ref i =>
    cases q : h[i]? with
    | none => simp [tyD, q] at e
    | some o =>
      have := E.get q
      simp only [tyD, q, this] at e ⊢
      exact e
  | _ => exact e
theorem PartD.ext {d : D} (P : PartD h d) (E : Ext noS h h1) : PartD h1 d := by
  cases P with
  | other e n => exact .other (tyD_ext E e) n
  | len n => exact .len n
  | pair e1 e2 b1 b2 => exact .pair (tyD_ext E e1) (tyD_ext E e2) b1 b2
theorem PtD.ext {d : D} (P : PtD h d) (E : Ext noS h h1) : PtD h1 d := by
  cases P with
  | other e n => exact .other (tyD_ext E e) n
  | tup l p => exact .tup l fun x hx => (p x hx).ext E
theorem sgn {a b x y : Int} (hx : 0 < x) (hy : 0 < y) (e : a * x = b * y) : (a < 0 ↔ b < 0) ∧ (a = 0 ↔ b = 0) := by
  have p1 : ∀ {a x : Int}, 0 < x → (a < 0 ↔ a * x < 0) := fun {a x} h => by
    constructor
    · intro z; exact Int.mul_neg_of_neg_of_pos z h
    · intro z
      by_cases y : a < 0
      · exact y
      · have := Int.mul_nonneg (show 0 ≤ a by omega) (show 0 ≤ x by omega)
        omega
  have p2 : ∀ {a x : Int}, 0 < x → (a = 0 ↔ a * x = 0) := fun {a x} h => by
    constructor
    · intro z; rw [z, Int.zero_mul]
    · intro z
      rcases Int.mul_eq_zero.mp z with z | z
      · exact z
      · omega
  exact ⟨(p1 hx).trans (e ▸ (p1 hy).symm), (p2 hx).trans (e ▸ (p2 hy).symm)⟩
theorem keeps_rows_ok {s : Sys} {ps : List Rt} (ok : okS s) (n : (ps.length : Int) = s.1) (hr : ∀ p ∈ ps, isRat p) (hb : bdP ps) :
    spec (F_keeps_rows [.tup (s.2.map rowD), .tup (ps.map ratD)] h) fun d h' => h' = h ∧ ∃ b, d = .bl b ∧ (b = true ↔ ∀ r ∈ s.2, rowKept ps r) := by
  unfold F_keeps_rows
  have v := fun {l : Lin} (k : okL s.1 l) => value_at_ok (h := h) k n hr hb
  generalize F_value_at = gv at v
  apply wO_fn
  have er : s.2.length < 1000000000 := by have := ok.n; omega
  simp -implicitDefEqProofs [m_keeps_rows, er]
  refine wS.loop (fun i ρ h' => h' = h ∧ ∃ o2 o3 o4, ρ = [some (.tup (s.2.map rowD)), some (.tup (ps.map ratD)), o2, o3, o4] ∧ ∀ r ∈ s.2.take i, rowKept ps r) ⟨rfl, none, none, none, rfl, by simp⟩ ?_ ?_
  · rintro _ h' ⟨rfl, o2, o3, o4, rfl, k⟩
    rw [List.take_length] at k
    refine ⟨by simp, ?_⟩
    simp -implicitDefEqProofs
    exact ⟨rfl, true, rfl, fun _ => k, fun _ => rfl⟩
  · rintro i _ h' hi ⟨rfl, o2, o3, o4, rfl, k⟩
    obtain ⟨r, et⟩ : ∃ r, s.2[i]? = some r := ⟨_, List.getElem?_eq_getElem hi⟩
    have rm := List.mem_of_getElem? et
    refine ⟨rowD r, _, _, by simp [et], rfl, ?_⟩
    simp -implicitDefEqProofs [rowD]
    refine wS.bind (v (ok.r r rm)) ?_
    rintro _ h2 ⟨rfl, q, rfl, q2, v2, e⟩
    obtain ⟨s1, s2⟩ := sgn v2 q2 e
    simp -implicitDefEqProofs [ratD]
    by_cases c1 : q.1 < 0
    · simp -implicitDefEqProofs [c1]
      refine ⟨rfl, false, rfl, fun z => (by cases z), fun z => ?_⟩
      have := (z r rm).1
      have := s1.mp c1
      omega
    · by_cases c2 : r.2 = true ∧ q.1 ≠ 0
      · simp -implicitDefEqProofs [c1, c2.1, c2.2]
        refine ⟨rfl, false, rfl, fun z => (by cases z), fun z => ?_⟩
        have := (z r rm).2 c2.1
        exact absurd (s2.mpr this) c2.2
      · have g : rowKept ps r := ⟨by have := fun z => c1 (s1.mpr z); omega, fun z => s2.mp (by
          by_cases y : q.1 = 0
          · exact y
          · exact absurd ⟨z, y⟩ c2)⟩
        have fin : ∀ r' ∈ s.2.take (i + 1), rowKept ps r' := fun r' hr' => by
          rw [take_succ et] at hr'
          rcases List.mem_append.mp hr' with z | z
          · exact k r' z
          · simp at z; subst z; exact g
        cases r2 : r.2 with
        | false =>
          simp -implicitDefEqProofs [c1, r2]
          exact ⟨rfl, _, _, _, rfl, fin⟩
        | true =>
          have c3 : q.1 = 0 := by
            by_cases y : q.1 = 0
            · exact y
            · exact absurd ⟨r2, y⟩ c2
          simp -implicitDefEqProofs [c1, r2, c3]
          exact ⟨rfl, _, _, _, rfl, fin⟩
theorem rats_of {xs : List D} (a : ∀ x ∈ xs, ratB x = true) : ∃ ps : List Rt, xs = ps.map ratD ∧ ∀ p ∈ ps, isRat p := by
  induction xs with
  | nil => exact ⟨[], rfl, by simp⟩
  | cons x xs ih =>
    obtain ⟨p, rfl, hp⟩ := ratB_of (a x List.mem_cons_self)
    obtain ⟨ps, rfl, hps⟩ := ih fun y hy => a y (List.mem_cons_of_mem _ hy)
    exact ⟨p :: ps, rfl, fun y hy => by
      rcases List.mem_cons.mp hy with rfl | hy
      · exact hp
      · exact hps y hy⟩
def IsPt (c : Int) (d : D) : Prop := ∃ ps : List Rt, d = .tup (ps.map ratD) ∧ (ps.length : Int) = c ∧ ∀ p ∈ ps, isRat p
theorem ratD_inj {ps qs : List Rt} (e : ps.map ratD = qs.map ratD) : ps = qs := (List.map_inj_right fun a b e => by
  unfold ratD at e
  simp at e
  exact Prod.ext e.1 e.2).mp e
theorem is_point_ok {c : Int} {d : D} (P : PtD h d) : spec (F_is_point [.int c, d] h) fun r h' => ∃ b, r = .bl b ∧ (b = true ↔ IsPt c d) ∧ Ext noS h h' := by
  unfold F_is_point
  have R := fun {h : Hh} {d : D} (P : PartD h d) => is_ratio_d P
  generalize F_is_ratio = gr at R
  apply wO_fn
  cases P with
  | other e n =>
    simp -implicitDefEqProofs [m_is_point, e, ty_ne n]
    refine ⟨false, rfl, ⟨fun z => (by cases z), ?_⟩, .refl⟩
    rintro ⟨ps, rfl, _⟩
    simp [tyD] at e
    exact absurd e.symm n
  | @tup xs l p =>
    by_cases n : (xs.length : Int) = c
    · simp -implicitDefEqProofs [m_is_point, ty_tup, subT, n]
      refine wS.bind (spec.lct (R := fun d h' => d = .ref h.length ∧ h' = h ++ [.lst ((xs.map ratB).map D.bl)]) (xs := xs) (enc := fun d => d) (fun d => some (.bl (ratB d))) rfl (lt_sl l) (fun acc i => by simp) (fun x hx acc => ?_) ⟨rfl, by rw [List.map_map, ← List.filterMap_eq_map]; rfl⟩) ?_
      · refine ⟨_, rfl, ?_⟩
        simp -implicitDefEqProofs [wipeR, R ((p x hx).ext (h1 := h ++ [.lst acc]) .push)]
      · rintro _ _ ⟨rfl, rfl⟩
        have ea := bAll_ok (h := h ++ [.lst ((xs.map ratB).map D.bl)]) (r := h.length) (xs := xs.map ratB) push_new
        generalize (xs.map ratB).map D.bl = L at ea
        simp -implicitDefEqProofs [ea]
        refine ⟨(xs.map ratB).all id, by simp, ⟨fun z => ?_, ?_⟩, .push⟩
        · obtain ⟨ps, rfl, hp⟩ := rats_of (xs := xs) fun x hx => by simpa using List.all_eq_true.mp z (ratB x) (List.mem_map.mpr ⟨x, hx, rfl⟩)
          exact ⟨ps, rfl, by simpa using n, hp⟩
        · rintro ⟨ps, e, _, hp⟩
          cases e
          rw [List.all_eq_true]
          intro b hb
          obtain ⟨x, hx, rfl⟩ := List.mem_map.mp hb
          obtain ⟨q, hq, rfl⟩ := List.mem_map.mp hx
          simpa [ratB_rat] using hp q hq
    · simp -implicitDefEqProofs [m_is_point, ty_tup, subT, n]
      refine ⟨false, rfl, ⟨fun z => (by cases z), ?_⟩, .refl⟩
      rintro ⟨ps, e, n', _⟩
      cases e
      simp at n
      exact absurd n' n
end
end K64
namespace K64
open PySem PySem.Spec L2 PI
open PyProof.Rows hiding St
section
variable {h h1 : Hh}
theorem kept_iff {s : Sys} {ps : List Rt} (n : (ps.length : Int) = s.1) (hr : ∀ p ∈ ps, isRat p) : KeptP s (.tup (ps.map ratD)) ↔ ∀ r ∈ s.2, rowKept ps r := by
  constructor
  · rintro ⟨qs, K⟩
    have e := K.e
    simp only [D.tup.injEq] at e
    have := ratD_inj e
    subst this
    exact K.k
  · exact fun k => ⟨ps, rfl, n, hr, k⟩
theorem kept_pt {s : Sys} {d : D} (k : KeptP s d) : IsPt s.1 d := by
  obtain ⟨ps, K⟩ := k
  exact ⟨ps, K.e, K.n, K.r⟩
theorem keeps_ok {s : Sys} {d : D} (ok : okS s) (P : PtD h d) : spec (F_keeps [sysD s, d] h) fun r h' => ∃ b, r = .bl b ∧ (b = true ↔ KeptP s d) ∧ Ext noS h h' := by
  unfold F_keeps
  have ns := need_system_eq (h := h) ok
  generalize F_need_system = gn at ns
  have pt := is_point_ok (h := h) (c := s.1) P
  generalize F_is_point = gp at pt
  have kr := fun {h : Hh} {ps : List Rt} n hr hb => keeps_rows_ok (h := h) (s := s) (ps := ps) ok n hr hb
  generalize F_keeps_rows = gk at kr
  apply wO_fn
  have g0 : ∀ h, oGet (sysD s) (.int 0) h = some (.int s.1, h) := fun h => by simp [sysD]
  have g1 : ∀ h, oGet (sysD s) (.int 1) h = some (.tup (s.2.map rowD), h) := fun h => by simp [sysD]
  simp -implicitDefEqProofs [m_keeps, ns, g0, g1]
  refine wS.bind (pt) ?_
  rintro _ h2 ⟨b, rfl, hb, E2⟩
  cases b with
  | false =>
    simp -implicitDefEqProofs
    exact ⟨false, rfl, ⟨fun z => (by cases z), fun k => hb.mpr (kept_pt k)⟩, E2⟩
  | true =>
    obtain ⟨ps, rfl, n, hr⟩ := hb.mp rfl
    simp -implicitDefEqProofs [g1]
    refine wS.bind (kr n hr P.bd) ?_
    rintro _ h3 ⟨rfl, b, rfl, hk⟩
    simp -implicitDefEqProofs
    exact ⟨b, rfl, hk.trans (kept_iff n hr).symm, E2⟩
theorem law_keeps_ok {s : Sys} {d : D} (ok : okS s) (P : PtD h d) : spec (F__law_keeps [sysD s, d] h) fun r h' => ∃ b, r = .bl b ∧ (b = true ↔ KeptP s d) ∧ h' = h := by
  unfold F__law_keeps
  have R := fun {d : D} (P : PartD h d) => law_ratio_d P
  generalize F__law_ratio = gr at R
  have v := fun {l : Lin} {ps : List Rt} (k : okL s.1 l) n hb => law_value_ok (h := h) (ps := ps) k n hb
  generalize F__law_value = gv at v
  apply wO_fn
  have g0 : oGet (sysD s) (.int 0) h = some (.int s.1, h) := by simp [sysD]
  have g1 : oGet (sysD s) (.int 1) h = some (.tup (s.2.map rowD), h) := by simp [sysD]
  cases P with
  | other e n =>
    simp -implicitDefEqProofs [m__law_keeps, e, ty_ne n]
    refine ⟨false, rfl, ⟨fun z => (by cases z), fun k => ?_⟩, rfl⟩
    obtain ⟨ps, rfl, _⟩ := kept_pt k
    simp [tyD] at e
    exact absurd e.symm n
  | @tup xs l p =>
    have P0 : PtD h (.tup xs) := .tup l p
    by_cases n : (xs.length : Int) = s.1
    · have er : s.2.length < 1000000000 := by have := ok.n; omega
      have er2 : xs.length < 1000000000 := by omega
      simp -implicitDefEqProofs [m__law_keeps, ty_tup, subT, n, g0, g1, er2]
      refine wS.loop (fun i ρ h' => h' = h ∧ ∃ o2, ρ = [some (sysD s), some (.tup xs), o2, none, none, none] ∧ ∀ x ∈ xs.take i, ratB x = true) ⟨rfl, none, rfl, by simp⟩ ?_ ?_
      · rintro _ h' ⟨rfl, o2, rfl, k⟩
        rw [List.take_length] at k
        refine ⟨by simp, ?_⟩
        obtain ⟨ps, rfl, hr⟩ := rats_of k
        have n' : (ps.length : Int) = s.1 := by simpa using n
        have hb := P0.bd
        simp -implicitDefEqProofs [g1, er]
        refine wS.loop (fun i ρ h1 => h1 = h' ∧ ∃ o3 o4 o5, ρ = [some (sysD s), some (.tup (ps.map ratD)), o2, o3, o4, o5] ∧ ∀ r ∈ s.2.take i, rowKept ps r) ⟨rfl, none, none, none, rfl, by simp⟩ ?_ ?_
        · rintro _ h1 ⟨rfl, o3, o4, o5, rfl, k⟩
          rw [List.take_length] at k
          refine ⟨by simp, ?_⟩
          simp -implicitDefEqProofs
          exact ⟨true, rfl, ⟨fun _ => (kept_iff n' hr).mpr k, fun _ => rfl⟩, rfl⟩
        · rintro i _ h1 hi ⟨rfl, o3, o4, o5, rfl, k⟩
          obtain ⟨r, et⟩ : ∃ r, s.2[i]? = some r := ⟨_, List.getElem?_eq_getElem hi⟩
          have rm := List.mem_of_getElem? et
          refine ⟨rowD r, _, _, by simp [et], rfl, ?_⟩
          simp -implicitDefEqProofs [rowD]
          refine wS.bind (v (ok.r r rm) n' hb) ?_
          rintro _ h2 ⟨rfl, rfl⟩
          simp -implicitDefEqProofs [ratD]
          have bad : ¬ rowKept ps r → ¬ KeptP s (.tup (ps.map ratD)) := fun z y => z ((kept_iff n' hr).mp y r rm)
          have fin : rowKept ps r → ∀ r' ∈ s.2.take (i + 1), rowKept ps r' := fun g r' hr' => by
            rw [take_succ et] at hr'
            rcases List.mem_append.mp hr' with z | z
            · exact k r' z
            · simp at z; subst z; exact g
          generalize hV : valV r.1 ps = V at *
          by_cases c1 : V.1 < 0
          · simp -implicitDefEqProofs [c1]
            exact ⟨false, rfl, ⟨fun z => (by cases z), fun z => absurd z (bad fun y => by have := y.1; rw [hV] at this; omega)⟩, rfl⟩
          · cases r2 : r.2 with
            | false =>
              simp -implicitDefEqProofs [c1, r2]
              exact ⟨rfl, _, _, _, rfl, fin ⟨by rw [hV]; omega, fun z => by rw [r2] at z; cases z⟩⟩
            | true =>
              by_cases c3 : V.1 = 0
              · simp -implicitDefEqProofs [c1, r2, c3]
                exact ⟨rfl, _, _, _, rfl, fin ⟨by rw [hV]; omega, fun _ => by rw [hV]; exact c3⟩⟩
              · simp -implicitDefEqProofs [c1, r2, c3]
                exact ⟨false, rfl, ⟨fun z => (by cases z), fun z => absurd z (bad fun y => by have := y.2 r2; rw [hV] at this; exact c3 this)⟩, rfl⟩
      · rintro i _ h' hi ⟨rfl, o2, rfl, k⟩
        obtain ⟨x, et⟩ : ∃ x, xs[i]? = some x := ⟨_, List.getElem?_eq_getElem hi⟩
        have xm := List.mem_of_getElem? et
        refine ⟨x, _, _, by simp [et], rfl, ?_⟩
        have rx := R (p x xm)
        cases r1 : ratB x with
        | true =>
          rw [r1] at rx
          simp -implicitDefEqProofs [rx]
          refine ⟨rfl, _, rfl, fun y hy => ?_⟩
          rw [take_succ et] at hy
          rcases List.mem_append.mp hy with z | z
          · exact k y z
          · simp at z; subst z; exact r1
        | false =>
          rw [r1] at rx
          simp -implicitDefEqProofs [rx]
          refine ⟨false, rfl, ⟨fun z => (by cases z), fun z => ?_⟩, rfl⟩
          obtain ⟨ps, e, _, hr⟩ := kept_pt z
          cases e
          obtain ⟨q, hq, rfl⟩ := List.mem_map.mp xm
          rw [ratB_rat, decide_eq_true (hr q hq)] at r1
          cases r1
    · simp -implicitDefEqProofs [m__law_keeps, ty_tup, subT, n, g0]
      refine ⟨false, rfl, ⟨fun z => (by cases z), fun k => ?_⟩, rfl⟩
      obtain ⟨ps, e, n', _⟩ := kept_pt k
      cases e
      simp at n
      exact absurd n' n
theorem law_truth_eq {a b : Bool} : F__law_truth [.bl a, .bl b] h = .ok (.bl (a == b)) h := by
  have t : tyD h (.bl a) = some "bool" := rfl
  have e : oEq (.bl a) (.bl b) h = some (.bl (a == b), h) := rfl
  simp -implicitDefEqProofs [F__law_truth, mFn, m__law_truth, t, subT, e]
end
end K64
namespace K64
open PySem PySem.Spec L2 PI
open PyProof.Rows hiding St
/-! ### multipliers -/
@[simp] theorem miEnumA_ap {a : ME} {ρ : Rho} {h : Hh} : miEnumA a ρ h = (a ρ h).bind fun d h1 => if (isLs d h1 || isTs d) = true then .ok (jEnum d (srcLen d h1)) h1 else .bad := rfl
@[simp] theorem jEnum_most {d : D} {n : Nat} : (jEnum d n).most = n := rfl
theorem jEnum_tup {xs : List D} {n i : Nat} {h : Hh} : (jEnum (.tup xs) n).at_ i h = some ((xs[i]?).map fun x => .tup [.int (i : Nat), x]) := rfl
inductive MulD (h : Hh) : D → Prop
  | other {d : D} {t : String} : tyD h d = some t → t ≠ "tuple" → MulD h d
  | tup {xs : List D} : xs.length < 1000000 → (∀ x ∈ xs, (∃ t, tyD h x = some t) ∧ ∀ i, x = .int i → lt2 200 i) → MulD h (.tup xs)
def SgOk (rows : List Row) (ms : List Int) : Prop := ∀ (i : Nat) (r : Row) (m : Int), rows[i]? = some r → ms[i]? = some m → m < 0 → r.2 = true
def IsMul (rows : List Row) (d : D) : Prop := ∃ ms : List Int, d = .tup (ms.map D.int) ∧ ms.length = rows.length ∧ SgOk rows ms
/-- the first i entries are right -/
def Good (rows : List Row) (xs : List D) (i : Nat) : Prop := ∀ (j : Nat) (x : D) (r : Row), j < i → xs[j]? = some x → rows[j]? = some r → ∃ m : Int, x = .int m ∧ (m < 0 → r.2 = true)
section
variable {h h1 : Hh}
theorem MulD.ext {d : D} (P : MulD h d) (E : Ext noS h h1) : MulD h1 d := by
  cases P with
  | other e n => exact .other (tyD_ext E e) n
  | tup l p => exact .tup l fun x hx => let ⟨⟨t, e⟩, b⟩ := p x hx; ⟨⟨t, tyD_ext E e⟩, b⟩
theorem MulD.bd {ms : List Int} (P : MulD h (.tup (ms.map D.int))) : ∀ m ∈ ms, lt2 200 m := by
  intro m hm
  generalize e : D.tup (ms.map D.int) = d at P
  cases P with
  | other t n => subst e; simp [tyD] at t; exact absurd t.symm n
  | tup l p => cases e; exact (p (.int m) (List.mem_map.mpr ⟨m, hm, rfl⟩)).2 m rfl
theorem good_all {rows : List Row} {xs : List D} (l : xs.length = rows.length) (g : Good rows xs xs.length) : IsMul rows (.tup xs) := by
  have key : ∀ n, n ≤ xs.length → ∃ ms : List Int, xs.take n = ms.map D.int ∧ ms.length = n ∧ ∀ (i : Nat) (r : Row) (m : Int), rows[i]? = some r → ms[i]? = some m → m < 0 → r.2 = true := by
    intro n
    induction n with
    | zero => intro _; exact ⟨[], by simp, rfl, by simp⟩
    | succ n ih =>
      intro hn
      obtain ⟨ms, e, lm, s⟩ := ih (by omega)
      have ex : xs[n]? = some xs[n] := List.getElem?_eq_getElem (by omega)
      have er : rows[n]? = some rows[n] := List.getElem?_eq_getElem (by omega)
      obtain ⟨m, em, sm⟩ := g n _ _ (by omega) ex er
      refine ⟨ms ++ [m], by rw [take_succ ex, e, em]; simp, by simp [lm], fun i r k hr hk k0 => ?_⟩
      by_cases z : i < ms.length
      · rw [List.getElem?_append_left z] at hk
        exact s i r k hr hk k0
      · have : i = n := by
          have := (List.getElem?_eq_some_iff.mp hk).1
          simp at this
          omega
        subst this
        rw [← lm] at hk
        simp at hk
        subst hk
        rw [er] at hr
        cases hr
        exact sm k0
  obtain ⟨ms, e, lm, s⟩ := key xs.length (Nat.le_refl _)
  rw [List.take_length] at e
  exact ⟨ms, by rw [e], by omega, s⟩
theorem mul_good {rows : List Row} {xs : List D} (k : IsMul rows (.tup xs)) : xs.length = rows.length ∧ ∀ i, Good rows xs i := by
  obtain ⟨ms, e, l, s⟩ := k
  cases e
  refine ⟨by simpa using l, fun i j x r _ hx hr => ?_⟩
  rw [List.getElem?_map] at hx
  cases em : ms[j]? with
  | none => rw [em] at hx; cases hx
  | some m =>
    rw [em] at hx
    cases hx
    exact ⟨m, rfl, s j r m hr em⟩
theorem good_step {rows : List Row} {xs : List D} {i : Nat} {m : Int} {r : Row} (g : Good rows xs i) (ex : xs[i]? = some (.int m)) (er : rows[i]? = some r) (k : m < 0 → r.2 = true) : Good rows xs (i + 1) := by
  intro j x r' hj hx hr
  by_cases z : j < i
  · exact g j x r' z hx hr
  · have : j = i := by omega
    subst this
    rw [ex] at hx
    rw [er] at hr
    cases hx
    cases hr
    exact ⟨m, rfl, k⟩
theorem mul_bad {rows : List Row} {xs : List D} {i : Nat} {x : D} {r : Row} (ex : xs[i]? = some x) (er : rows[i]? = some r) (n : ∀ m : Int, x = .int m → ¬ (m < 0 → r.2 = true)) : ¬ IsMul rows (.tup xs) := fun k => by
  obtain ⟨m, e, s⟩ := (mul_good k).2 (i + 1) i x r (by omega) ex er
  exact n m e s
theorem is_mul_ok {rows : List Row} {d : D} (hl : rows.length ≤ 12000) (P : MulD h d) : spec (F_is_multipliers [.tup (rows.map rowD), d] h) fun r h' => ∃ b, r = .bl b ∧ (b = true ↔ IsMul rows d) ∧ h' = h := by
  unfold F_is_multipliers
  have I : ∀ (d : D) (t : String), tyD h d = some t → F_is_int [d] h = .ok (.bl (isI d)) h := fun d t => is_int_d
  generalize F_is_int = gi at I
  apply wO_fn
  cases P with
  | other e n =>
    simp -implicitDefEqProofs [m_is_multipliers, e, ty_ne n]
    refine ⟨false, rfl, ⟨fun z => (by cases z), ?_⟩, rfl⟩
    rintro ⟨ms, rfl, _⟩
    simp [tyD] at e
    exact absurd e.symm n
  | @tup xs l p =>
    by_cases n : xs.length = rows.length
    · have n' : (xs.length : Int) = rows.length := by omega
      have ts : isTs (.tup xs) = true := rfl
      have sl : srcLen (.tup xs) h = xs.length := rfl
      have er : rows.length < 1000000000 := by omega
      simp -implicitDefEqProofs [m_is_multipliers, ty_tup, subT, n', ts, sl, n]
      refine wS.loop (fun i ρ h' => h' = h ∧ ∃ o2 o3, ρ = [some (.tup (rows.map rowD)), some (.tup xs), o2, o3] ∧ Good rows xs i) ⟨rfl, none, none, rfl, fun j _ _ hj => by omega⟩ ?_ ?_
      · rintro _ h' ⟨rfl, o2, o3, rfl, g⟩
        refine ⟨by rw [jEnum_tup]; simp [n], ?_⟩
        simp -implicitDefEqProofs
        exact ⟨true, rfl, ⟨fun _ => good_all n (n ▸ g), fun _ => rfl⟩, rfl⟩
      · rintro i _ h' hi ⟨rfl, o2, o3, rfl, g⟩
        obtain ⟨x, ex⟩ : ∃ x, xs[i]? = some x := ⟨_, List.getElem?_eq_getElem (by omega)⟩
        obtain ⟨r, er'⟩ : ∃ r, rows[i]? = some r := ⟨_, List.getElem?_eq_getElem hi⟩
        refine ⟨.tup [.int i, x], _, _, by rw [jEnum_tup, ex]; rfl, rfl, ?_⟩
        obtain ⟨⟨t, et⟩, b⟩ := p x (List.mem_of_getElem? ex)
        have ar : atI (rows.map rowD) (i : Int) = some (rowD r) := atI_of (map_at er')
        have r1 : oGet (rowD r) (.int 1) h' = some (.bl r.2, h') := by simp [rowD]
        cases i1 : isI x with
        | false =>
          simp -implicitDefEqProofs [I x t et, i1]
          exact ⟨false, rfl, ⟨fun z => (by cases z), fun z => absurd z (mul_bad ex er' fun m e => by subst e; cases i1)⟩, rfl⟩
        | true =>
          obtain ⟨m, rfl⟩ := isI_int i1
          by_cases m0 : m < 0
          · cases r2 : r.2 with
            | true =>
              simp -implicitDefEqProofs [I _ t et, i1, m0, ar, r1, r2]
              exact ⟨rfl, _, _, rfl, good_step g ex er' fun _ => r2⟩
            | false =>
              simp -implicitDefEqProofs [I _ t et, i1, m0, ar, r1, r2]
              exact ⟨false, rfl, ⟨fun z => (by cases z), fun z => absurd z (mul_bad ex er' fun k e y => by cases e; rw [r2] at y; cases y m0)⟩, rfl⟩
          · simp -implicitDefEqProofs [I _ t et, i1, m0]
            exact ⟨rfl, _, _, rfl, good_step g ex er' fun z => absurd z m0⟩
    · have n' : ¬ (xs.length : Int) = rows.length := by omega
      simp -implicitDefEqProofs [m_is_multipliers, ty_tup, subT, n']
      exact ⟨false, rfl, ⟨fun z => (by cases z), fun k => absurd (mul_good k).1 n⟩, rfl⟩
theorem law_mul_ok {rows : List Row} {d : D} (hl : rows.length ≤ 12000) (P : MulD h d) : spec (F__law_multipliers [.tup (rows.map rowD), d] h) fun r h' => ∃ b, r = .bl b ∧ (b = true ↔ IsMul rows d) ∧ h' = h := by
  unfold F__law_multipliers
  have I : ∀ (d : D) (t : String), tyD h d = some t → F__law_int [d] h = .ok (.bl (isI d)) h := fun d t => law_int_d
  generalize F__law_int = gi at I
  apply wO_fn
  cases P with
  | other e n =>
    simp -implicitDefEqProofs [m__law_multipliers, e, ty_ne n]
    refine ⟨false, rfl, ⟨fun z => (by cases z), ?_⟩, rfl⟩
    rintro ⟨ms, rfl, _⟩
    simp [tyD] at e
    exact absurd e.symm n
  | @tup xs l p =>
    by_cases n : xs.length = rows.length
    · have n' : (xs.length : Int) = rows.length := by omega
      have er : rows.length < 1000000000 := by omega
      simp -implicitDefEqProofs [m__law_multipliers, ty_tup, subT, n', er]
      refine wS.loop (fun i ρ h' => h' = h ∧ ∃ o2, ρ = [some (.tup (rows.map rowD)), some (.tup xs), o2] ∧ Good rows xs i) ⟨rfl, none, rfl, fun j _ _ hj => by omega⟩ ?_ ?_
      · rintro _ h' ⟨rfl, o2, rfl, g⟩
        refine ⟨jRng_end, ?_⟩
        simp -implicitDefEqProofs
        exact ⟨true, rfl, ⟨fun _ => good_all n (n ▸ g), fun _ => rfl⟩, rfl⟩
      · rintro i _ h' hi ⟨rfl, o2, rfl, g⟩
        obtain ⟨x, ex⟩ : ∃ x, xs[i]? = some x := ⟨_, List.getElem?_eq_getElem (by omega)⟩
        obtain ⟨r, er'⟩ : ∃ r, rows[i]? = some r := ⟨_, List.getElem?_eq_getElem hi⟩
        refine ⟨_, _, _, jRng_at hi, rfl, ?_⟩
        obtain ⟨⟨t, et⟩, b⟩ := p x (List.mem_of_getElem? ex)
        have ax : atI xs (i : Int) = some x := atI_of ex
        have ar : atI (rows.map rowD) (i : Int) = some (rowD r) := atI_of (map_at er')
        have r1 : oGet (rowD r) (.int 1) h' = some (.bl r.2, h') := by simp [rowD]
        cases i1 : isI x with
        | false =>
          simp -implicitDefEqProofs [ax, I x t et, i1]
          exact ⟨false, rfl, ⟨fun z => (by cases z), fun z => absurd z (mul_bad ex er' fun m e => by subst e; cases i1)⟩, rfl⟩
        | true =>
          obtain ⟨m, rfl⟩ := isI_int i1
          by_cases m0 : m < 0
          · cases r2 : r.2 with
            | true =>
              simp -implicitDefEqProofs [ax, I _ t et, i1, m0, ar, r1, r2]
              exact ⟨rfl, _, rfl, good_step g ex er' fun _ => r2⟩
            | false =>
              simp -implicitDefEqProofs [ax, I _ t et, i1, m0, ar, r1, r2]
              exact ⟨false, rfl, ⟨fun z => (by cases z), fun z => absurd z (mul_bad ex er' fun k e y => by cases e; rw [r2] at y; cases y m0)⟩, rfl⟩
          · simp -implicitDefEqProofs [ax, I _ t et, i1, m0]
            exact ⟨rfl, _, rfl, good_step g ex er' fun z => absurd z m0⟩
    · have n' : ¬ (xs.length : Int) = rows.length := by omega
      simp -implicitDefEqProofs [m__law_multipliers, ty_tup, subT, n']
      exact ⟨false, rfl, ⟨fun z => (by cases z), fun k => absurd (mul_good k).1 n⟩, rfl⟩
end
end K64
namespace K64
open PySem PySem.Spec L2 PI
open PyProof.Rows hiding St
/-! ### the rows summed -/
abbrev Zrow := Row × Int
def csZ (Z : List Zrow) : List (Int × Int) := Z.flatMap fun p => p.1.1.2.map fun t => (t.1, p.2 * t.2)
def cstZ (Z : List Zrow) : Int := (Z.map fun p => p.2 * p.1.1.1).sum
theorem csZ_snoc (Z : List Zrow) (p : Zrow) : csZ (Z ++ [p]) = csZ Z ++ p.1.1.2.map fun t => (t.1, p.2 * t.2) := by simp [csZ]
theorem cstZ_snoc (Z : List Zrow) (p : Zrow) : cstZ (Z ++ [p]) = cstZ Z + p.2 * p.1.1.1 := by simp [cstZ]
theorem csZ_len (Z : List Zrow) (l : ∀ p ∈ Z, p.1.1.2.length ≤ 8) : (csZ Z).length ≤ 8 * Z.length := by
  induction Z with
  | nil => simp [csZ]
  | cons p Z ih =>
    have h1 := l p List.mem_cons_self
    have h2 := ih fun q hq => l q (List.mem_cons_of_mem _ hq)
    simp [csZ] at h2 ⊢
    omega
theorem zip_at {α β : Type} {xs : List α} {ys : List β} {i : Nat} {x : α} {y : β} (hx : xs[i]? = some x) (hy : ys[i]? = some y) : (xs.zip ys)[i]? = some (x, y) := by
  rw [List.getElem?_zip_eq_some]
  exact ⟨hx, hy⟩
/-- rows and multipliers that may be summed -/
structure SumOk (c : Int) (rows : List Row) (ms : List Int) : Prop where
  n : rows.length ≤ 12000
  l : ms.length = rows.length
  r : ∀ r ∈ rows, okL c r.1
  m : ∀ m ∈ ms, lt2 200 m
section
variable {h h1 : Hh} {c : Int} {rows : List Row} {ms : List Int}
theorem SumOk.z (S : SumOk c rows ms) : ∀ p ∈ rows.zip ms, p.1.1.2.length ≤ 8 := fun p hp => (S.r p.1 (List.of_mem_zip hp).1).n
theorem SumOk.len (S : SumOk c rows ms) : (csZ (rows.zip ms)).length ≤ 96000 := by
  have h1 := csZ_len _ S.z
  have h2 : (rows.zip ms).length ≤ rows.length := by rw [List.length_zip]; omega
  have := S.n
  omega
theorem step_len (S : SumOk c rows ms) {i j : Nat} {p : Zrow} (e : (rows.zip ms)[i]? = some p) (cs : List (Int × Int)) (he : cs = csZ ((rows.zip ms).take i) ++ (p.1.1.2.take j).map fun t => (t.1, p.2 * t.2)) : (sumT cs).length < 1000000 := by
  have a := (sumT_ok cs).2.1
  have h1 := csZ_len ((rows.zip ms).take i) fun q hq => S.z q (List.mem_of_mem_take hq)
  have h2 : ((rows.zip ms).take i).length ≤ rows.length := by
    rw [List.length_take, List.length_zip]; omega
  have h3 := S.z p (List.mem_of_getElem? e)
  have h4 := S.n
  rw [he] at a
  simp only [List.length_append, List.length_map, List.length_take] at a
  rw [he]
  omega
theorem gathered_ok (S : SumOk c rows ms) : spec (F_gathered [.tup (rows.map rowD), .tup (ms.map D.int)] h) fun d h' => ∃ r, d = .tup [.int (cstZ (rows.zip ms)), .ref r] ∧ h'[r]? = some (.dct (tabK (sumT (csZ (rows.zip ms))))) ∧ Ext noS h h' ∧ h.length ≤ r := by
  unfold F_gathered
  apply wO_fn
  have zl : (rows.zip ms).length = rows.length := by rw [List.length_zip, S.l]; simp
  have ts : isTs (.tup (ms.map D.int)) = true := rfl
  have sl : srcLen (.tup (ms.map D.int)) (h ++ [Ob.dct []]) = rows.length := by
    show (ms.map D.int).length = _
    rw [List.length_map, S.l]
  have m0 : (h ++ [Ob.dct []])[h.length]? = some (.dct (tabK (sumT []))) := push_new
  have E0 : Ext noS h (h ++ [Ob.dct []]) := .push
  have rr : h.length ≤ h.length := Nat.le_refl _
  simp -implicitDefEqProofs [-List.append_assoc, -List.length_append, -List.cons_append, m_gathered]
  generalize hr : h.length = r at m0 rr ⊢
  generalize h ++ [Ob.dct []] = h0 at m0 E0 sl ⊢
  simp -implicitDefEqProofs [-List.append_assoc, -List.length_append, -List.cons_append, ts, sl]
  refine wS.loop (fun i ρ h' => ∃ o4 o5 o6 o7 o8, ρ = [some (.tup (rows.map rowD)), some (.tup (ms.map D.int)), some (.int (cstZ ((rows.zip ms).take i))), some (.ref r), o4, o5, o6, o7, o8] ∧ h'[r]? = some (.dct (tabK (sumT (csZ ((rows.zip ms).take i))))) ∧ Ext noS h h') ⟨none, none, none, none, none, by simp [cstZ], by simpa [csZ] using m0, E0⟩ ?_ ?_
  · rintro _ h' ⟨o4, o5, o6, o7, o8, rfl, e, E⟩
    rw [List.take_of_length_le (by omega)] at e ⊢
    refine ⟨by rw [jEnum_tup]; simp [S.l], ?_⟩
    simp -implicitDefEqProofs [-List.append_assoc, -List.length_append, -List.cons_append]
    exact ⟨r, rfl, e, E, by omega⟩
  · rintro i _ h' hi ⟨o4, o5, o6, o7, o8, rfl, e, E⟩
    obtain ⟨q, eq⟩ : ∃ q, rows[i]? = some q := ⟨_, List.getElem?_eq_getElem hi⟩
    obtain ⟨m, em⟩ : ∃ m, ms[i]? = some m := ⟨_, List.getElem?_eq_getElem (by rw [S.l]; exact hi)⟩
    have ez := zip_at eq em
    have ok := S.r q (List.mem_of_getElem? eq)
    have mb := S.m m (List.mem_of_getElem? em)
    have aq : atI (rows.map rowD) (i : Int) = some (rowD q) := atI_of (map_at eq)
    have q0 : ∀ h, oGet (rowD q) (.int 0) h = some (linD q.1, h) := fun h => by simp [rowD]
    have l0 : ∀ h, oGet (linD q.1) (.int 0) h = some (.int q.1.1, h) := fun h => by simp [linD]
    have l1 : ∀ h, oGet (linD q.1) (.int 1) h = some (.tup (q.1.2.map termD), h) := fun h => by simp [linD]
    have c1 := mb.ok ok.k (by omega)
    refine ⟨.tup [.int i, .int m], _, _, by rw [jEnum_tup, map_at em]; rfl, rfl, ?_⟩
    have er : q.1.2.length < 1000000000 := by have := ok.n; omega
    simp -implicitDefEqProofs [-List.append_assoc, -List.length_append, -List.cons_append, aq, q0, l0, l1, c1, er]
    refine wS.loop (fun j ρ h1 => ∃ o7 o8, ρ = [some (.tup (rows.map rowD)), some (.tup (ms.map D.int)), some (.int (cstZ ((rows.zip ms).take i) + m * q.1.1)), some (.ref r), some (.int i), some (.int m), some (linD q.1), o7, o8] ∧ h1[r]? = some (.dct (tabK (sumT (csZ ((rows.zip ms).take i) ++ (q.1.2.take j).map fun t => (t.1, m * t.2))))) ∧ Ext noS h h1) ⟨o7, o8, rfl, by simpa using e, E⟩ ?_ ?_
    · rintro _ h1 ⟨o7, o8, rfl, e1, E1⟩
      rw [List.take_length] at e1
      refine ⟨by simp, ?_⟩
      simp -implicitDefEqProofs [-List.append_assoc, -List.length_append, -List.cons_append]
      rw [take_succ ez, csZ_snoc, cstZ_snoc]
      exact ⟨_, _, _, _, _, rfl, e1, E1⟩
    · rintro j _ h1 hj ⟨o7, o8, rfl, e1, E1⟩
      obtain ⟨t, et⟩ : ∃ t, q.1.2[j]? = some t := ⟨_, List.getElem?_eq_getElem hj⟩
      refine ⟨termD t, _, _, by simp [et], rfl, ?_⟩
      have c2 := mb.ok (ok.t t (List.mem_of_getElem? et)).2.2 (by omega)
      have ll := step_len S (j := j) ez _ rfl
      dsimp only at ll
      have snoc := sumT_snoc (csZ ((rows.zip ms).take i) ++ (q.1.2.take j).map fun t => (t.1, m * t.2)) (t.1, m * t.2)
      rw [List.append_assoc] at snoc
      have te : ((q.1.2.take j).map fun t => (t.1, m * t.2)) ++ [(t.1, m * t.2)] = (q.1.2.take (j + 1)).map fun t => (t.1, m * t.2) := by rw [take_succ et]; simp
      rw [te] at snoc
      rw [snoc]
      generalize sumT (csZ ((rows.zip ms).take i) ++ (q.1.2.take j).map fun t => (t.1, m * t.2)) = T at e1 ll ⊢
      have dc := isDc_K e1
      have gd := getD?_K (u := t.1) e1
      have pu := oPut_K (u := t.1) (v := look T t.1 + m * t.2) e1 ll
      simp -implicitDefEqProofs [-List.append_assoc, -List.length_append, -List.cons_append, termD, dc, gd, getD_K, c2, pu]
      exact ⟨_, _, rfl, set_get e1, E1.new (by omega)⟩
end
end K64
namespace K64
open PySem PySem.Spec L2 PI
open PyProof.Rows hiding St
section
variable {h h1 : Hh} {c : Int} {rows : List Row} {ms : List Int}
/-- d refutes the rows -/
def RefP (rows : List Row) (d : D) : Prop := ∃ ms : List Int, d = .tup (ms.map D.int) ∧ ms.length = rows.length ∧ SgOk rows ms ∧ cstZ (rows.zip ms) < 0 ∧ ∀ u, totK (csZ (rows.zip ms)) u = 0
theorem tups_inj {ms ns : List Int} (e : D.tup (ms.map D.int) = .tup (ns.map D.int)) : ms = ns := ints_inj (D.tup.inj e)
theorem zeros_iff (cs : List (Int × Int)) : (∀ p ∈ sumT cs, p.2 = 0) ↔ ∀ u, totK cs u = 0 := by
  obtain ⟨nd, _, lk, _⟩ := sumT_ok cs
  constructor
  · intro z u
    rw [← lk]
    by_cases m : u ∈ (sumT cs).map (·.1)
    · obtain ⟨p, hp, rfl⟩ := List.mem_map.mp m
      rw [look_mem nd hp]
      exact z p hp
    · exact look_not m
  · intro z p hp
    rw [← look_mem nd hp, lk]
    exact z _
theorem refutes_rows_ok {rows : List Row} {d : D} (n : rows.length ≤ 12000) (ok : ∀ r ∈ rows, okL c r.1) (P : MulD h d) : spec (F_refutes_rows [.tup (rows.map rowD), d] h) fun r h' => ∃ b, r = .bl b ∧ (b = true ↔ RefP rows d) ∧ Ext noS h h' := by
  unfold F_refutes_rows
  have im := is_mul_ok (h := h) n P
  generalize F_is_multipliers = gi at im
  have ga := fun {h : Hh} {ms : List Int} (S : SumOk c rows ms) => gathered_ok (h := h) S
  generalize F_gathered = gg at ga
  apply wO_fn
  simp -implicitDefEqProofs [-List.append_assoc, -List.length_append, -List.cons_append, m_refutes_rows]
  refine wS.bind (im) ?_
  rintro _ h2 ⟨b, rfl, hb, rfl⟩
  cases b with
  | false =>
    simp -implicitDefEqProofs [-List.append_assoc, -List.length_append, -List.cons_append]
    exact ⟨false, rfl, ⟨fun z => (by cases z), fun ⟨ms, e, l, s, _⟩ => hb.mpr ⟨ms, e, l, s⟩⟩, .refl⟩
  | true =>
    obtain ⟨ms, rfl, l, s⟩ := hb.mp rfl
    have S : SumOk c rows ms := ⟨n, l, ok, P.bd⟩
    simp -implicitDefEqProofs [-List.append_assoc, -List.length_append, -List.cons_append]
    refine wS.bind (ga S) ?_
    rintro _ h3 ⟨r, rfl, e3, E3, rl⟩
    have iff : RefP rows (.tup (ms.map D.int)) ↔ cstZ (rows.zip ms) < 0 ∧ ∀ p ∈ sumT (csZ (rows.zip ms)), p.2 = 0 := by
      rw [zeros_iff]
      constructor
      · rintro ⟨ns, e, _, _, k⟩
        have := tups_inj e
        subst this
        exact k
      · rintro ⟨k1, k2⟩
        exact ⟨ms, rfl, l, s, k1, k2⟩
    have tl := (sumT_ok (csZ (rows.zip ms))).2.1
    have sl := S.len
    rw [iff]
    generalize sumT (csZ (rows.zip ms)) = T at e3 tl ⊢
    generalize cstZ (rows.zip ms) = C
    simp -implicitDefEqProofs [-List.append_assoc, -List.length_append, -List.cons_append]
    refine wS.lockK (k := r) rfl e3 ?_
    have e4 := set_get (o' := .dlk (tabK T)) e3
    have sb := set_back (o' := .dlk (tabK T)) e3
    have len4 : (h3.set r (.dlk (tabK T))).length = h3.length := by simp
    have rl3 : r < h3.length := lt_of e3
    generalize h3.set r (.dlk (tabK T)) = h4 at e4 sb len4 ⊢
    by_cases c0 : C < 0
    · simp -implicitDefEqProofs [-List.append_assoc, -List.length_append, -List.cons_append, c0, lkLen_K e4, wipeR]
      have ln : (tabK T).length = T.length := by simp [tabK]
      rw [ln]
      refine wS.bind (spec.lct (R := fun d h' => d = .ref h4.length ∧ h' = h4 ++ [.lst ((T.map fun p => p.2 == 0).map D.bl)]) (xs := T) (enc := fun p => D.int p.2) (fun p => some (.bl (p.2 == 0))) rfl (lt_sl (by omega)) (fun acc i => by rw [jVals_K (push_get e4)]; simp [tabK]; rfl) (fun p hp acc => ?_) ⟨rfl, by rw [List.map_map, ← List.filterMap_eq_map]; rfl⟩) ?_
      · refine ⟨_, rfl, ?_⟩
        simp -implicitDefEqProofs [-List.append_assoc, -List.length_append, -List.cons_append]
      · rintro _ _ ⟨rfl, rfl⟩
        have ea := bAll_ok (h := h4 ++ [.lst ((T.map fun p => p.2 == 0).map D.bl)]) (r := h4.length) (xs := T.map fun p => p.2 == 0) push_new
        generalize hL : (T.map fun p => p.2 == 0).map D.bl = L at ea
        simp -implicitDefEqProofs [-List.append_assoc, -List.length_append, -List.cons_append, ea]
        refine ⟨tabK T, push_get e4, _, rfl, ?_, ?_⟩
        · simp [c0]
        · rw [List.set_append_left _ _ (by omega), sb]
          exact E3.pushR
    · simp -implicitDefEqProofs [-List.append_assoc, -List.length_append, -List.cons_append, c0]
      refine ⟨tabK T, e4, false, rfl, ⟨fun z => (by cases z), fun z => absurd z.1 c0⟩, ?_⟩
      rw [sb]
      exact E3
theorem refutes_ok {s : Sys} {d : D} (ok : okS s) (P : MulD h d) : spec (F_refutes [sysD s, d] h) fun r h' => ∃ b, r = .bl b ∧ (b = true ↔ RefP s.2 d) ∧ Ext noS h h' := by
  unfold F_refutes
  have ns := need_system_eq (h := h) ok
  generalize F_need_system = gn at ns
  have rr := refutes_rows_ok (h := h) ok.n ok.r P
  generalize F_refutes_rows = gr at rr
  apply wO_fn
  have g1 : ∀ h, oGet (sysD s) (.int 1) h = some (.tup (s.2.map rowD), h) := fun h => by simp [sysD]
  simp -implicitDefEqProofs [-List.append_assoc, -List.length_append, -List.cons_append, m_refutes, ns, g1]
  refine wS.bind (rr) ?_
  rintro _ h2 ⟨b, rfl, hb, E2⟩
  simp -implicitDefEqProofs [-List.append_assoc, -List.length_append, -List.cons_append]
  exact ⟨b, rfl, hb, E2⟩
/-! ### the law's own sum -/
theorem sortI_lt {ks : List Int} (nd : ks.Nodup) : (ks.mergeSort leI).Pairwise (· < ·) := by
  have s := List.pairwise_mergeSort (le := leI) (fun a b c h1 h2 => by simp [leI] at *; omega) (fun a b => by simp [leI]; omega) ks
  have n : (ks.mergeSort leI).Nodup := (List.mergeSort_perm ks leI).nodup_iff.mpr nd
  refine (s.and n).imp ?_
  rintro a b ⟨h1, h2⟩
  simp [leI] at h1
  omega
/-- what is left of the sums -/
structure Left (cs : List (Int × Int)) (ts : List Trm) : Prop where
  m : ∀ u v, (u, v) ∈ ts ↔ v = totK cs u ∧ v ≠ 0
  o : ts.Pairwise fun s t => s.1 < t.1
  k : ∀ t ∈ ts, ∃ q ∈ cs, q.1 = t.1
/-- two sequences that stand as they are while nothing old changes -/
structure Srcs (h : Hh) (dr dm : D) (rows : List Row) (ms : List Int) : Prop where
  n : ∀ h', Ext noS h h' → bLen [dr] h' = some (.int rows.length, h')
  r : ∀ h', Ext noS h h' → ∀ (i : Nat) (q : Row), rows[i]? = some q → oGet dr (.int i) h' = some (rowD q, h')
  m : ∀ h', Ext noS h h' → ∀ (i : Nat) (m : Int), ms[i]? = some m → oGet dm (.int i) h' = some (.int m, h')
theorem Srcs.tup : Srcs h (.tup (rows.map rowD)) (.tup (ms.map D.int)) rows ms where
  n := fun h' _ => by simp
  r := fun h' _ i q e => by
    have := atI_of (map_at (f := rowD) e)
    simp [this]
  m := fun h' _ i q e => by
    have := atI_of (map_at (f := D.int) e)
    simp [this]
theorem Srcs.lst {a b : Nat} (ea : h[a]? = some (.lst (rows.map rowD))) (eb : h[b]? = some (.lst (ms.map D.int))) : Srcs h (.ref a) (.ref b) rows ms where
  n := fun h' E => by rw [bLen_ref (E.get ea)]; simp
  r := fun h' E i q e => by rw [oGet_lst (E.get ea), atI_of (map_at (f := rowD) e)]; rfl
  m := fun h' E i q e => by rw [oGet_lst (E.get eb), atI_of (map_at (f := D.int) e)]; rfl
theorem summed_ok {dr dm : D} (S : SumOk c rows ms) (Q : Srcs h dr dm rows ms) : spec (F__law_summed [dr, dm] h) fun d h' => ∃ ts, d = .tup [.int (cstZ (rows.zip ms)), .tup (ts.map termD)] ∧ Left (csZ (rows.zip ms)) ts ∧ Ext noS h h' := by
  unfold F__law_summed
  apply wO_fn
  have zl : (rows.zip ms).length = rows.length := by rw [List.length_zip, S.l]; simp
  have nn : rows.length < 1000000000 := by have := S.n; omega
  have m0 : (h ++ [Ob.dct []])[h.length]? = some (.dct (tabK (sumT []))) := push_new
  have E0 : Ext noS h (h ++ [Ob.dct []]) := .push
  have rr : h.length ≤ h.length := Nat.le_refl _
  simp -implicitDefEqProofs [-List.append_assoc, -List.length_append, -List.cons_append, m__law_summed]
  generalize hr : h.length = r at m0 rr ⊢
  generalize h ++ [Ob.dct []] = h0 at m0 E0 ⊢
  have ln := Q.n _ E0
  simp -implicitDefEqProofs [-List.append_assoc, -List.length_append, -List.cons_append, ln, nn]
  refine wS.loop (fun i ρ h' => ∃ o4 o5 o6, ρ = [some dr, some dm, some (.int (cstZ ((rows.zip ms).take i))), some (.ref r), o4, o5, o6, none] ∧ h'[r]? = some (.dct (tabK (sumT (csZ ((rows.zip ms).take i))))) ∧ Ext noS h h') ⟨none, none, none, by simp [cstZ], by simpa [csZ] using m0, E0⟩ ?_ ?_
  · rintro _ h' ⟨o4, o5, o6, rfl, e, E⟩
    rw [List.take_of_length_le (by omega)] at e ⊢
    refine ⟨jRng_end, ?_⟩
    have sl := S.len
    obtain ⟨nd, tl, lk, at_⟩ := sumT_ok (csZ (rows.zip ms))
    generalize sumT (csZ (rows.zip ms)) = t at e nd tl lk at_ ⊢
    have so := bSorted_K e
    have e3 : (h' ++ [Ob.lst (((t.map (·.1)).mergeSort leI).map D.int)])[r]? = _ := push_get e
    have e4 : (h' ++ [Ob.lst (((t.map (·.1)).mergeSort leI).map D.int)])[h'.length]? = some (.lst (((t.map (·.1)).mergeSort leI).map D.int)) := push_new
    have lt := sortI_lt nd
    have ml := List.length_mergeSort (le := leI) (t.map (·.1))
    have mm : ∀ a, a ∈ (t.map (·.1)).mergeSort leI ↔ a ∈ t.map (·.1) := fun a => List.mem_mergeSort
    have E3 : Ext noS h (h' ++ [Ob.lst (((t.map (·.1)).mergeSort leI).map D.int)]) := E.pushR
    simp -implicitDefEqProofs [-List.append_assoc, -List.length_append, -List.cons_append, so]
    rw [List.length_map] at ml
    generalize (t.map (·.1)).mergeSort leI = ks at so e3 e4 lt ml mm E3 ⊢
    generalize hq : h'.length = q at e4 ⊢
    generalize h' ++ [Ob.lst (ks.map D.int)] = h3 at e3 e4 E3 ⊢
    simp -implicitDefEqProofs [-List.append_assoc, -List.length_append, -List.cons_append, iterA_lst e4, wipeR]
    refine wS.bind (spec.lct (R := fun d h' => d = .ref h3.length ∧ h' = h3 ++ [.lst ((ks.filter fun a => look t a ≠ 0).map fun a => termD (a, look t a))]) (xs := ks) (enc := D.int) (fun a => if look t a ≠ 0 then some (termD (a, look t a)) else none) rfl (lt_sl (by omega)) (fun acc i => jSrc_lst (push_get e4)) (fun a ha acc => ?_) ?_) ?_
    · refine ⟨_, rfl, ?_⟩
      obtain ⟨p, hp, rfl⟩ := List.mem_map.mp ((mm a).mp ha)
      have gg := oGet_K (h := h3 ++ [.lst acc]) nd hp (push_get e3)
      have lp := look_mem nd hp
      rw [← lp] at gg
      by_cases hz : look t p.1 = 0
      · rw [hz] at gg
        simp -implicitDefEqProofs [-List.append_assoc, -List.length_append, -List.cons_append, gg, hz]
      · simp -implicitDefEqProofs [-List.append_assoc, -List.length_append, -List.cons_append, gg, hz, termD]
    · exact ⟨rfl, by rw [filterMap_if]⟩
    · rintro _ _ ⟨rfl, rfl⟩
      simp -implicitDefEqProofs [-List.append_assoc, -List.length_append, -List.cons_append]
      refine ⟨(ks.filter fun a => look t a ≠ 0).map fun a => (a, look t a), by simp [Function.comp_def], ⟨?_, ?_, ?_⟩, E3.pushR⟩
      · intro a v
        constructor
        · intro m
          obtain ⟨b, hb, e⟩ := List.mem_map.mp m
          obtain ⟨_, m2⟩ := List.mem_filter.mp hb
          cases e
          refine ⟨lk a, by simpa using m2⟩
        · rintro ⟨rfl, nz⟩
          rw [← lk a] at nz ⊢
          refine List.mem_map.mpr ⟨a, List.mem_filter.mpr ⟨(mm a).mpr ?_, by simpa using nz⟩, rfl⟩
          by_cases z : a ∈ t.map (·.1)
          · exact z
          · exact absurd (look_not z) nz
      · rw [List.pairwise_map]
        exact lt.filter _
      · intro x hx
        obtain ⟨b, hb, rfl⟩ := List.mem_map.mp hx
        obtain ⟨p, hp, rfl⟩ := List.mem_map.mp ((mm b).mp (List.mem_filter.mp hb).1)
        exact at_ p hp
  · rintro i _ h' hi ⟨o4, o5, o6, rfl, e, E⟩
    obtain ⟨q, eq⟩ : ∃ q, rows[i]? = some q := ⟨_, List.getElem?_eq_getElem hi⟩
    obtain ⟨m, em⟩ : ∃ m, ms[i]? = some m := ⟨_, List.getElem?_eq_getElem (by rw [S.l]; exact hi)⟩
    have ez := zip_at eq em
    have ok := S.r q (List.mem_of_getElem? eq)
    have mb := S.m m (List.mem_of_getElem? em)
    have aq := Q.r _ E i q eq
    have am := Q.m _ E i m em
    have q0 : ∀ h, oGet (rowD q) (.int 0) h = some (linD q.1, h) := fun h => by simp [rowD]
    have l0 : ∀ h, oGet (linD q.1) (.int 0) h = some (.int q.1.1, h) := fun h => by simp [linD]
    have l1 : ∀ h, oGet (linD q.1) (.int 1) h = some (.tup (q.1.2.map termD), h) := fun h => by simp [linD]
    have c1 := mb.ok ok.k (by omega)
    refine ⟨_, _, _, jRng_at hi, rfl, ?_⟩
    have er : q.1.2.length < 1000000000 := by have := ok.n; omega
    simp -implicitDefEqProofs [-List.append_assoc, -List.length_append, -List.cons_append, aq, am, q0, l0, l1, c1, er]
    refine wS.loop (fun j ρ h1 => ∃ o5 o6, ρ = [some dr, some dm, some (.int (cstZ ((rows.zip ms).take i) + m * q.1.1)), some (.ref r), some (.int i), o5, o6, none] ∧ h1[r]? = some (.dct (tabK (sumT (csZ ((rows.zip ms).take i) ++ (q.1.2.take j).map fun t => (t.1, m * t.2))))) ∧ Ext noS h h1) ⟨o5, o6, rfl, by simpa using e, E⟩ ?_ ?_
    · rintro _ h1 ⟨o7, o8, rfl, e1, E1⟩
      rw [List.take_length] at e1
      refine ⟨by simp, ?_⟩
      simp -implicitDefEqProofs [-List.append_assoc, -List.length_append, -List.cons_append]
      rw [take_succ ez, csZ_snoc, cstZ_snoc]
      exact ⟨_, _, _, rfl, e1, E1⟩
    · rintro j _ h1 hj ⟨o7, o8, rfl, e1, E1⟩
      obtain ⟨t, et⟩ : ∃ t, q.1.2[j]? = some t := ⟨_, List.getElem?_eq_getElem hj⟩
      refine ⟨termD t, _, _, by simp [et], rfl, ?_⟩
      have c2 := mb.ok (ok.t t (List.mem_of_getElem? et)).2.2 (by omega)
      have ll := step_len S (j := j) ez _ rfl
      dsimp only at ll
      have snoc := sumT_snoc (csZ ((rows.zip ms).take i) ++ (q.1.2.take j).map fun t => (t.1, m * t.2)) (t.1, m * t.2)
      rw [List.append_assoc] at snoc
      have te : ((q.1.2.take j).map fun t => (t.1, m * t.2)) ++ [(t.1, m * t.2)] = (q.1.2.take (j + 1)).map fun t => (t.1, m * t.2) := by rw [take_succ et]; simp
      rw [te] at snoc
      rw [snoc]
      generalize sumT (csZ ((rows.zip ms).take i) ++ (q.1.2.take j).map fun t => (t.1, m * t.2)) = T at e1 ll ⊢
      have am1 := Q.m _ E1 i m em
      have dc := isDc_K e1
      have gd := getD?_K (u := t.1) e1
      have pu := oPut_K (u := t.1) (v := look T t.1 + m * t.2) e1 ll
      simp -implicitDefEqProofs [-List.append_assoc, -List.length_append, -List.cons_append, termD, dc, gd, getD_K, am1, c2, pu]
      exact ⟨_, _, rfl, set_get e1, E1.new (by omega)⟩
end
end K64
namespace K64
open PySem PySem.Spec L2 PI
open PyProof.Rows hiding St
section
variable {h h1 : Hh} {c : Int} {rows : List Row} {ms : List Int}
theorem oEq_tnil {xs : List D} (k : ∀ d ∈ xs, PyOk h 63 d) : oEq (.tup xs) (.tup []) h = some (.bl xs.isEmpty, h) := by
  obtain ⟨ps, hp, hc, hd⟩ := PyOk.all k
  have t1 : toPy h 64 (.tup xs) = some (.tuple ps) := by simp -implicitDefEqProofs [toPy, hp]
  have t2 : toPy h 64 (.tup []) = some (.tuple []) := by simp -implicitDefEqProofs [toPy, toPys]
  have d1 : PyData.depth (.tuple ps) ≤ 64 := by simp [PyData.depth]; omega
  have s1 : SeqAt.shaped (.tuple ps) = true := by
    unfold SeqAt.shaped
    rw [decide_eq_true d1]
    simp [PyData.canLay0, hc]
  have s2 : SeqAt.shaped (.tuple []) = true := by decide +kernel
  have e1 : PyData.eqv (.tuple ps) (.tuple []) = xs.isEmpty := by
    cases xs with
    | nil => simp [toPys] at hp; subst hp; rfl
    | cons x xs =>
      unfold toPys at hp
      split at hp
      · cases hp; rfl
      · cases hp
  simp -implicitDefEqProofs [oEq, oEqB, scalD, t1, t2, s1, s2, e1]
theorem termD_py (t : Trm) : PyOk h 63 (termD t) := .tup fun d hd => by
  simp at hd
  rcases hd with rfl | rfl
  · exact .int
  · exact .int
theorem left_nil {cs : List (Int × Int)} {ts : List Trm} (L : Left cs ts) : ts.isEmpty = true ↔ ∀ u, totK cs u = 0 := by
  constructor
  · intro e u
    by_cases z : totK cs u = 0
    · exact z
    · have := (L.m u _).mpr ⟨rfl, z⟩
      rw [List.isEmpty_iff.mp e] at this
      cases this
  · intro z
    cases ts with
    | nil => rfl
    | cons t ts =>
      have := (L.m t.1 t.2).mp List.mem_cons_self
      exact absurd (this.1.trans (z _)) this.2
theorem law_refutes_ok {rows : List Row} {d : D} (n : rows.length ≤ 12000) (ok : ∀ r ∈ rows, okL c r.1) (P : MulD h d) : spec (F__law_refutes [.tup (rows.map rowD), d] h) fun r h' => ∃ b, r = .bl b ∧ (b = true ↔ RefP rows d) ∧ Ext noS h h' := by
  unfold F__law_refutes
  have im := law_mul_ok (h := h) n P
  generalize F__law_multipliers = gi at im
  have ga := fun {h : Hh} {ms : List Int} (S : SumOk c rows ms) => summed_ok (h := h) S .tup
  generalize F__law_summed = gg at ga
  apply wO_fn
  simp -implicitDefEqProofs [-List.append_assoc, -List.length_append, -List.cons_append, m__law_refutes]
  refine wS.bind (im) ?_
  rintro _ h2 ⟨b, rfl, hb, rfl⟩
  cases b with
  | false =>
    simp -implicitDefEqProofs [-List.append_assoc, -List.length_append, -List.cons_append]
    exact ⟨false, rfl, ⟨fun z => (by cases z), fun ⟨ms, e, l, s, _⟩ => hb.mpr ⟨ms, e, l, s⟩⟩, .refl⟩
  | true =>
    obtain ⟨ms, rfl, l, s⟩ := hb.mp rfl
    have S : SumOk c rows ms := ⟨n, l, ok, P.bd⟩
    simp -implicitDefEqProofs [-List.append_assoc, -List.length_append, -List.cons_append]
    refine wS.bind (ga S) ?_
    rintro _ h3 ⟨ts, rfl, L, E3⟩
    have iff : RefP rows (.tup (ms.map D.int)) ↔ cstZ (rows.zip ms) < 0 ∧ ts.isEmpty = true := by
      rw [left_nil L]
      constructor
      · rintro ⟨ns, e, _, _, k⟩
        have := tups_inj e
        subst this
        exact k
      · rintro ⟨k1, k2⟩
        exact ⟨ms, rfl, l, s, k1, k2⟩
    rw [iff]
    generalize cstZ (rows.zip ms) = C
    by_cases c0 : C < 0
    · have en := oEq_tnil (h := h3) (xs := ts.map termD) fun d hd => by
        obtain ⟨t, _, rfl⟩ := List.mem_map.mp hd
        exact termD_py t
      simp -implicitDefEqProofs [-List.append_assoc, -List.length_append, -List.cons_append, c0, en]
      exact ⟨_, rfl, by simp [c0], E3⟩
    · simp -implicitDefEqProofs [-List.append_assoc, -List.length_append, -List.cons_append, c0]
      exact ⟨false, rfl, ⟨fun z => (by cases z), fun z => absurd z.1 c0⟩, E3⟩
end
end K64
namespace K64
open PySem PySem.Spec L2 PI
open PyProof.Rows hiding St
/-! ### drawing -/
/-- a well at w over the list at l that has been drawn from at most n times -/
def IsWell (h : Hh) (w l n : Nat) : Prop := ∃ (c a t : Int) (xs : List Int), h[w]? = some (.lst [.int c, .int a, .ref l, .int t]) ∧ h[l]? = some (.lst (xs.map D.int)) ∧ l ≠ w ∧ 0 ≤ a ∧ a ≤ n ∧ 0 ≤ t ∧ t ≤ n
abbrev Wl (w : Nat) : Nat → Prop := fun i => i = w
section
variable {h h1 : Hh} {w l n : Nat}
theorem IsWell.ext (W : IsWell h w l n) (E : Ext noS h h1) : IsWell h1 w l n := by
  obtain ⟨c, a, t, xs, e1, e2, r⟩ := W
  exact ⟨c, a, t, xs, E.get e1, E.get e2, r⟩
theorem IsWell.lw (W : IsWell h w l n) : w < h.length ∧ l < h.length := by
  obtain ⟨c, a, t, xs, e1, e2, _⟩ := W
  exact ⟨lt_of e1, lt_of e2⟩
theorem IsWell.up {m : Nat} (W : IsWell h w l n) (k : n ≤ m) : IsWell h w l m := by
  obtain ⟨c, a, t, xs, h1, h2, h3, h4, h5, h6, h7⟩ := W
  exact ⟨c, a, t, xs, h1, h2, h3, h4, by omega, h6, by omega⟩
theorem IsWell.put {r : Nat} {o : Ob} (W : IsWell h w l n) (nw : w ≠ r) (nl : l ≠ r) : IsWell (h.set r o) w l n := by
  obtain ⟨c, a, t, xs, e1, e2, r'⟩ := W
  exact ⟨c, a, t, xs, set_ne e1 nw, set_ne e2 nl, r'⟩
theorem sq_ok {x : Int} {a t : Int} {n : Nat} (h0 : 0 ≤ x) (h1 : x < 10 ^ 18) (ha : 0 ≤ a) (ha2 : a ≤ n) (ht : 0 ≤ t) (ht2 : t ≤ n) (hn : n ≤ 100000) :
    mulOk (x * 1000003 + a * 7919 + 12347 + t * 613) (x * 1000003 + a * 7919 + 12347 + t * 613) = true := mulOk_b (by omega) (by omega)
theorem draw_ok {m : Int} (W : IsWell h w l n) (hm : 0 < m) (hd : divOk m = true) (hn : n ≤ 100000) :
    spec (F__law_draw [.ref w, .int m] h) fun d h' => ∃ x, d = .int x ∧ (0 ≤ x ∧ x < m) ∧ IsWell h' w l (n + 1) ∧ Ext (Wl w) h h' := by
  unfold F__law_draw
  obtain ⟨c, a, t, xs, h1, h2, h3, a0, a1, t0, t1⟩ := W
  have hw : w < h.length := lt_of h1
  have og := fun i => oGet_lst (i := i) h1
  have og2 := fun i => oGet_lst (i := i) h2
  have op := fun i d => oPut_lst (i := i) (d := d) h1
  have p18 : powOk 10 18 = true := pow_ok (n := 18) (by omega)
  have key : ∀ (x r : Int), 0 ≤ r → r < m → mFn 5 m__law_draw [.ref w, .int m] h = .ok (.int r) (h.set w (.lst [.int x, .int (a + 1), .ref l, .int (t + 1)])) → spec (mFn 5 m__law_draw [.ref w, .int m] h) fun d h' => ∃ x, d = .int x ∧ (0 ≤ x ∧ x < m) ∧ IsWell h' w l (n + 1) ∧ Ext (Wl w) h h' := fun x r r0 r1 e =>
    spec.of e ⟨r, rfl, ⟨r0, r1⟩, ⟨x, a + 1, t + 1, xs, set_get h1, set_ne h2 h3, h3, by omega, by omega, by omega, by omega⟩, .set rfl⟩
  by_cases hc : c = 0
  · subst hc
    have m1 : ∀ x0 : Int, mulOk x0 1000003 = true := fun _ => mulOk_r (by decide)
    have m2 : mulOk a 7919 = true := mulOk_r (by decide)
    have m3 : mulOk t 613 = true := mulOk_r (by decide)
    have m4 : ∀ x0 : Int, mulOk x0 48271 = true := fun _ => mulOk_r (by decide)
    have d97 : divOk 97 = true := divOk_n (by decide) (by decide)
    have hs : ∀ o, (h.set w o)[w]? = some o := fun o => List.getElem?_set_self hw
    have og3 := fun xs i => oGet_lst (i := i) (hs (.lst xs))
    have op3 := fun xs i d => oPut_lst (i := i) (d := d) (hs (.lst xs))
    have a63 : a < 9223372036854775808 := by omega
    have t63 : t < 9223372036854775808 := by omega
    have lenr : bLen [.ref l] h = some (.int (xs.length : Int), h) := by rw [bLen_ref h2]; simp
    by_cases hl : a < (xs.length : Int)
    · obtain ⟨x, hx⟩ : ∃ x, xs[a.toNat]? = some x := ⟨_, List.getElem?_eq_getElem (by omega)⟩
      have hix : atI (xs.map D.int) a = some (.int x) := by
        have ea : a = (a.toNat : Int) := by omega
        rw [ea]
        exact atI_nat (by rw [List.getElem?_map, hx]; rfl)
      obtain ⟨y, hy⟩ : ∃ y, (if x < 0 then -x else x) = y := ⟨_, rfl⟩
      have x0 : 0 ≤ y := by rw [← hy]; split <;> omega
      by_cases hx18 : y < 10 ^ 18
      · have sq := sq_ok x0 hx18 a0 a1 t0 t1 hn
        have hx18 : y < 1000000000000000000 := hx18
        obtain ⟨z, hz⟩ : ∃ z, z = (y * 1000003 + a * 7919 + 12347 + t * 613) * (y * 1000003 + a * 7919 + 12347 + t * 613) / 97 * 48271 + (y * 1000003 + a * 7919 + 12347 + t * 613) := ⟨_, rfl⟩
        refine key (z / m) (z % m) (Int.emod_nonneg _ (by omega)) (Int.emod_lt_of_pos _ hm) ?_
        simp -implicitDefEqProofs [mFn, m__law_draw, h1, h2, og, og2, og3, op, op3, hm, hd, ixN, lenr, hl, hix, p18, hx18, m1, m2, m3, m4, d97, sq, ← hz, hs, hy, a0, t0, a63, t63]
      · have hx18 : ¬ y < 1000000000000000000 := hx18
        refine key (y / m) (y % m) (Int.emod_nonneg _ (by omega)) (Int.emod_lt_of_pos _ hm) ?_
        simp -implicitDefEqProofs [mFn, m__law_draw, h1, h2, og, og2, og3, op, op3, hm, hd, ixN, lenr, hl, hix, p18, hx18, hs, hy, a0, t0, a63, t63]
    · have sq : mulOk (7000021 + a * 7919 + 12347 + t * 613) (7000021 + a * 7919 + 12347 + t * 613) = true := by simpa using sq_ok (x := 7) (by decide) (by decide) a0 a1 t0 t1 hn
      obtain ⟨z, hz⟩ : ∃ z, z = (7000021 + a * 7919 + 12347 + t * 613) * (7000021 + a * 7919 + 12347 + t * 613) / 97 * 48271 + (7000021 + a * 7919 + 12347 + t * 613) := ⟨_, rfl⟩
      refine key (z / m) (z % m) (Int.emod_nonneg _ (by omega)) (Int.emod_lt_of_pos _ hm) ?_
      simp -implicitDefEqProofs [mFn, m__law_draw, h1, h2, og, og2, og3, op, op3, hm, hd, ixN, lenr, hl, p18, m1, m2, m3, m4, d97, sq, ← hz, hs, a0, t0, a63, t63]
  · have e : mFn 5 m__law_draw [.ref w, .int m] h = .ok (.int (c % m)) (h.set w (.lst [.int (c / m), .int a, .ref l, .int t])) := by
      have og4 := fun xs i => oGet_lst (i := i) (show (h.set w (.lst xs))[w]? = some (.lst xs) from List.getElem?_set_self hw)
      simp -implicitDefEqProofs [mFn, m__law_draw, h1, og, og4, op, hc, hm, hd, ixN]
    exact spec.of e ⟨_, rfl, ⟨Int.emod_nonneg _ (by omega), Int.emod_lt_of_pos _ hm⟩, ⟨c / m, a, t, xs, set_get h1, set_ne h2 h3, h3, by omega, by omega, by omega, by omega⟩, .set rfl⟩
end
end K64
namespace K64
open PySem PySem.Spec L2 PI
open PyProof.Rows hiding St
/-! ### points, rows -/
abbrev drawT (gd : FnM) (w l : Nat) : Prop := ∀ {h : Hh} {n : Nat} {m : Int}, IsWell h w l n → 0 < m ∧ m < 10 ^ 30 → n ≤ 100000 → spec (gd [.ref w, .int m] h) fun d h' => ∃ x, d = .int x ∧ (0 ≤ x ∧ x < m) ∧ IsWell h' w l (n + 1) ∧ Ext (Wl w) h h'
section
variable {h h1 : Hh} {w l n : Nat}
theorem divB {m : Int} (h : 0 < m ∧ m < 10 ^ 30) : divOk m = true := by
  refine divOk_w h.1 ?_
  rw [Nat.log2_lt (by omega)]
  have h1 : m.natAbs < 10 ^ 30 := by omega
  exact Nat.lt_of_lt_of_le h1 (Nat.le_trans (show 10 ^ 30 ≤ 2 ^ 100 by decide) (Nat.pow_le_pow_right (by decide) (by decide)))
theorem draw_dec : drawT F__law_draw w l := fun W m hn => draw_ok W m.1 (divB m) hn
theorem well_ok {ns : List Int} {a : Nat} : spec (F__law_well [.rol (ns.map D.int), .int (a : Int)] h) fun d h' => ∃ w l, d = .ref w ∧ IsWell h' w l a ∧ Ext noS h h' := by
  unfold F__law_well
  apply wO_fn
  simp -implicitDefEqProofs [-List.append_assoc, -List.length_append, -List.cons_append, m__law_well]
  refine ⟨_, h.length, rfl, ⟨0, a, 0, ns, push_new, push_get push_new, by simp, by omega, by omega, by omega, by omega⟩, Ext.push.pushR⟩
theorem lt2_of {x : Int} {k : Nat} (a : -(10 ^ k) ≤ x ∧ x ≤ 10 ^ k) (hk : k ≤ 40) : lt2 140 x := by
  unfold lt2
  have : (10 : Int) ^ k ≤ 10 ^ 40 := by exact_mod_cast Nat.pow_le_pow_right (n := 10) (by decide) hk
  have e : (2 : Nat) ^ 140 = 1393796574908163946345982392040522594123776 := by decide
  rw [e]
  have : (10 : Int) ^ 40 = 10000000000000000000000000000000000000000 := by decide
  omega
theorem point_ok {k : Nat} (W : IsWell h w l n) (hn : n ≤ 50000) (hk : k ≤ 6) : spec (F__law_point [.ref w, .int (k : Int)] h) fun d h' => ∃ ps : List Rt, d = .tup (ps.map ratD) ∧ ps.length = k ∧ (∀ p ∈ ps, isRat p ∧ lt2 140 p.1 ∧ lt2 140 p.2) ∧ IsWell h' w l (n + 6 * k) ∧ Ext (Wl w) h h' := by
  unfold F__law_point
  have dr : drawT F__law_draw w l := draw_dec
  generalize F__law_draw = gd at dr
  have lo := fun {h : Hh} {t b : Int} hd => law_lowest_eq (h := h) t b hd
  generalize F__law_lowest = gl at lo
  apply wO_fn
  have lw := W.lw
  have m0 : (h ++ [Ob.lst []])[h.length]? = some (.lst (([] : List Rt).map ratD)) := push_new
  have W0 := W.ext (h1 := h ++ [Ob.lst []]) .push
  have E0 : Ext (Wl w) h (h ++ [Ob.lst []]) := .push
  have k6 : k < 1000000000 := by omega
  simp -implicitDefEqProofs [-List.append_assoc, -List.length_append, -List.cons_append, m__law_point, k6]
  generalize hr : h.length = r at m0 ⊢
  generalize h ++ [Ob.lst []] = h0 at m0 W0 E0 ⊢
  have nw : ¬ Wl w r := by intro z; simp only [Wl] at z; omega
  refine wS.loop (fun i ρ h' => ∃ o3 o4 o5 ps, ρ = [some (.ref w), some (.int k), some (.ref r), o3, o4, o5] ∧ h'[r]? = some (.lst ((ps : List Rt).map ratD)) ∧ ps.length = i ∧ (∀ p ∈ ps, isRat p ∧ lt2 140 p.1 ∧ lt2 140 p.2) ∧ IsWell h' w l (n + 6 * i) ∧ Ext (Wl w) h h') ⟨none, none, none, [], rfl, m0, rfl, by simp, W0, E0⟩ ?_ ?_
  · rintro _ h' ⟨o3, o4, o5, ps, rfl, e, pl, pk, W1, E1⟩
    refine ⟨jRng_end, ?_⟩
    simp -implicitDefEqProofs [-List.append_assoc, -List.length_append, -List.cons_append, e]
    exact ⟨ps, rfl, pl, pk, W1, E1⟩
  · rintro i _ h' hi ⟨o3, o4, o5, ps, rfl, e, pl, pk, W1, E1⟩
    refine ⟨_, _, _, jRng_at hi, rfl, ?_⟩
    simp -implicitDefEqProofs [-List.append_assoc, -List.length_append, -List.cons_append]
    refine wS.bind (dr (m := 3) W1 (by decide) (by omega)) ?_
    rintro _ h2 ⟨x, rfl, xb, W2, E2⟩
    refine wS.cut (fun ρ h3 => ∃ b : Int, ρ = [some (.ref w), some (.int k), some (.ref r), some (.int i), some (.int b), o5] ∧ (1 ≤ b ∧ b ≤ 10 ^ 9) ∧ IsWell h3 w l (n + 6 * i + 2) ∧ Ext (Wl w) h' h3) ?_ ?_
    · by_cases x0 : x = 0
      · simp -implicitDefEqProofs [-List.append_assoc, -List.length_append, -List.cons_append, x0]
        refine wS.bind (dr (m := 7) W2 (by decide) (by omega)) ?_
        rintro _ h3 ⟨y, rfl, yb, W3, E3⟩
        simp -implicitDefEqProofs [-List.append_assoc, -List.length_append, -List.cons_append]
        exact ⟨1 + y, rfl, by omega, W3, E2.trans E3⟩
      · simp -implicitDefEqProofs [-List.append_assoc, -List.length_append, -List.cons_append, x0]
        exact ⟨1, rfl, by omega, W2.up (by omega), E2⟩
    · rintro _ h3 ⟨b, rfl, bb, W3, E3⟩
      simp -implicitDefEqProofs [-List.append_assoc, -List.length_append, -List.cons_append]
      refine wS.bind (dr (m := 19) W3 (by decide) (by omega)) ?_
      rintro _ h4 ⟨t, rfl, tb, W4, E4⟩
      simp -implicitDefEqProofs [-List.append_assoc, -List.length_append, -List.cons_append]
      refine wS.bind (dr (m := 9) W4 (by decide) (by omega)) ?_
      rintro _ h5 ⟨z, rfl, zb, W5, E5⟩
      have p20 : powOk 10 20 = true := pow_ok (n := 20) (by omega)
      have p9 : powOk 10 9 = true := pow_ok (n := 9) (by omega)
      have E35 := (E3.trans E4).trans E5
      refine wS.cut (fun ρ h6 => ∃ a b : Int, ρ = [some (.ref w), some (.int k), some (.ref r), some (.int i), some (.int b), some (.int a)] ∧ (-(10 ^ 20) ≤ a ∧ a ≤ 10 ^ 20) ∧ (1 ≤ b ∧ b ≤ 10 ^ 9) ∧ IsWell h6 w l (n + 6 * i + 6) ∧ Ext (Wl w) h' h6) ?_ ?_
      · by_cases z0 : z = 0
        · have c1 : mulOk 2 100000000000000000000 = true := mulOk_l (by omega)
          simp -implicitDefEqProofs [-List.append_assoc, -List.length_append, -List.cons_append, z0, p20, p9, c1]
          refine wS.bind (dr (m := 200000000000000000000) W5 (by decide) (by omega)) ?_
          rintro _ h6 ⟨u, rfl, ub, W6, E6⟩
          simp -implicitDefEqProofs [-List.append_assoc, -List.length_append, -List.cons_append, p20, p9]
          refine wS.bind (dr (m := 1000000000) W6 (by decide) (by omega)) ?_
          rintro _ h7 ⟨v, rfl, vb, W7, E7⟩
          simp -implicitDefEqProofs [-List.append_assoc, -List.length_append, -List.cons_append]
          exact ⟨_, _, rfl, by omega, by omega, W7.up (by omega), (E35.trans E6).trans E7⟩
        · simp -implicitDefEqProofs [-List.append_assoc, -List.length_append, -List.cons_append, z0]
          exact ⟨_, _, rfl, by omega, bb, W5.up (by omega), E35⟩
      · rintro _ h6 ⟨a, b, rfl, ab, bb, W6, E6⟩
        have la : lt2 140 a := lt2_of (k := 20) ab (by omega)
        have lb : lt2 140 b := lt2_of (k := 9) (by omega) (by omega)
        have lq := fun {h : Hh} => lo (h := h) (t := a) (b := b) (divG (by omega) lb (by omega))
        have rq := low_rat (t := a) (b := b) (by omega)
        have bq := low_bd la lb
        generalize low a b = q at lq rq bq
        have e6 := E6.keep _ _ e nw
        have ll : (ps.map ratD).length < sizeLine := lt_sl (by simp; omega)
        have ap := lApp (d := ratD q) e6 ll
        simp -implicitDefEqProofs [-List.append_assoc, -List.length_append, -List.cons_append, lq, ap, e6]
        refine ⟨_, _, _, ps ++ [q], rfl, by rw [set_get e6]; simp, by simp [pl], fun p hp => ?_, ?_, ?_⟩
        · rcases List.mem_append.mp hp with hp | hp
          · exact pk p hp
          · simp at hp; subst hp; exact ⟨rq, bq⟩
        · exact (W6.up (by omega)).put (by intro z; exact nw z.symm) (by omega)
        · exact (E1.trans E6).new (by omega)
end
end K64
namespace K64
open PySem PySem.Spec L2 PI
open PyProof.Rows hiding St
section
variable {h h1 : Hh} {w l n : Nat}
structure Trms (c : Nat) (i : Nat) (ts : List Trm) : Prop where
  t : ∀ t ∈ ts, (0 ≤ t.1 ∧ t.1 < i) ∧ t.2 ≠ 0 ∧ -(10 ^ 12) ≤ t.2 ∧ t.2 ≤ 10 ^ 12
  o : ts.Pairwise fun s t => s.1 < t.1
  n : ts.length ≤ i
theorem Trms.up {c i j : Nat} {ts : List Trm} (T : Trms c i ts) (l : i ≤ j) : Trms c j ts := ⟨fun t ht => let ⟨a, b⟩ := T.t t ht; ⟨by omega, b⟩, T.o, by have := T.n; omega⟩
theorem Trms.snoc {c i : Nat} {ts : List Trm} {v : Int} (T : Trms c i ts) (v0 : v ≠ 0) (vb : -(10 ^ 12) ≤ v ∧ v ≤ 10 ^ 12) : Trms c (i + 1) (ts ++ [((i : Int), v)]) := by
  refine ⟨fun t ht => ?_, ?_, by have := T.n; simp; omega⟩
  · rcases List.mem_append.mp ht with ht | ht
    · obtain ⟨a, b⟩ := T.t t ht
      exact ⟨by omega, b⟩
    · simp at ht
      subst ht
      exact ⟨by dsimp only; omega, v0, vb⟩
  · rw [List.pairwise_append]
    refine ⟨T.o, List.pairwise_singleton _ _, fun a ha b hb => ?_⟩
    have := (T.t a ha).1
    simp at hb
    subst hb
    dsimp only
    omega
theorem terms_ok {c : Nat} (W : IsWell h w l n) (hn : n ≤ 60000) (hc : c ≤ 6) : spec (F__law_terms [.ref w, .int (c : Int), .int 3] h) fun d h' => ∃ (r : Nat) (ts : List Trm), d = .ref r ∧ h'[r]? = some (.lst (ts.map termD)) ∧ Trms c c ts ∧ IsWell h' w l (n + 25) ∧ Ext (Wl w) h h' ∧ h.length ≤ r := by
  unfold F__law_terms
  have dr : drawT F__law_draw w l := draw_dec
  generalize F__law_draw = gd at dr
  apply wO_fn
  have lw := W.lw
  have m0 : (h ++ [Ob.lst []])[h.length]? = some (.lst (([] : List Trm).map termD)) := push_new
  have W0 := W.ext (h1 := h ++ [Ob.lst []]) .push
  have E0 : Ext (Wl w) h (h ++ [Ob.lst []]) := .push
  have k6 : c < 1000000000 := by omega
  simp -implicitDefEqProofs [-List.append_assoc, -List.length_append, -List.cons_append, m__law_terms]
  generalize hr : h.length = r at m0 ⊢
  generalize h ++ [Ob.lst []] = h0 at m0 W0 E0 ⊢
  have nw : ¬ Wl w r := by intro z; simp only [Wl] at z; omega
  refine wS.bind (dr (m := 4) W0 (by decide) (by omega)) ?_
  rintro _ h2 ⟨wd, rfl, wb, W2, E2⟩
  have m2 := E2.keep _ _ m0 nw
  simp -implicitDefEqProofs [-List.append_assoc, -List.length_append, -List.cons_append, k6]
  refine wS.loop (fun i ρ h' => ∃ o5 o6 ts, ρ = [some (.ref w), some (.int c), some (.int 3), some (.ref r), some (.int wd), o5, o6] ∧ h'[r]? = some (.lst ((ts : List Trm).map termD)) ∧ Trms c i ts ∧ IsWell h' w l (n + 1 + 4 * i) ∧ Ext (Wl w) h h') ⟨none, none, [], rfl, m2, ⟨by simp, .nil, by simp⟩, W2, E0.trans E2⟩ ?_ ?_
  · rintro _ h' ⟨o5, o6, ts, rfl, e, T, W1, E1⟩
    refine ⟨jRng_end, ?_⟩
    simp -implicitDefEqProofs [-List.append_assoc, -List.length_append, -List.cons_append]
    exact ⟨r, ts, rfl, e, T, W1.up (by omega), E1, by omega⟩
  · rintro i _ h' hi ⟨o5, o6, ts, rfl, e, T, W1, E1⟩
    refine ⟨_, _, _, jRng_at hi, rfl, ?_⟩
    by_cases w0 : 0 < wd
    · have dv : divOk wd = true := divOk_n w0 (by omega)
      obtain ⟨q, hq⟩ : ∃ q, ((c : Int) + 1) / wd = q := ⟨_, rfl⟩
      have qb : 0 ≤ q ∧ q ≤ 7 := by
        rw [← hq]
        refine ⟨Int.ediv_nonneg (by omega) (by omega), ?_⟩
        have := Int.ediv_le_self wd (show 0 ≤ (c : Int) + 1 by omega)
        omega
      obtain ⟨m, hm⟩ : ∃ m : Int, (if q > 1 then q else 1) = m := ⟨_, rfl⟩
      have mb : 0 < m ∧ m ≤ 7 := by rw [← hm]; split <;> omega
      have bm : ∀ h : Hh, bMax2 [.int 1, .int q] h = some (.int m, h) := fun h => by rw [← hm]; rfl
      simp -implicitDefEqProofs [-List.append_assoc, -List.length_append, -List.cons_append, oGt, w0, dv, hq, bm]
      refine wS.bind (dr (m := m) W1 (by omega) (by omega)) ?_
      rintro _ h3 ⟨x, rfl, xb, W3, E3⟩
      by_cases x0 : x = 0
      · simp -implicitDefEqProofs [-List.append_assoc, -List.length_append, -List.cons_append, x0]
        refine wS.bind (dr (m := 11) W3 (by decide) (by omega)) ?_
        rintro _ h4 ⟨y, rfl, yb, W4, E4⟩
        simp -implicitDefEqProofs [-List.append_assoc, -List.length_append, -List.cons_append]
        refine wS.bind (dr (m := 12) W4 (by decide) (by omega)) ?_
        rintro _ h5 ⟨z, rfl, zb, W5, E5⟩
        have E35 := (E3.trans E4).trans E5
        have p12 : powOk 10 12 = true := pow_ok (n := 12) (by omega)
        refine wS.cut (fun ρ h6 => ∃ v : Int, ρ = [some (.ref w), some (.int c), some (.int 3), some (.ref r), some (.int wd), some (.int i), some (.int v)] ∧ (-(10 ^ 12) ≤ v ∧ v ≤ 10 ^ 12) ∧ IsWell h6 w l (n + 1 + 4 * i + 4) ∧ Ext (Wl w) h' h6) ?_ ?_
        · by_cases z0 : z = 0
          · have c1 : mulOk 2 1000000000000 = true := mulOk_l (by omega)
            simp -implicitDefEqProofs [-List.append_assoc, -List.length_append, -List.cons_append, z0, p12, c1]
            refine wS.bind (dr (m := 2000000000000) W5 (by decide) (by omega)) ?_
            rintro _ h6 ⟨u, rfl, ub, W6, E6⟩
            simp -implicitDefEqProofs [-List.append_assoc, -List.length_append, -List.cons_append, p12]
            exact ⟨_, rfl, by omega, W6.up (by omega), E35.trans E6⟩
          · simp -implicitDefEqProofs [-List.append_assoc, -List.length_append, -List.cons_append, z0]
            exact ⟨_, rfl, by omega, W5.up (by omega), E35⟩
        · rintro _ h6 ⟨v, rfl, vb, W6, E6⟩
          have e6 := E6.keep _ _ e nw
          by_cases v0 : v = 0
          · simp -implicitDefEqProofs [-List.append_assoc, -List.length_append, -List.cons_append, v0]
            exact ⟨_, _, ts, rfl, e6, T.up (by omega), W6.up (by omega), E1.trans E6⟩
          · have ll : (ts.map termD).length < sizeLine := lt_sl (by have := T.n; simp; omega)
            have ap := lApp (d := D.tup [D.int i, D.int v]) e6 ll
            simp -implicitDefEqProofs [-List.append_assoc, -List.length_append, -List.cons_append, v0, ap, e6]
            refine ⟨_, _, ts ++ [((i : Int), v)], rfl, by rw [set_get e6]; simp [termD], T.snoc v0 vb, (W6.up (by omega)).put (by intro z; exact nw z.symm) (by omega), (E1.trans E6).new (by omega)⟩
      · simp -implicitDefEqProofs [-List.append_assoc, -List.length_append, -List.cons_append, x0]
        exact ⟨_, _, ts, rfl, E3.keep _ _ e nw, T.up (by omega), W3.up (by omega), E1.trans E3⟩
    · simp -implicitDefEqProofs [-List.append_assoc, -List.length_append, -List.cons_append, oGt, w0]
      exact ⟨_, _, ts, rfl, e, T.up (by omega), W1.up (by omega), E1⟩
end
end K64
namespace K64
open PySem PySem.Spec L2 PI
open PyProof.Rows hiding St
section
variable {h h1 : Hh} {w l n : Nat}
/-- the points that go on as ps -/
def GoesOn (ps qs : List Rt) : Prop := ∀ i : Nat, i < ps.length → qs[i]? = ps[i]?
def Pt6 (ps : List Rt) : Prop := ps.length ≤ 6 ∧ ∀ p ∈ ps, isRat p ∧ lt2 140 p.1 ∧ lt2 140 p.2
/-- a made row: right, and kept at the point -/
structure MadeRow (ps : List Rt) (r : Row) : Prop where
  ok : okL ps.length r.1
  k : ∀ qs, GoesOn ps qs → rowKept qs r
theorem val_made {ps qs : List Rt} (g : GoesOn ps qs) {K : Int} : ∀ (ts : List Trm) (x : Int) (V : Int × Int), (∀ t ∈ ts, 0 ≤ t.1 ∧ t.1 < ps.length) → V.1 = x * V.2 →
    let V' := (ts.map fun t => (t.1, t.2 * (ps.getD t.1.toNat (0, 1)).2)).foldl (stepV qs) V
    V'.1 = (x + (ts.map fun t => t.2 * (ps.getD t.1.toNat (0, 1)).1).sum) * V'.2
  | [], x, V, _, e => by simpa using e
  | t :: ts, x, V, b, e => by
    have tb := b t List.mem_cons_self
    have eq : qs.getD t.1.toNat (0, 1) = ps.getD t.1.toNat (0, 1) := by
      rw [List.getD_eq_getElem?_getD, List.getD_eq_getElem?_getD, g _ (by omega)]
    have := val_made g (K := K) ts (x + t.2 * (ps.getD t.1.toNat (0, 1)).1) (stepV qs V (t.1, t.2 * (ps.getD t.1.toNat (0, 1)).2)) (fun u hu => b u (List.mem_cons_of_mem _ hu)) (by
      unfold stepV
      dsimp only
      rw [eq, e]
      generalize ps.getD t.1.toNat (0, 1) = p
      obtain ⟨p1, p2⟩ := p
      dsimp only
      simp only [Int.add_mul]
      congr 1
      · ac_rfl
      · ac_rfl)
    simp only [List.map_cons, List.foldl_cons, List.sum_cons] at this ⊢
    rw [← Int.add_assoc]
    exact this
theorem val_pos {ps qs : List Rt} (g : GoesOn ps qs) (hr : ∀ p ∈ ps, isRat p) : ∀ (ts : List Trm) (V : Int × Int), (∀ t ∈ ts, 0 ≤ t.1 ∧ t.1 < ps.length) → 0 < V.2 → 0 < (ts.foldl (stepV qs) V).2
  | [], V, _, v => v
  | t :: ts, V, b, v => by
    have tb := b t List.mem_cons_self
    rw [List.foldl_cons]
    refine val_pos g hr ts _ (fun u hu => b u (List.mem_cons_of_mem _ hu)) ?_
    unfold stepV
    dsimp only
    have e : ps[t.1.toNat]? = some ps[t.1.toNat] := List.getElem?_eq_getElem (by omega)
    have eq : qs.getD t.1.toNat (0, 1) = ps[t.1.toNat] := by
      rw [List.getD_eq_getElem?_getD, g _ (by omega), e]; rfl
    rw [eq]
    have := (hr _ (List.getElem_mem (show t.1.toNat < ps.length by omega))).1
    exact Int.mul_pos v (by omega)
theorem lt2_12 {x : Int} (a : -(10 ^ 12) ≤ x ∧ x ≤ 10 ^ 12) : lt2 41 x := by
  unfold lt2
  have e : (2 : Nat) ^ 41 = 2199023255552 := by decide
  rw [e]
  omega
theorem lt2.neg {n : Nat} {x : Int} (a : lt2 n x) : lt2 n (-x) := by unfold lt2 at *; rw [Int.natAbs_neg]; exact a
def fT (ps : List Rt) (t : Trm) : Trm := (t.1, t.2 * (ps.getD t.1.toNat (0, 1)).2)
def sT (ps : List Rt) (t : Trm) : Int := t.2 * (ps.getD t.1.toNat (0, 1)).1
theorem made_row {ps : List Rt} {ex : Bool} {ts : List Trm} {K : Int} (P : Pt6 ps) (T : Trms ps.length ps.length ts) (Kb : 0 ≤ K) (Kx : ex = true → K = 0) (b : lt2 200 (K - (ts.map (sT ps)).sum)) : MadeRow ps ((K - (ts.map (sT ps)).sum, ts.map (fT ps)), ex) := by
  refine ⟨⟨b, fun u hu => ?_, ?_, by have := T.n; have := P.1; simp; omega⟩, fun qs g => ?_⟩
  · obtain ⟨t, ht, rfl⟩ := List.mem_map.mp hu
    obtain ⟨b1, nz, b2⟩ := T.t t ht
    have e : ps[t.1.toNat]? = some ps[t.1.toNat] := List.getElem?_eq_getElem (by omega)
    have eq : ps.getD t.1.toNat (0, 1) = ps[t.1.toNat] := by rw [List.getD_eq_getElem?_getD, e]; rfl
    obtain ⟨p1, p2, p3⟩ := P.2 _ (List.getElem_mem (show t.1.toNat < ps.length by omega))
    unfold fT
    rw [eq]
    refine ⟨b1, Int.mul_ne_zero nz (by have := p1.1; omega), ((lt2_12 b2).mul p3).up (by omega)⟩
  · rw [List.pairwise_map]
    exact T.o
  · have hb : ∀ t ∈ ts, 0 ≤ t.1 ∧ t.1 < ps.length := fun t ht => (T.t t ht).1
    have v := val_made g (K := K) ts (K - (ts.map (sT ps)).sum) (K - (ts.map (sT ps)).sum, 1) hb (by simp)
    have pos := val_pos g (fun p hp => (P.2 p hp).1) (ts.map (fT ps)) (K - (ts.map (sT ps)).sum, 1) (fun u hu => by
      obtain ⟨t, ht, rfl⟩ := List.mem_map.mp hu
      exact hb t ht) Int.one_pos
    have v' : (valV (K - (ts.map (sT ps)).sum, ts.map (fT ps)) qs).1 = K * (valV (K - (ts.map (sT ps)).sum, ts.map (fT ps)) qs).2 := by
      refine v.trans ?_
      have : K - (ts.map (sT ps)).sum + (ts.map fun t => t.2 * (ps.getD t.1.toNat (0, 1)).1).sum = K := by
        show K - (ts.map (sT ps)).sum + (ts.map (sT ps)).sum = K
        omega
      rw [this]
      rfl
    refine ⟨?_, fun z => ?_⟩
    · rw [v']
      exact Int.mul_nonneg Kb (Int.le_of_lt pos)
    · rw [v', Kx z, Int.zero_mul]
theorem row_at_ok {ps : List Rt} {ex : Bool} (W : IsWell h w l n) (hn : n ≤ 50000) (P : Pt6 ps) : spec (F__law_row_at [.ref w, .tup (ps.map ratD), .bl ex, .int 3] h) fun d h' => ∃ r, d = rowD r ∧ MadeRow ps r ∧ IsWell h' w l (n + 30) ∧ Ext (Wl w) h h' := by
  unfold F__law_row_at
  have dr : drawT F__law_draw w l := draw_dec
  generalize F__law_draw = gd at dr
  have te := fun {h : Hh} {n c : Nat} (W : IsWell h w l n) hn hc => terms_ok (c := c) W hn hc
  generalize F__law_terms = gt at te
  apply wO_fn
  have lw := W.lw
  simp -implicitDefEqProofs [-List.append_assoc, -List.length_append, -List.cons_append, m__law_row_at]
  refine wS.cut (fun ρ h2 => ∃ K : Int, ρ = [some (.ref w), some (.tup (ps.map ratD)), some (.bl ex), some (.int 3), some (.int K), none, none, none] ∧ (0 ≤ K ∧ K < 30) ∧ (ex = true → K = 0) ∧ IsWell h2 w l (n + 2) ∧ Ext (Wl w) h h2) ?_ ?_
  · cases ex with
    | true =>
      simp -implicitDefEqProofs [-List.append_assoc, -List.length_append, -List.cons_append]
      exact ⟨0, rfl, by omega, fun _ => rfl, W.up (by omega), .refl⟩
    | false =>
      simp -implicitDefEqProofs [-List.append_assoc, -List.length_append, -List.cons_append]
      refine wS.bind (dr (m := 2) W (by decide) (by omega)) ?_
      rintro _ h2 ⟨x, rfl, xb, W2, E2⟩
      by_cases x0 : x = 0
      · simp -implicitDefEqProofs [-List.append_assoc, -List.length_append, -List.cons_append, x0]
        refine wS.bind (dr (m := 30) W2 (by decide) (by omega)) ?_
        rintro _ h3 ⟨y, rfl, yb, W3, E3⟩
        simp -implicitDefEqProofs [-List.append_assoc, -List.length_append, -List.cons_append]
        exact ⟨y, rfl, yb, fun z => (by cases z), W3, E2.trans E3⟩
      · simp -implicitDefEqProofs [-List.append_assoc, -List.length_append, -List.cons_append, x0]
        exact ⟨0, rfl, by omega, fun _ => rfl, W2.up (by omega), E2⟩
  · rintro _ h2 ⟨K, rfl, Kb, Kx, W2, E2⟩
    have lw2 := W2.lw
    have ll2 := E2.len
    have m0 : (h2 ++ [Ob.lst []])[h2.length]? = some (.lst (([] : List Trm).map termD)) := push_new
    have W3 := W2.ext (h1 := h2 ++ [Ob.lst []]) .push
    have E3 : Ext (Wl w) h (h2 ++ [Ob.lst []]) := E2.pushR
    simp -implicitDefEqProofs [-List.append_assoc, -List.length_append, -List.cons_append]
    generalize hr : h2.length = r at m0 ⊢
    have l3 : (h2 ++ [Ob.lst []]).length = r + 1 := by simp [hr]
    generalize h2 ++ [Ob.lst []] = h3 at m0 W3 E3 l3 ⊢
    have nw : ¬ Wl w r := by intro z; simp only [Wl] at z; omega
    refine wS.bind (te (c := ps.length) W3 (by omega) P.1) ?_
    rintro _ h4 ⟨q, ts, rfl, m4, T, W4, E4, ql⟩
    have m0' := E4.keep _ _ m0 nw
    have nq : ¬ Wl w q := by intro z; simp only [Wl] at z; omega
    simp -implicitDefEqProofs [-List.append_assoc, -List.length_append, -List.cons_append, iterA_lst m4]
    have nqr : q ≠ r := by omega
    refine wS.loop (fun i ρ h' => ∃ o6 o7, ρ = [some (.ref w), some (.tup (ps.map ratD)), some (.bl ex), some (.int 3), some (.int (K - ((ts.take i).map (sT ps)).sum)), some (.ref r), o6, o7] ∧ h'[r]? = some (.lst (((ts.take i).map (fT ps)).map termD)) ∧ h'[q]? = some (.lst (ts.map termD)) ∧ lt2 (182 + i) (K - ((ts.take i).map (sT ps)).sum) ∧ IsWell h' w l (n + 27) ∧ Ext (Wl w) h h') ⟨none, none, by simp, by simpa using m0', m4, ?_, W4.up (by omega), E3.trans E4⟩ ?_ ?_
    · have : lt2 41 K := lt2_12 (by omega)
      simpa using this.up (m := 182) (by omega)
    · rintro _ h' ⟨o6, o7, rfl, e1, e2, b, W5, E5⟩
      rw [List.take_length] at e1 b ⊢
      refine ⟨by rw [jSrc_lst e2]; simp, ?_⟩
      have M := made_row P T Kb.1 Kx (b.up (by have := T.n; have := P.1; omega))
      generalize K - (ts.map (sT ps)).sum = C at M ⊢
      generalize ts.map (fT ps) = us at e1 M ⊢
      simp -implicitDefEqProofs [-List.append_assoc, -List.length_append, -List.cons_append, e1]
      exact ⟨((C, us), ex), rfl, M, W5.up (by omega), E5⟩
    · rintro i _ h' hi ⟨o6, o7, rfl, e1, e2, b, W5, E5⟩
      obtain ⟨t, et⟩ : ∃ t, ts[i]? = some t := ⟨_, List.getElem?_eq_getElem hi⟩
      obtain ⟨⟨b0, b1⟩, nz, b2⟩ := T.t t (List.mem_of_getElem? et)
      refine ⟨termD t, _, _, by rw [jSrc_lst e2, map_at et], rfl, ?_⟩
      obtain ⟨p, ep⟩ : ∃ p, ps[t.1.toNat]? = some p := ⟨_, List.getElem?_eq_getElem (by omega)⟩
      obtain ⟨p1, p2, p3⟩ := P.2 p (List.mem_of_getElem? ep)
      have eq : ps.getD t.1.toNat (0, 1) = p := by rw [List.getD_eq_getElem?_getD, ep]; rfl
      have ap : atI (ps.map ratD) t.1 = some (ratD p) := by
        have := atI_of (map_at (f := ratD) ep)
        rw [Int.toNat_of_nonneg b0] at this
        exact this
      have g0 : ∀ h', oGet (ratD p) (.int 0) h' = some (.int p.1, h') := fun h' => by simp [ratD]
      have g1 : ∀ h', oGet (ratD p) (.int 1) h' = some (.int p.2, h') := fun h' => by simp [ratD]
      have c1 := (lt2_12 b2).ok p3 (by omega)
      have c2 := (lt2_12 b2).ok p2 (by omega)
      have te : (ts.take (i + 1)).map (fT ps) = (ts.take i).map (fT ps) ++ [(t.1, t.2 * p.2)] := by rw [take_succ et]; simp [fT, ep]
      have se : ((ts.take (i + 1)).map (sT ps)).sum = ((ts.take i).map (sT ps)).sum + t.2 * p.1 := by rw [take_succ et]; simp [sT, ep]
      have ls : ((ts.take i).map (fT ps)).length ≤ 6 := by have := T.n; have := P.1; simp; omega
      rw [te, se]
      generalize ((ts.take i).map (sT ps)).sum = S at b ⊢
      generalize (ts.take i).map (fT ps) = us at e1 ls ⊢
      have ll : (us.map termD).length < sizeLine := lt_sl (by simp; omega)
      have pu := lApp (d := D.tup [D.int t.1, D.int (t.2 * p.2)]) e1 ll
      simp -implicitDefEqProofs [-List.append_assoc, -List.length_append, -List.cons_append, termD, ap, g0, g1, c1, c2, pu, e1]
      refine ⟨_, _, by rw [show K - S - t.2 * p.1 = K - (S + t.2 * p.1) by omega], by rw [set_get e1]; simp [termD], set_ne e2 nqr, ?_, W5.put (by intro z; exact nw z.symm) (by omega), ?_⟩
      · have : K - (S + t.2 * p.1) = (K - S) + -(t.2 * p.1) := by omega
        rw [this]
        exact (b.add ((lt2_12 b2).mul p2).neg).up (by omega)
      · exact E5.new (by omega)
end
end K64
namespace K64
open PySem PySem.Spec L2 PI
open PyProof.Rows hiding St
section
variable {h h1 : Hh} {w l n : Nat}
theorem kept_rows_ok {ps : List Rt} {m : Nat} (W : IsWell h w l n) (hn : n ≤ 40000) (P : Pt6 ps) (hm : m ≤ 7) : spec (F__law_kept_rows [.ref w, .tup (ps.map ratD), .int (m : Int), .int 3] h) fun d h' => ∃ (r : Nat) (rows : List Row), d = .ref r ∧ h'[r]? = some (.lst (rows.map rowD)) ∧ rows.length = m ∧ (∀ x ∈ rows, MadeRow ps x) ∧ IsWell h' w l (n + 31 * m) ∧ Ext (Wl w) h h' ∧ h.length ≤ r := by
  unfold F__law_kept_rows
  have dr : drawT F__law_draw w l := draw_dec
  generalize F__law_draw = gd at dr
  have ra := fun {h : Hh} {n : Nat} {ex : Bool} (W : IsWell h w l n) hn => row_at_ok (ps := ps) (ex := ex) W hn P
  generalize F__law_row_at = gr at ra
  apply wO_fn
  have lw := W.lw
  have m0 : (h ++ [Ob.lst []])[h.length]? = some (.lst (([] : List Row).map rowD)) := push_new
  have W0 := W.ext (h1 := h ++ [Ob.lst []]) .push
  have E0 : Ext (Wl w) h (h ++ [Ob.lst []]) := .push
  have k6 : m < 1000000000 := by omega
  simp -implicitDefEqProofs [-List.append_assoc, -List.length_append, -List.cons_append, m__law_kept_rows, k6]
  generalize hr : h.length = r at m0 ⊢
  generalize h ++ [Ob.lst []] = h0 at m0 W0 E0 ⊢
  have nw : ¬ Wl w r := by intro z; simp only [Wl] at z; omega
  refine wS.loop (fun i ρ h' => ∃ o5 rows, ρ = [some (.ref w), some (.tup (ps.map ratD)), some (.int m), some (.int 3), some (.ref r), o5] ∧ h'[r]? = some (.lst ((rows : List Row).map rowD)) ∧ rows.length = i ∧ (∀ x ∈ rows, MadeRow ps x) ∧ IsWell h' w l (n + 31 * i) ∧ Ext (Wl w) h h') ⟨none, [], rfl, m0, rfl, by simp, W0, E0⟩ ?_ ?_
  · rintro _ h' ⟨o5, rows, rfl, e, rl, rk, W1, E1⟩
    refine ⟨jRng_end, ?_⟩
    simp -implicitDefEqProofs [-List.append_assoc, -List.length_append, -List.cons_append]
    exact ⟨r, rows, rfl, e, rl, rk, W1, E1, by omega⟩
  · rintro i _ h' hi ⟨o5, rows, rfl, e, rl, rk, W1, E1⟩
    refine ⟨_, _, _, jRng_at hi, rfl, ?_⟩
    simp -implicitDefEqProofs [-List.append_assoc, -List.length_append, -List.cons_append, e]
    refine wS.bind (dr (m := 4) W1 (by decide) (by omega)) ?_
    rintro _ h2 ⟨x, rfl, xb, W2, E2⟩
    have ex : oEq (.int x) (.int 0) h2 = some (.bl (x == 0), h2) := by simp
    simp -implicitDefEqProofs [-List.append_assoc, -List.length_append, -List.cons_append, ex]
    refine wS.bind (ra (ex := (x == 0)) W2 (by omega)) ?_
    rintro _ h3 ⟨q, rfl, M, W3, E3⟩
    have e3 := E3.keep _ _ (E2.keep _ _ e nw) nw
    have ll : (rows.map rowD).length < sizeLine := lt_sl (by simp; omega)
    have ap := lApp (d := rowD q) e3 ll
    simp -implicitDefEqProofs [-List.append_assoc, -List.length_append, -List.cons_append, ap, e3]
    refine ⟨_, rows ++ [q], rfl, by rw [set_get e3]; simp, by simp [rl], fun y hy => ?_, (W3.up (by omega)).put (by intro z; exact nw z.symm) (by omega), ((E1.trans E2).trans E3).new (by omega)⟩
    rcases List.mem_append.mp hy with hy | hy
    · exact rk y hy
    · simp at hy; subst hy; exact M
end
end K64
namespace K64
open PySem PySem.Spec L2 PI
open PyProof.Rows hiding St
/-! ### torn rows: the plain part -/
theorem totK_look {t : List (Int × Int)} (nd : (t.map (·.1)).Nodup) (u : Int) : totK t u = look t u := by
  induction t with
  | nil => rfl
  | cons p t ih =>
    rw [List.map_cons, List.nodup_cons] at nd
    have ih := ih nd.2
    unfold totK at ih ⊢
    rw [List.map_cons, List.sum_cons, ih]
    by_cases z : p.1 = u
    · subst z
      rw [look_not nd.1]
      simp [look]
    · simp [look, z]
theorem totK_neg (t : List (Int × Int)) (u : Int) : totK (t.map fun p => (p.1, -p.2)) u = -totK t u := by
  induction t with
  | nil => rfl
  | cons p t ih =>
    unfold totK at ih ⊢
    simp only [List.map_cons, List.sum_cons] at ih ⊢
    rw [ih]
    split <;> omega
theorem totK_bd {cs : List (Int × Int)} {B : Int} (hB : 0 ≤ B) (b : ∀ p ∈ cs, -B ≤ p.2 ∧ p.2 ≤ B) (u : Int) : -(cs.length * B) ≤ totK cs u ∧ totK cs u ≤ cs.length * B := by
  induction cs with
  | nil => simp [totK]
  | cons p t ih =>
    have ih := ih fun q hq => b q (List.mem_cons_of_mem _ hq)
    have pb := b p List.mem_cons_self
    have e : (((p :: t).length : Nat) : Int) * B = t.length * B + B := by
      rw [List.length_cons]
      push_cast
      rw [Int.add_mul, Int.one_mul]
    rw [e]
    have e2 : totK (p :: t) u = (if p.1 = u then p.2 else 0) + totK t u := by simp [totK]
    rw [e2]
    split <;> omega
theorem asc_len {ts : List Trm} {c : Nat} (o : ts.Pairwise fun s t => s.1 < t.1) (b : ∀ t ∈ ts, 0 ≤ t.1 ∧ t.1 < c) : ts.length ≤ c := by
  have key : ∀ (ts : List Trm) (a : Int), ts.Pairwise (fun s t => s.1 < t.1) → (∀ t ∈ ts, a ≤ t.1 ∧ t.1 < c) → (ts.length : Int) ≤ max (c - a) 0 := by
    intro ts
    induction ts with
    | nil => intro a _ _; simp; omega
    | cons t ts ih =>
      intro a o b
      rw [List.pairwise_cons] at o
      have tb := b t List.mem_cons_self
      have := ih (t.1 + 1) o.2 fun u hu => ⟨by have := o.1 u hu; omega, (b u (List.mem_cons_of_mem _ hu)).2⟩
      rw [List.length_cons]
      push_cast
      omega
  have := key ts 0 o b
  omega
theorem left_tot {cs : List (Int × Int)} {ts : List Trm} (L : Left cs ts) (u : Int) : totK ts u = totK cs u := by
  have nd : (ts.map (·.1)).Nodup := (List.pairwise_map.mpr L.o).imp fun z e => by omega
  rw [totK_look nd]
  by_cases m : u ∈ ts.map (·.1)
  · obtain ⟨p, hp, rfl⟩ := List.mem_map.mp m
    rw [look_mem nd hp]
    exact ((L.m p.1 p.2).mp hp).1
  · rw [look_not m]
    by_cases z : totK cs u = 0
    · exact z.symm
    · exact absurd (List.mem_map.mpr ⟨_, (L.m u _).mpr ⟨rfl, z⟩, rfl⟩) m
/-- x put in at k -/
def insL {α : Type} (xs : List α) (k : Nat) (x : α) : List α := xs.take k ++ [x] ++ xs.drop k
theorem insL_zip {rows : List Row} {ms : List Int} {k : Nat} {q : Row} {m : Int} (l : ms.length = rows.length) (hk : k ≤ rows.length) : (insL rows k q).zip (insL ms k m) = insL (rows.zip ms) k (q, m) := by
  unfold insL
  rw [List.zip_append (by simp [l]), List.zip_append (by simp [l])]
  simp only [List.zip_eq_zipWith, List.take_zipWith, List.drop_zipWith]
  rfl
theorem cstZ_app (A B : List Zrow) : cstZ (A ++ B) = cstZ A + cstZ B := by simp [cstZ]
theorem csZ_app (A B : List Zrow) : csZ (A ++ B) = csZ A ++ csZ B := by simp [csZ]
theorem insL_cst {Z : List Zrow} {k : Nat} {p : Zrow} : cstZ (insL Z k p) = cstZ Z + p.2 * p.1.1.1 := by
  have e : cstZ Z = cstZ (Z.take k) + cstZ (Z.drop k) := by
    rw [← cstZ_app, List.take_append_drop]
  have e1 : cstZ [p] = p.2 * p.1.1.1 := by simp [cstZ]
  unfold insL
  rw [cstZ_app, cstZ_app, e, e1]
  omega
theorem insL_tot {Z : List Zrow} {k : Nat} {p : Zrow} {u : Int} : totK (csZ (insL Z k p)) u = totK (csZ Z) u + totK (p.1.1.2.map fun t => (t.1, p.2 * t.2)) u := by
  have e : totK (csZ Z) u = totK (csZ (Z.take k)) u + totK (csZ (Z.drop k)) u := by
    rw [← totK_app, ← csZ_app, List.take_append_drop]
  have e2 : csZ (insL Z k p) = csZ (Z.take k) ++ (p.1.1.2.map fun t => (t.1, p.2 * t.2)) ++ csZ (Z.drop k) := by simp [insL, csZ]
  rw [e2, totK_app, totK_app, e]
  omega
end K64
namespace K64
open PySem PySem.Spec L2 PI
open PyProof.Rows hiding St
structure TornI (c : Nat) (rows : List Row) (ms : List Int) : Prop where
  l : ms.length = rows.length
  r : ∀ r ∈ rows, Trms c c r.1.2 ∧ -10 ≤ r.1.1 ∧ r.1.1 ≤ 10
  m : ∀ x ∈ ms, -2 ≤ x ∧ x ≤ 4
  s : SgOk rows ms
theorem TornI.snoc {c : Nat} {rows : List Row} {ms : List Int} {q : Row} {v : Int} (T : TornI c rows ms) (tq : Trms c c q.1.2) (kq : -10 ≤ q.1.1 ∧ q.1.1 ≤ 10) (vb : -2 ≤ v ∧ v ≤ 4) (vs : v < 0 → q.2 = true) : TornI c (rows ++ [q]) (ms ++ [v]) := by
  refine ⟨by simp [T.l], fun r hr => ?_, fun x hx => ?_, fun i r m hr hm m0 => ?_⟩
  · rcases List.mem_append.mp hr with hr | hr
    · exact T.r r hr
    · simp at hr; subst hr; exact ⟨tq, kq⟩
  · rcases List.mem_append.mp hx with hx | hx
    · exact T.m x hx
    · simp at hx; subst hx; exact vb
  · by_cases z : i < rows.length
    · rw [List.getElem?_append_left z] at hr
      rw [List.getElem?_append_left (by rw [T.l]; exact z)] at hm
      exact T.s i r m hr hm m0
    · have li := (List.getElem?_eq_some_iff.mp hr).1
      simp at li
      have : i = rows.length := by omega
      subst this
      simp at hr
      rw [← T.l] at hm
      simp at hm
      subst hr
      subst hm
      exact vs m0
theorem TornI.ok {c : Nat} {rows : List Row} {ms : List Int} (T : TornI c rows ms) (hc : c ≤ 6) (hl : rows.length ≤ 5) : SumOk (c : Int) rows ms := by
  refine ⟨by omega, T.l, fun r hr => ?_, fun x hx => ?_⟩
  · obtain ⟨t, k⟩ := T.r r hr
    exact ⟨(lt2_12 (by omega)).up (by omega), fun u hu => let ⟨a, b, c⟩ := t.t u hu; ⟨a, b, (lt2_12 c).up (by omega)⟩, t.o, by have := t.n; omega⟩
  · exact (lt2_12 (by have := T.m x hx; omega)).up (by omega)
theorem cst_bd {Z : List Zrow} (b : ∀ p ∈ Z, (-2 ≤ p.2 ∧ p.2 ≤ 4) ∧ -10 ≤ p.1.1.1 ∧ p.1.1.1 ≤ 10) : -(40 * Z.length) ≤ cstZ Z ∧ cstZ Z ≤ 40 * Z.length := by
  induction Z with
  | nil => simp [cstZ]
  | cons p Z ih =>
    have ih := ih fun q hq => b q (List.mem_cons_of_mem _ hq)
    obtain ⟨b1, b2⟩ := b p List.mem_cons_self
    have e : cstZ (p :: Z) = p.2 * p.1.1.1 + cstZ Z := by simp [cstZ]
    have pb : -40 ≤ p.2 * p.1.1.1 ∧ p.2 * p.1.1.1 ≤ 40 := by
      generalize p.1.1.1 = k at b2
      have : p.2 = -2 ∨ p.2 = -1 ∨ p.2 = 0 ∨ p.2 = 1 ∨ p.2 = 2 ∨ p.2 = 3 ∨ p.2 = 4 := by omega
      rcases this with z | z | z | z | z | z | z <;> rw [z] <;> omega
    rw [e, List.length_cons]
    push_cast
    omega
section
variable {h h1 : Hh} {w l n : Nat}
theorem slL {r : Nat} {xs : List D} {lo hi : Option Int} (e : h[r]? = some (.lst xs)) : oSl (.ref r) lo hi h = some (.ref h.length, h ++ [.lst (PI.cutD xs lo hi)]) := by simp [oSl, e]
theorem addL {a b : Nat} {xs ys : List D} (ea : h[a]? = some (.lst xs)) (eb : h[b]? = some (.lst ys)) (l : xs.length + ys.length ≤ 1000000) : oAdd (.ref a) (.ref b) h = some (.ref h.length, h ++ [.lst (xs ++ ys)]) := by
  have : xs.length + ys.length ≤ sizeLine := Nat.le_trans l (by decide)
  simp [oAdd, ea, eb, this]
theorem torn_rows_ok {c m : Nat} (W : IsWell h w l n) (hn : n ≤ 40000) (hc : c ≤ 6) (hm : m ≤ 5) : spec (F__law_torn_rows [.ref w, .int (c : Int), .int (m : Int), .int 3] h) fun d h' => ∃ (r : Nat) (rows : List Row) (ms : List Int), d = .tup [.ref r, .tup (ms.map D.int)] ∧ h'[r]? = some (.lst (rows.map rowD)) ∧ rows.length = m + 1 ∧ (∀ x ∈ rows, okL c x.1) ∧ (∀ x ∈ ms, lt2 10 x) ∧ RefP rows (.tup (ms.map D.int)) ∧ IsWell h' w l (n + 1000) ∧ Ext (Wl w) h h' ∧ h.length ≤ r := by
  unfold F__law_torn_rows
  have dr : drawT F__law_draw w l := draw_dec
  generalize F__law_draw = gd at dr
  have te := fun {h : Hh} {n c : Nat} (W : IsWell h w l n) hn hc => terms_ok (c := c) W hn hc
  generalize F__law_terms = gt at te
  have su := fun {h : Hh} {c : Int} {rows : List Row} {ms : List Int} {dr dm : D} (S : SumOk c rows ms) (Q : Srcs h dr dm rows ms) => summed_ok S Q
  generalize F__law_summed = gs at su
  apply wO_fn
  have lw := W.lw
  have m0 : (h ++ [Ob.lst []] ++ [Ob.lst []])[h.length]? = some (.lst (([] : List Row).map rowD)) := push_get push_new
  have m1 : (h ++ [Ob.lst []] ++ [Ob.lst []])[(h ++ [Ob.lst []]).length]? = some (.lst (([] : List Int).map D.int)) := push_new
  have W0 := W.ext (h1 := h ++ [Ob.lst []] ++ [Ob.lst []]) (Ext.push.pushR)
  have E0 : Ext (Wl w) h (h ++ [Ob.lst []] ++ [Ob.lst []]) := Ext.push.pushR
  have k6 : m < 1000000000 := by omega
  have l45 : (h ++ [Ob.lst []]).length = h.length + 1 := by simp
  simp -implicitDefEqProofs [-List.append_assoc, -List.length_append, -List.cons_append, m__law_torn_rows, k6]
  generalize h ++ [Ob.lst []] ++ [Ob.lst []] = h0 at m0 m1 W0 E0 ⊢
  generalize (h ++ [Ob.lst []]).length = r5 at m1 l45 ⊢
  generalize hr : h.length = r4 at m0 l45 ⊢
  have nw4 : ¬ Wl w r4 := by intro z; simp only [Wl] at z; omega
  have nw5 : ¬ Wl w r5 := by intro z; simp only [Wl] at z; omega
  refine wS.loop (fun i ρ h' => ∃ o6 o7 o8 rows ms, ρ = [some (.ref w), some (.int c), some (.int m), some (.int 3), some (.ref r4), some (.ref r5), o6, o7, o8, none, none, none, none, none, none] ∧ h'[r4]? = some (.lst ((rows : List Row).map rowD)) ∧ h'[r5]? = some (.lst ((ms : List Int).map D.int)) ∧ rows.length = i ∧ TornI c rows ms ∧ IsWell h' w l (n + 30 * i) ∧ Ext (Wl w) h h') ⟨none, none, none, [], [], rfl, m0, m1, rfl, ⟨rfl, by simp, by simp, fun i r m hr => by simp at hr⟩, W0, E0⟩ ?_ ?_
  · rintro _ h' ⟨o6, o7, o8, rows, ms, rfl, e4, e5, rl, T, W1, E1⟩
    refine ⟨jRng_end, ?_⟩
    have S := T.ok hc (by omega)
    simp -implicitDefEqProofs [-List.append_assoc, -List.length_append, -List.cons_append]
    refine wS.bind (su S (Srcs.lst e4 e5)) ?_
    rintro _ h2 ⟨ts, rfl, L, E2⟩
    have f4 := E2.get e4
    have f5 := E2.get e5
    have W2 := W1.ext E2
    simp -implicitDefEqProofs [-List.append_assoc, -List.length_append, -List.cons_append]
    refine wS.bind (dr (m := 5) W2 (by decide) (by omega)) ?_
    rintro _ h3 ⟨z, rfl, zb, W3, E3⟩
    have g4 := E3.keep _ _ f4 nw4
    have g5 := E3.keep _ _ f5 nw5
    have tl : ts.length ≤ c := asc_len L.o fun t ht => by
      obtain ⟨q, hq, e⟩ := L.k t ht
      obtain ⟨p, hp, hq⟩ := List.mem_flatMap.mp hq
      obtain ⟨u, hu, rfl⟩ := List.mem_map.mp hq
      have := ((T.r p.1 (List.of_mem_zip hp).1).1.t u hu).1
      dsimp only at e
      omega
    simp -implicitDefEqProofs [-List.append_assoc, -List.length_append, -List.cons_append, wipeR]
    refine wS.bind (spec.lct (R := fun d h' => d = .ref h3.length ∧ h' = h3 ++ [.lst ((ts.map fun t => (t.1, -t.2)).map termD)]) (xs := ts) (enc := termD) (fun t => some (termD (t.1, -t.2))) (by simp) (lt_sl (by omega)) (fun acc i => by rw [jSrc_tup]) (fun t ht acc => ?_) ⟨rfl, by rw [List.map_map, ← List.filterMap_eq_map]; rfl⟩) ?_
    · exact ⟨_, rfl, rfl, rfl⟩
    rintro _ _ ⟨rfl, rfl⟩
    have p3 : (h3 ++ [Ob.lst ((ts.map fun t => (t.1, -t.2)).map termD)])[h3.length]? = _ := push_new
    have g4' : (h3 ++ [Ob.lst ((ts.map fun t => (t.1, -t.2)).map termD)])[r4]? = _ := push_get g4
    have g5' : (h3 ++ [Ob.lst ((ts.map fun t => (t.1, -t.2)).map termD)])[r5]? = _ := push_get g5
    have W3' := W3.ext (h1 := h3 ++ [Ob.lst ((ts.map fun t => (t.1, -t.2)).map termD)]) .push
    have E3' : Ext (Wl w) h (h3 ++ [Ob.lst ((ts.map fun t => (t.1, -t.2)).map termD)]) := ((E1.trans E2.of).trans E3).pushR
    generalize hus : (ts.map fun t => (t.1, -t.2)) = us at p3 g4' g5' W3' E3' ⊢
    generalize h3.length = r3 at p3 ⊢
    generalize h3 ++ [Ob.lst (us.map termD)] = h4 at p3 g4' g5' W3' E3' ⊢
    simp -implicitDefEqProofs [-List.append_assoc, -List.length_append, -List.cons_append, p3]
    refine wS.bind (dr (m := (m : Int) + 1) W3' (by omega) (by omega)) ?_
    rintro _ h5 ⟨k, rfl, kb, W5, E5⟩
    have k4 := E5.keep _ _ g4' nw4
    have k5 := E5.keep _ _ g5' nw5
    obtain ⟨j, rfl⟩ : ∃ j : Nat, k = j := ⟨k.toNat, by omega⟩
    simp -implicitDefEqProofs [-List.append_assoc, -List.length_append, -List.cons_append, slL k4]
    have q6 : (h5 ++ [Ob.lst (PI.cutD (rows.map rowD) none (some (j : Int)))])[h5.length]? = _ := push_new
    have k4' := push_get (l := [Ob.lst (PI.cutD (rows.map rowD) none (some (j : Int)))]) k4
    have k5' := push_get (l := [Ob.lst (PI.cutD (rows.map rowD) none (some (j : Int)))]) k5
    have W6 := W5.ext (h1 := h5 ++ [Ob.lst (PI.cutD (rows.map rowD) none (some (j : Int)))]) .push
    have E6 : Ext (Wl w) h (h5 ++ [Ob.lst (PI.cutD (rows.map rowD) none (some (j : Int)))]) := (E3'.trans E5).pushR
    have n6 : ¬ Wl w h5.length := by have := W5.lw; intro z; simp only [Wl] at z; omega
    generalize h5 ++ [Ob.lst (PI.cutD (rows.map rowD) none (some (j : Int)))] = h6 at q6 k4' k5' W6 E6 ⊢
    generalize h5.length = i6 at q6 n6 ⊢
    refine wS.bind (dr (m := 4) W6 (by decide) (by omega)) ?_
    rintro _ h7 ⟨x, rfl, xb, W7, E7⟩
    have q7 := E7.keep _ _ q6 n6
    have j4 := E7.keep _ _ k4' nw4
    have j5 := E7.keep _ _ k5' nw5
    have ex : oEq (.int x) (.int 0) h7 = some (.bl (x == 0), h7) := by simp
    generalize (x == 0) = b at ex
    obtain ⟨rl0, hrl⟩ : ∃ q : Row, D.tup [D.tup [D.int (-cstZ (rows.zip ms) - 1 - z), D.tup (us.map termD)], D.bl b] = rowD q ∧ q = ((-cstZ (rows.zip ms) - 1 - z, us), b) := ⟨_, rfl, rfl⟩
    have lt1 : (PI.cutD (rows.map rowD) none (some (j : Int))) = (rows.take j).map rowD := by rw [cutD_take (by simp; omega), List.map_take]
    have lt2' : (PI.cutD (rows.map rowD) (some (j : Int)) none) = (rows.drop j).map rowD := by rw [cutD_drop (by simp; omega), List.map_drop]
    rw [lt1] at q7
    simp -implicitDefEqProofs [-List.append_assoc, -List.length_append, -List.cons_append, ex, hrl.1]
    have q8 := push_get (l := [Ob.lst [rowD rl0]]) q7
    have j4' := push_get (l := [Ob.lst [rowD rl0]]) j4
    have j5' := push_get (l := [Ob.lst [rowD rl0]]) j5
    have W8 := W7.ext (h1 := h7 ++ [Ob.lst [rowD rl0]]) .push
    have E8 : Ext (Wl w) h (h7 ++ [Ob.lst [rowD rl0]]) := (E6.trans E7).pushR
    generalize h7 ++ [Ob.lst [rowD rl0]] = h8 at q8 j4' j5' W8 E8 ⊢
    have z1 : min j rows.length + 1 ≤ sizeLine := le_sl (by omega)
    simp -implicitDefEqProofs [-List.append_assoc, -List.length_append, -List.cons_append, q8, z1]
    generalize hA : List.take j (rows.map rowD) ++ [rowD rl0] = A
    have lA : A.length ≤ 6 := by rw [← hA]; simp; omega
    have q9 : (h8 ++ [Ob.lst A])[h8.length]? = _ := push_new
    have s4 := push_get (l := [Ob.lst A]) j4'
    have s5 := push_get (l := [Ob.lst A]) j5'
    have W9 := W8.ext (h1 := h8 ++ [Ob.lst A]) .push
    have E9 : Ext (Wl w) h (h8 ++ [Ob.lst A]) := E8.pushR
    generalize h8 ++ [Ob.lst A] = h9 at q9 s4 s5 W9 E9 ⊢
    generalize h8.length = i9 at q9 ⊢
    simp -implicitDefEqProofs [-List.append_assoc, -List.length_append, -List.cons_append, slL s4]
    generalize hB : PI.cutD (rows.map rowD) (some (j : Int)) none = B
    have lB : B.length ≤ 6 := by rw [← hB, lt2']; simp; omega
    have q10 := push_get (l := [Ob.lst B]) q9
    have r10 : (h9 ++ [Ob.lst B])[h9.length]? = _ := push_new
    have t5 := push_get (l := [Ob.lst B]) s5
    have W10 := W9.ext (h1 := h9 ++ [Ob.lst B]) .push
    have E10 : Ext (Wl w) h (h9 ++ [Ob.lst B]) := E9.pushR
    have z2 : A.length + B.length ≤ sizeLine := le_sl (by omega)
    generalize h9 ++ [Ob.lst B] = h10 at q10 r10 t5 W10 E10 ⊢
    simp -implicitDefEqProofs [-List.append_assoc, -List.length_append, -List.cons_append, q10, r10, z2]
    have u11 : (h10 ++ [Ob.lst (A ++ B)])[h10.length]? = _ := push_new
    have v5 := push_get (l := [Ob.lst (A ++ B)]) t5
    have W11 := W10.ext (h1 := h10 ++ [Ob.lst (A ++ B)]) .push
    have E11 : Ext (Wl w) h (h10 ++ [Ob.lst (A ++ B)]) := E10.pushR
    generalize h10 ++ [Ob.lst (A ++ B)] = h11 at u11 v5 W11 E11 ⊢
    have l10 := E10.len
    generalize h10.length = i11 at u11 l10 ⊢
    have mt1 : PI.cutD (ms.map D.int) none (some (j : Int)) = (ms.take j).map D.int := by rw [cutD_take (by have := T.l; simp; omega), List.map_take]
    have mt2 : PI.cutD (ms.map D.int) (some (j : Int)) none = (ms.drop j).map D.int := by rw [cutD_drop (by have := T.l; simp; omega), List.map_drop]
    have lm := T.l
    simp -implicitDefEqProofs [-List.append_assoc, -List.length_append, -List.cons_append, slL v5]
    generalize hC : PI.cutD (ms.map D.int) none (some (j : Int)) = C
    have lC : C.length ≤ 6 := by rw [← hC, mt1]; simp; omega
    have w12 : (h11 ++ [Ob.lst C] ++ [Ob.lst [D.int 1]])[h11.length]? = some (.lst C) := push_get push_new
    have u12 : (h11 ++ [Ob.lst C] ++ [Ob.lst [D.int 1]])[i11]? = _ := push_get (push_get u11)
    have v12 : (h11 ++ [Ob.lst C] ++ [Ob.lst [D.int 1]])[r5]? = _ := push_get (push_get v5)
    have W12 := W11.ext (h1 := h11 ++ [Ob.lst C] ++ [Ob.lst [D.int 1]]) Ext.push.pushR
    have E12 : Ext (Wl w) h (h11 ++ [Ob.lst C] ++ [Ob.lst [D.int 1]]) := E11.pushR.pushR
    have z3 : C.length + 1 ≤ sizeLine := le_sl (by omega)
    generalize h11 ++ [Ob.lst C] ++ [Ob.lst [D.int 1]] = h12 at w12 u12 v12 W12 E12 ⊢
    generalize h11.length = i12 at w12 ⊢
    simp -implicitDefEqProofs [-List.append_assoc, -List.length_append, -List.cons_append, w12, z3]
    generalize hF : C ++ [D.int 1] = F
    have lF : F.length ≤ 7 := by rw [← hF]; simp; omega
    have w13 : (h12 ++ [Ob.lst F])[h12.length]? = _ := push_new
    have u13 : (h12 ++ [Ob.lst F])[i11]? = _ := push_get u12
    have v13 : (h12 ++ [Ob.lst F])[r5]? = _ := push_get v12
    have W13 := W12.ext (h1 := h12 ++ [Ob.lst F]) .push
    have E13 : Ext (Wl w) h (h12 ++ [Ob.lst F]) := E12.pushR
    generalize h12 ++ [Ob.lst F] = h13 at w13 u13 v13 W13 E13 ⊢
    generalize h12.length = i13 at w13 ⊢
    simp -implicitDefEqProofs [-List.append_assoc, -List.length_append, -List.cons_append, slL v13]
    generalize hG : PI.cutD (ms.map D.int) (some (j : Int)) none = G
    have lG : G.length ≤ 6 := by rw [← hG, mt2]; simp; omega
    have w14 : (h13 ++ [Ob.lst G])[i13]? = _ := push_get w13
    have x14 : (h13 ++ [Ob.lst G])[h13.length]? = _ := push_new
    have u14 : (h13 ++ [Ob.lst G])[i11]? = _ := push_get u13
    have W14 := W13.ext (h1 := h13 ++ [Ob.lst G]) .push
    have E14 : Ext (Wl w) h (h13 ++ [Ob.lst G]) := E13.pushR
    have z4 : F.length + G.length ≤ sizeLine := le_sl (by omega)
    generalize h13 ++ [Ob.lst G] = h14 at w14 x14 u14 W14 E14 ⊢
    simp -implicitDefEqProofs [-List.append_assoc, -List.length_append, -List.cons_append, w14, x14, z4]
    have y15 : (h14 ++ [Ob.lst (F ++ G)])[h14.length]? = _ := push_new
    have u15 : (h14 ++ [Ob.lst (F ++ G)])[i11]? = _ := push_get u14
    have W15 := W14.ext (h1 := h14 ++ [Ob.lst (F ++ G)]) .push
    have E15 : Ext (Wl w) h (h14 ++ [Ob.lst (F ++ G)]) := E14.pushR
    refine ⟨i11, insL rows j rl0, insL ms j 1, ?_, ?_, ?_, ?_, ?_, ?_, W15.up (by omega), E15, by omega⟩
    · rw [← hF, ← hC, ← hG, mt1, mt2]; simp [insL]
    · rw [u15, ← hA, ← hB, lt2']; simp [insL]
    · simp [insL]; omega
    · intro x hx
      have hx' : x ∈ rows ∨ x = rl0 := by
        unfold insL at hx
        rcases List.mem_append.mp hx with hx | hx
        · rcases List.mem_append.mp hx with hx | hx
          · exact .inl (List.mem_of_mem_take hx)
          · exact .inr (by simpa using hx)
        · exact .inl (List.mem_of_mem_drop hx)
      rcases hx' with hx' | hx'
      · exact S.r x hx'
      · rw [hx', hrl.2]
        have cb := cst_bd (Z := rows.zip ms) fun p hp => ⟨T.m _ (List.of_mem_zip hp).2, (T.r _ (List.of_mem_zip hp).1).2⟩
        have zl : (rows.zip ms).length ≤ 5 := by rw [List.length_zip]; omega
        refine ⟨(lt2_12 (by dsimp only; omega)).up (by omega), fun u hu => ?_, ?_, by rw [← hus]; simp; omega⟩
        · dsimp only at hu
          rw [← hus] at hu
          obtain ⟨t, ht, rfl⟩ := List.mem_map.mp hu
          obtain ⟨q, hq, eq⟩ := L.k t ht
          obtain ⟨e, nz⟩ := (L.m t.1 t.2).mp ht
          have per : ∀ q ∈ csZ (rows.zip ms), (0 ≤ q.1 ∧ q.1 < c) ∧ -(10 ^ 13) ≤ q.2 ∧ q.2 ≤ 10 ^ 13 := fun q hq => by
            obtain ⟨p, hp, hq⟩ := List.mem_flatMap.mp hq
            obtain ⟨u, hu, rfl⟩ := List.mem_map.mp hq
            have mb := T.m _ (List.of_mem_zip hp).2
            have tb := (T.r p.1 (List.of_mem_zip hp).1).1.t u hu
            refine ⟨tb.1, ?_⟩
            dsimp only
            have k := tb.2.2
            generalize u.2 = v at k
            have : p.2 = -2 ∨ p.2 = -1 ∨ p.2 = 0 ∨ p.2 = 1 ∨ p.2 = 2 ∨ p.2 = 3 ∨ p.2 = 4 := by omega
            rcases this with z | z | z | z | z | z | z <;> rw [z] <;> omega
          have bq := (per q hq).1
          have tb := totK_bd (B := 10 ^ 13) (by omega) (fun q hq => (per q hq).2) t.1
          have cl := S.len
          dsimp only
          refine ⟨by omega, by omega, ?_⟩
          unfold lt2
          have p2 : (2 : Nat) ^ 200 > 10 ^ 20 := by decide
          omega
        · rw [← hus, List.pairwise_map]
          exact L.o
    · intro x hx
      have : x ∈ ms ∨ x = 1 := by
        unfold insL at hx
        rcases List.mem_append.mp hx with hx | hx
        · rcases List.mem_append.mp hx with hx | hx
          · exact .inl (List.mem_of_mem_take hx)
          · exact .inr (by simpa using hx)
        · exact .inl (List.mem_of_mem_drop hx)
      unfold lt2
      rcases this with z | rfl
      · have := T.m x z; omega
      · decide
    · have iz := insL_zip (q := rl0) (m := 1) (k := j) T.l (by omega)
      have e0 := hrl.2
      refine ⟨insL ms j 1, rfl, by simp [insL]; omega, ?_, ?_, ?_⟩
      · intro i r x hr hx x0
        have hz := List.mem_of_getElem? (zip_at hr hx)
        rw [iz] at hz
        have old : ∀ p ∈ rows.zip ms, p.2 < 0 → p.1.2 = true := fun p hp p0 => by
          obtain ⟨i, hi⟩ := List.mem_iff_getElem?.mp hp
          have := List.getElem?_zip_eq_some.mp hi
          exact T.s i p.1 p.2 this.1 this.2 p0
        unfold insL at hz
        rcases List.mem_append.mp hz with hz | hz
        · rcases List.mem_append.mp hz with hz | hz
          · exact old _ (List.mem_of_mem_take hz) x0
          · simp at hz; omega
        · exact old _ (List.mem_of_mem_drop hz) x0
      · rw [iz, insL_cst, e0]
        dsimp only
        omega
      · intro u
        rw [iz, insL_tot, e0]
        dsimp only
        have := left_tot L u
        have n := totK_neg ts u
        rw [hus] at n
        have e1 : (us.map fun t => (t.1, 1 * t.2)) = us := by simp
        rw [e1, n, this]
        omega
  · rintro i _ h' hi ⟨o6, o7, o8, rows, ms, rfl, e4, e5, rl, T, W1, E1⟩
    refine ⟨_, _, _, jRng_at hi, rfl, ?_⟩
    simp -implicitDefEqProofs [-List.append_assoc, -List.length_append, -List.cons_append]
    refine wS.bind (dr (m := 4) W1 (by decide) (by omega)) ?_
    rintro _ h2 ⟨x, rfl, xb, W2, E2⟩
    have ex : oEq (.int x) (.int 0) h2 = some (.bl (x == 0), h2) := by simp
    generalize (x == 0) = b at ex
    simp -implicitDefEqProofs [-List.append_assoc, -List.length_append, -List.cons_append, ex]
    refine wS.bind (dr (m := 5) W2 (by decide) (by omega)) ?_
    rintro _ h3 ⟨y, rfl, yb, W3, E3⟩
    have E23 := E2.trans E3
    simp -implicitDefEqProofs [-List.append_assoc, -List.length_append, -List.cons_append]
    refine wS.cut (fun ρ h6 => ∃ v : Int, ρ = [some (.ref w), some (.int c), some (.int m), some (.int 3), some (.ref r4), some (.ref r5), some (.int i), some (.bl b), some (.int v), none, none, none, none, none, none] ∧ (-2 ≤ v ∧ v ≤ 4) ∧ (v < 0 → b = true) ∧ h6 = h3) ?_ ?_
    · cases b with
      | true =>
        simp -implicitDefEqProofs [-List.append_assoc, -List.length_append, -List.cons_append]
        exact ⟨_, rfl, by omega, fun _ => rfl, rfl⟩
      | false =>
        simp -implicitDefEqProofs [-List.append_assoc, -List.length_append, -List.cons_append]
        exact ⟨_, rfl, by omega, fun z => by omega, rfl⟩
    · rintro _ _ ⟨v, rfl, vb, vs, rfl⟩
      have f4 := E23.keep _ _ e4 nw4
      simp -implicitDefEqProofs [-List.append_assoc, -List.length_append, -List.cons_append, f4]
      refine wS.bind (dr (m := 21) W3 (by decide) (by omega)) ?_
      rintro _ h4 ⟨k, rfl, kb, W4, E4⟩
      simp -implicitDefEqProofs [-List.append_assoc, -List.length_append, -List.cons_append]
      refine wS.bind (te (c := c) W4 (by omega) hc) ?_
      rintro _ h5 ⟨q, ts, rfl, m5, Tq, W5, E5, ql⟩
      have g4 := E5.keep _ _ (E4.keep _ _ f4 nw4) nw4
      have g5 := E5.keep _ _ (E4.keep _ _ (E23.keep _ _ e5 nw5) nw5) nw5
      have ll4 : (rows.map rowD).length < sizeLine := lt_sl (by simp; omega)
      have ll5 : (ms.map D.int).length < sizeLine := lt_sl (by have := T.l; simp; omega)
      have ap := lApp (d := D.tup [.tup [.int (k - 10), .tup (ts.map termD)], .bl b]) g4 ll4
      simp -implicitDefEqProofs [-List.append_assoc, -List.length_append, -List.cons_append, m5, ap, g4]
      have n45 : r5 ≠ r4 := by omega
      have p5 := set_ne (o' := .lst (rows.map rowD ++ [D.tup [.tup [.int (k - 10), .tup (ts.map termD)], .bl b]])) g5 n45
      have p4 := set_get (o' := .lst (rows.map rowD ++ [D.tup [.tup [.int (k - 10), .tup (ts.map termD)], .bl b]])) g4
      have E15 := ((E1.trans E23).trans E4).trans E5
      have E16 := E15.new (i := r4) (o := .lst (rows.map rowD ++ [D.tup [.tup [.int (k - 10), .tup (ts.map termD)], .bl b]])) (by omega)
      have W6 := W5.put (r := r4) (o := .lst (rows.map rowD ++ [D.tup [.tup [.int (k - 10), .tup (ts.map termD)], .bl b]])) (by omega) (by omega)
      generalize h5.set r4 (.lst (rows.map rowD ++ [D.tup [.tup [.int (k - 10), .tup (ts.map termD)], .bl b]])) = h6 at p4 p5 E16 W6 ⊢
      have ap5 := lApp (d := D.int v) p5 ll5
      simp -implicitDefEqProofs [-List.append_assoc, -List.length_append, -List.cons_append, ap5, p5]
      refine ⟨_, _, _, rows ++ [((k - 10, ts), b)], ms ++ [v], rfl, ?_, by rw [set_get p5]; simp, by simp [rl], T.snoc Tq (by dsimp only; omega) vb vs, (W6.up (by omega)).put (by omega) (by omega), E16.new (by omega)⟩
      rw [set_ne p4 (Ne.symm n45)]
      simp [rowD, linD]
end
end K64
namespace K64
open PySem PySem.Spec L2 PI
open PyProof.Rows hiding St
section
variable {h h1 : Hh} {w l n : Nat}
theorem swapped_eq {xs : List D} {k : Nat} {x : D} (lk : k < xs.length) (l : xs.length ≤ 100000) : F__law_swapped [.tup xs, .int (k : Int), x] h = .ok (.tup (xs.take k ++ [x] ++ xs.drop (k + 1))) h := by
  have c1 : PI.cutD xs none (some (k : Int)) = xs.take k := cutD_take (by omega)
  have c2 : PI.cutD xs (some ((k : Int) + 1)) none = xs.drop (k + 1) := by
    have := cutD_drop (xs := xs) (k := k + 1) (by omega)
    simpa using this
  have a1 : oAdd (.tup (xs.take k)) (.tup [x]) h = some (.tup (xs.take k ++ [x]), h) := oAdd_t (by simp; omega)
  have a2 : oAdd (.tup (xs.take k ++ [x])) (.tup (xs.drop (k + 1))) h = some (.tup (xs.take k ++ [x] ++ xs.drop (k + 1)), h) := oAdd_t (by simp; omega)
  simp -implicitDefEqProofs [-List.append_assoc, -List.length_append, -List.cons_append, F__law_swapped, mFn, m__law_swapped, c1, c2, a1, a2]
/-- a part of a point that is a ratio or nearly -/
theorem part_pair {a b : Int} (ha : lt2 200 a) (hb : lt2 200 b) : PartD h (.tup [.int a, .int b]) := .pair rfl rfl (fun i e => by cases e; exact ha) (fun i e => by cases e; exact hb)
theorem part_rat {p : Rt} (b : lt2 150 p.1 ∧ lt2 150 p.2) : PartD h (ratD p) := part_pair (b.1.up (by omega)) (b.2.up (by omega))
theorem pt_rats {ps : List Rt} (l : ps.length < 1000000) (b : ∀ p ∈ ps, lt2 150 p.1 ∧ lt2 150 p.2) : PtD h (.tup (ps.map ratD)) := .tup (by simpa using l) fun x hx => by
  obtain ⟨p, hp, rfl⟩ := List.mem_map.mp hx
  exact part_rat (b p hp)
theorem pt_put {xs : List D} {k : Nat} {x : D} (l : xs.length < 900000) (a : ∀ x ∈ xs, PartD h x) (px : PartD h x) : PtD h (.tup (xs.take k ++ [x] ++ xs.drop (k + 1))) := .tup (by simp; omega) fun y hy => by
  rcases List.mem_append.mp hy with hy | hy
  · rcases List.mem_append.mp hy with hy | hy
    · exact a y (List.mem_of_mem_take hy)
    · simp at hy; subst hy; exact px
  · exact a y (List.mem_of_mem_drop hy)
end
end K64
namespace K64
open PySem PySem.Spec L2 PI
open PyProof.Rows hiding St
section
variable {h h1 : Hh} {w l n : Nat}
/-- a pair without ints -/
def Shr (d : D) : Prop := ∃ a b, d = .tup [a, b] ∧ (∀ h : Hh, (∃ t, tyD h a = some t) ∧ ∃ t, tyD h b = some t) ∧ (∀ i, a ≠ .int i) ∧ ∀ i, b ≠ .int i
theorem Shr.part {d : D} (s : Shr d) : PartD h d := by
  obtain ⟨a, b, rfl, t, na, nb⟩ := s
  obtain ⟨⟨t1, e1⟩, t2, e2⟩ := t h
  exact .pair e1 e2 (fun i e => absurd e (na i)) fun i e => absurd e (nb i)
theorem Shr.dbl {d : D} (s : Shr d) : Shr (.tup [d, d]) := by
  obtain ⟨a, b, rfl, _⟩ := s
  exact ⟨_, _, rfl, fun h => ⟨⟨_, rfl⟩, _, rfl⟩, fun i e => (by cases e), fun i e => (by cases e)⟩
theorem shared_ok : spec (F__law_shared [] h) fun d h' => h' = h ∧ ∀ h2, PtD h2 d ∧ MulD h2 d := by
  unfold F__law_shared
  apply wO_fn
  simp -implicitDefEqProofs [-List.append_assoc, -List.length_append, -List.cons_append, m__law_shared]
  refine wS.loop (fun i ρ h' => h' = h ∧ ∃ d o1, ρ = [some d, o1] ∧ Shr d ∧ (0 < i → ∃ x, d = .tup [x, x] ∧ Shr x)) ⟨rfl, _, none, rfl, ⟨_, _, rfl, fun h => ⟨⟨_, rfl⟩, _, rfl⟩, fun i e => (by cases e), fun i e => (by cases e)⟩, fun z => by omega⟩ ?_ ?_
  · rintro _ h' ⟨rfl, d, o1, rfl, s, k⟩
    refine ⟨jRng_end, ?_⟩
    obtain ⟨x, rfl, sx⟩ := k (by omega)
    simp -implicitDefEqProofs [-List.append_assoc, -List.length_append, -List.cons_append]
    refine ⟨rfl, fun h2 => ⟨.tup (by simp) fun y hy => ?_, .tup (by simp) fun y hy => ?_⟩⟩
    · simp at hy; subst hy; exact sx.part
    · simp at hy
      subst hy
      obtain ⟨a, b, rfl, _⟩ := sx
      exact ⟨⟨_, rfl⟩, fun i e => by cases e⟩
  · rintro i _ h' hi ⟨rfl, d, o1, rfl, s, k⟩
    refine ⟨_, _, _, jRng_at hi, rfl, ?_⟩
    simp -implicitDefEqProofs [-List.append_assoc, -List.length_append, -List.cons_append]
    exact ⟨rfl, _, _, rfl, s.dbl, fun _ => ⟨d, rfl, s⟩⟩
end
end K64
namespace K64
open PySem PySem.Spec L2 PI
open PyProof.Rows hiding St
section
variable {h h1 : Hh} {w l n : Nat}
/-- a thing for keeps, now and later -/
def PtS (w : Nat) (h : Hh) (d : D) : Prop := ∀ h', Ext (Wl w) h h' → PtD h' d
def MulS (w : Nat) (h : Hh) (d : D) : Prop := ∀ h', Ext (Wl w) h h' → MulD h' d
theorem PtS.later {d : D} (s : PtS w h d) (E : Ext (Wl w) h h1) : PtS w h1 d := fun h' E' => s h' (E.trans E')
theorem MulS.later {d : D} (s : MulS w h d) (E : Ext (Wl w) h h1) : MulS w h1 d := fun h' E' => s h' (E.trans E')
theorem ty_lst {r : Nat} {xs : List D} (e : h[r]? = some (.lst xs)) : tyD h (.ref r) = some "list" := by simp [tyD, e]
theorem pts_ref {r : Nat} {xs : List D} (e : h[r]? = some (.lst xs)) (nw : ¬ Wl w r) : PtS w h (.ref r) := fun h' E => .other (ty_lst (E.keep _ _ e nw)) (by decide)
theorem ratD_py (p : Rt) : PyOk h 63 (ratD p) := .tup fun d hd => by
  simp at hd
  rcases hd with rfl | rfl
  · exact .int
  · exact .int
theorem spoilt_point_ok {ps : List Rt} (W : IsWell h w l n) (hn : n ≤ 60000) (pl : ps.length ≤ 5000) (pb : ∀ p ∈ ps, lt2 140 p.1 ∧ lt2 140 p.2) : spec (F__law_spoilt_point [.ref w, .tup (ps.map ratD)] h) fun d h' => PtS w h' d ∧ IsWell h' w l (n + 2) ∧ Ext (Wl w) h h' := by
  unfold F__law_spoilt_point
  have dr : drawT F__law_draw w l := draw_dec
  generalize F__law_draw = gd at dr
  have sw := fun {h : Hh} {xs : List D} {k : Nat} {x : D} lk l => swapped_eq (h := h) (xs := xs) (k := k) (x := x) lk l
  generalize F__law_swapped = gs at sw
  apply wO_fn
  have lw := W.lw
  have en := oEq_tnil (h := h) (xs := ps.map ratD) fun d hd => by
    obtain ⟨t, _, rfl⟩ := List.mem_map.mp hd
    exact ratD_py t
  cases hp : ps.isEmpty with
  | true =>
    have : ps = [] := List.isEmpty_iff.mp hp
    subst this
    have en : oEq (.tup []) (.tup []) h = some (.bl true, h) := en
    simp -implicitDefEqProofs [-List.append_assoc, -List.length_append, -List.cons_append, m__law_spoilt_point, en]
    have m0 : (h ++ [Ob.lst []] ++ [Ob.lst [D.ref h.length, D.tup [D.tup [D.int 0, D.int 1]], D.non, D.str "", D.int 0]])[h.length]? = some (.lst []) := push_get push_new
    have m1 : (h ++ [Ob.lst []] ++ [Ob.lst [D.ref h.length, D.tup [D.tup [D.int 0, D.int 1]], D.non, D.str "", D.int 0]])[(h ++ [Ob.lst []]).length]? = _ := push_new
    have W1 := W.ext (h1 := h ++ [Ob.lst []] ++ [Ob.lst [D.ref h.length, D.tup [D.tup [D.int 0, D.int 1]], D.non, D.str "", D.int 0]]) Ext.push.pushR
    have E1 : Ext (Wl w) h (h ++ [Ob.lst []] ++ [Ob.lst [D.ref h.length, D.tup [D.tup [D.int 0, D.int 1]], D.non, D.str "", D.int 0]]) := Ext.push.pushR
    have l1 : (h ++ [Ob.lst []]).length = h.length + 1 := by simp
    generalize h ++ [Ob.lst []] ++ [Ob.lst [D.ref h.length, D.tup [D.tup [D.int 0, D.int 1]], D.non, D.str "", D.int 0]] = h1 at m0 m1 W1 E1 ⊢
    generalize (h ++ [Ob.lst []]).length = r1 at m1 l1 ⊢
    have n0 : ¬ Wl w h.length := by intro z; simp only [Wl] at z; omega
    have n1 : ¬ Wl w r1 := by intro z; simp only [Wl] at z; omega
    refine wS.bind (dr (m := 5) W1 (by decide) (by omega)) ?_
    rintro _ h2 ⟨u, rfl, ub, W2, E2⟩
    have k0 := E2.keep _ _ m0 n0
    have k1 := E2.keep _ _ m1 n1
    obtain ⟨d, at_, mem⟩ := atI_some (L := [D.ref h.length, D.tup [D.tup [D.int 0, D.int 1]], D.non, D.str "", D.int 0]) ub.1 ub.2
    simp -implicitDefEqProofs [-List.append_assoc, -List.length_append, -List.cons_append, oGet_lst k1, at_]
    refine ⟨?_, W2.up (by omega), E1.trans E2⟩
    simp only [List.mem_cons, List.not_mem_nil, or_false] at mem
    rcases mem with rfl | rfl | rfl | rfl | rfl
    · exact pts_ref k0 n0
    · exact fun h' E => .tup (by simp) fun x hx => by
        simp at hx; subst hx
        exact part_pair (by unfold lt2; decide) (by unfold lt2; decide)
    · exact fun h' E => .other (t := "NoneType") rfl (by decide)
    · exact fun h' E => .other (t := "str") rfl (by decide)
    · exact fun h' E => .other (t := "int") rfl (by decide)
  | false =>
    have e1 : (ps.map ratD).isEmpty = false := by simpa using hp
    rw [e1] at en
    simp -implicitDefEqProofs [-List.append_assoc, -List.length_append, -List.cons_append, m__law_spoilt_point, en]
    have p0 : 0 < ps.length := by
      have : ps ≠ [] := fun z => by rw [z] at hp; cases hp
      exact List.length_pos_iff.mpr this
    refine wS.bind (dr (m := ps.length) W ⟨by omega, by omega⟩ (by omega)) ?_
    rintro _ h2 ⟨u, rfl, ub, W2, E2⟩
    obtain ⟨k, rfl⟩ : ∃ k : Nat, u = k := ⟨u.toNat, by omega⟩
    obtain ⟨p, ep⟩ : ∃ p, ps[k]? = some p := ⟨_, List.getElem?_eq_getElem (by omega)⟩
    have pm := pb p (List.mem_of_getElem? ep)
    have ap : atI (ps.map ratD) (k : Int) = some (.tup [.int p.1, .int p.2]) := atI_of (map_at ep)
    have c1 : mulOk 2 p.1 = true := mulOk_l (by omega)
    have c2 : mulOk 2 p.2 = true := mulOk_l (by omega)
    have c3 : mulOk 3 p.1 = true := mulOk_l (by omega)
    have c4 : mulOk 3 p.2 = true := mulOk_l (by omega)
    simp -implicitDefEqProofs [-List.append_assoc, -List.length_append, -List.cons_append, ap, c1, c2, c3, c4]
    have lh2 := E2.len
    have Eh : Ext (Wl w) h2 h2 := .refl
    generalize xe : h2 ++ [(_ : Ob)] = h3
    have q3 := new_of xe
    have W2 := W2.ext (ext_of xe)
    have Eh := Eh.trans (ext_of xe)
    have lh3 := len_of xe
    clear xe
    generalize hi3 : h2.length = i3 at q3 lh3 ⊢
    generalize xe : h3 ++ [(_ : Ob)] = h4
    have q4 := new_of xe
    have q3 := get_of xe q3
    have W2 := W2.ext (ext_of xe)
    have Eh := Eh.trans (ext_of xe)
    have lh4 := len_of xe
    clear xe
    generalize hi4 : h3.length = i4 at q4 lh4 ⊢
    generalize xe : h4 ++ [(_ : Ob)] = h5
    have q5 := new_of xe
    have q3 := get_of xe q3
    have q4 := get_of xe q4
    have W2 := W2.ext (ext_of xe)
    have Eh := Eh.trans (ext_of xe)
    have lh5 := len_of xe
    clear xe
    generalize hi5 : h4.length = i5 at q5 lh5 ⊢
    simp -implicitDefEqProofs [-List.append_assoc, -List.length_append, -List.cons_append, q4, q5, le_sl (show 6 + 7 ≤ 1000000 by omega)]
    generalize xe : h5 ++ [(_ : Ob)] = h6
    have q6 := new_of xe
    have q3 := get_of xe q3
    have W2 := W2.ext (ext_of xe)
    have Eh := Eh.trans (ext_of xe)
    have lh6 := len_of xe
    clear xe
    generalize hi6 : h5.length = i6 at q6 lh6 ⊢
    have n3 : ¬ Wl w i3 := by intro z; simp only [Wl] at z; omega
    have n6 : ¬ Wl w i6 := by intro z; simp only [Wl] at z; omega
    refine wS.bind (dr (m := 18) W2 (by decide) (by omega)) ?_
    rintro _ h7 ⟨v, rfl, vb, W7, E7⟩
    have q7 := E7.keep _ _ q6 n6
    have E27 := (E2.trans Eh).trans E7
    have lk : k < (ps.map ratD).length := by simp; omega
    have part : ∀ d ∈ [D.tup [D.int (p.fst + 1), D.int p.snd], D.tup [D.int (p.fst - 1), D.int p.snd],
                  D.tup [D.int (2 * p.fst), D.int (2 * p.snd)], D.tup [D.int p.fst, D.int 0],
                  D.tup [D.int (-p.fst), D.int (-p.snd)], D.ref i3, D.tup [D.int p.fst, D.int p.snd, D.int 1],
                  D.tup [D.int p.fst], D.non, D.int p.fst, D.tup [D.int p.fst, D.bl true],
                  D.tup [D.bl true, D.int p.snd], D.tup [D.int (3 * p.fst), D.int (3 * p.snd)]], ∀ h', Ext (Wl w) h6 h' → PartD h' d := by
      have e : (2 : Nat) ^ 200 = 2 ^ 140 * 2 ^ 60 := by decide
      have e60 : (2 : Nat) ^ 60 = 1152921504606846976 := by decide
      have b1 := pm.1
      have b2 := pm.2
      unfold lt2 at b1 b2
      generalize (2 : Nat) ^ 140 = Z at b1 b2 e
      have pr : ∀ {h' : Hh} {a b : Int}, a.natAbs < 2 ^ 200 → b.natAbs < 2 ^ 200 → PartD h' (.tup [.int a, .int b]) := fun ha hb => part_pair ha hb
      rw [e, e60] at pr
      intro d hd h' E'
      simp only [List.mem_cons, List.not_mem_nil, or_false] at hd
      rcases hd with rfl | rfl | rfl | rfl | rfl | rfl | rfl | rfl | rfl | rfl | rfl | rfl | rfl
      · exact pr (by omega) (by omega)
      · exact pr (by omega) (by omega)
      · exact pr (by omega) (by omega)
      · exact pr (by omega) (by omega)
      · exact pr (by omega) (by omega)
      · exact .other (ty_lst (E'.keep _ _ q3 n3)) (by decide)
      · exact .len (by simp)
      · exact .len (by simp)
      · exact .other (t := "NoneType") rfl (by decide)
      · exact .other (t := "int") rfl (by decide)
      · exact .pair rfl rfl (fun i e => by cases e; unfold lt2; rw [‹(2:Nat)^200 = _›, e60]; omega) (fun i e => by cases e)
      · exact .pair rfl rfl (fun i e => by cases e) (fun i e => by cases e; unfold lt2; rw [‹(2:Nat)^200 = _›, e60]; omega)
      · exact pr (by omega) (by omega)
    by_cases v13 : v < 13
    · obtain ⟨d, at_, mem⟩ := atI_some (L := [D.tup [D.int (p.fst + 1), D.int p.snd], D.tup [D.int (p.fst - 1), D.int p.snd],
                  D.tup [D.int (2 * p.fst), D.int (2 * p.snd)], D.tup [D.int p.fst, D.int 0],
                  D.tup [D.int (-p.fst), D.int (-p.snd)], D.ref i3, D.tup [D.int p.fst, D.int p.snd, D.int 1],
                  D.tup [D.int p.fst], D.non, D.int p.fst, D.tup [D.int p.fst, D.bl true],
                  D.tup [D.bl true, D.int p.snd], D.tup [D.int (3 * p.fst), D.int (3 * p.snd)]]) vb.1 v13
      have sw1 := sw (h := h7) (xs := ps.map ratD) (x := d) lk (by simp; omega)
      simp -implicitDefEqProofs [-List.append_assoc, -List.length_append, -List.cons_append, q7, bLen_ref q7, v13, oGet_lst q7, at_, sw1]
      refine ⟨fun h' E' => pt_put (by simp; omega) (fun x hx => ?_) (part d mem h' (E7.trans E')), W7.up (by omega), E27⟩
      obtain ⟨t, ht, rfl⟩ := List.mem_map.mp hx
      have := pb t ht
      exact part_rat ⟨this.1.up (by omega), this.2.up (by omega)⟩
    · have cu1 : PI.cutD (ps.map ratD) none (some (k : Int)) = (ps.take k).map ratD := by rw [cutD_take (by omega), List.map_take]
      have cu2 : PI.cutD (ps.map ratD) (some ((k : Int) + 1)) none = (ps.drop (k + 1)).map ratD := by
        have := cutD_drop (xs := ps.map ratD) (k := k + 1) (by omega)
        rw [List.map_drop]
        simpa using this
      have a1 : ∀ h, oAdd (.tup ((ps.take k).map ratD)) (.tup ((ps.drop (k + 1)).map ratD)) h = some (.tup ((ps.take k ++ ps.drop (k + 1)).map ratD), h) := fun h => by rw [oAdd_t (by simp; omega), List.map_append]
      have a2 : ∀ h, oAdd (.tup (ps.map ratD)) (.tup [.tup [.int 0, .int 1]]) h = some (.tup ((ps ++ [(0, 1)]).map ratD), h) := fun h => by rw [oAdd_t (by simp; omega), List.map_append]; rfl
      simp -implicitDefEqProofs [-List.append_assoc, -List.length_append, -List.cons_append, q7, bLen_ref q7, v13, cu1, cu2, a1, a2, -List.map_append, -List.map_take, -List.map_drop]
      have E2' := E27
      generalize xe : h7 ++ [(_ : Ob)] = h8
      have q8 := new_of xe
      have q7 := get_of xe q7
      have W7 := W7.ext (ext_of xe)
      have E2' := E2'.trans (ext_of xe)
      have lh8 := len_of xe
      clear xe
      generalize hi8 : h7.length = i8 at q8 lh8 ⊢
      generalize xe : h8 ++ [(_ : Ob)] = h9
      have q9 := new_of xe
      have q7 := get_of xe q7
      have q8 := get_of xe q8
      have W7 := W7.ext (ext_of xe)
      have E2' := E2'.trans (ext_of xe)
      have lh9 := len_of xe
      clear xe
      generalize hi9 : h8.length = i9 at q9 lh9 ⊢
      have n8 : ¬ Wl w i8 := by intro z; simp only [Wl] at z; have := E27.len; have := W.lw; omega
      obtain ⟨d, at_, mem⟩ := atI_some (L := [D.ref i8, D.tup ((ps.take k ++ ps.drop (k + 1)).map ratD), D.tup ((ps ++ [(0, 1)]).map ratD), .non, .tup [.tup (ps.map ratD)]]) (r := v - 13) (by omega) (by simp; omega)
      simp -implicitDefEqProofs [-List.append_assoc, -List.length_append, -List.cons_append, q7, oGet_lst q9, at_, -List.map_append, -List.map_take, -List.map_drop]
      refine ⟨?_, W7.up (by omega), E2'⟩
      have b150 : ∀ q ∈ ps, lt2 150 q.1 ∧ lt2 150 q.2 := fun q hq => ⟨(pb q hq).1.up (by omega), (pb q hq).2.up (by omega)⟩
      simp only [List.mem_cons, List.not_mem_nil, or_false] at mem
      rcases mem with rfl | rfl | rfl | rfl | rfl
      · exact pts_ref q8 n8
      · exact fun h' E => pt_rats (by simp; omega) fun q hq => b150 q (by
          rcases List.mem_append.mp hq with hq | hq
          · exact List.mem_of_mem_take hq
          · exact List.mem_of_mem_drop hq)
      · exact fun h' E => pt_rats (by simp; omega) fun q hq => by
          rcases List.mem_append.mp hq with hq | hq
          · exact b150 q hq
          · simp at hq; subst hq; exact ⟨by unfold lt2; decide, by unfold lt2; decide⟩
      · exact fun h' E => .other (t := "NoneType") rfl (by decide)
      · exact fun h' E => .tup (by simp) fun x hx => by
          simp at hx
          subst hx
          by_cases l2 : ps.length = 2
          · obtain ⟨a, b, rfl⟩ : ∃ a b, ps = [a, b] := by
              match ps, l2 with
              | [a, b], _ => exact ⟨a, b, rfl⟩
            exact .pair rfl rfl (fun i e => by cases e) (fun i e => by cases e)
          · exact .len (by simpa using l2)
end
end K64
namespace K64
open PySem PySem.Spec L2 PI
open PyProof.Rows hiding St
/-! ### what is no system -/
/-- its type is known, n levels deep -/
inductive Typ (h : Hh) : Nat → D → Prop
  | other {n : Nat} {d : D} {t : String} : tyD h d = some t → t ≠ "tuple" → Typ h n d
  | tup0 {xs : List D} : Typ h 0 (.tup xs)
  | tup {n : Nat} {xs : List D} : xs.length < 1000000 → (∀ x ∈ xs, Typ h n x) → Typ h (n + 1) (.tup xs)
def termB (c last : Int) : D → Option Int
  | .tup [.int a, .int b] => if b = 0 ∨ a ≤ last ∨ c ≤ a then none else some a
  | _ => none
def termsB (c : Int) : Int → List D → Bool
  | _, [] => true
  | last, d :: ds => match termB c last d with
    | some a => termsB c a ds
    | none => false
def lineB (c : Int) : D → Bool
  | .tup [.int _, .tup ts] => termsB c (-1) ts
  | _ => false
def rowB (c : Int) : D → Bool
  | .tup [l, .bl _] => lineB c l
  | _ => false
def sysB : D → Bool
  | .tup [.int c, .tup rs] => decide (0 ≤ c ∧ c ≤ 4000) && decide (rs.length ≤ 12000) && rs.all (rowB c)
  | _ => false
section
variable {h h1 : Hh} {w l n : Nat}
theorem Typ.ty {n : Nat} {d : D} (T : Typ h n d) : ∃ t, tyD h d = some t := by
  cases T with
  | other e _ => exact ⟨_, e⟩
  | tup0 => exact ⟨_, rfl⟩
  | tup _ _ => exact ⟨_, rfl⟩
theorem Typ.ext {n : Nat} {d : D} (T : Typ h n d) (E : Ext noS h h1) : Typ h1 n d := by
  induction T with
  | other e k => exact .other (tyD_ext E e) k
  | tup0 => exact .tup0
  | tup l _ ih => exact .tup l ih
theorem termB_other {c j : Int} {d : D} {t : String} (e : tyD h d = some t) (n : t ≠ "tuple") : termB c j d = none := by
  cases d with
  | tup xs => cases e; exact absurd rfl n
  | _ => rfl
theorem termB_len {c j : Int} {xs : List D} (n : xs.length ≠ 2) : termB c j (.tup xs) = none := by
  match xs, n with
  | [], _ => rfl
  | [a], _ => cases a <;> rfl
  | [_, _], n => exact absurd rfl n
  | a :: b :: _ :: _, _ => cases a <;> cases b <;> rfl
theorem termB_no {c j : Int} {a b : D} (n : isI a = false ∨ isI b = false) : termB c j (.tup [a, b]) = none := by
  cases a <;> cases b <;> simp [isI] at n <;> rfl
theorem lineB_other {c : Int} {d : D} {t : String} (e : tyD h d = some t) (n : t ≠ "tuple") : lineB c d = false := by
  cases d with
  | tup xs => cases e; exact absurd rfl n
  | _ => rfl
theorem lineB_len {c : Int} {xs : List D} (n : xs.length ≠ 2) : lineB c (.tup xs) = false := by
  match xs, n with
  | [], _ => rfl
  | [a], _ => cases a <;> rfl
  | [_, _], n => exact absurd rfl n
  | a :: b :: _ :: _, _ => cases a <;> cases b <;> rfl
theorem lineB_a {c : Int} {a b : D} (n : isI a = false) : lineB c (.tup [a, b]) = false := by
  cases a <;> simp [isI] at n <;> rfl
theorem lineB_b {c : Int} {a b : D} {t : String} (e : tyD h b = some t) (n : t ≠ "tuple") : lineB c (.tup [a, b]) = false := by
  cases b with
  | tup xs => cases e; exact absurd rfl n
  | _ => cases a <;> rfl
theorem two_of {xs : List D} (e : xs.length = 2) : ∃ a b, xs = [a, b] := by
  match xs, e with
  | [a, b], _ => exact ⟨a, b, rfl⟩
theorem is_line_d {c : Int} {d : D} (T : Typ h 3 d) : F_is_line [.int c, d] h = .ok (.bl (lineB c d)) h := by
  have w : spec (F_is_line [.int c, d] h) (fun r h' => r = .bl (lineB c d) ∧ h' = h) := by
    unfold F_is_line
    have I : ∀ (d : D) (t : String), tyD h d = some t → F_is_int [d] h = .ok (.bl (isI d)) h := fun d t => is_int_d
    generalize F_is_int = gi at I
    apply wO_fn
    cases T with
    | other e n =>
      simp -implicitDefEqProofs [m_is_line, e, ty_ne n, lineB_other e n]
      exact ⟨by rw [lineB_other e n], rfl⟩
    | @tup _ xs l p =>
      by_cases n : xs.length = 2
      · obtain ⟨a, b, rfl⟩ := two_of n
        obtain ⟨t, ta⟩ := (p a (by simp)).ty
        have ia := I a t ta
        cases i1 : isI a with
        | false =>
          rw [i1] at ia
          simp -implicitDefEqProofs [m_is_line, ty_tup, subT, ia, lineB_a i1]
          exact ⟨by rw [lineB_a i1], rfl⟩
        | true =>
          rw [i1] at ia
          cases p b (by simp) with
          | other e n =>
            simp -implicitDefEqProofs [m_is_line, ty_tup, subT, ia, e, n, lineB_b e n]
            exact ⟨by rw [lineB_b e n], rfl⟩
          | @tup _ ts lt pt =>
            obtain ⟨i, rfl⟩ := isI_int i1
            have er : ts.length < 1000000000 := by omega
            have lb : lineB c (.tup [.int i, .tup ts]) = termsB c (-1) ts := rfl
            rw [lb]
            simp -implicitDefEqProofs [m_is_line, ty_tup, subT, ia, er]
            refine wS.loop (fun k ρ h' => h' = h ∧ ∃ j o3, ρ = [some (.int c), some (.tup [.int i, .tup ts]), some (.int j), o3] ∧ termsB c (-1) ts = termsB c j (ts.drop k)) ⟨rfl, -1, none, rfl, rfl⟩ ?_ ?_
            · rintro _ h' ⟨rfl, j, o3, rfl, e⟩
              refine ⟨by simp, ?_⟩
              rw [e]
              simp -implicitDefEqProofs
              exact ⟨by simp [termsB], rfl⟩
            · rintro k _ h' hk ⟨rfl, j, o3, rfl, e⟩
              obtain ⟨x, ex⟩ : ∃ x, ts[k]? = some x := ⟨_, List.getElem?_eq_getElem hk⟩
              refine ⟨x, _, _, by simp [ex], rfl, ?_⟩
              have ed : ts.drop k = x :: ts.drop (k + 1) := by
                rw [List.drop_eq_getElem_cons hk]
                congr 1
                rw [List.getElem?_eq_getElem hk] at ex
                exact Option.some.inj ex
              rw [e, ed]
              have nn : ∀ {z}, termB c j x = none → z = termsB c j (x :: ts.drop (k + 1)) → z = false := fun z y => by rw [y]; unfold termsB; rw [z]
              cases pt x (List.mem_of_getElem? ex) with
              | other e2 n2 =>
                have := termB_other (c := c) (j := j) e2 n2
                simp -implicitDefEqProofs [e2, n2, subT]
                exact ⟨by simp [termsB, this], rfl⟩
              | @tup _ us lu pu =>
                by_cases n2 : us.length = 2
                · obtain ⟨y, z, rfl⟩ := two_of n2
                  obtain ⟨t1, e1⟩ := (pu y (by simp)).ty
                  obtain ⟨t2, e2⟩ := (pu z (by simp)).ty
                  have iy := I y t1 e1
                  have iz := I z t2 e2
                  cases j1 : isI y with
                  | false =>
                    rw [j1] at iy
                    have := termB_no (c := c) (j := j) (b := z) (.inl j1)
                    simp -implicitDefEqProofs [ty_tup, subT, iy]
                    exact ⟨by simp [termsB, this], rfl⟩
                  | true =>
                    rw [j1] at iy
                    cases j2 : isI z with
                    | false =>
                      rw [j2] at iz
                      have := termB_no (c := c) (j := j) (a := y) (.inr j2)
                      simp -implicitDefEqProofs [ty_tup, subT, iy, iz]
                      exact ⟨by simp [termsB, this], rfl⟩
                    | true =>
                      rw [j2] at iz
                      obtain ⟨a, rfl⟩ := isI_int j1
                      obtain ⟨b, rfl⟩ := isI_int j2
                      by_cases b0 : b = 0
                      · subst b0
                        simp -implicitDefEqProofs [ty_tup, subT, iy, iz]
                        exact ⟨by simp [termsB, termB], rfl⟩
                      · by_cases aj : a ≤ j
                        · simp -implicitDefEqProofs [ty_tup, subT, iy, iz, b0, aj, oGeA, oLe]
                          exact ⟨by simp [termsB, termB, b0, aj], rfl⟩
                        · by_cases ca : c ≤ a
                          · simp -implicitDefEqProofs [ty_tup, subT, iy, iz, b0, aj, ca, oGeA, oLe]
                            exact ⟨by simp [termsB, termB, b0, aj, ca], rfl⟩
                          · simp -implicitDefEqProofs [ty_tup, subT, iy, iz, termsB, termB, b0, aj, ca, oGeA, oLe]
                            exact ⟨rfl, _, _, rfl, by simp [termsB, termB, b0, aj, ca]⟩
                · have n3 : ¬ (us.length : Int) = 2 := by omega
                  have := termB_len (c := c) (j := j) n2
                  simp -implicitDefEqProofs [ty_tup, subT, n3]
                  exact ⟨by simp [termsB, this], rfl⟩
      · have n3 : ¬ (xs.length : Int) = 2 := by omega
        simp -implicitDefEqProofs [m_is_line, ty_tup, subT, n3, lineB_len n]
        exact ⟨by rw [lineB_len n], rfl⟩
  obtain ⟨_, _, e, rfl, rfl⟩ := w.ex
  exact e
def isBl : D → Bool
  | .bl _ => true
  | _ => false
theorem isBl_ty {d : D} {t : String} (e : tyD h d = some t) : isBl d = decide (t = "bool") := by
  cases d with
  | ref i =>
    simp only [tyD] at e
    split at e <;> first | (cases e; rfl) | cases e
  | _ => first | (cases e; rfl) | cases e
theorem isBl_of {d : D} (e : isBl d = true) : ∃ b, d = .bl b := by
  cases d with
  | bl b => exact ⟨b, rfl⟩
  | _ => cases e
theorem rowB_other {c : Int} {d : D} {t : String} (e : tyD h d = some t) (n : t ≠ "tuple") : rowB c d = false := by
  cases d with
  | tup xs => cases e; exact absurd rfl n
  | _ => rfl
theorem rowB_len {c : Int} {xs : List D} (n : xs.length ≠ 2) : rowB c (.tup xs) = false := by
  match xs, n with
  | [], _ => rfl
  | [a], _ => cases a <;> rfl
  | [_, _], n => exact absurd rfl n
  | a :: b :: _ :: _, _ => cases a <;> cases b <;> rfl
theorem rowB_no {c : Int} {a b : D} (n : isBl b = false) : rowB c (.tup [a, b]) = false := by
  cases b <;> first | rfl | simp [isBl] at n
theorem sysB_other {d : D} {t : String} (e : tyD h d = some t) (n : t ≠ "tuple") : sysB d = false := by
  cases d with
  | tup xs => cases e; exact absurd rfl n
  | _ => rfl
theorem sysB_len {xs : List D} (n : xs.length ≠ 2) : sysB (.tup xs) = false := by
  match xs, n with
  | [], _ => rfl
  | [a], _ => cases a <;> rfl
  | [_, _], n => exact absurd rfl n
  | a :: b :: _ :: _, _ => cases a <;> cases b <;> rfl
theorem sysB_a {a b : D} (n : isI a = false) : sysB (.tup [a, b]) = false := by
  cases a <;> simp [isI] at n <;> rfl
theorem sysB_b {a b : D} {t : String} (e : tyD h b = some t) (n : t ≠ "tuple") : sysB (.tup [a, b]) = false := by
  cases b with
  | tup xs => cases e; exact absurd rfl n
  | _ => cases a <;> rfl
theorem sysB_2 {c : Int} {rs : List D} : sysB (.tup [.int c, .tup rs]) = (decide (0 ≤ c ∧ c ≤ 4000) && decide (rs.length ≤ 12000) && rs.all (rowB c)) := rfl
theorem is_system_d {d : D} (T : Typ h 6 d) : F_is_system [d] h = .ok (.bl (sysB d)) h := by
  have w : spec (F_is_system [d] h) (fun r h' => r = .bl (sysB d) ∧ h' = h) := by
    unfold F_is_system
    have I : ∀ (d : D) (t : String), tyD h d = some t → F_is_int [d] h = .ok (.bl (isI d)) h := fun d t => is_int_d
    generalize F_is_int = gi at I
    have L : ∀ {c : Int} {d : D}, Typ h 3 d → F_is_line [.int c, d] h = .ok (.bl (lineB c d)) h := fun T => is_line_d T
    generalize F_is_line = gl at L
    apply wO_fn
    cases T with
    | other e n =>
      simp -implicitDefEqProofs [m_is_system, e, ty_ne n, sysB_other e n]
      exact ⟨by rw [sysB_other e n], rfl⟩
    | @tup _ xs l p =>
      by_cases n : xs.length = 2
      · obtain ⟨a, b, rfl⟩ := two_of n
        obtain ⟨t, ta⟩ := (p a (by simp)).ty
        have ia := I a t ta
        cases i1 : isI a with
        | false =>
          rw [i1] at ia
          simp -implicitDefEqProofs [m_is_system, ty_tup, subT, ia, sysB_a i1]
          exact ⟨by rw [sysB_a i1], rfl⟩
        | true =>
          rw [i1] at ia
          obtain ⟨c, rfl⟩ := isI_int i1
          by_cases c0 : c < 0
          · have c1 : ¬ 0 ≤ c := by omega
            have sb : sysB (.tup [.int c, b]) = false := by cases b <;> simp [sysB, c1]
            simp -implicitDefEqProofs [m_is_system, ty_tup, subT, ia, c0]
            exact ⟨by rw [sb], rfl⟩
          by_cases c4 : 4000 < c
          · have c1 : ¬ c ≤ 4000 := by omega
            have sb : sysB (.tup [.int c, b]) = false := by cases b <;> simp [sysB, c1]
            simp -implicitDefEqProofs [m_is_system, ty_tup, subT, ia, c0, c4, oGt]
            exact ⟨by rw [sb], rfl⟩
          have c1 : 0 ≤ c ∧ c ≤ 4000 := by omega
          cases p b (by simp) with
          | other e n =>
            simp -implicitDefEqProofs [m_is_system, ty_tup, subT, ia, c0, c4, oGt, e, n, sysB_b e n]
            exact ⟨by rw [sysB_b e n], rfl⟩
          | @tup _ rs lr pr =>
            rw [sysB_2, decide_eq_true c1, Bool.true_and]
            by_cases r12 : rs.length ≤ 12000
            · have r13 : ¬ (12000 : Int) < rs.length := by omega
              have er : rs.length < 1000000000 := by omega
              rw [decide_eq_true r12, Bool.true_and]
              simp -implicitDefEqProofs [m_is_system, ty_tup, subT, ia, c0, c4, oGt, r13, er]
              refine wS.loop (fun k ρ h' => h' = h ∧ ∃ o3, ρ = [some (.tup [.int c, .tup rs]), some (.int c), some (.tup rs), o3] ∧ rs.all (rowB c) = (rs.drop k).all (rowB c)) ⟨rfl, none, rfl, rfl⟩ ?_ ?_
              · rintro _ h' ⟨rfl, o3, rfl, e⟩
                refine ⟨by simp, ?_⟩
                rw [e]
                simp -implicitDefEqProofs
                exact ⟨by simp, rfl⟩
              · rintro k _ h' hk ⟨rfl, o3, rfl, e⟩
                obtain ⟨x, ex⟩ : ∃ x, rs[k]? = some x := ⟨_, List.getElem?_eq_getElem hk⟩
                refine ⟨x, _, _, by simp [ex], rfl, ?_⟩
                have ed : rs.drop k = x :: rs.drop (k + 1) := by
                  rw [List.drop_eq_getElem_cons hk]
                  congr 1
                  rw [List.getElem?_eq_getElem hk] at ex
                  exact Option.some.inj ex
                rw [e, ed, List.all_cons]
                cases pr x (List.mem_of_getElem? ex) with
                | other e2 n2 =>
                  have := rowB_other (c := c) e2 n2
                  simp -implicitDefEqProofs [e2, n2, subT]
                  exact ⟨by rw [this]; rfl, rfl⟩
                | @tup _ us lu pu =>
                  by_cases n2 : us.length = 2
                  · obtain ⟨y, z, rfl⟩ := two_of n2
                    obtain ⟨t2, e2⟩ := (pu z (by simp)).ty
                    cases j2 : isBl z with
                    | false =>
                      have := rowB_no (c := c) (a := y) j2
                      have nb : t2 ≠ "bool" := by
                        have := isBl_ty e2
                        rw [j2] at this
                        exact fun y => by simp [y] at this
                      simp -implicitDefEqProofs [ty_tup, subT, e2, nb]
                      exact ⟨by rw [this]; rfl, rfl⟩
                    | true =>
                      obtain ⟨b, rfl⟩ := isBl_of j2
                      have lx := L (c := c) (pu y (by simp))
                      have rb : rowB c (.tup [y, .bl b]) = lineB c y := rfl
                      have tb : tyD h' (.bl b) = some "bool" := rfl
                      rw [rb]
                      cases lb : lineB c y with
                      | false =>
                        rw [lb] at lx
                        simp -implicitDefEqProofs [ty_tup, subT, tb, lx]
                        exact ⟨rfl, rfl⟩
                      | true =>
                        rw [lb] at lx
                        simp -implicitDefEqProofs [ty_tup, subT, tb, lx]
                        exact ⟨rfl, _, rfl, rfl⟩
                  · have n3 : ¬ (us.length : Int) = 2 := by omega
                    have := rowB_len (c := c) n2
                    simp -implicitDefEqProofs [ty_tup, subT, n3]
                    exact ⟨by rw [this]; rfl, rfl⟩
            · have r13 : (12000 : Int) < rs.length := by omega
              rw [decide_eq_false r12]
              simp -implicitDefEqProofs [m_is_system, ty_tup, subT, ia, c0, c4, oGt, r13]
              exact ⟨rfl, rfl⟩
      · have n3 : ¬ (xs.length : Int) = 2 := by omega
        simp -implicitDefEqProofs [m_is_system, ty_tup, subT, n3, sysB_len n]
        exact ⟨by rw [sysB_len n], rfl⟩
  obtain ⟨_, _, e, rfl, rfl⟩ := w.ex
  exact e
end
end K64
namespace K64
open PySem PySem.Spec L2 PI
open PyProof.Rows hiding St
section
variable {h h1 : Hh} {w l n : Nat}
theorem mul_put {ms : List Int} {k : Nat} {x : D} (l : ms.length < 900000) (b : ∀ m ∈ ms, lt2 200 m) (tx : ∃ t, tyD h x = some t) (bx : ∀ i, x = .int i → lt2 200 i) : MulD h (.tup ((ms.map D.int).take k ++ [x] ++ (ms.map D.int).drop (k + 1))) := .tup (by simp; omega) fun y hy => by
  have old : y ∈ ms.map D.int → (∃ t, tyD h y = some t) ∧ ∀ i, y = .int i → lt2 200 i := fun hy => by
    obtain ⟨m, hm, rfl⟩ := List.mem_map.mp hy
    exact ⟨⟨"int", rfl⟩, fun i e => by cases e; exact b m hm⟩
  rcases List.mem_append.mp hy with hy | hy
  · rcases List.mem_append.mp hy with hy | hy
    · exact old (List.mem_of_mem_take hy)
    · simp at hy; subst hy; exact ⟨tx, bx⟩
  · exact old (List.mem_of_mem_drop hy)
theorem mul_pt {ms : List Int} (l : ms.length < 1000000) (b : ∀ m ∈ ms, lt2 200 m) : MulD h (.tup (ms.map D.int)) := .tup (by simpa using l) fun x hx => by
  obtain ⟨m, hm, rfl⟩ := List.mem_map.mp hx
  exact ⟨⟨"int", rfl⟩, fun i e => by cases e; exact b m hm⟩
theorem muls_ref {r : Nat} {xs : List D} (e : h[r]? = some (.lst xs)) (nw : ¬ Wl w r) : MulS w h (.ref r) := fun h' E => .other (ty_lst (E.keep _ _ e nw)) (by decide)
theorem spoilt_numbers_ok {ms : List Int} (W : IsWell h w l n) (hn : n ≤ 60000) (m0 : ms ≠ []) (ml : ms.length ≤ 5000) (mb : ∀ m ∈ ms, lt2 140 m) : spec (F__law_spoilt_numbers [.ref w, .tup (ms.map D.int)] h) fun d h' => MulS w h' d ∧ IsWell h' w l (n + 2) ∧ Ext (Wl w) h h' := by
  unfold F__law_spoilt_numbers
  have dr : drawT F__law_draw w l := draw_dec
  generalize F__law_draw = gd at dr
  have sw := fun {h : Hh} {xs : List D} {k : Nat} {x : D} lk l => swapped_eq (h := h) (xs := xs) (k := k) (x := x) lk l
  generalize F__law_swapped = gs at sw
  apply wO_fn
  have lw := W.lw
  have p0 : 0 < ms.length := List.length_pos_iff.mpr m0
  simp -implicitDefEqProofs [-List.append_assoc, -List.length_append, -List.cons_append, m__law_spoilt_numbers]
  refine wS.bind (dr (m := ms.length) W ⟨by omega, by omega⟩ (by omega)) ?_
  rintro _ h2 ⟨u, rfl, ub, W2, E2⟩
  obtain ⟨k, rfl⟩ : ∃ k : Nat, u = k := ⟨u.toNat, by omega⟩
  obtain ⟨p, ep⟩ : ∃ p, ms[k]? = some p := ⟨_, List.getElem?_eq_getElem (by omega)⟩
  have pm := mb p (List.mem_of_getElem? ep)
  have ap : atI (ms.map D.int) (k : Int) = some (.int p) := atI_of (map_at ep)
  have p30 : powOk 10 30 = true := pow_ok (n := 30) (by omega)
  simp -implicitDefEqProofs [-List.append_assoc, -List.length_append, -List.cons_append, ap, p30]
  have lh2 := E2.len
  have Eh : Ext (Wl w) h2 h2 := .refl
  generalize xe : h2 ++ [(_ : Ob)] = h3
  have q3 := new_of xe
  have W2 := W2.ext (ext_of xe)
  have Eh := Eh.trans (ext_of xe)
  have lh3 := len_of xe
  clear xe
  generalize hi3 : h2.length = i3 at q3 lh3 ⊢
  have n3 : ¬ Wl w i3 := by intro z; simp only [Wl] at z; omega
  refine wS.bind (dr (m := 16) W2 (by decide) (by omega)) ?_
  rintro _ h7 ⟨v, rfl, vb, W7, E7⟩
  have q7 := E7.keep _ _ q3 n3
  have E27 := (E2.trans Eh).trans E7
  have b200 : ∀ m ∈ ms, lt2 200 m := fun m hm => (mb m hm).up (by omega)
  have part : ∀ d ∈ [D.int (p + 1), .int (p - 1), .int (-p), .bl (p == 1), .non, .tup [.int p], .int (-1 - p), .int (p + 1000000000000000000000000000000), .str "1", .int 0], (∃ t, (∀ h, tyD h d = some t)) ∧ ∀ i, d = .int i → lt2 200 i := by
    have e : (2 : Nat) ^ 200 = 2 ^ 140 * 2 ^ 60 := by decide
    have e60 : (2 : Nat) ^ 60 = 1152921504606846976 := by decide
    have e140 : (2 : Nat) ^ 140 = 1393796574908163946345982392040522594123776 := by decide
    have b1 := pm
    unfold lt2 at b1 ⊢
    rw [e, e60, e140]
    rw [e140] at b1
    intro d hd
    simp only [List.mem_cons, List.not_mem_nil, or_false] at hd
    rcases hd with rfl | rfl | rfl | rfl | rfl | rfl | rfl | rfl | rfl | rfl
    · exact ⟨⟨"int", fun _ => rfl⟩, fun i e => by cases e; omega⟩
    · exact ⟨⟨"int", fun _ => rfl⟩, fun i e => by cases e; omega⟩
    · exact ⟨⟨"int", fun _ => rfl⟩, fun i e => by cases e; omega⟩
    · exact ⟨⟨"bool", fun _ => rfl⟩, fun i e => by cases e⟩
    · exact ⟨⟨"NoneType", fun _ => rfl⟩, fun i e => by cases e⟩
    · exact ⟨⟨"tuple", fun _ => rfl⟩, fun i e => by cases e⟩
    · exact ⟨⟨"int", fun _ => rfl⟩, fun i e => by cases e; omega⟩
    · exact ⟨⟨"int", fun _ => rfl⟩, fun i e => by cases e; omega⟩
    · exact ⟨⟨"str", fun _ => rfl⟩, fun i e => by cases e⟩
    · exact ⟨⟨"int", fun _ => rfl⟩, fun i e => by cases e; omega⟩
  have lk : k < (ms.map D.int).length := by simp; omega
  by_cases v13 : v < 10
  · obtain ⟨d, at_, mem⟩ := atI_some (L := [D.int (p + 1), .int (p - 1), .int (-p), .bl (p == 1), .non, .tup [.int p], .int (-1 - p), .int (p + 1000000000000000000000000000000), .str "1", .int 0]) vb.1 v13
    have sw1 := sw (h := h7) (xs := ms.map D.int) (x := d) lk (by simp; omega)
    simp -implicitDefEqProofs [-List.append_assoc, -List.length_append, -List.cons_append, q7, bLen_ref q7, v13, oGet_lst q7, at_, sw1]
    have pd := part d mem
    obtain ⟨⟨t, ht⟩, bd⟩ := pd
    exact ⟨fun h' E' => mul_put (by omega) b200 ⟨t, ht h'⟩ bd, W7.up (by omega), E27⟩
  · have cu1 : PI.cutD (ms.map D.int) none (some (k : Int)) = (ms.take k).map D.int := by rw [cutD_take (by simp; omega), List.map_take]
    have cu2 : PI.cutD (ms.map D.int) (some ((k : Int) + 1)) none = (ms.drop (k + 1)).map D.int := by
      have := cutD_drop (xs := ms.map D.int) (k := k + 1) (by simp; omega)
      rw [List.map_drop]
      simpa using this
    have a1 : ∀ h, oAdd (.tup ((ms.take k).map D.int)) (.tup ((ms.drop (k + 1)).map D.int)) h = some (.tup ((ms.take k ++ ms.drop (k + 1)).map D.int), h) := fun h => by rw [oAdd_t (by simp; omega), List.map_append]
    have a2 : ∀ h, oAdd (.tup (ms.map D.int)) (.tup [.int 0]) h = some (.tup ((ms ++ [0]).map D.int), h) := fun h => by rw [oAdd_t (by simp; omega), List.map_append]; rfl
    simp -implicitDefEqProofs [-List.append_assoc, -List.length_append, -List.cons_append, q7, bLen_ref q7, v13, cu1, cu2, a1, a2, -List.map_append, -List.map_take, -List.map_drop]
    have E2' := E27
    generalize xe : h7 ++ [(_ : Ob)] = h8
    have q8 := new_of xe
    have q7 := get_of xe q7
    have W7 := W7.ext (ext_of xe)
    have E2' := E2'.trans (ext_of xe)
    have lh8 := len_of xe
    clear xe
    generalize hi8 : h7.length = i8 at q8 lh8 ⊢
    generalize xe : h8 ++ [(_ : Ob)] = h9
    have q9 := new_of xe
    have q7 := get_of xe q7
    have q8 := get_of xe q8
    have W7 := W7.ext (ext_of xe)
    have E2' := E2'.trans (ext_of xe)
    have lh9 := len_of xe
    clear xe
    generalize hi9 : h8.length = i9 at q9 lh9 ⊢
    refine wS.bind (spec.lct (R := fun d h' => d = .ref h9.length ∧ h' = h9 ++ [.lst ((ms.map fun m => 3 * m).map D.int)]) (xs := ms) (enc := D.int) (fun m => some (.int (3 * m))) rfl (lt_sl (by omega)) (fun acc i => by simp) (fun m hm acc => ?_) ⟨rfl, by rw [List.map_map, ← List.filterMap_eq_map]; rfl⟩) ?_
    · have c : mulOk 3 m = true := mulOk_l (by omega)
      refine ⟨_, rfl, ?_⟩
      simp -implicitDefEqProofs [wipeR, c]
    rintro _ _ ⟨rfl, rfl⟩
    generalize xe : h9 ++ [(_ : Ob)] = h10
    have q10 := new_of xe
    have q7 := get_of xe q7
    have q8 := get_of xe q8
    have q9 := get_of xe q9
    have W7 := W7.ext (ext_of xe)
    have E2' := E2'.trans (ext_of xe)
    have lh10 := len_of xe
    clear xe
    generalize hi10 : h9.length = i10 at q10 lh10 ⊢
    have t1 : bTuple [.ref i10] h10 = some (.tup ((ms.map fun m => 3 * m).map D.int), h10) := by simp [bTuple, isLs, seqD, q10]
    simp -implicitDefEqProofs [-List.append_assoc, -List.length_append, -List.cons_append, t1, -List.map_map]
    refine wS.bind (spec.lct (R := fun d h' => d = .ref h10.length ∧ h' = h10 ++ [.lst ((ms.map fun m => (0 : Int)).map D.int)]) (xs := ms) (enc := D.int) (fun m => some (.int 0)) rfl (lt_sl (by omega)) (fun acc i => by simp) (fun m hm acc => ?_) ⟨rfl, by rw [List.map_map, ← List.filterMap_eq_map]; rfl⟩) ?_
    · refine ⟨_, rfl, ?_⟩
      simp -implicitDefEqProofs [wipeR]
    rintro _ _ ⟨rfl, rfl⟩
    generalize xe : h10 ++ [(_ : Ob)] = h11
    have q11 := new_of xe
    have q7 := get_of xe q7
    have q8 := get_of xe q8
    have q9 := get_of xe q9
    have W7 := W7.ext (ext_of xe)
    have E2' := E2'.trans (ext_of xe)
    have lh11 := len_of xe
    clear xe
    generalize hi11 : h10.length = i11 at q11 lh11 ⊢
    have t2 : bTuple [.ref i11] h11 = some (.tup ((ms.map fun m => (0 : Int)).map D.int), h11) := by simp [bTuple, isLs, seqD, q11]
    simp -implicitDefEqProofs [-List.append_assoc, -List.length_append, -List.cons_append, t2, -List.map_map, -List.map_append, -List.map_take, -List.map_drop]
    generalize xe : h11 ++ [(_ : Ob)] = h12
    have q12 := new_of xe
    have q7 := get_of xe q7
    have q8 := get_of xe q8
    have q9 := get_of xe q9
    have W7 := W7.ext (ext_of xe)
    have E2' := E2'.trans (ext_of xe)
    have lh12 := len_of xe
    clear xe
    generalize hi12 : h11.length = i12 at q12 lh12 ⊢
    simp -implicitDefEqProofs [-List.append_assoc, -List.length_append, -List.cons_append, q9, q12, le_sl (show 4 + 2 ≤ 1000000 by omega), -List.map_map, -List.map_append, -List.map_take, -List.map_drop]
    generalize xe : h12 ++ [(_ : Ob)] = h13
    have q13 := new_of xe
    have q7 := get_of xe q7
    have q8 := get_of xe q8
    have W7 := W7.ext (ext_of xe)
    have E2' := E2'.trans (ext_of xe)
    have lh13 := len_of xe
    clear xe
    generalize hi13 : h12.length = i13 at q13 lh13 ⊢
    have n8 : ¬ Wl w i8 := by intro z; simp only [Wl] at z; have := E27.len; have := W.lw; omega
    obtain ⟨d, at_, mem⟩ := atI_some (L := [D.ref i8, D.tup ((ms.take k ++ ms.drop (k + 1)).map D.int), D.tup ((ms ++ [0]).map D.int), .non, .tup ((ms.map fun m => 3 * m).map D.int), .tup ((ms.map fun m => (0 : Int)).map D.int)]) (r := v - 10) (by omega) (by simp; omega)
    simp -implicitDefEqProofs [-List.append_assoc, -List.length_append, -List.cons_append, q7, oGet_lst q13, at_, bLen_ref q7, -List.map_map, -List.map_append, -List.map_take, -List.map_drop]
    refine ⟨?_, W7.up (by omega), E2'⟩
    simp only [List.mem_cons, List.not_mem_nil, or_false] at mem
    rcases mem with rfl | rfl | rfl | rfl | rfl | rfl
    · exact muls_ref q8 n8
    · exact fun h' E => mul_pt (by simp; omega) fun q hq => b200 q (by
        rcases List.mem_append.mp hq with hq | hq
        · exact List.mem_of_mem_take hq
        · exact List.mem_of_mem_drop hq)
    · exact fun h' E => mul_pt (by simp; omega) fun q hq => by
        rcases List.mem_append.mp hq with hq | hq
        · exact b200 q hq
        · simp at hq; subst hq; unfold lt2; decide
    · exact fun h' E => .other (t := "NoneType") rfl (by decide)
    · exact fun h' E => mul_pt (by simp; omega) fun q hq => by
        obtain ⟨m, hm, rfl⟩ := List.mem_map.mp hq
        exact lt2.mul (n := 2) (m := 198) (by unfold lt2; decide) ((mb m hm).up (by omega))
    · exact fun h' E => mul_pt (by simp; omega) fun q hq => by
        obtain ⟨m, hm, rfl⟩ := List.mem_map.mp hq
        unfold lt2; decide
end
end K64
namespace K64
open PySem PySem.Spec L2 PI
open PyProof.Rows hiding St
/-- Typ, to be worked out -/
def TypF (h : Hh) : Nat → D → Prop
  | 0, d => ∃ t, tyD h d = some t ∧ ∀ xs, d ≠ .rot xs
  | n + 1, .tup xs => xs.length < 1000000 ∧ ∀ x ∈ xs, TypF h n x
  | n + 1, d => ∃ t, tyD h d = some t ∧ t ≠ "tuple"
section
variable {h h1 : Hh} {w l n : Nat}
theorem Typ.of : ∀ {n : Nat} {d : D}, TypF h n d → Typ h n d
  | 0, .tup xs, _ => .tup0
  | 0, .rot xs, ⟨t, e, k⟩ => absurd rfl (k xs)
  | 0, .non, _ => .other (t := "NoneType") rfl (by decide)
  | 0, .bl _, _ => .other (t := "bool") rfl (by decide)
  | 0, .int _, _ => .other (t := "int") rfl (by decide)
  | 0, .str _, _ => .other (t := "str") rfl (by decide)
  | 0, .rol _, _ => .other (t := "list") rfl (by decide)
  | 0, .ref i, ⟨t, e, _⟩ => .other e (by
      rintro rfl
      simp only [tyD] at e
      split at e <;> simp at e)
  | 0, .ex _, ⟨t, e, _⟩ => by cases e
  | n + 1, .tup xs, ⟨l, k⟩ => .tup l fun x hx => Typ.of (k x hx)
  | n + 1, .rot xs, ⟨t, e, k⟩ => .other e k
  | n + 1, .non, ⟨t, e, k⟩ => .other e k
  | n + 1, .bl _, ⟨t, e, k⟩ => .other e k
  | n + 1, .int _, ⟨t, e, k⟩ => .other e k
  | n + 1, .str _, ⟨t, e, k⟩ => .other e k
  | n + 1, .rol _, ⟨t, e, k⟩ => .other e k
  | n + 1, .ref _, ⟨t, e, k⟩ => .other e k
  | n + 1, .ex _, ⟨t, e, k⟩ => .other e k
/-- a thing that is no row, now and later -/
def BadR (w : Nat) (c : Int) (h : Hh) (d : D) : Prop := rowB c d = false ∧ ∀ h', Ext (Wl w) h h' → Typ h' 4 d
theorem BadR.later {c : Int} {d : D} (b : BadR w c h d) (E : Ext (Wl w) h h1) : BadR w c h1 d := ⟨b.1, fun h' E' => b.2 h' (E.trans E')⟩
def NoSys (w : Nat) (h : Hh) (d : D) : Prop := sysB d = false ∧ ∀ h', Ext (Wl w) h h' → Typ h' 6 d
theorem row_typ {c : Int} {r : Row} (ok : okL c r.1) : Typ h 4 (rowD r) := .tup (by simp) fun x hx => by
  simp at hx
  rcases hx with rfl | rfl
  · refine .tup (by simp) fun y hy => ?_
    simp at hy
    rcases hy with rfl | rfl
    · exact .other (t := "int") rfl (by decide)
    · refine .tup (by have := ok.n; simp; omega) fun z hz => ?_
      obtain ⟨t, ht, rfl⟩ := List.mem_map.mp hz
      refine .tup (by simp) fun u hu => ?_
      simp at hu
      rcases hu with rfl | rfl <;> exact .other (t := "int") rfl (by decide)
  · exact .other (t := "bool") rfl (by decide)
theorem lst_of {i : Nat} {L : List D} (q : h[i]? = some (.lst L)) : ∃ L', h[i]? = some (.lst L') ∧ L' = L := ⟨L, q, rfl⟩
theorem no_system_ok {c : Nat} {rr : Nat} {rows : List Row} (W : IsWell h w l n) (hn : n ≤ 60000) (hc : c ≤ 6) (er : h[rr]? = some (.lst (rows.map rowD))) (nr : ¬ Wl w rr) (rl : rows.length ≤ 10) (ok : ∀ r ∈ rows, okL c r.1) : spec (F__law_no_system [.ref w, .int (c : Int), .ref rr] h) fun d h' => NoSys w h' d ∧ IsWell h' w l (n + 2) ∧ Ext (Wl w) h h' := by
  unfold F__law_no_system
  have dr : drawT F__law_draw w l := draw_dec
  generalize F__law_draw = gd at dr
  apply wO_fn
  have lw := W.lw
  obtain ⟨v, mx, v3, vc, v6⟩ : ∃ v : Int, bMax2 [.int (c : Int), .int 3] h = some (.int v, h) ∧ 3 ≤ v ∧ (c : Int) ≤ v ∧ v ≤ 6 := ⟨max c 3, by
    have : (if (c : Int) < 3 then (3 : Int) else c) = max c 3 := by split <;> omega
    simp [bMax2, this] <;> omega, by omega, by omega, by omega⟩
  simp -implicitDefEqProofs [-List.append_assoc, -List.length_append, -List.cons_append, m__law_no_system, mx, er]
  have E0 : Ext (Wl w) h h := .refl
  generalize xe : h ++ [(_ : Ob)] = h1
  have q1 := new_of xe
  have er := get_of xe er
  have W := W.ext (ext_of xe)
  have E0 := E0.trans (ext_of xe)
  have lh1 := len_of xe
  clear xe
  generalize hi1 : h.length = i1 at q1 lh1 ⊢
  refine wS.bind (dr (m := rows.length + 1) W ⟨by omega, by omega⟩ (by omega)) ?_
  rintro _ h2 ⟨u, rfl, ub, W2, E2⟩
  obtain ⟨k, rfl⟩ : ∃ k : Nat, u = k := ⟨u.toNat, by omega⟩
  have n1 : ¬ Wl w i1 := by intro z; simp only [Wl] at z; omega
  have er := E2.keep _ _ er nr
  have q1 := E2.keep _ _ q1 n1
  have E := E0.trans E2
  have W := W2
  simp -implicitDefEqProofs [-List.append_assoc, -List.length_append, -List.cons_append]
  generalize xe : h2 ++ [(_ : Ob)] = h3
  have q3 := new_of xe
  have q1 := get_of xe q1
  have W := W.ext (ext_of xe)
  have E := E.trans (ext_of xe)
  have lh3 := len_of xe
  clear xe
  generalize hi3 : h2.length = i3 at q3 lh3 ⊢
  generalize xe : h3 ++ [(_ : Ob)] = h4
  have q4 := new_of xe
  have q1 := get_of xe q1
  have q3 := get_of xe q3
  have W := W.ext (ext_of xe)
  have E := E.trans (ext_of xe)
  have lh4 := len_of xe
  clear xe
  generalize hi4 : h3.length = i4 at q4 lh4 ⊢
  generalize xe : h4 ++ [(_ : Ob)] = h5
  have q5 := new_of xe
  have q1 := get_of xe q1
  have q3 := get_of xe q3
  have q4 := get_of xe q4
  have W := W.ext (ext_of xe)
  have E := E.trans (ext_of xe)
  have lh5 := len_of xe
  clear xe
  generalize hi5 : h4.length = i5 at q5 lh5 ⊢
  simp -implicitDefEqProofs [-List.append_assoc, -List.length_append, -List.cons_append, q3, q5, le_sl (show 4 + 4 ≤ 1000000 by omega)]
  generalize xe : h5 ++ [(_ : Ob)] = h6
  have q6 := new_of xe
  have q1 := get_of xe q1
  have q4 := get_of xe q4
  have W := W.ext (ext_of xe)
  have E := E.trans (ext_of xe)
  have lh6 := len_of xe
  clear xe
  generalize hi6 : h5.length = i6 at q6 lh6 ⊢
  generalize xe : h6 ++ [(_ : Ob)] = h7
  have q7 := new_of xe
  have q1 := get_of xe q1
  have q4 := get_of xe q4
  have q6 := get_of xe q6
  have W := W.ext (ext_of xe)
  have E := E.trans (ext_of xe)
  have lh7 := len_of xe
  clear xe
  generalize hi7 : h6.length = i7 at q7 lh7 ⊢
  generalize xe : h7 ++ [(_ : Ob)] = h8
  have q8 := new_of xe
  have q1 := get_of xe q1
  have q4 := get_of xe q4
  have q6 := get_of xe q6
  have q7 := get_of xe q7
  have W := W.ext (ext_of xe)
  have E := E.trans (ext_of xe)
  have lh8 := len_of xe
  clear xe
  generalize hi8 : h7.length = i8 at q8 lh8 ⊢
  simp -implicitDefEqProofs [-List.append_assoc, -List.length_append, -List.cons_append, q6, q8, le_sl (show 8 + 6 ≤ 1000000 by omega)]
  generalize xe : h8 ++ [(_ : Ob)] = h9
  have q9 := new_of xe
  have q1 := get_of xe q1
  have q4 := get_of xe q4
  have q7 := get_of xe q7
  have W := W.ext (ext_of xe)
  have E := E.trans (ext_of xe)
  have lh9 := len_of xe
  clear xe
  generalize hi9 : h8.length = i9 at q9 lh9 ⊢
  generalize xe : h9 ++ [(_ : Ob)] = h10
  have q10 := new_of xe
  have q1 := get_of xe q1
  have q4 := get_of xe q4
  have q7 := get_of xe q7
  have q9 := get_of xe q9
  have W := W.ext (ext_of xe)
  have E := E.trans (ext_of xe)
  have lh10 := len_of xe
  clear xe
  generalize hi10 : h9.length = i10 at q10 lh10 ⊢
  simp -implicitDefEqProofs [-List.append_assoc, -List.length_append, -List.cons_append, q9, q10, le_sl (show 14 + 4 ≤ 1000000 by omega)]
  generalize xe : h10 ++ [(_ : Ob)] = h11
  have q11 := new_of xe
  have q1 := get_of xe q1
  have q4 := get_of xe q4
  have q7 := get_of xe q7
  have W := W.ext (ext_of xe)
  have E := E.trans (ext_of xe)
  have lh11 := len_of xe
  clear xe
  generalize hi11 : h10.length = i11 at q11 lh11 ⊢
  generalize xe : h11 ++ [(_ : Ob)] = h12
  have q12 := new_of xe
  have q1 := get_of xe q1
  have q4 := get_of xe q4
  have q7 := get_of xe q7
  have q11 := get_of xe q11
  have W := W.ext (ext_of xe)
  have E := E.trans (ext_of xe)
  have lh12 := len_of xe
  clear xe
  generalize hi12 : h11.length = i12 at q12 lh12 ⊢
  generalize xe : h12 ++ [(_ : Ob)] = h13
  have q13 := new_of xe
  have q1 := get_of xe q1
  have q4 := get_of xe q4
  have q7 := get_of xe q7
  have q11 := get_of xe q11
  have q12 := get_of xe q12
  have W := W.ext (ext_of xe)
  have E := E.trans (ext_of xe)
  have lh13 := len_of xe
  clear xe
  generalize hi13 : h12.length = i13 at q13 lh13 ⊢
  simp -implicitDefEqProofs [-List.append_assoc, -List.length_append, -List.cons_append, q11, q13, le_sl (show 18 + 6 ≤ 1000000 by omega)]
  generalize xe : h13 ++ [(_ : Ob)] = h14
  have q14 := new_of xe
  have q1 := get_of xe q1
  have q4 := get_of xe q4
  have q7 := get_of xe q7
  have q12 := get_of xe q12
  have W := W.ext (ext_of xe)
  have E := E.trans (ext_of xe)
  have lh14 := len_of xe
  clear xe
  generalize hi14 : h13.length = i14 at q14 lh14 ⊢
  have lh2 := E2.len
  have n4 : ¬ Wl w i4 := by intro z; simp only [Wl] at z; omega
  have n7 : ¬ Wl w i7 := by intro z; simp only [Wl] at z; omega
  have n12 : ¬ Wl w i12 := by intro z; simp only [Wl] at z; omega
  have n14 : ¬ Wl w i14 := by intro z; simp only [Wl] at z; omega
  obtain ⟨L, q14, hL⟩ := lst_of q14
  have lL : L.length = 24 := by rw [hL]; rfl
  have bL : ∀ d ∈ L, BadR w v h14 d := by
    rw [hL]
    intro d hd
    simp only [List.mem_cons, List.not_mem_nil, or_false] at hd
    have fin : ∀ d, rowB v d = false → (∀ h', Ext (Wl w) h14 h' → TypF h' 4 d) → BadR w v h14 d := fun d a b => ⟨a, fun h' E => .of (b h' E)⟩
    have k4 := fun h' (E : Ext (Wl w) h14 h') => E.keep _ _ q4 n4
    have k7 := fun h' (E : Ext (Wl w) h14 h') => E.keep _ _ q7 n7
    have k12 := fun h' (E : Ext (Wl w) h14 h') => E.keep _ _ q12 n12
    have v1 : ¬ v ≤ 1 := by omega
    have v0 : ¬ v ≤ 0 := by omega
    rcases hd with rfl | rfl | rfl | rfl | rfl | rfl | rfl | rfl | rfl | rfl | rfl | rfl | rfl | rfl | rfl | rfl | rfl | rfl | rfl | rfl | rfl | rfl | rfl | rfl <;>
      exact fin _ (by simp [rowB, lineB, termsB, termB, v1, v0]) (fun h' E => by simp [TypF, tyD, k4 h' E, k7 h' E, k12 h' E])
  clear hL
  refine wS.bind (dr (m := 33) W (by decide) (by omega)) ?_
  rintro _ h15 ⟨z, rfl, zb, W15, E15⟩
  have q14 := E15.keep _ _ q14 n14
  have q1 := E15.keep _ _ q1 n1
  have E := E.trans E15
  by_cases z24 : z < 24
  · simp -implicitDefEqProofs [-List.append_assoc, -List.length_append, -List.cons_append, q14, bLen_ref q14, lL, z24, slL q1, oGet_lst q14]
    obtain ⟨d, at_, mem⟩ := atI_some (L := L) zb.1 (by omega)
    have bd := bL d mem
    have bd := bd.later E15
    have W := W15
    generalize hA : PI.cutD (List.map rowD rows) none (some (k : Int)) = A
    have eA : A = (rows.take k).map rowD := by rw [← hA, cutD_take (by simp; omega), List.map_take]
    clear hA
    have lA : A.length ≤ 10 := by rw [eA]; simp; omega
    have Eh : Ext (Wl w) h15 h15 := .refl
    generalize xe : h15 ++ [(_ : Ob)] = h16
    have q16 := new_of xe
    have q14 := get_of xe q14
    have q1 := get_of xe q1
    have W := W.ext (ext_of xe)
    have E := E.trans (ext_of xe)
    have Eh := Eh.trans (ext_of xe)
    have lh16 := len_of xe
    clear xe
    generalize hi16 : h15.length = i16 at q16 lh16 ⊢
    simp -implicitDefEqProofs [-List.append_assoc, -List.length_append, -List.cons_append, oGet_lst q14, at_]
    generalize xe : h16 ++ [(_ : Ob)] = h17
    have q17 := new_of xe
    have q16 := get_of xe q16
    have q1 := get_of xe q1
    have W := W.ext (ext_of xe)
    have E := E.trans (ext_of xe)
    have Eh := Eh.trans (ext_of xe)
    have lh17 := len_of xe
    clear xe
    generalize hi17 : h16.length = i17 at q17 lh17 ⊢
    simp -implicitDefEqProofs [-List.append_assoc, -List.length_append, -List.cons_append, q16, q17, le_sl (show A.length + 1 ≤ 1000000 by omega)]
    generalize xe : h17 ++ [(_ : Ob)] = h18
    have q18 := new_of xe
    have q1 := get_of xe q1
    have W := W.ext (ext_of xe)
    have E := E.trans (ext_of xe)
    have Eh := Eh.trans (ext_of xe)
    have lh18 := len_of xe
    clear xe
    generalize hi18 : h17.length = i18 at q18 lh18 ⊢
    simp -implicitDefEqProofs [-List.append_assoc, -List.length_append, -List.cons_append, slL q1]
    generalize hB : PI.cutD (List.map rowD rows) (some (k : Int)) none = B
    have eB : B = (rows.drop k).map rowD := by rw [← hB, cutD_drop (by simp; omega), List.map_drop]
    clear hB
    have lB : B.length ≤ 10 := by rw [eB]; simp; omega
    generalize xe : h18 ++ [(_ : Ob)] = h19
    have q19 := new_of xe
    have q18 := get_of xe q18
    have W := W.ext (ext_of xe)
    have E := E.trans (ext_of xe)
    have Eh := Eh.trans (ext_of xe)
    have lh19 := len_of xe
    clear xe
    generalize hi19 : h18.length = i19 at q19 lh19 ⊢
    simp -implicitDefEqProofs [-List.append_assoc, -List.length_append, -List.cons_append, q18, q19, show (A ++ [d]).length + B.length ≤ sizeLine from le_sl (by simp; omega)]
    generalize xe : h19 ++ [(_ : Ob)] = h20
    have q20 := new_of xe
    have W := W.ext (ext_of xe)
    have E := E.trans (ext_of xe)
    have Eh := Eh.trans (ext_of xe)
    have lh20 := len_of xe
    clear xe
    generalize hi20 : h19.length = i20 at q20 lh20 ⊢
    generalize xe : h20 ++ [(_ : Ob)] = h21
    have q21 := new_of xe
    have q20 := get_of xe q20
    have W := W.ext (ext_of xe)
    have E := E.trans (ext_of xe)
    have Eh := Eh.trans (ext_of xe)
    have lh21 := len_of xe
    clear xe
    generalize hi21 : h20.length = i21 at q21 lh21 ⊢
    simp -implicitDefEqProofs [-List.append_assoc, -List.length_append, -List.cons_append, q20, q21, show (A ++ [d] ++ B).length + 1 ≤ sizeLine from le_sl (by simp; omega)]
    refine ⟨⟨?_, fun h' E' => ?_⟩, (W.ext .push).up (by omega), E.pushR⟩
    · rw [sysB_2]
      simp only [List.all_append, List.all_cons, bd.1]
      simp
    · have E1 : Ext (Wl w) h15 h' := (Eh.trans .push).trans E'
      have rt : ∀ r ∈ rows, Typ h' 4 (rowD r) := fun r hr => row_typ (ok r hr)
      refine .tup (by simp) fun x hx => ?_
      simp at hx
      rcases hx with rfl | rfl
      · exact .other (t := "int") rfl (by decide)
      · refine .tup (by simp; omega) fun y hy => ?_
        simp only [List.mem_append, List.mem_cons, List.not_mem_nil, or_false] at hy
        rcases hy with hy | hy | hy | hy
        · rw [eA] at hy
          obtain ⟨r, hr, rfl⟩ := List.mem_map.mp hy
          exact rt r (List.mem_of_mem_take hr)
        · subst hy; exact bd.2 _ E1
        · rw [eB] at hy
          obtain ⟨r, hr, rfl⟩ := List.mem_map.mp hy
          exact rt r (List.mem_of_mem_drop hr)
        · subst hy
          exact .of (by simp [TypF, tyD])
  · simp -implicitDefEqProofs [-List.append_assoc, -List.length_append, -List.cons_append, q14, bLen_ref q14, lL, z24]
    have W := W15
    have Eh : Ext (Wl w) h15 h15 := .refl
    generalize xe : h15 ++ [(_ : Ob)] = h16
    have q16 := new_of xe
    have q14 := get_of xe q14
    have W := W.ext (ext_of xe)
    have E := E.trans (ext_of xe)
    have lh16 := len_of xe
    clear xe
    generalize hi16 : h15.length = i16 at q16 lh16 ⊢
    generalize xe : h16 ++ [(_ : Ob)] = h17
    have q17 := new_of xe
    have q14 := get_of xe q14
    have q16 := get_of xe q16
    have W := W.ext (ext_of xe)
    have E := E.trans (ext_of xe)
    have lh17 := len_of xe
    clear xe
    generalize hi17 : h16.length = i17 at q17 lh17 ⊢
    generalize xe : h17 ++ [(_ : Ob)] = h18
    have q18 := new_of xe
    have q14 := get_of xe q14
    have q16 := get_of xe q16
    have q17 := get_of xe q17
    have W := W.ext (ext_of xe)
    have E := E.trans (ext_of xe)
    have lh18 := len_of xe
    clear xe
    generalize hi18 : h17.length = i18 at q18 lh18 ⊢
    have lh15 := E15.len
    have n16 : ¬ Wl w i16 := by intro z; simp only [Wl] at z; omega
    have n17 : ¬ Wl w i17 := by intro z; simp only [Wl] at z; omega
    obtain ⟨L2, q18, hL2⟩ := lst_of q18
    have lL2 : L2.length = 9 := by rw [hL2]; rfl
    obtain ⟨d, at_, mem⟩ := atI_some (L := L2) (r := z - 24) (by omega) (by omega)
    simp -implicitDefEqProofs [-List.append_assoc, -List.length_append, -List.cons_append, q14, lL, oGet_lst q18, at_]
    refine ⟨?_, W.up (by omega), E⟩
    have k16 := fun h' (E : Ext (Wl w) h18 h') => E.keep _ _ q16 n16
    have k17 := fun h' (E : Ext (Wl w) h18 h') => E.keep _ _ q17 n17
    rw [hL2] at mem
    have fin : ∀ d, sysB d = false → (∀ h', Ext (Wl w) h18 h' → TypF h' 6 d) → NoSys w h18 d := fun d a b => ⟨a, fun h' E => .of (b h' E)⟩
    simp only [List.mem_cons, List.not_mem_nil, or_false] at mem
    rcases mem with rfl | rfl | rfl | rfl | rfl | rfl | rfl | rfl | rfl <;>
      exact fin _ (by simp [sysB]) (fun h' E => by simp [TypF, tyD, k16 h' E, k17 h' E])
end
end K64
namespace K64
open PySem PySem.Spec L2 PI
open PyProof.Rows hiding St
section
variable {h h1 : Hh} {w l n : Nat}
/-! ### the words of errors -/
theorem mTry_ap {sb : Str → Str → Bool} {b : MS} {hs : List Hd} {ρ : Rho} : mTry sb b hs ρ h = match b ρ h with
  | .er x ρ' h' => clauses sb x ρ' h' hs
  | o => o := rfl
theorem need_bad {d : D} (T : Typ h 6 d) (b : sysB d = false) : F_need_system [d] h = .err ⟨"BadSystem", []⟩ h := by
  unfold F_need_system
  have e1 := is_system_d T
  rw [b] at e1
  generalize F_is_system = gf at e1
  simp -implicitDefEqProofs [mFn, m_need_system, e1]
theorem keeps_bad {d x : D} (e : F_need_system [d] h = .err ⟨"BadSystem", []⟩ h) : F_keeps [d, x] h = .err ⟨"BadSystem", []⟩ h := by
  unfold F_keeps
  generalize F_need_system = gf at e
  simp -implicitDefEqProofs [mFn, m_keeps, e]
theorem refutes_bad {d x : D} (e : F_need_system [d] h = .err ⟨"BadSystem", []⟩ h) : F_refutes [d, x] h = .err ⟨"BadSystem", []⟩ h := by
  unfold F_refutes
  generalize F_need_system = gf at e
  simp -implicitDefEqProofs [mFn, m_refutes, e]
theorem solve_bad {d : D} (e : F_need_system [d] h = .err ⟨"BadSystem", []⟩ h) : F_solve [d] h = .err ⟨"BadSystem", []⟩ h := by
  unfold F_solve
  generalize F_need_system = gf at e
  simp -implicitDefEqProofs [mFn, m_solve, e]
theorem least_bad {d x : D} (e : F_need_system [d] h = .err ⟨"BadSystem", []⟩ h) : F_least [d, x] h = .err ⟨"BadSystem", []⟩ h := by
  unfold F_least
  generalize F_need_system = gf at e
  simp -implicitDefEqProofs [mFn, m_least, e]
theorem is_least_bad {d x y : D} (e : F_need_system [d] h = .err ⟨"BadSystem", []⟩ h) : F_is_least [d, x, y] h = .err ⟨"BadSystem", []⟩ h := by
  unfold F_is_least
  generalize F_need_system = gf at e
  simp -implicitDefEqProofs [mFn, m_is_least, e]
theorem word_bad {d x : D} {i : Nat} (hi : i < 5) (T : Typ h 6 d) (b : sysB d = false) : F__law_word [.int (i : Int), d, x] h = .ok (.str "bad") h := by
  have e := need_bad T b
  have e0 := keeps_bad (x := x) e
  have e1 := refutes_bad (x := x) e
  have e2 := solve_bad e
  have e3 := least_bad (x := x) e
  have e4 := is_least_bad (x := x) (y := x) e
  unfold F__law_word
  generalize F_keeps = g0 at e0
  generalize F_refutes = g1 at e1
  generalize F_solve = g2 at e2
  generalize F_least = g3 at e3
  generalize F_is_least = g4 at e4
  have s1 : sb "BadSystem" "BadSystem" = true := by decide
  have i1 : isb "PaidError" "BadSystem" = true := by decide
  have i2 : isb "ValueError" "BadSystem" = true := by decide
  have i3 : isb "BadLine" "BadSystem" = false := by decide
  have u : ∀ i : Int, uni (fun a => unName 4 (mSeq (mSet 3 (mC (.str "bad"))) (mIfS (mOr (mNot (mTest (mIsE 4 a ⟨"BadSystem", []⟩ (isb "PaidError" "BadSystem")))) (mOr (mNot (mTest (mIsE 4 a ⟨"BadSystem", []⟩ (isb "ValueError" "BadSystem")))) (mTest (mIsE 4 a ⟨"BadSystem", []⟩ (isb "BadLine" "BadSystem"))))) (mSet 3 (mC (.str "wrong"))) (mNx)) [some (.int i), some d, some x, some (.str "none"), some (.ex a)] h)) = .nx [some (.int i), some d, some x, some (.str "bad"), none] h := fun i =>
    uni_eq fun a => by simp -implicitDefEqProofs [mIsE, i1, i2, i3, unName]
  have : i = 0 ∨ i = 1 ∨ i = 2 ∨ i = 3 ∨ i = 4 := by omega
  rcases this with rfl | rfl | rfl | rfl | rfl
  · have u := u 0
    simp -implicitDefEqProofs [mFn, m__law_word, mTry_ap, e0, clauses, s1] at u ⊢
    simp -implicitDefEqProofs [u]
  · have u := u 1
    simp -implicitDefEqProofs [mFn, m__law_word, mTry_ap, e1, clauses, s1] at u ⊢
    simp -implicitDefEqProofs [u]
  · have u := u 2
    simp -implicitDefEqProofs [mFn, m__law_word, mTry_ap, e2, clauses, s1] at u ⊢
    simp -implicitDefEqProofs [u]
  · have u := u 3
    simp -implicitDefEqProofs [mFn, m__law_word, mTry_ap, e3, clauses, s1] at u ⊢
    simp -implicitDefEqProofs [u]
  · have u := u 4
    simp -implicitDefEqProofs [mFn, m__law_word, mTry_ap, e4, clauses, s1] at u ⊢
    simp -implicitDefEqProofs [u]
theorem word_keeps {s : Sys} (ok : okS s) : spec (F__law_word [.int 0, sysD s, .non] h) fun d h' => d = .str "none" ∧ Ext noS h h' := by
  unfold F__law_word
  have k := keeps_ok (h := h) (d := .non) ok (.other (t := "NoneType") rfl (by decide))
  generalize F_keeps = g0 at k
  apply wO_fn
  simp -implicitDefEqProofs [m__law_word, mTry_ap]
  obtain ⟨d, h', e, b, rfl, _, E⟩ := k.ex
  simp -implicitDefEqProofs [e]
  exact ⟨rfl, E⟩
theorem word_refutes {s : Sys} (ok : okS s) : spec (F__law_word [.int 1, sysD s, .non] h) fun d h' => d = .str "none" ∧ Ext noS h h' := by
  unfold F__law_word
  have k := refutes_ok (h := h) (d := .non) ok (.other (t := "NoneType") rfl (by decide))
  generalize F_refutes = g0 at k
  apply wO_fn
  simp -implicitDefEqProofs [m__law_word, mTry_ap]
  obtain ⟨d, h', e, b, rfl, _, E⟩ := k.ex
  simp -implicitDefEqProofs [e]
  exact ⟨rfl, E⟩
/-! ### what is asked -/
theorem muls_pt {ms : List Int} (l : ms.length < 1000000) (b : ∀ m ∈ ms, lt2 200 m) : MulS w h (.tup (ms.map D.int)) := fun h' _ => mul_pt l b
theorem pts_pt {ps : List Rt} (l : ps.length < 1000000) (b : ∀ p ∈ ps, lt2 150 p.1 ∧ lt2 150 p.2) : PtS w h (.tup (ps.map ratD)) := fun h' _ => pt_rats l b
theorem asked_ok {s : Sys} {ps : List Rt} {ms : List Int} (W : IsWell h w l n) (hn : n ≤ 50000) (ok : okS s) (pl : ps.length ≤ 5000) (pb : ∀ p ∈ ps, lt2 140 p.1 ∧ lt2 140 p.2) (m0 : ms ≠ []) (ml : ms.length ≤ 5000) (mb : ∀ m ∈ ms, lt2 140 m) : spec (F__law_asked [.ref w, sysD s, .tup (ps.map ratD), .tup (ms.map D.int)] h) fun d h' => d = .bl true ∧ IsWell h' w l (n + 8) ∧ Ext (Wl w) h h' := by
  unfold F__law_asked
  have sp := fun {h : Hh} {n : Nat} (W : IsWell h w l n) hn => spoilt_point_ok W hn pl pb
  generalize F__law_spoilt_point = g1 at sp
  have sn := fun {h : Hh} {n : Nat} (W : IsWell h w l n) hn => spoilt_numbers_ok W hn m0 ml mb
  generalize F__law_spoilt_numbers = g2 at sn
  have sh := fun {h : Hh} => shared_ok (h := h)
  generalize F__law_shared = g3 at sh
  have lk := fun {h : Hh} {d : D} (P : PtD h d) => law_keeps_ok ok P
  generalize F__law_keeps = g4 at lk
  have kp := fun {h : Hh} {d : D} (P : PtD h d) => keeps_ok ok P
  generalize F_keeps = g5 at kp
  have lr := fun {h : Hh} {d : D} (P : MulD h d) => law_refutes_ok (rows := s.2) ok.n ok.r P
  generalize F__law_refutes = g6 at lr
  have rf := fun {h : Hh} {d : D} (P : MulD h d) => refutes_ok ok P
  generalize F_refutes = g7 at rf
  have tr := fun {h : Hh} {a b : Bool} => law_truth_eq (h := h) (a := a) (b := b)
  generalize F__law_truth = g8 at tr
  apply wO_fn
  simp -implicitDefEqProofs [-List.append_assoc, -List.length_append, -List.cons_append, m__law_asked]
  have lw := W.lw
  refine wS.bind (sp W (by omega)) ?_
  rintro d1 h2 ⟨P1, W2, E2⟩
  refine wS.bind (sp W2 (by omega)) ?_
  rintro d2 h3 ⟨P2, W3, E3⟩
  refine wS.bind (sh) ?_
  rintro d3 h4 ⟨rfl, P3⟩
  have W := W3
  have E := E2.trans E3
  have lh3 := E.len
  have Eh : Ext (Wl w) h4 h4 := .refl
  generalize xe : h4 ++ [(_ : Ob)] = h5
  have q5 := new_of xe
  have W := W.ext (ext_of xe)
  have E := E.trans (ext_of xe)
  have Eh := Eh.trans (ext_of xe)
  have lh5 := len_of xe
  clear xe
  generalize hi5 : h4.length = i5 at q5 lh5 ⊢
  have n5 : ¬ Wl w i5 := by intro z; simp only [Wl] at z; omega
  have PP : ∀ x ∈ [D.tup (ps.map ratD), d1, d2, .tup (ps.map ratD), .tup [], d3], PtS w h5 x := by
    intro x hx
    simp only [List.mem_cons, List.not_mem_nil, or_false] at hx
    have pp : PtS w h5 (.tup (ps.map ratD)) := pts_pt (by omega) fun p hp => ⟨(pb p hp).1.up (by omega), (pb p hp).2.up (by omega)⟩
    rcases hx with rfl | rfl | rfl | rfl | rfl | rfl
    · exact pp
    · exact (P1.later E3).later Eh
    · exact P2.later Eh
    · exact pp
    · exact fun h' _ => .tup (by simp) (by simp)
    · exact fun h' _ => (P3 h').1
  obtain ⟨L, q5, hL⟩ := lst_of q5
  have lL : L.length = 6 := by rw [hL]; rfl
  rw [← hL] at PP
  clear hL
  simp -implicitDefEqProofs [-List.append_assoc, -List.length_append, -List.cons_append, iterA_lst q5, lL]
  refine wS.loop (fun i ρ h' => ∃ o4 o5, ρ = [some (.ref w), some (sysD s), some (.tup (ps.map ratD)), some (.tup (ms.map D.int)), o4, o5, none] ∧ IsWell h' w l (n + 2 + 2) ∧ Ext (Wl w) h5 h') ⟨none, none, rfl, W, .refl⟩ ?_ ?_
  · rintro _ h' ⟨o4, o5, rfl, W6, E6⟩
    refine ⟨by rw [jSrc_lst (E6.keep _ _ q5 n5)]; simp [lL], ?_⟩
    simp -implicitDefEqProofs [-List.append_assoc, -List.length_append, -List.cons_append]
    have E6 := E.trans E6
    refine wS.bind (sn W6 (by omega)) ?_
    rintro c1 g1 ⟨Q1, W7, E7⟩
    refine wS.bind (sn W7 (by omega)) ?_
    rintro c2 g2 ⟨Q2, W8, E8⟩
    have W := W8
    have E := (E6.trans E7).trans E8
    have Eg : Ext (Wl w) g2 g2 := .refl
    simp -implicitDefEqProofs [-List.append_assoc, -List.length_append, -List.cons_append]
    generalize xe : g2 ++ [(_ : Ob)] = g3
    have r3 := new_of xe
    have W := W.ext (ext_of xe)
    have E := E.trans (ext_of xe)
    have Eg := Eg.trans (ext_of xe)
    have lg3 := len_of xe
    clear xe
    generalize hj3 : g2.length = j3 at r3 lg3 ⊢
    generalize xe : g3 ++ [(_ : Ob)] = g4
    have r4 := new_of xe
    have r3 := get_of xe r3
    have W := W.ext (ext_of xe)
    have E := E.trans (ext_of xe)
    have Eg := Eg.trans (ext_of xe)
    have lg4 := len_of xe
    clear xe
    generalize hj4 : g3.length = j4 at r4 lg4 ⊢
    simp -implicitDefEqProofs [-List.append_assoc, -List.length_append, -List.cons_append, r3, r4, le_sl (show 1 + 2 ≤ 1000000 by omega)]
    generalize xe : g4 ++ [(_ : Ob)] = g5
    have r5 := new_of xe
    have W := W.ext (ext_of xe)
    have E := E.trans (ext_of xe)
    have Eg := Eg.trans (ext_of xe)
    have lg5 := len_of xe
    clear xe
    generalize hj5 : g4.length = j5 at r5 lg5 ⊢
    refine wS.bind (sh) ?_
    rintro c3 g6 ⟨rfl, Q3⟩
    generalize xe : g6 ++ [(_ : Ob)] = g7
    have r7 := new_of xe
    have r5 := get_of xe r5
    have W := W.ext (ext_of xe)
    have E := E.trans (ext_of xe)
    have Eg := Eg.trans (ext_of xe)
    have lg7 := len_of xe
    clear xe
    generalize hj7 : g6.length = j7 at r7 lg7 ⊢
    simp -implicitDefEqProofs [-List.append_assoc, -List.length_append, -List.cons_append, r5, r7, le_sl (show 3 + 2 ≤ 1000000 by omega)]
    generalize xe : g7 ++ [(_ : Ob)] = g8
    have r8 := new_of xe
    have W := W.ext (ext_of xe)
    have E := E.trans (ext_of xe)
    have Eg := Eg.trans (ext_of xe)
    have lg8 := len_of xe
    clear xe
    generalize hj8 : g7.length = j8 at r8 lg8 ⊢
    have lh := E.len
    have lw8 := W8.lw
    have n8 : ¬ Wl w j8 := by intro z; simp only [Wl] at z; omega
    have PP : ∀ x ∈ [D.tup (ms.map D.int), c1, c2, .tup (ms.map D.int), c3], MulS w g8 x := by
      intro x hx
      simp only [List.mem_cons, List.not_mem_nil, or_false] at hx
      have pp : MulS w g8 (.tup (ms.map D.int)) := muls_pt (by omega) fun m hm => (mb m hm).up (by omega)
      rcases hx with rfl | rfl | rfl | rfl | rfl
      · exact pp
      · exact (Q1.later E8).later Eg
      · exact Q2.later Eg
      · exact pp
      · exact fun h' _ => (Q3 h').2
    obtain ⟨M, r8, hM⟩ := lst_of r8
    have lM : M.length = 5 := by rw [hM]; rfl
    have hM : M = [D.tup (ms.map D.int), c1, c2, .tup (ms.map D.int), c3] := hM
    rw [← hM] at PP
    clear hM
    simp -implicitDefEqProofs [-List.append_assoc, -List.length_append, -List.cons_append, iterA_lst r8, lM]
    refine wS.loop (fun i ρ h' => ∃ o4 o5 o6, ρ = [some (.ref w), some (sysD s), some (.tup (ps.map ratD)), some (.tup (ms.map D.int)), o4, o5, o6] ∧ IsWell h' w l (n + 2 + 2 + 2 + 2) ∧ Ext (Wl w) g8 h') ⟨_, _, _, rfl, W, .refl⟩ ?_ ?_
    · rintro _ h' ⟨o4, o5, o6, rfl, W6, E6⟩
      refine ⟨by rw [jSrc_lst (E6.keep _ _ r8 n8)]; simp [lM], ?_⟩
      simp -implicitDefEqProofs [-List.append_assoc, -List.length_append, -List.cons_append]
      exact ⟨rfl, W6, E.trans E6⟩
    · rintro i _ h' hi ⟨o4, o5, o6, rfl, W6, E6⟩
      obtain ⟨x, ex⟩ : ∃ x, M[i]? = some x := ⟨_, List.getElem?_eq_getElem (by omega)⟩
      refine ⟨x, _, _, by rw [jSrc_lst (E6.keep _ _ r8 n8), ex], rfl, ?_⟩
      have Px := PP x (List.mem_of_getElem? ex)
      have g1' : oGet (sysD s) (.int 1) h' = some (.tup (s.2.map rowD), h') := by simp [sysD]
      simp -implicitDefEqProofs [-List.append_assoc, -List.length_append, -List.cons_append, g1']
      refine wS.bind (lr (Px h' E6)) ?_
      rintro _ h6 ⟨b, rfl, hb, E9⟩
      simp -implicitDefEqProofs [-List.append_assoc, -List.length_append, -List.cons_append]
      refine wS.bind (rf (Px h6 (E6.trans E9.of))) ?_
      rintro _ h7 ⟨b1, rfl, hb1, E7⟩
      have t1 := tr (h := h7) (a := b1) (b := b)
      have e1 : b1 = b := Bool.eq_iff_iff.mpr (hb1.trans hb.symm)
      subst e1
      have E97 := (E6.trans E9.of).trans E7.of
      simp -implicitDefEqProofs [-List.append_assoc, -List.length_append, -List.cons_append, t1, perm]
      refine wS.bind (rf (Px h7 E97)) ?_
      rintro _ h8 ⟨b2, rfl, hb2, E8⟩
      have t2 := tr (h := h8) (a := b2) (b := b1)
      have e2 : b2 = b1 := Bool.eq_iff_iff.mpr (hb2.trans hb1.symm)
      subst e2
      simp -implicitDefEqProofs [-List.append_assoc, -List.length_append, -List.cons_append, t2]
      exact ⟨_, _, _, rfl, ((W6.ext E9).ext E7).ext E8, E97.trans E8.of⟩
  · rintro i _ h' hi ⟨o4, o5, rfl, W6, E6⟩
    obtain ⟨x, ex⟩ : ∃ x, L[i]? = some x := ⟨_, List.getElem?_eq_getElem (by omega)⟩
    refine ⟨x, _, _, by rw [jSrc_lst (E6.keep _ _ q5 n5), ex], rfl, ?_⟩
    have Px := PP x (List.mem_of_getElem? ex)
    simp -implicitDefEqProofs [-List.append_assoc, -List.length_append, -List.cons_append]
    refine wS.bind (lk (Px h' E6)) ?_
    rintro _ h6 ⟨b, rfl, hb, rfl⟩
    simp -implicitDefEqProofs [-List.append_assoc, -List.length_append, -List.cons_append]
    refine wS.bind (kp (Px h6 E6)) ?_
    rintro _ h7 ⟨b1, rfl, hb1, E7⟩
    have t1 := tr (h := h7) (a := b1) (b := b)
    have e1 : b1 = b := Bool.eq_iff_iff.mpr (hb1.trans hb.symm)
    subst e1
    simp -implicitDefEqProofs [-List.append_assoc, -List.length_append, -List.cons_append, t1, perm]
    refine wS.bind (kp (Px h7 (E6.trans E7.of))) ?_
    rintro _ h8 ⟨b2, rfl, hb2, E8⟩
    have t2 := tr (h := h8) (a := b2) (b := b1)
    have e2 : b2 = b1 := Bool.eq_iff_iff.mpr (hb2.trans hb1.symm)
    subst e2
    simp -implicitDefEqProofs [-List.append_assoc, -List.length_append, -List.cons_append, t2]
    exact ⟨_, _, rfl, (W6.ext E7).ext E8, (E6.trans E7.of).trans E8.of⟩
end
end K64
namespace K64
open PySem PySem.Spec L2 PI
open PyProof.Rows hiding St
section
variable {h h1 : Hh} {w l n : Nat}
theorem oNe_str {a b : Str} : oNe (.str a) (.str b) h = some (.bl (!(decide (a = b))), h) := rfl
theorem mulT {x : D} {k : Int} (a : -1000000 ≤ k) (b : k ≤ 1000000) : oMulA (.tup [x]) (.int k) h = some (.tup (List.replicate k.toNat x), h) := by
  show (if [x] ≠ [] ∧ -1000000 ≤ k ∧ (([x].length : Nat) : Int) * k ≤ 1000000 then some (D.tup (List.replicate k.toNat [x]).flatten, h) else none) = _
  rw [if_pos ⟨by simp, a, by simp; omega⟩, List.flatten_replicate_singleton]
theorem big_rows (r : Row) (k : Nat) (hk : k ≤ 1000000) : ∃ R : List Row, (∀ h, oMulA (.tup [rowD r]) (.int (k : Int)) h = some (.tup (R.map rowD), h)) ∧ R.length = k ∧ ∀ x ∈ R, x = r :=
  ⟨List.replicate k r, fun h => by rw [mulT (by omega) (by omega), List.map_replicate, Int.toNat_natCast], by simp, fun x hx => (List.mem_replicate.mp hx).2⟩
theorem law_true (ns : List Int) (hl : ns.length ≤ 63) : ∃ h, F_law [.rol (ns.map D.int)] [] = .ok (.bl true) h := by
  have key : spec (F_law [.rol (ns.map D.int)] []) fun d _ => d = .bl true := by
    unfold F_law
    have we := fun {h : Hh} => well_ok (h := h) (ns := ns) (a := 0)
    generalize F__law_well = gw at we
    have dr : ∀ {w l : Nat}, drawT F__law_draw w l := fun W m0 hn => draw_dec W m0 hn
    generalize F__law_draw = gd at dr
    have po := fun {h : Hh} {w l n k : Nat} (W : IsWell h w l n) hn hk => point_ok (k := k) W hn hk
    generalize F__law_point = gp at po
    have kr := fun {h : Hh} {w l n m : Nat} {ps : List Rt} (W : IsWell h w l n) hn P hm => kept_rows_ok (ps := ps) (m := m) W hn P hm
    generalize F__law_kept_rows = gk at kr
    have tr := fun {h : Hh} {w l n m c : Nat} (W : IsWell h w l n) hn hc hm => torn_rows_ok (c := c) (m := m) W hn hc hm
    generalize F__law_torn_rows = gt at tr
    have lk := fun {h : Hh} {s : Sys} {d : D} (ok : okS s) (P : PtD h d) => law_keeps_ok ok P
    generalize F__law_keeps = g4 at lk
    have kp := fun {h : Hh} {s : Sys} {d : D} (ok : okS s) (P : PtD h d) => keeps_ok ok P
    generalize F_keeps = g5 at kp
    have lr := fun {h : Hh} {c : Int} {rows : List Row} {d : D} n ok (P : MulD h d) => law_refutes_ok (c := c) (rows := rows) n ok P
    generalize F__law_refutes = g6 at lr
    have ltr := fun {h : Hh} {a b : Bool} => law_truth_eq (h := h) (a := a) (b := b)
    generalize F__law_truth = g8 at ltr
    have ask := fun {h : Hh} {w l n : Nat} {s : Sys} {ps : List Rt} {ms : List Int} (W : IsWell h w l n) hn (ok : okS s) pl pb m0 ml mb => asked_ok (ps := ps) (ms := ms) W hn ok pl pb m0 ml mb
    generalize F__law_asked = ga at ask
    have nosy := fun {h : Hh} {w l n c rr : Nat} {rows : List Row} (W : IsWell h w l n) hn hc er nr rl ok => no_system_ok (c := c) (rr := rr) (rows := rows) W hn hc er nr rl ok
    generalize F__law_no_system = gn at nosy
    have wb := fun {h : Hh} {d x : D} {i : Nat} (hi : i < 5) (T : Typ h 6 d) b => word_bad (x := x) hi T b
    have wk := fun {h : Hh} {s : Sys} (ok : okS s) => word_keeps (h := h) ok
    have wr := fun {h : Hh} {s : Sys} (ok : okS s) => word_refutes (h := h) ok
    generalize F__law_word = gww at wb wk wr
    apply wO_fn
    simp -implicitDefEqProofs [-List.append_assoc, -List.length_append, -List.cons_append, m_law]
    refine wS.bind (we) ?_
    rintro _ h1 ⟨w, l, rfl, W1, E1⟩
    simp -implicitDefEqProofs [-List.append_assoc, -List.length_append, -List.cons_append]
    refine wS.bind (dr (m := 7) W1 (by decide) (by omega)) ?_
    rintro _ h2 ⟨u, rfl, ub, W2, E2⟩
    obtain ⟨c, rfl⟩ : ∃ c : Nat, u = c := ⟨u.toNat, by omega⟩
    simp -implicitDefEqProofs [-List.append_assoc, -List.length_append, -List.cons_append]
    refine wS.bind (po (k := c) W2 (by omega) (by omega)) ?_
    rintro _ h3 ⟨ps, rfl, pl, pb, W3, E3⟩
    simp -implicitDefEqProofs [-List.append_assoc, -List.length_append, -List.cons_append]
    refine wS.bind (dr (m := 8) W3 (by decide) (by omega)) ?_
    rintro _ h4 ⟨u, rfl, ub, W4, E4⟩
    obtain ⟨m, rfl⟩ : ∃ c : Nat, u = c := ⟨u.toNat, by omega⟩
    have P6 : Pt6 ps := ⟨by omega, pb⟩
    refine wS.bind (kr (m := m) W4 (by omega) P6 (by omega)) ?_
    rintro _ h5 ⟨r4, rows, rfl, q4, rl, mr, W5, E5, r4l⟩
    simp -implicitDefEqProofs [-List.append_assoc, -List.length_append, -List.cons_append]
    refine wS.bind (dr (m := 6) W5 (by decide) (by omega)) ?_
    rintro _ h6 ⟨u, rfl, ub6, W6, E6⟩
    obtain ⟨m2, rfl⟩ : ∃ c : Nat, u = c := ⟨u.toNat, by omega⟩
    refine wS.bind (tr (c := c) (m := m2) W6 (by omega) (by omega) (by omega)) ?_
    rintro _ h7 ⟨r5, torn, ms, rfl, q5, tl, tok, mb, ref, W7, E7, r5l⟩
    have lw1 := W1.lw
    have lw4 := W4.lw
    have lw6 := W6.lw
    have n4 : ¬ Wl w r4 := by intro z; simp only [Wl] at z; omega
    have n5 : ¬ Wl w r5 := by intro z; simp only [Wl] at z; omega
    have q4 := E7.keep _ _ (E6.keep _ _ q4 n4) n4
    simp -implicitDefEqProofs [-List.append_assoc, -List.length_append, -List.cons_append]
    refine wS.bind (dr (m := 40) W7 (by decide) (by omega)) ?_
    rintro _ h8 ⟨u, rfl, ub8, W8, E8⟩
    have q4 := E8.keep _ _ q4 n4
    have q5 := E8.keep _ _ q5 n5
    have eu : oEq (.int u) (.int 0) h8 = some (.bl (u == 0), h8) := by simp
    generalize (u == 0) = bu at eu
    simp -implicitDefEqProofs [-List.append_assoc, -List.length_append, -List.cons_append, eu]
    refine wS.cut (fun ρ h => h8 = h ∧ ∃ v : Int, ρ = [some (D.rol (List.map D.int ns)), some (.ref w), some (.int c), some (.tup (ps.map ratD)), some (.ref r4), some (.ref r5), some (.tup (ms.map D.int)), some (.int v), none, none, none, none, none, none, none] ∧ (v = c ∨ v = 4000)) ?_ ?_
    · cases bu with
      | true => simp -implicitDefEqProofs [-List.append_assoc, -List.length_append, -List.cons_append]; exact ⟨rfl, 4000, rfl, .inr rfl⟩
      | false => simp -implicitDefEqProofs [-List.append_assoc, -List.length_append, -List.cons_append]; exact ⟨rfl, c, rfl, .inl rfl⟩
    rintro _ _ ⟨rfl, v, rfl, hv⟩
    obtain ⟨k, hk⟩ : ∃ k : Nat, (v - c).toNat = k := ⟨_, rfl⟩
    have mu := fun {h : Hh} => mulT (h := h) (x := .tup [.int 0, .int 1]) (k := v - c) (by omega) (by omega)
    rw [hk] at mu
    obtain ⟨qs, hqs⟩ : ∃ qs : List Rt, qs = ps ++ List.replicate k (0, 1) := ⟨_, rfl⟩
    have ad : ∀ h, oAdd (.tup (ps.map ratD)) (.tup (List.replicate k (.tup [.int 0, .int 1]))) h = some (.tup (qs.map ratD), h) := fun h => by
      rw [oAdd_t (by simp; omega), hqs, List.map_append, List.map_replicate]; rfl
    have ql : (qs.length : Int) = v := by rw [hqs]; simp; omega
    have qb : ∀ q ∈ qs, isRat q ∧ lt2 140 q.1 ∧ lt2 140 q.2 := fun q hq => by
      rw [hqs] at hq
      rcases List.mem_append.mp hq with hq | hq
      · exact pb q hq
      · rw [(List.mem_replicate.mp hq).2]
        exact ⟨by unfold isRat; decide, by unfold lt2; decide, by unfold lt2; decide⟩
    have go : GoesOn ps qs := fun i hi => by rw [hqs, List.getElem?_append_left hi]
    clear hqs
    simp -implicitDefEqProofs [-List.append_assoc, -List.length_append, -List.cons_append, mu, ad, q4, q5]
    have e1 : D.tup [.int v, .tup (rows.map rowD)] = sysD (v, rows) := rfl
    have e2 : D.tup [.int v, .tup (torn.map rowD)] = sysD (v, torn) := rfl
    have okup : ∀ {k : Int} {l : Lin}, okL k l → k ≤ v → okL v l := fun k g => ⟨k.k, fun t ht => ⟨⟨(k.t t ht).1.1, by have := (k.t t ht).1.2; omega⟩, (k.t t ht).2⟩, k.o, k.n⟩
    have ok1 : okS (v, rows) := ⟨⟨by dsimp only; omega, by dsimp only; omega⟩, by dsimp only; omega, fun r hr => okup (mr r hr).ok (by omega)⟩
    have ok2 : okS (v, torn) := ⟨⟨by dsimp only; omega, by dsimp only; omega⟩, by dsimp only; omega, fun r hr => okup (tok r hr) (by omega)⟩
    have ok3 : okS (v, rows ++ torn) := ⟨⟨by dsimp only; omega, by dsimp only; omega⟩, by simp; omega, fun r hr => by
      rcases List.mem_append.mp hr with hr | hr
      · exact ok1.r r hr
      · exact ok2.r r hr⟩
    have e3 : D.tup [.int v, .tup (rows.map rowD ++ torn.map rowD)] = sysD (v, rows ++ torn) := by rw [← List.map_append]; rfl
    have gg1 : ∀ h, oGet (sysD (v, rows)) (.int 1) h = some (.tup (rows.map rowD), h) := fun h => by simp [sysD]
    have gg2 : ∀ h, oGet (sysD (v, torn)) (.int 1) h = some (.tup (torn.map rowD), h) := fun h => by simp [sysD]
    rw [e1, e2]
    have q150 : ∀ q ∈ qs, lt2 150 q.1 ∧ lt2 150 q.2 := fun q hq => ⟨(qb q hq).2.1.up (by omega), (qb q hq).2.2.up (by omega)⟩
    refine wS.bind (lk ok1 (pt_rats (by omega) q150)) ?_
    rintro _ h9 ⟨b, rfl, hb, rfl⟩
    have bt : b = true := hb.mpr ⟨qs, rfl, ql, fun q hq => (qb q hq).1, fun r hr => (mr r hr).k qs go⟩
    subst bt
    simp -implicitDefEqProofs [-List.append_assoc, -List.length_append, -List.cons_append, gg2]
    have ml : ms.length = torn.length := by
      obtain ⟨ms', e, l, _⟩ := ref
      rw [tups_inj e]; exact l
    refine wS.bind (lr (c := v) (rows := torn) (by omega) (fun r hr => ok2.r r hr) (mul_pt (by omega) fun m hm => (mb m hm).up (by omega))) ?_
    rintro _ h10 ⟨b, rfl, hb, E10⟩
    have bt : b = true := hb.mpr ref
    subst bt
    have q4 := E10.get q4
    have q5 := E10.get q5
    have W10 := W8.ext E10
    have mu0 := fun {h : Hh} => mulT (h := h) (x := .int 0) (k := (rows.length : Int) - ms.length) (by omega) (by omega)
    obtain ⟨j, hj⟩ : ∃ j : Nat, ((rows.length : Int) - ms.length).toNat = j := ⟨_, rfl⟩
    rw [hj] at mu0
    obtain ⟨nm, hnm⟩ : ∃ nm : List Int, nm = ms ++ List.replicate j 0 := ⟨_, rfl⟩
    have ad0 : ∀ h, oAdd (.tup (ms.map D.int)) (.tup (List.replicate j (.int 0))) h = some (.tup (nm.map D.int), h) := fun h => by
      rw [oAdd_t (by simp; omega), hnm, List.map_append, List.map_replicate]
    have nml : nm.length = ms.length + j := by rw [hnm]; simp
    have nmb : ∀ m ∈ nm, lt2 140 m := fun m hm => by
      rw [hnm] at hm
      rcases List.mem_append.mp hm with hm | hm
      · exact (mb m hm).up (by omega)
      · rw [(List.mem_replicate.mp hm).2]; unfold lt2; decide
    clear hnm
    obtain ⟨k1, hk1, k1a, k1b⟩ : ∃ k1 : Nat, (∀ h, bMax2 [.int 1, .int (rows.length : Int)] h = some (.int (k1 : Int), h)) ∧ k1 ≤ nm.length ∧ 1 ≤ k1 := ⟨max 1 rows.length, fun h => by
      simp [bMax2] <;> omega, by omega, by omega⟩
    obtain ⟨some_, hso⟩ : ∃ so : List Int, so = nm.take k1 := ⟨_, rfl⟩
    have cu : PI.cutD (nm.map D.int) none (some (k1 : Int)) = some_.map D.int := by rw [cutD_take (by rw [List.length_map]; exact k1a), hso, List.map_take]
    have sol : some_.length = k1 := by rw [hso]; simp; omega
    have sob : ∀ m ∈ some_, lt2 140 m := fun m hm => nmb m (List.mem_of_mem_take (hso ▸ hm))
    clear hso
    simp -implicitDefEqProofs [-List.append_assoc, -List.length_append, -List.cons_append, q4, mu0, ad0, hk1, cu]
    have sol0 : some_ ≠ [] := fun z => by rw [z] at sol; simp at sol; omega
    refine wS.bind (ask W10 (by omega) ok1 (by omega) (fun q hq => (qb q hq).2) sol0 (by omega) sob) ?_
    rintro _ h11 ⟨rfl, W11, E11⟩
    simp -implicitDefEqProofs [-List.append_assoc, -List.length_append, -List.cons_append]
    have ms0 : ms ≠ [] := fun z => by rw [z] at ml; simp at ml; omega
    refine wS.bind (ask W11 (by omega) ok2 (by omega) (fun q hq => (qb q hq).2) ms0 (by omega) (fun m hm => (mb m hm).up (by omega))) ?_
    rintro _ h12 ⟨rfl, W12, E12⟩
    have q4 := E12.keep _ _ (E11.keep _ _ q4 n4) n4
    simp -implicitDefEqProofs [-List.append_assoc, -List.length_append, -List.cons_append, gg1, gg2, oAdd_t (h := h12) (xs := rows.map rowD) (ys := torn.map rowD) (by simp; omega)]
    rw [e3]
    obtain ⟨zs, zl, mz, zb⟩ : ∃ zs : List Int, zs.length = rows.length ∧ (∀ h, oMulA (.tup [.int 0]) (.int (rows.length : Int)) h = some (.tup (zs.map D.int), h)) ∧ ∀ m ∈ zs, lt2 140 m := ⟨List.replicate rows.length 0, by simp, fun h => by rw [mulT (by omega) (by omega), List.map_replicate, Int.toNat_natCast], fun m hm => by rw [(List.mem_replicate.mp hm).2]; unfold lt2; decide⟩
    have adz : ∀ h, oAdd (.tup (zs.map D.int)) (.tup (ms.map D.int)) h = some (.tup ((zs ++ ms).map D.int), h) := fun h => by rw [oAdd_t (by simp; omega), List.map_append]
    simp -implicitDefEqProofs [-List.append_assoc, -List.length_append, -List.cons_append, q4, mz, adz, -List.map_append]
    have zmb : ∀ m ∈ zs ++ ms, lt2 140 m := fun m hm => by
      rcases List.mem_append.mp hm with hm | hm
      · exact zb m hm
      · exact (mb m hm).up (by omega)
    refine wS.bind (ask W12 (by omega) ok3 (by omega) (fun q hq => (qb q hq).2) (show zs ++ ms ≠ [] from fun z => ms0 (List.append_eq_nil_iff.mp z).2) (by simp; omega) zmb) ?_
    rintro _ h13 ⟨rfl, W13, E13⟩
    have q4 := E13.keep _ _ q4 n4
    simp -implicitDefEqProofs [-List.append_assoc, -List.length_append, -List.cons_append]
    refine wS.bind (nosy W13 (by omega) (by omega) q4 n4 (by omega) (fun r hr => pl ▸ (mr r hr).ok)) ?_
    rintro bad h14 ⟨NS, W14, E14⟩
    simp -implicitDefEqProofs [-List.append_assoc, -List.length_append, -List.cons_append]
    refine wS.loop (fun i ρ h' => ∃ o13, ρ = [some (D.rol (List.map D.int ns)), some (.ref w), some (.int c), some (.tup (qs.map ratD)), some (.ref r4), some (.ref r5), some (.tup (ms.map D.int)), some (.int v), some (sysD (v, rows)), some (sysD (v, torn)), some (.tup (nm.map D.int)), some (sysD (v, rows ++ torn)), some bad, o13, none] ∧ IsWell h' w l (60000 + i) ∧ Ext (Wl w) h14 h') ⟨none, rfl, W14.up (by omega), .refl⟩ ?_ ?_
    · rintro _ h' ⟨o13, rfl, W15, E15⟩
      refine ⟨jRng_end, ?_⟩
      simp -implicitDefEqProofs [-List.append_assoc, -List.length_append, -List.cons_append]
      refine wS.bind (dr (m := 16) W15 (by decide) (by omega)) ?_
      rintro _ h16 ⟨z, rfl, zb', W16, E16⟩
      have ez : oEq (.int z) (.int 0) h16 = some (.bl (z == 0), h16) := by simp
      generalize (z == 0) = bz at ez
      simp -implicitDefEqProofs [-List.append_assoc, -List.length_append, -List.cons_append, ez]
      refine wS.cut (fun ρ h => ∃ o14, ρ = [some (D.rol (List.map D.int ns)), some (.ref w), some (.int c), some (.tup (qs.map ratD)), some (.ref r4), some (.ref r5), some (.tup (ms.map D.int)), some (.int v), some (sysD (v, rows)), some (sysD (v, torn)), some (.tup (nm.map D.int)), some (sysD (v, rows ++ torn)), some bad, o13, o14]) ?_ ?_
      · cases bz with
        | false =>
          simp -implicitDefEqProofs [-List.append_assoc, -List.length_append, -List.cons_append]
          exact ⟨_, rfl⟩
        | true =>
          simp -implicitDefEqProofs [-List.append_assoc, -List.length_append, -List.cons_append]
          refine wS.bind (dr (m := 3) W16 (by decide) (by omega)) ?_
          rintro _ h17 ⟨y, rfl, yb, W17, E17⟩
          obtain ⟨R, mR, lR, aR⟩ := big_rows ((y, []), false) 12000 (by omega)
          obtain ⟨R1, mR1, lR1, aR1⟩ := big_rows ((y, []), false) 12001 (by omega)
          have er : D.tup [D.tup [D.int y, D.tup []], D.bl false] = rowD ((y, []), false) := rfl
          have mR : ∀ h, oMulA (.tup [rowD ((y, []), false)]) (.int 12000) h = some (.tup (R.map rowD), h) := mR
          have mR1 : ∀ h, oMulA (.tup [rowD ((y, []), false)]) (.int 12001) h = some (.tup (R1.map rowD), h) := mR1
          have eR : D.tup [.int 0, .tup (R.map rowD)] = sysD (0, R) := rfl
          have okr : okL 0 ((y, []) : Lin) := ⟨by have e : (2 : Nat) ^ 200 > 10 := by decide
                                                  unfold lt2; dsimp only; omega, by simp, .nil, by simp⟩
          have okR : okS (0, R) := ⟨⟨by dsimp only; omega, by dsimp only; omega⟩, by dsimp only; omega, fun r hr => by rw [aR r hr]; exact okr⟩
          have kR : KeptP (0, R) (.tup []) := ⟨[], rfl, rfl, by simp, fun r hr => by
            rw [aR r hr]
            exact ⟨by simp [valV]; omega, fun z => by cases z⟩⟩
          have bR : sysB (.tup [.int 0, .tup (R1.map rowD)]) = false := by
            rw [sysB_2]
            have : ¬ (R1.map rowD).length ≤ 12000 := by rw [List.length_map]; omega
            rw [decide_eq_false this]
            simp
          have tR : ∀ h, Typ h 6 (.tup [.int 0, .tup (R1.map rowD)]) := fun h => .tup (by simp) fun x hx => by
            simp only [List.mem_cons, List.not_mem_nil, or_false] at hx
            rcases hx with rfl | rfl
            · exact .other (t := "int") rfl (by decide)
            · refine .tup (by rw [List.length_map]; omega) fun x hx => ?_
              obtain ⟨r, hr, rfl⟩ := List.mem_map.mp hx
              rw [aR1 r hr]
              exact row_typ okr
          have w0 := fun {h : Hh} => wb (h := h) (x := .tup []) (i := 0) (by omega) (tR h) bR
          have w1 := fun {h : Hh} => wb (h := h) (x := .tup []) (i := 1) (by omega) (tR h) bR
          have w0 : ∀ {h : Hh}, gww [.int 0, .tup [.int 0, .tup (R1.map rowD)], .tup []] h = .ok (.str "bad") h := w0
          have w1 : ∀ {h : Hh}, gww [.int 1, .tup [.int 0, .tup (R1.map rowD)], .tup []] h = .ok (.str "bad") h := w1
          clear aR aR1
          simp -implicitDefEqProofs [-List.append_assoc, -List.length_append, -List.cons_append, er, mR, eR]
          refine wS.bind (kp okR (.tup (xs := []) (by simp) (by simp))) ?_
          rintro _ h18 ⟨b, rfl, hb, E18⟩
          have bt : b = true := hb.mpr kR
          subst bt
          simp -implicitDefEqProofs [-List.append_assoc, -List.length_append, -List.cons_append, ltr, mR1, w0, w1]
          exact ⟨_, rfl⟩
      · rintro _ h17 ⟨o14, rfl⟩
        simp -implicitDefEqProofs [-List.append_assoc, -List.length_append, -List.cons_append]
        refine wS.bind (wk ok1) ?_
        rintro _ h18 ⟨rfl, E18⟩
        simp -implicitDefEqProofs [-List.append_assoc, -List.length_append, -List.cons_append]
        refine wS.bind (wr ok2) ?_
        rintro _ h19 ⟨rfl, E19⟩
        simp -implicitDefEqProofs [-List.append_assoc, -List.length_append, -List.cons_append]
        exact rfl
    · rintro i _ h' hi ⟨o13, rfl, W15, E15⟩
      refine ⟨_, _, _, jRng_at hi, rfl, ?_⟩
      simp -implicitDefEqProofs [-List.append_assoc, -List.length_append, -List.cons_append]
      have lw15 := W15.lw
      generalize xe : h' ++ [(_ : Ob)] = h16
      have q16 := new_of xe
      have W15 := W15.ext (ext_of xe)
      have E15 := E15.trans (ext_of xe)
      have lh16 := len_of xe
      clear xe
      generalize hi16 : h'.length = i16 at q16 lh16 ⊢
      refine wS.bind (dr (m := 4) W15 (by decide) (by omega)) ?_
      rintro _ h17 ⟨z, rfl, zb', W17, E17⟩
      have n16 : ¬ Wl w i16 := by intro z; simp only [Wl] at z; omega
      have q17 := E17.keep _ _ q16 n16
      obtain ⟨L, q17, hL⟩ := lst_of q17
      have lL : L.length = 4 := by rw [hL]; rfl
      clear hL
      obtain ⟨d, at_, mem⟩ := atI_some (L := L) zb'.1 (by omega)
      have wd := wb (x := d) hi (NS.2 _ (E15.trans E17)) NS.1
      simp -implicitDefEqProofs [-List.append_assoc, -List.length_append, -List.cons_append, oGet_lst q17, at_, wd]
      exact ⟨_, rfl, W17.up (by omega), E15.trans E17⟩
  obtain ⟨d, h, e, rfl⟩ := key.ex
  exact ⟨h, e⟩
end
end K64
namespace K64
open PySem PySem.Spec L2 PI
open PyProof.Rows hiding St
theorem all_mk {l : PySem.W.OpenLaw} {w : World} {K : PySem.W.Frag} {h : Heap} {mg : Str → Option Value} {fa aPaidError aBadSystem aBadLine f_is_int f_lowest f_is_ratio f_is_line f_is_system f_need_system f_is_point f_is_multipliers f_value_at f_keeps_rows f_gathered f_refutes_rows f_keeps f_refutes f_solve f_need_line f_least f_is_least f__law_draw f__law_shared f__law_int f__law_gcd f__law_ratio f__law_value f__law_keeps f__law_truth f__law_multipliers f__law_summed f__law_refutes f__law_well f__law_lowest f__law_point f__law_terms f__law_row_at f__law_kept_rows f__law_torn_rows f__law_no_system f__law_swapped f__law_spoilt_point f__law_spoilt_numbers f__law_word f__law_asked f_law : Addr} (X : K.In h) (G : h.Ns mainGlobals mg) (hfa : mg "law" = some (.ref fa))
    {od_is_int an_is_int : Option Addr} {sl_is_int : Array (Option Value)} {oc_is_int kV_is_int dc_is_int pm_is_int cd_is_int ct_is_int : Value}
    {od_lowest an_lowest : Option Addr} {sl_lowest : Array (Option Value)} {oc_lowest kV_lowest dc_lowest pm_lowest cd_lowest ct_lowest : Value}
    {od_is_ratio an_is_ratio : Option Addr} {sl_is_ratio : Array (Option Value)} {oc_is_ratio kV_is_ratio dc_is_ratio pm_is_ratio cd_is_ratio ct_is_ratio : Value}
    {od_is_line an_is_line : Option Addr} {sl_is_line : Array (Option Value)} {oc_is_line kV_is_line dc_is_line pm_is_line cd_is_line ct_is_line : Value}
    {od_is_system an_is_system : Option Addr} {sl_is_system : Array (Option Value)} {oc_is_system kV_is_system dc_is_system pm_is_system cd_is_system ct_is_system : Value}
    {od_need_system an_need_system : Option Addr} {sl_need_system : Array (Option Value)} {oc_need_system kV_need_system dc_need_system pm_need_system cd_need_system ct_need_system : Value}
    {od_is_point an_is_point : Option Addr} {sl_is_point : Array (Option Value)} {oc_is_point kV_is_point dc_is_point pm_is_point cd_is_point ct_is_point : Value}
    {od_is_multipliers an_is_multipliers : Option Addr} {sl_is_multipliers : Array (Option Value)} {oc_is_multipliers kV_is_multipliers dc_is_multipliers pm_is_multipliers cd_is_multipliers ct_is_multipliers : Value}
    {od_value_at an_value_at : Option Addr} {sl_value_at : Array (Option Value)} {oc_value_at kV_value_at dc_value_at pm_value_at cd_value_at ct_value_at : Value}
    {od_keeps_rows an_keeps_rows : Option Addr} {sl_keeps_rows : Array (Option Value)} {oc_keeps_rows kV_keeps_rows dc_keeps_rows pm_keeps_rows cd_keeps_rows ct_keeps_rows : Value}
    {od_gathered an_gathered : Option Addr} {sl_gathered : Array (Option Value)} {oc_gathered kV_gathered dc_gathered pm_gathered cd_gathered ct_gathered : Value}
    {od_refutes_rows an_refutes_rows : Option Addr} {sl_refutes_rows : Array (Option Value)} {oc_refutes_rows kV_refutes_rows dc_refutes_rows pm_refutes_rows cd_refutes_rows ct_refutes_rows : Value}
    {od_keeps an_keeps : Option Addr} {sl_keeps : Array (Option Value)} {oc_keeps kV_keeps dc_keeps pm_keeps cd_keeps ct_keeps : Value}
    {od_refutes an_refutes : Option Addr} {sl_refutes : Array (Option Value)} {oc_refutes kV_refutes dc_refutes pm_refutes cd_refutes ct_refutes : Value}
    {od_solve an_solve : Option Addr} {sl_solve : Array (Option Value)} {oc_solve kV_solve dc_solve pm_solve cd_solve ct_solve : Value}
    {od_need_line an_need_line : Option Addr} {sl_need_line : Array (Option Value)} {oc_need_line kV_need_line dc_need_line pm_need_line cd_need_line ct_need_line : Value}
    {od_least an_least : Option Addr} {sl_least : Array (Option Value)} {oc_least kV_least dc_least pm_least cd_least ct_least : Value}
    {od_is_least an_is_least : Option Addr} {sl_is_least : Array (Option Value)} {oc_is_least kV_is_least dc_is_least pm_is_least cd_is_least ct_is_least : Value}
    {od__law_draw an__law_draw : Option Addr} {sl__law_draw : Array (Option Value)} {oc__law_draw kV__law_draw dc__law_draw pm__law_draw cd__law_draw ct__law_draw : Value}
    {od__law_shared an__law_shared : Option Addr} {sl__law_shared : Array (Option Value)} {oc__law_shared kV__law_shared dc__law_shared pm__law_shared cd__law_shared ct__law_shared : Value}
    {od__law_int an__law_int : Option Addr} {sl__law_int : Array (Option Value)} {oc__law_int kV__law_int dc__law_int pm__law_int cd__law_int ct__law_int : Value}
    {od__law_gcd an__law_gcd : Option Addr} {sl__law_gcd : Array (Option Value)} {oc__law_gcd kV__law_gcd dc__law_gcd pm__law_gcd cd__law_gcd ct__law_gcd : Value}
    {od__law_ratio an__law_ratio : Option Addr} {sl__law_ratio : Array (Option Value)} {oc__law_ratio kV__law_ratio dc__law_ratio pm__law_ratio cd__law_ratio ct__law_ratio : Value}
    {od__law_value an__law_value : Option Addr} {sl__law_value : Array (Option Value)} {oc__law_value kV__law_value dc__law_value pm__law_value cd__law_value ct__law_value : Value}
    {od__law_keeps an__law_keeps : Option Addr} {sl__law_keeps : Array (Option Value)} {oc__law_keeps kV__law_keeps dc__law_keeps pm__law_keeps cd__law_keeps ct__law_keeps : Value}
    {od__law_truth an__law_truth : Option Addr} {sl__law_truth : Array (Option Value)} {oc__law_truth kV__law_truth dc__law_truth pm__law_truth cd__law_truth ct__law_truth : Value}
    {od__law_multipliers an__law_multipliers : Option Addr} {sl__law_multipliers : Array (Option Value)} {oc__law_multipliers kV__law_multipliers dc__law_multipliers pm__law_multipliers cd__law_multipliers ct__law_multipliers : Value}
    {od__law_summed an__law_summed : Option Addr} {sl__law_summed : Array (Option Value)} {oc__law_summed kV__law_summed dc__law_summed pm__law_summed cd__law_summed ct__law_summed : Value}
    {od__law_refutes an__law_refutes : Option Addr} {sl__law_refutes : Array (Option Value)} {oc__law_refutes kV__law_refutes dc__law_refutes pm__law_refutes cd__law_refutes ct__law_refutes : Value}
    {od__law_well an__law_well : Option Addr} {sl__law_well : Array (Option Value)} {oc__law_well kV__law_well dc__law_well pm__law_well cd__law_well ct__law_well : Value}
    {od__law_lowest an__law_lowest : Option Addr} {sl__law_lowest : Array (Option Value)} {oc__law_lowest kV__law_lowest dc__law_lowest pm__law_lowest cd__law_lowest ct__law_lowest : Value}
    {od__law_point an__law_point : Option Addr} {sl__law_point : Array (Option Value)} {oc__law_point kV__law_point dc__law_point pm__law_point cd__law_point ct__law_point : Value}
    {od__law_terms an__law_terms : Option Addr} {sl__law_terms : Array (Option Value)} {oc__law_terms kV__law_terms dc__law_terms pm__law_terms cd__law_terms ct__law_terms : Value}
    {od__law_row_at an__law_row_at : Option Addr} {sl__law_row_at : Array (Option Value)} {oc__law_row_at kV__law_row_at dc__law_row_at pm__law_row_at cd__law_row_at ct__law_row_at : Value}
    {od__law_kept_rows an__law_kept_rows : Option Addr} {sl__law_kept_rows : Array (Option Value)} {oc__law_kept_rows kV__law_kept_rows dc__law_kept_rows pm__law_kept_rows cd__law_kept_rows ct__law_kept_rows : Value}
    {od__law_torn_rows an__law_torn_rows : Option Addr} {sl__law_torn_rows : Array (Option Value)} {oc__law_torn_rows kV__law_torn_rows dc__law_torn_rows pm__law_torn_rows cd__law_torn_rows ct__law_torn_rows : Value}
    {od__law_no_system an__law_no_system : Option Addr} {sl__law_no_system : Array (Option Value)} {oc__law_no_system kV__law_no_system dc__law_no_system pm__law_no_system cd__law_no_system ct__law_no_system : Value}
    {od__law_swapped an__law_swapped : Option Addr} {sl__law_swapped : Array (Option Value)} {oc__law_swapped kV__law_swapped dc__law_swapped pm__law_swapped cd__law_swapped ct__law_swapped : Value}
    {od__law_spoilt_point an__law_spoilt_point : Option Addr} {sl__law_spoilt_point : Array (Option Value)} {oc__law_spoilt_point kV__law_spoilt_point dc__law_spoilt_point pm__law_spoilt_point cd__law_spoilt_point ct__law_spoilt_point : Value}
    {od__law_spoilt_numbers an__law_spoilt_numbers : Option Addr} {sl__law_spoilt_numbers : Array (Option Value)} {oc__law_spoilt_numbers kV__law_spoilt_numbers dc__law_spoilt_numbers pm__law_spoilt_numbers cd__law_spoilt_numbers ct__law_spoilt_numbers : Value}
    {od__law_word an__law_word : Option Addr} {sl__law_word : Array (Option Value)} {oc__law_word kV__law_word dc__law_word pm__law_word cd__law_word ct__law_word : Value}
    {od__law_asked an__law_asked : Option Addr} {sl__law_asked : Array (Option Value)} {oc__law_asked kV__law_asked dc__law_asked pm__law_asked cd__law_asked ct__law_asked : Value}
    {od_law an_law : Option Addr} {sl_law : Array (Option Value)} {oc_law kV_law dc_law pm_law cd_law ct_law : Value}
    (z_ValueError : PySem.W.nsIn K mainGlobals "ValueError" = some none)
    (z_abs : PySem.W.nsIn K mainGlobals "abs" = some none)
    (z_all : PySem.W.nsIn K mainGlobals "all" = some none)
    (z_bool : PySem.W.nsIn K mainGlobals "bool" = some none)
    (z_enumerate : PySem.W.nsIn K mainGlobals "enumerate" = some none)
    (z_int : PySem.W.nsIn K mainGlobals "int" = some none)
    (z_isinstance : PySem.W.nsIn K mainGlobals "isinstance" = some none)
    (z_len : PySem.W.nsIn K mainGlobals "len" = some none)
    (z_list : PySem.W.nsIn K mainGlobals "list" = some none)
    (z_max : PySem.W.nsIn K mainGlobals "max" = some none)
    (z_range : PySem.W.nsIn K mainGlobals "range" = some none)
    (z_sorted : PySem.W.nsIn K mainGlobals "sorted" = some none)
    (z_str : PySem.W.nsIn K mainGlobals "str" = some none)
    (z_tuple : PySem.W.nsIn K mainGlobals "tuple" = some none)
    (i_gcd : PySem.W.nsIn K mainGlobals "gcd" = some (some (.builtin "math.gcd")))
    (ea_PaidError : PySem.W.nsIn K mainGlobals "PaidError" = some (some (.ref aPaidError)))
    (ex_PaidError : PySem.W.excIn K aPaidError [.type "ValueError", .type "Exception", .type "BaseException", .type "object"] "ValueError.__new__" = true)
    (ek_PaidError : PySem.W.keepIn K (.ref aPaidError) = true)
    (eb_PaidError : PySem.W.subIn K (.ref aPaidError) (.type "BaseException") = some true)
    (et_PaidError : PySem.W.typeIn K (.ref aPaidError) = some (.type "type"))
    (ei_PaidError : PySem.W.isClsIn K aPaidError = true)
    (ed_PaidError : PySem.W.hasDictIn K aPaidError = true)
    (ea_BadSystem : PySem.W.nsIn K mainGlobals "BadSystem" = some (some (.ref aBadSystem)))
    (ex_BadSystem : PySem.W.excIn K aBadSystem [.type "ValueError", .type "Exception", .type "BaseException", .type "object"] "ValueError.__new__" = true)
    (ek_BadSystem : PySem.W.keepIn K (.ref aBadSystem) = true)
    (eb_BadSystem : PySem.W.subIn K (.ref aBadSystem) (.type "BaseException") = some true)
    (et_BadSystem : PySem.W.typeIn K (.ref aBadSystem) = some (.type "type"))
    (ei_BadSystem : PySem.W.isClsIn K aBadSystem = true)
    (ed_BadSystem : PySem.W.hasDictIn K aBadSystem = true)
    (ea_BadLine : PySem.W.nsIn K mainGlobals "BadLine" = some (some (.ref aBadLine)))
    (ex_BadLine : PySem.W.excIn K aBadLine [.type "ValueError", .type "Exception", .type "BaseException", .type "object"] "ValueError.__new__" = true)
    (ek_BadLine : PySem.W.keepIn K (.ref aBadLine) = true)
    (eb_BadLine : PySem.W.subIn K (.ref aBadLine) (.type "BaseException") = some true)
    (et_BadLine : PySem.W.typeIn K (.ref aBadLine) = some (.type "type"))
    (ei_BadLine : PySem.W.isClsIn K aBadLine = true)
    (ed_BadLine : PySem.W.hasDictIn K aBadLine = true)
    (s_BadSystem_BadSystem : PySem.W.subIn K (.ref aBadSystem) (.ref aBadSystem) = some true)
    (s_BadSystem_PaidError : PySem.W.subIn K (.ref aBadSystem) (.ref aPaidError) = some true)
    (s_BadSystem_ValueError : PySem.W.subIn K (.ref aBadSystem) (.type "ValueError") = some true)
    (s_BadSystem_BadLine : PySem.W.subIn K (.ref aBadSystem) (.ref aBadLine) = some false)
    (xg_BadSystem : PySem.W.findIn K (.ref aBadSystem) "__getattribute__" = some (some (.builtin "BaseException.__getattribute__")))
    (xh_BadSystem : PySem.W.findIn K (.ref aBadSystem) "__getattr__" = some none)
    (xa_BadSystem : PySem.W.findIn K (.ref aBadSystem) "__class__" = some (some (.builtin "object.__class__")))
    (xm_BadSystem : PySem.W.mroIn K aBadSystem (.type "object") = some true)
    (s_BadLine_BadSystem : PySem.W.subIn K (.ref aBadLine) (.ref aBadSystem) = some false)
    (s_BadLine_PaidError : PySem.W.subIn K (.ref aBadLine) (.ref aPaidError) = some true)
    (s_BadLine_ValueError : PySem.W.subIn K (.ref aBadLine) (.type "ValueError") = some true)
    (s_BadLine_BadLine : PySem.W.subIn K (.ref aBadLine) (.ref aBadLine) = some true)
    (xg_BadLine : PySem.W.findIn K (.ref aBadLine) "__getattribute__" = some (some (.builtin "BaseException.__getattribute__")))
    (xh_BadLine : PySem.W.findIn K (.ref aBadLine) "__getattr__" = some none)
    (xa_BadLine : PySem.W.findIn K (.ref aBadLine) "__class__" = some (some (.builtin "object.__class__")))
    (xm_BadLine : PySem.W.mroIn K aBadLine (.type "object") = some true)
    (xn : PySem.W.specialIn K (.builtin "object.__class__") "__get__" = some (some (.builtin "getset_descriptor.__get__")))
    (xt : PySem.W.takesIn K (.builtin "object.__class__") = some true)
    (a_is_int : PySem.W.nsIn K mainGlobals "is_int" = some (some (.ref f_is_int)))
    (l_is_int : K.lookup f_is_int = some ⟨oc_is_int, od_is_int, .func (PySem.W.fnOf "is_int" "is_int" (defArgs s_is_int) (defBody s_is_int) (defScope s_is_int) .none kV_is_int dc_is_int pm_is_int an_is_int cd_is_int ct_is_int), sl_is_int⟩)
    (c_is_int : PySem.W.codeIn K cd_is_int "is_int" = true)
    (k_is_int : PySem.W.keepIn K (.ref f_is_int) = true)
    (a_lowest : PySem.W.nsIn K mainGlobals "lowest" = some (some (.ref f_lowest)))
    (l_lowest : K.lookup f_lowest = some ⟨oc_lowest, od_lowest, .func (PySem.W.fnOf "lowest" "lowest" (defArgs s_lowest) (defBody s_lowest) (defScope s_lowest) .none kV_lowest dc_lowest pm_lowest an_lowest cd_lowest ct_lowest), sl_lowest⟩)
    (c_lowest : PySem.W.codeIn K cd_lowest "lowest" = true)
    (k_lowest : PySem.W.keepIn K (.ref f_lowest) = true)
    (a_is_ratio : PySem.W.nsIn K mainGlobals "is_ratio" = some (some (.ref f_is_ratio)))
    (l_is_ratio : K.lookup f_is_ratio = some ⟨oc_is_ratio, od_is_ratio, .func (PySem.W.fnOf "is_ratio" "is_ratio" (defArgs s_is_ratio) (defBody s_is_ratio) (defScope s_is_ratio) .none kV_is_ratio dc_is_ratio pm_is_ratio an_is_ratio cd_is_ratio ct_is_ratio), sl_is_ratio⟩)
    (c_is_ratio : PySem.W.codeIn K cd_is_ratio "is_ratio" = true)
    (k_is_ratio : PySem.W.keepIn K (.ref f_is_ratio) = true)
    (a_is_line : PySem.W.nsIn K mainGlobals "is_line" = some (some (.ref f_is_line)))
    (l_is_line : K.lookup f_is_line = some ⟨oc_is_line, od_is_line, .func (PySem.W.fnOf "is_line" "is_line" (defArgs s_is_line) (defBody s_is_line) (defScope s_is_line) .none kV_is_line dc_is_line pm_is_line an_is_line cd_is_line ct_is_line), sl_is_line⟩)
    (c_is_line : PySem.W.codeIn K cd_is_line "is_line" = true)
    (k_is_line : PySem.W.keepIn K (.ref f_is_line) = true)
    (a_is_system : PySem.W.nsIn K mainGlobals "is_system" = some (some (.ref f_is_system)))
    (l_is_system : K.lookup f_is_system = some ⟨oc_is_system, od_is_system, .func (PySem.W.fnOf "is_system" "is_system" (defArgs s_is_system) (defBody s_is_system) (defScope s_is_system) .none kV_is_system dc_is_system pm_is_system an_is_system cd_is_system ct_is_system), sl_is_system⟩)
    (c_is_system : PySem.W.codeIn K cd_is_system "is_system" = true)
    (k_is_system : PySem.W.keepIn K (.ref f_is_system) = true)
    (a_need_system : PySem.W.nsIn K mainGlobals "need_system" = some (some (.ref f_need_system)))
    (l_need_system : K.lookup f_need_system = some ⟨oc_need_system, od_need_system, .func (PySem.W.fnOf "need_system" "need_system" (defArgs s_need_system) (defBody s_need_system) (defScope s_need_system) .none kV_need_system dc_need_system pm_need_system an_need_system cd_need_system ct_need_system), sl_need_system⟩)
    (c_need_system : PySem.W.codeIn K cd_need_system "need_system" = true)
    (k_need_system : PySem.W.keepIn K (.ref f_need_system) = true)
    (a_is_point : PySem.W.nsIn K mainGlobals "is_point" = some (some (.ref f_is_point)))
    (l_is_point : K.lookup f_is_point = some ⟨oc_is_point, od_is_point, .func (PySem.W.fnOf "is_point" "is_point" (defArgs s_is_point) (defBody s_is_point) (defScope s_is_point) .none kV_is_point dc_is_point pm_is_point an_is_point cd_is_point ct_is_point), sl_is_point⟩)
    (c_is_point : PySem.W.codeIn K cd_is_point "is_point" = true)
    (k_is_point : PySem.W.keepIn K (.ref f_is_point) = true)
    (a_is_multipliers : PySem.W.nsIn K mainGlobals "is_multipliers" = some (some (.ref f_is_multipliers)))
    (l_is_multipliers : K.lookup f_is_multipliers = some ⟨oc_is_multipliers, od_is_multipliers, .func (PySem.W.fnOf "is_multipliers" "is_multipliers" (defArgs s_is_multipliers) (defBody s_is_multipliers) (defScope s_is_multipliers) .none kV_is_multipliers dc_is_multipliers pm_is_multipliers an_is_multipliers cd_is_multipliers ct_is_multipliers), sl_is_multipliers⟩)
    (c_is_multipliers : PySem.W.codeIn K cd_is_multipliers "is_multipliers" = true)
    (k_is_multipliers : PySem.W.keepIn K (.ref f_is_multipliers) = true)
    (a_value_at : PySem.W.nsIn K mainGlobals "value_at" = some (some (.ref f_value_at)))
    (l_value_at : K.lookup f_value_at = some ⟨oc_value_at, od_value_at, .func (PySem.W.fnOf "value_at" "value_at" (defArgs s_value_at) (defBody s_value_at) (defScope s_value_at) .none kV_value_at dc_value_at pm_value_at an_value_at cd_value_at ct_value_at), sl_value_at⟩)
    (c_value_at : PySem.W.codeIn K cd_value_at "value_at" = true)
    (k_value_at : PySem.W.keepIn K (.ref f_value_at) = true)
    (a_keeps_rows : PySem.W.nsIn K mainGlobals "keeps_rows" = some (some (.ref f_keeps_rows)))
    (l_keeps_rows : K.lookup f_keeps_rows = some ⟨oc_keeps_rows, od_keeps_rows, .func (PySem.W.fnOf "keeps_rows" "keeps_rows" (defArgs s_keeps_rows) (defBody s_keeps_rows) (defScope s_keeps_rows) .none kV_keeps_rows dc_keeps_rows pm_keeps_rows an_keeps_rows cd_keeps_rows ct_keeps_rows), sl_keeps_rows⟩)
    (c_keeps_rows : PySem.W.codeIn K cd_keeps_rows "keeps_rows" = true)
    (k_keeps_rows : PySem.W.keepIn K (.ref f_keeps_rows) = true)
    (a_gathered : PySem.W.nsIn K mainGlobals "gathered" = some (some (.ref f_gathered)))
    (l_gathered : K.lookup f_gathered = some ⟨oc_gathered, od_gathered, .func (PySem.W.fnOf "gathered" "gathered" (defArgs s_gathered) (defBody s_gathered) (defScope s_gathered) .none kV_gathered dc_gathered pm_gathered an_gathered cd_gathered ct_gathered), sl_gathered⟩)
    (c_gathered : PySem.W.codeIn K cd_gathered "gathered" = true)
    (k_gathered : PySem.W.keepIn K (.ref f_gathered) = true)
    (a_refutes_rows : PySem.W.nsIn K mainGlobals "refutes_rows" = some (some (.ref f_refutes_rows)))
    (l_refutes_rows : K.lookup f_refutes_rows = some ⟨oc_refutes_rows, od_refutes_rows, .func (PySem.W.fnOf "refutes_rows" "refutes_rows" (defArgs s_refutes_rows) (defBody s_refutes_rows) (defScope s_refutes_rows) .none kV_refutes_rows dc_refutes_rows pm_refutes_rows an_refutes_rows cd_refutes_rows ct_refutes_rows), sl_refutes_rows⟩)
    (c_refutes_rows : PySem.W.codeIn K cd_refutes_rows "refutes_rows" = true)
    (k_refutes_rows : PySem.W.keepIn K (.ref f_refutes_rows) = true)
    (a_keeps : PySem.W.nsIn K mainGlobals "keeps" = some (some (.ref f_keeps)))
    (l_keeps : K.lookup f_keeps = some ⟨oc_keeps, od_keeps, .func (PySem.W.fnOf "keeps" "keeps" (defArgs s_keeps) (defBody s_keeps) (defScope s_keeps) .none kV_keeps dc_keeps pm_keeps an_keeps cd_keeps ct_keeps), sl_keeps⟩)
    (c_keeps : PySem.W.codeIn K cd_keeps "keeps" = true)
    (k_keeps : PySem.W.keepIn K (.ref f_keeps) = true)
    (a_refutes : PySem.W.nsIn K mainGlobals "refutes" = some (some (.ref f_refutes)))
    (l_refutes : K.lookup f_refutes = some ⟨oc_refutes, od_refutes, .func (PySem.W.fnOf "refutes" "refutes" (defArgs s_refutes) (defBody s_refutes) (defScope s_refutes) .none kV_refutes dc_refutes pm_refutes an_refutes cd_refutes ct_refutes), sl_refutes⟩)
    (c_refutes : PySem.W.codeIn K cd_refutes "refutes" = true)
    (k_refutes : PySem.W.keepIn K (.ref f_refutes) = true)
    (a_solve : PySem.W.nsIn K mainGlobals "solve" = some (some (.ref f_solve)))
    (l_solve : K.lookup f_solve = some ⟨oc_solve, od_solve, .func (PySem.W.fnOf "solve" "solve" (defArgs s_solve) (defBody s_solve) (defScope s_solve) .none kV_solve dc_solve pm_solve an_solve cd_solve ct_solve), sl_solve⟩)
    (c_solve : PySem.W.codeIn K cd_solve "solve" = true)
    (k_solve : PySem.W.keepIn K (.ref f_solve) = true)
    (a_need_line : PySem.W.nsIn K mainGlobals "need_line" = some (some (.ref f_need_line)))
    (l_need_line : K.lookup f_need_line = some ⟨oc_need_line, od_need_line, .func (PySem.W.fnOf "need_line" "need_line" (defArgs s_need_line) (defBody s_need_line) (defScope s_need_line) .none kV_need_line dc_need_line pm_need_line an_need_line cd_need_line ct_need_line), sl_need_line⟩)
    (c_need_line : PySem.W.codeIn K cd_need_line "need_line" = true)
    (k_need_line : PySem.W.keepIn K (.ref f_need_line) = true)
    (a_least : PySem.W.nsIn K mainGlobals "least" = some (some (.ref f_least)))
    (l_least : K.lookup f_least = some ⟨oc_least, od_least, .func (PySem.W.fnOf "least" "least" (defArgs s_least) (defBody s_least) (defScope s_least) .none kV_least dc_least pm_least an_least cd_least ct_least), sl_least⟩)
    (c_least : PySem.W.codeIn K cd_least "least" = true)
    (k_least : PySem.W.keepIn K (.ref f_least) = true)
    (a_is_least : PySem.W.nsIn K mainGlobals "is_least" = some (some (.ref f_is_least)))
    (l_is_least : K.lookup f_is_least = some ⟨oc_is_least, od_is_least, .func (PySem.W.fnOf "is_least" "is_least" (defArgs s_is_least) (defBody s_is_least) (defScope s_is_least) .none kV_is_least dc_is_least pm_is_least an_is_least cd_is_least ct_is_least), sl_is_least⟩)
    (c_is_least : PySem.W.codeIn K cd_is_least "is_least" = true)
    (k_is_least : PySem.W.keepIn K (.ref f_is_least) = true)
    (a__law_draw : PySem.W.nsIn K mainGlobals "_law_draw" = some (some (.ref f__law_draw)))
    (l__law_draw : K.lookup f__law_draw = some ⟨oc__law_draw, od__law_draw, .func (PySem.W.fnOf "_law_draw" "_law_draw" (defArgs s__law_draw) (defBody s__law_draw) (defScope s__law_draw) .none kV__law_draw dc__law_draw pm__law_draw an__law_draw cd__law_draw ct__law_draw), sl__law_draw⟩)
    (c__law_draw : PySem.W.codeIn K cd__law_draw "_law_draw" = true)
    (k__law_draw : PySem.W.keepIn K (.ref f__law_draw) = true)
    (a__law_shared : PySem.W.nsIn K mainGlobals "_law_shared" = some (some (.ref f__law_shared)))
    (l__law_shared : K.lookup f__law_shared = some ⟨oc__law_shared, od__law_shared, .func (PySem.W.fnOf "_law_shared" "_law_shared" (defArgs s__law_shared) (defBody s__law_shared) (defScope s__law_shared) .none kV__law_shared dc__law_shared pm__law_shared an__law_shared cd__law_shared ct__law_shared), sl__law_shared⟩)
    (c__law_shared : PySem.W.codeIn K cd__law_shared "_law_shared" = true)
    (k__law_shared : PySem.W.keepIn K (.ref f__law_shared) = true)
    (a__law_int : PySem.W.nsIn K mainGlobals "_law_int" = some (some (.ref f__law_int)))
    (l__law_int : K.lookup f__law_int = some ⟨oc__law_int, od__law_int, .func (PySem.W.fnOf "_law_int" "_law_int" (defArgs s__law_int) (defBody s__law_int) (defScope s__law_int) .none kV__law_int dc__law_int pm__law_int an__law_int cd__law_int ct__law_int), sl__law_int⟩)
    (c__law_int : PySem.W.codeIn K cd__law_int "_law_int" = true)
    (k__law_int : PySem.W.keepIn K (.ref f__law_int) = true)
    (a__law_gcd : PySem.W.nsIn K mainGlobals "_law_gcd" = some (some (.ref f__law_gcd)))
    (l__law_gcd : K.lookup f__law_gcd = some ⟨oc__law_gcd, od__law_gcd, .func (PySem.W.fnOf "_law_gcd" "_law_gcd" (defArgs s__law_gcd) (defBody s__law_gcd) (defScope s__law_gcd) .none kV__law_gcd dc__law_gcd pm__law_gcd an__law_gcd cd__law_gcd ct__law_gcd), sl__law_gcd⟩)
    (c__law_gcd : PySem.W.codeIn K cd__law_gcd "_law_gcd" = true)
    (k__law_gcd : PySem.W.keepIn K (.ref f__law_gcd) = true)
    (a__law_ratio : PySem.W.nsIn K mainGlobals "_law_ratio" = some (some (.ref f__law_ratio)))
    (l__law_ratio : K.lookup f__law_ratio = some ⟨oc__law_ratio, od__law_ratio, .func (PySem.W.fnOf "_law_ratio" "_law_ratio" (defArgs s__law_ratio) (defBody s__law_ratio) (defScope s__law_ratio) .none kV__law_ratio dc__law_ratio pm__law_ratio an__law_ratio cd__law_ratio ct__law_ratio), sl__law_ratio⟩)
    (c__law_ratio : PySem.W.codeIn K cd__law_ratio "_law_ratio" = true)
    (k__law_ratio : PySem.W.keepIn K (.ref f__law_ratio) = true)
    (a__law_value : PySem.W.nsIn K mainGlobals "_law_value" = some (some (.ref f__law_value)))
    (l__law_value : K.lookup f__law_value = some ⟨oc__law_value, od__law_value, .func (PySem.W.fnOf "_law_value" "_law_value" (defArgs s__law_value) (defBody s__law_value) (defScope s__law_value) .none kV__law_value dc__law_value pm__law_value an__law_value cd__law_value ct__law_value), sl__law_value⟩)
    (c__law_value : PySem.W.codeIn K cd__law_value "_law_value" = true)
    (k__law_value : PySem.W.keepIn K (.ref f__law_value) = true)
    (a__law_keeps : PySem.W.nsIn K mainGlobals "_law_keeps" = some (some (.ref f__law_keeps)))
    (l__law_keeps : K.lookup f__law_keeps = some ⟨oc__law_keeps, od__law_keeps, .func (PySem.W.fnOf "_law_keeps" "_law_keeps" (defArgs s__law_keeps) (defBody s__law_keeps) (defScope s__law_keeps) .none kV__law_keeps dc__law_keeps pm__law_keeps an__law_keeps cd__law_keeps ct__law_keeps), sl__law_keeps⟩)
    (c__law_keeps : PySem.W.codeIn K cd__law_keeps "_law_keeps" = true)
    (k__law_keeps : PySem.W.keepIn K (.ref f__law_keeps) = true)
    (a__law_truth : PySem.W.nsIn K mainGlobals "_law_truth" = some (some (.ref f__law_truth)))
    (l__law_truth : K.lookup f__law_truth = some ⟨oc__law_truth, od__law_truth, .func (PySem.W.fnOf "_law_truth" "_law_truth" (defArgs s__law_truth) (defBody s__law_truth) (defScope s__law_truth) .none kV__law_truth dc__law_truth pm__law_truth an__law_truth cd__law_truth ct__law_truth), sl__law_truth⟩)
    (c__law_truth : PySem.W.codeIn K cd__law_truth "_law_truth" = true)
    (k__law_truth : PySem.W.keepIn K (.ref f__law_truth) = true)
    (a__law_multipliers : PySem.W.nsIn K mainGlobals "_law_multipliers" = some (some (.ref f__law_multipliers)))
    (l__law_multipliers : K.lookup f__law_multipliers = some ⟨oc__law_multipliers, od__law_multipliers, .func (PySem.W.fnOf "_law_multipliers" "_law_multipliers" (defArgs s__law_multipliers) (defBody s__law_multipliers) (defScope s__law_multipliers) .none kV__law_multipliers dc__law_multipliers pm__law_multipliers an__law_multipliers cd__law_multipliers ct__law_multipliers), sl__law_multipliers⟩)
    (c__law_multipliers : PySem.W.codeIn K cd__law_multipliers "_law_multipliers" = true)
    (k__law_multipliers : PySem.W.keepIn K (.ref f__law_multipliers) = true)
    (a__law_summed : PySem.W.nsIn K mainGlobals "_law_summed" = some (some (.ref f__law_summed)))
    (l__law_summed : K.lookup f__law_summed = some ⟨oc__law_summed, od__law_summed, .func (PySem.W.fnOf "_law_summed" "_law_summed" (defArgs s__law_summed) (defBody s__law_summed) (defScope s__law_summed) .none kV__law_summed dc__law_summed pm__law_summed an__law_summed cd__law_summed ct__law_summed), sl__law_summed⟩)
    (c__law_summed : PySem.W.codeIn K cd__law_summed "_law_summed" = true)
    (k__law_summed : PySem.W.keepIn K (.ref f__law_summed) = true)
    (a__law_refutes : PySem.W.nsIn K mainGlobals "_law_refutes" = some (some (.ref f__law_refutes)))
    (l__law_refutes : K.lookup f__law_refutes = some ⟨oc__law_refutes, od__law_refutes, .func (PySem.W.fnOf "_law_refutes" "_law_refutes" (defArgs s__law_refutes) (defBody s__law_refutes) (defScope s__law_refutes) .none kV__law_refutes dc__law_refutes pm__law_refutes an__law_refutes cd__law_refutes ct__law_refutes), sl__law_refutes⟩)
    (c__law_refutes : PySem.W.codeIn K cd__law_refutes "_law_refutes" = true)
    (k__law_refutes : PySem.W.keepIn K (.ref f__law_refutes) = true)
    (a__law_well : PySem.W.nsIn K mainGlobals "_law_well" = some (some (.ref f__law_well)))
    (l__law_well : K.lookup f__law_well = some ⟨oc__law_well, od__law_well, .func (PySem.W.fnOf "_law_well" "_law_well" (defArgs s__law_well) (defBody s__law_well) (defScope s__law_well) .none kV__law_well dc__law_well pm__law_well an__law_well cd__law_well ct__law_well), sl__law_well⟩)
    (c__law_well : PySem.W.codeIn K cd__law_well "_law_well" = true)
    (k__law_well : PySem.W.keepIn K (.ref f__law_well) = true)
    (a__law_lowest : PySem.W.nsIn K mainGlobals "_law_lowest" = some (some (.ref f__law_lowest)))
    (l__law_lowest : K.lookup f__law_lowest = some ⟨oc__law_lowest, od__law_lowest, .func (PySem.W.fnOf "_law_lowest" "_law_lowest" (defArgs s__law_lowest) (defBody s__law_lowest) (defScope s__law_lowest) .none kV__law_lowest dc__law_lowest pm__law_lowest an__law_lowest cd__law_lowest ct__law_lowest), sl__law_lowest⟩)
    (c__law_lowest : PySem.W.codeIn K cd__law_lowest "_law_lowest" = true)
    (k__law_lowest : PySem.W.keepIn K (.ref f__law_lowest) = true)
    (a__law_point : PySem.W.nsIn K mainGlobals "_law_point" = some (some (.ref f__law_point)))
    (l__law_point : K.lookup f__law_point = some ⟨oc__law_point, od__law_point, .func (PySem.W.fnOf "_law_point" "_law_point" (defArgs s__law_point) (defBody s__law_point) (defScope s__law_point) .none kV__law_point dc__law_point pm__law_point an__law_point cd__law_point ct__law_point), sl__law_point⟩)
    (c__law_point : PySem.W.codeIn K cd__law_point "_law_point" = true)
    (k__law_point : PySem.W.keepIn K (.ref f__law_point) = true)
    (a__law_terms : PySem.W.nsIn K mainGlobals "_law_terms" = some (some (.ref f__law_terms)))
    (l__law_terms : K.lookup f__law_terms = some ⟨oc__law_terms, od__law_terms, .func (PySem.W.fnOf "_law_terms" "_law_terms" (defArgs s__law_terms) (defBody s__law_terms) (defScope s__law_terms) .none kV__law_terms dc__law_terms pm__law_terms an__law_terms cd__law_terms ct__law_terms), sl__law_terms⟩)
    (c__law_terms : PySem.W.codeIn K cd__law_terms "_law_terms" = true)
    (k__law_terms : PySem.W.keepIn K (.ref f__law_terms) = true)
    (a__law_row_at : PySem.W.nsIn K mainGlobals "_law_row_at" = some (some (.ref f__law_row_at)))
    (l__law_row_at : K.lookup f__law_row_at = some ⟨oc__law_row_at, od__law_row_at, .func (PySem.W.fnOf "_law_row_at" "_law_row_at" (defArgs s__law_row_at) (defBody s__law_row_at) (defScope s__law_row_at) .none kV__law_row_at dc__law_row_at pm__law_row_at an__law_row_at cd__law_row_at ct__law_row_at), sl__law_row_at⟩)
    (c__law_row_at : PySem.W.codeIn K cd__law_row_at "_law_row_at" = true)
    (k__law_row_at : PySem.W.keepIn K (.ref f__law_row_at) = true)
    (a__law_kept_rows : PySem.W.nsIn K mainGlobals "_law_kept_rows" = some (some (.ref f__law_kept_rows)))
    (l__law_kept_rows : K.lookup f__law_kept_rows = some ⟨oc__law_kept_rows, od__law_kept_rows, .func (PySem.W.fnOf "_law_kept_rows" "_law_kept_rows" (defArgs s__law_kept_rows) (defBody s__law_kept_rows) (defScope s__law_kept_rows) .none kV__law_kept_rows dc__law_kept_rows pm__law_kept_rows an__law_kept_rows cd__law_kept_rows ct__law_kept_rows), sl__law_kept_rows⟩)
    (c__law_kept_rows : PySem.W.codeIn K cd__law_kept_rows "_law_kept_rows" = true)
    (k__law_kept_rows : PySem.W.keepIn K (.ref f__law_kept_rows) = true)
    (a__law_torn_rows : PySem.W.nsIn K mainGlobals "_law_torn_rows" = some (some (.ref f__law_torn_rows)))
    (l__law_torn_rows : K.lookup f__law_torn_rows = some ⟨oc__law_torn_rows, od__law_torn_rows, .func (PySem.W.fnOf "_law_torn_rows" "_law_torn_rows" (defArgs s__law_torn_rows) (defBody s__law_torn_rows) (defScope s__law_torn_rows) .none kV__law_torn_rows dc__law_torn_rows pm__law_torn_rows an__law_torn_rows cd__law_torn_rows ct__law_torn_rows), sl__law_torn_rows⟩)
    (c__law_torn_rows : PySem.W.codeIn K cd__law_torn_rows "_law_torn_rows" = true)
    (k__law_torn_rows : PySem.W.keepIn K (.ref f__law_torn_rows) = true)
    (a__law_no_system : PySem.W.nsIn K mainGlobals "_law_no_system" = some (some (.ref f__law_no_system)))
    (l__law_no_system : K.lookup f__law_no_system = some ⟨oc__law_no_system, od__law_no_system, .func (PySem.W.fnOf "_law_no_system" "_law_no_system" (defArgs s__law_no_system) (defBody s__law_no_system) (defScope s__law_no_system) .none kV__law_no_system dc__law_no_system pm__law_no_system an__law_no_system cd__law_no_system ct__law_no_system), sl__law_no_system⟩)
    (c__law_no_system : PySem.W.codeIn K cd__law_no_system "_law_no_system" = true)
    (k__law_no_system : PySem.W.keepIn K (.ref f__law_no_system) = true)
    (a__law_swapped : PySem.W.nsIn K mainGlobals "_law_swapped" = some (some (.ref f__law_swapped)))
    (l__law_swapped : K.lookup f__law_swapped = some ⟨oc__law_swapped, od__law_swapped, .func (PySem.W.fnOf "_law_swapped" "_law_swapped" (defArgs s__law_swapped) (defBody s__law_swapped) (defScope s__law_swapped) .none kV__law_swapped dc__law_swapped pm__law_swapped an__law_swapped cd__law_swapped ct__law_swapped), sl__law_swapped⟩)
    (c__law_swapped : PySem.W.codeIn K cd__law_swapped "_law_swapped" = true)
    (k__law_swapped : PySem.W.keepIn K (.ref f__law_swapped) = true)
    (a__law_spoilt_point : PySem.W.nsIn K mainGlobals "_law_spoilt_point" = some (some (.ref f__law_spoilt_point)))
    (l__law_spoilt_point : K.lookup f__law_spoilt_point = some ⟨oc__law_spoilt_point, od__law_spoilt_point, .func (PySem.W.fnOf "_law_spoilt_point" "_law_spoilt_point" (defArgs s__law_spoilt_point) (defBody s__law_spoilt_point) (defScope s__law_spoilt_point) .none kV__law_spoilt_point dc__law_spoilt_point pm__law_spoilt_point an__law_spoilt_point cd__law_spoilt_point ct__law_spoilt_point), sl__law_spoilt_point⟩)
    (c__law_spoilt_point : PySem.W.codeIn K cd__law_spoilt_point "_law_spoilt_point" = true)
    (k__law_spoilt_point : PySem.W.keepIn K (.ref f__law_spoilt_point) = true)
    (a__law_spoilt_numbers : PySem.W.nsIn K mainGlobals "_law_spoilt_numbers" = some (some (.ref f__law_spoilt_numbers)))
    (l__law_spoilt_numbers : K.lookup f__law_spoilt_numbers = some ⟨oc__law_spoilt_numbers, od__law_spoilt_numbers, .func (PySem.W.fnOf "_law_spoilt_numbers" "_law_spoilt_numbers" (defArgs s__law_spoilt_numbers) (defBody s__law_spoilt_numbers) (defScope s__law_spoilt_numbers) .none kV__law_spoilt_numbers dc__law_spoilt_numbers pm__law_spoilt_numbers an__law_spoilt_numbers cd__law_spoilt_numbers ct__law_spoilt_numbers), sl__law_spoilt_numbers⟩)
    (c__law_spoilt_numbers : PySem.W.codeIn K cd__law_spoilt_numbers "_law_spoilt_numbers" = true)
    (k__law_spoilt_numbers : PySem.W.keepIn K (.ref f__law_spoilt_numbers) = true)
    (a__law_word : PySem.W.nsIn K mainGlobals "_law_word" = some (some (.ref f__law_word)))
    (l__law_word : K.lookup f__law_word = some ⟨oc__law_word, od__law_word, .func (PySem.W.fnOf "_law_word" "_law_word" (defArgs s__law_word) (defBody s__law_word) (defScope s__law_word) .none kV__law_word dc__law_word pm__law_word an__law_word cd__law_word ct__law_word), sl__law_word⟩)
    (c__law_word : PySem.W.codeIn K cd__law_word "_law_word" = true)
    (k__law_word : PySem.W.keepIn K (.ref f__law_word) = true)
    (a__law_asked : PySem.W.nsIn K mainGlobals "_law_asked" = some (some (.ref f__law_asked)))
    (l__law_asked : K.lookup f__law_asked = some ⟨oc__law_asked, od__law_asked, .func (PySem.W.fnOf "_law_asked" "_law_asked" (defArgs s__law_asked) (defBody s__law_asked) (defScope s__law_asked) .none kV__law_asked dc__law_asked pm__law_asked an__law_asked cd__law_asked ct__law_asked), sl__law_asked⟩)
    (c__law_asked : PySem.W.codeIn K cd__law_asked "_law_asked" = true)
    (k__law_asked : PySem.W.keepIn K (.ref f__law_asked) = true)
    (a_law : PySem.W.nsIn K mainGlobals "law" = some (some (.ref f_law)))
    (l_law : K.lookup f_law = some ⟨oc_law, od_law, .func (PySem.W.fnOf "law" "law" (defArgs s_law) (defBody s_law) (defScope s_law) .none kV_law dc_law pm_law an_law cd_law ct_law), sl_law⟩)
    (c_law : PySem.W.codeIn K cd_law "law" = true)
    (k_law : PySem.W.keepIn K (.ref f_law) = true) :
    ∃ fd : FuncData, (∀ (s : Shared) (v : Value), BindsTo s fd ⟨[v], []⟩ [("script", v)]) ∧ ∀ base : Heap, K.In base → base.Ns mainGlobals mg → FnOk l.prog w K mg base (L2.CX l.prog w) 60 fa fd ["script"] (spLaw K) := by
  have e := hfa.symm.trans (PySem.W.mg_of X G a_law)
  cases e
  have sb_BadSystem : ∀ z cz, ctb aPaidError aBadSystem aBadLine z = some cz → PySem.W.exmOne K cz (.ref aBadSystem) = some (sb z "BadSystem") := by
    intro z cz h
    unfold ctb at h
    by_cases h_BadSystem : z = "BadSystem"
    · subst h_BadSystem; rw [if_pos rfl] at h; cases h; exact (PySem.W.exm_ref eb_BadSystem ed_BadSystem et_BadSystem s_BadSystem_BadSystem).trans (congrArg some (by decide))
    rw [if_neg h_BadSystem] at h
    by_cases h_BadLine : z = "BadLine"
    · subst h_BadLine; rw [if_pos rfl] at h; cases h; exact (PySem.W.exm_ref eb_BadSystem ed_BadSystem et_BadSystem s_BadLine_BadSystem).trans (congrArg some (by decide))
    rw [if_neg h_BadLine] at h
    cases h
  have is_PaidError : ∀ k v, ctb aPaidError aBadSystem aBadLine k = some v → ∃ C, v = .ref C ∧ ExcC K C ∧ PySem.W.kitOne K (.ref C) (.ref aPaidError) = some (isb "PaidError" k) := by
    intro z cz h
    unfold ctb at h
    by_cases h_BadSystem : z = "BadSystem"
    · subst h_BadSystem; rw [if_pos rfl] at h; cases h; exact ⟨_, rfl, ⟨xg_BadSystem, xh_BadSystem, eb_BadSystem, ed_BadSystem, xa_BadSystem, xn, xt, xm_BadSystem⟩, (kit_ref ed_PaidError et_PaidError s_BadSystem_PaidError (fun _ => rfl)).trans (congrArg some (by decide))⟩
    rw [if_neg h_BadSystem] at h
    by_cases h_BadLine : z = "BadLine"
    · subst h_BadLine; rw [if_pos rfl] at h; cases h; exact ⟨_, rfl, ⟨xg_BadLine, xh_BadLine, eb_BadLine, ed_BadLine, xa_BadLine, xn, xt, xm_BadLine⟩, (kit_ref ed_PaidError et_PaidError s_BadLine_PaidError (fun _ => rfl)).trans (congrArg some (by decide))⟩
    rw [if_neg h_BadLine] at h
    cases h
  have is_ValueError : ∀ k v, ctb aPaidError aBadSystem aBadLine k = some v → ∃ C, v = .ref C ∧ ExcC K C ∧ PySem.W.kitOne K (.ref C) (.type "ValueError") = some (isb "ValueError" k) := by
    intro z cz h
    unfold ctb at h
    by_cases h_BadSystem : z = "BadSystem"
    · subst h_BadSystem; rw [if_pos rfl] at h; cases h; exact ⟨_, rfl, ⟨xg_BadSystem, xh_BadSystem, eb_BadSystem, ed_BadSystem, xa_BadSystem, xn, xt, xm_BadSystem⟩, (kit_tyE (by decide +kernel) s_BadSystem_ValueError).trans (congrArg some (by decide))⟩
    rw [if_neg h_BadSystem] at h
    by_cases h_BadLine : z = "BadLine"
    · subst h_BadLine; rw [if_pos rfl] at h; cases h; exact ⟨_, rfl, ⟨xg_BadLine, xh_BadLine, eb_BadLine, ed_BadLine, xa_BadLine, xn, xt, xm_BadLine⟩, (kit_tyE (by decide +kernel) s_BadLine_ValueError).trans (congrArg some (by decide))⟩
    rw [if_neg h_BadLine] at h
    cases h
  have is_BadLine : ∀ k v, ctb aPaidError aBadSystem aBadLine k = some v → ∃ C, v = .ref C ∧ ExcC K C ∧ PySem.W.kitOne K (.ref C) (.ref aBadLine) = some (isb "BadLine" k) := by
    intro z cz h
    unfold ctb at h
    by_cases h_BadSystem : z = "BadSystem"
    · subst h_BadSystem; rw [if_pos rfl] at h; cases h; exact ⟨_, rfl, ⟨xg_BadSystem, xh_BadSystem, eb_BadSystem, ed_BadSystem, xa_BadSystem, xn, xt, xm_BadSystem⟩, (kit_ref ed_BadLine et_BadLine s_BadSystem_BadLine (fun z => by subst z; exact absurd (s_BadSystem_BadLine.symm.trans s_BadLine_BadLine) (by decide))).trans (congrArg some (by decide))⟩
    rw [if_neg h_BadSystem] at h
    by_cases h_BadLine : z = "BadLine"
    · subst h_BadLine; rw [if_pos rfl] at h; cases h; exact ⟨_, rfl, ⟨xg_BadLine, xh_BadLine, eb_BadLine, ed_BadLine, xa_BadLine, xn, xt, xm_BadLine⟩, (kit_ref ed_BadLine et_BadLine s_BadLine_BadLine (fun _ => rfl)).trans (congrArg some (by decide))⟩
    rw [if_neg h_BadLine] at h
    cases h
  have M : Md K mg aPaidError aBadSystem aBadLine := {
      z_ValueError := PySem.W.mg_none_of X G z_ValueError
      z_abs := PySem.W.mg_none_of X G z_abs
      z_all := PySem.W.mg_none_of X G z_all
      z_bool := PySem.W.mg_none_of X G z_bool
      z_enumerate := PySem.W.mg_none_of X G z_enumerate
      z_int := PySem.W.mg_none_of X G z_int
      z_isinstance := PySem.W.mg_none_of X G z_isinstance
      z_len := PySem.W.mg_none_of X G z_len
      z_list := PySem.W.mg_none_of X G z_list
      z_max := PySem.W.mg_none_of X G z_max
      z_range := PySem.W.mg_none_of X G z_range
      z_sorted := PySem.W.mg_none_of X G z_sorted
      z_str := PySem.W.mg_none_of X G z_str
      z_tuple := PySem.W.mg_none_of X G z_tuple
      i_gcd := PySem.W.mg_of X G i_gcd
      e_PaidError := ⟨PySem.W.mg_of X G ea_PaidError, ex_PaidError, ek_PaidError, eb_PaidError, et_PaidError, ei_PaidError⟩
      e_BadSystem := ⟨PySem.W.mg_of X G ea_BadSystem, ex_BadSystem, ek_BadSystem, eb_BadSystem, et_BadSystem, ei_BadSystem⟩
      e_BadLine := ⟨PySem.W.mg_of X G ea_BadLine, ex_BadLine, ek_BadLine, eb_BadLine, et_BadLine, ei_BadLine⟩
      sb_BadSystem := sb_BadSystem
      is_PaidError := is_PaidError
      is_ValueError := is_ValueError
      is_BadLine := is_BadLine }
  have T : Tx K mg aPaidError aBadSystem aBadLine := {
      md := M
      d_is_int := defI_mk X G a_is_int l_is_int c_is_int k_is_int (fun _ _ _ _ _ _ us hl => match us, hl with | [_], _ => rfl) (by intro _ _ _ _ _ _ p hp; simp at hp)
      d_lowest := defI_mk X G a_lowest l_lowest c_lowest k_lowest (fun _ _ _ _ _ _ us hl => match us, hl with | [_, _], _ => rfl) (by intro _ _ _ _ _ _ p hp; simp at hp)
      d_is_ratio := defI_mk X G a_is_ratio l_is_ratio c_is_ratio k_is_ratio (fun _ _ _ _ _ _ us hl => match us, hl with | [_], _ => rfl) (by intro _ _ _ _ _ _ p hp; simp at hp)
      d_is_line := defI_mk X G a_is_line l_is_line c_is_line k_is_line (fun _ _ _ _ _ _ us hl => match us, hl with | [_, _], _ => rfl) (by intro _ _ _ _ _ _ p hp; simp at hp)
      d_is_system := defI_mk X G a_is_system l_is_system c_is_system k_is_system (fun _ _ _ _ _ _ us hl => match us, hl with | [_], _ => rfl) (by intro _ _ _ _ _ _ p hp; simp at hp)
      d_need_system := defI_mk X G a_need_system l_need_system c_need_system k_need_system (fun _ _ _ _ _ _ us hl => match us, hl with | [_], _ => rfl) (by intro _ _ _ _ _ _ p hp; simp at hp)
      d_is_point := defI_mk X G a_is_point l_is_point c_is_point k_is_point (fun _ _ _ _ _ _ us hl => match us, hl with | [_, _], _ => rfl) (by intro _ _ _ _ _ _ p hp; simp at hp)
      d_is_multipliers := defI_mk X G a_is_multipliers l_is_multipliers c_is_multipliers k_is_multipliers (fun _ _ _ _ _ _ us hl => match us, hl with | [_, _], _ => rfl) (by intro _ _ _ _ _ _ p hp; simp at hp)
      d_value_at := defI_mk X G a_value_at l_value_at c_value_at k_value_at (fun _ _ _ _ _ _ us hl => match us, hl with | [_, _], _ => rfl) (by intro _ _ _ _ _ _ p hp; simp at hp)
      d_keeps_rows := defI_mk X G a_keeps_rows l_keeps_rows c_keeps_rows k_keeps_rows (fun _ _ _ _ _ _ us hl => match us, hl with | [_, _], _ => rfl) (by intro _ _ _ _ _ _ p hp; simp at hp)
      d_gathered := defI_mk X G a_gathered l_gathered c_gathered k_gathered (fun _ _ _ _ _ _ us hl => match us, hl with | [_, _], _ => rfl) (by intro _ _ _ _ _ _ p hp; simp at hp)
      d_refutes_rows := defI_mk X G a_refutes_rows l_refutes_rows c_refutes_rows k_refutes_rows (fun _ _ _ _ _ _ us hl => match us, hl with | [_, _], _ => rfl) (by intro _ _ _ _ _ _ p hp; simp at hp)
      d_keeps := defI_mk X G a_keeps l_keeps c_keeps k_keeps (fun _ _ _ _ _ _ us hl => match us, hl with | [_, _], _ => rfl) (by
          intro _ _ _ _ _ _ p hp
          simp only [List.mem_cons, List.not_mem_nil, or_false] at hp
          rcases hp with rfl
          · exact fun s ws hl => match ws, hl with | _ :: _ :: _, _ => .of_eq rfl)
      d_refutes := defI_mk X G a_refutes l_refutes c_refutes k_refutes (fun _ _ _ _ _ _ us hl => match us, hl with | [_, _], _ => rfl) (by
          intro _ _ _ _ _ _ p hp
          simp only [List.mem_cons, List.not_mem_nil, or_false] at hp
          rcases hp with rfl
          · exact fun s ws hl => match ws, hl with | _ :: _ :: _, _ => .of_eq rfl)
      d_solve := defI_mk X G a_solve l_solve c_solve k_solve (fun _ _ _ _ _ _ us hl => match us, hl with | [_], _ => rfl) (by intro _ _ _ _ _ _ p hp; simp at hp)
      d_need_line := defI_mk X G a_need_line l_need_line c_need_line k_need_line (fun _ _ _ _ _ _ us hl => match us, hl with | [_, _], _ => rfl) (by intro _ _ _ _ _ _ p hp; simp at hp)
      d_least := defI_mk X G a_least l_least c_least k_least (fun _ _ _ _ _ _ us hl => match us, hl with | [_, _], _ => rfl) (by intro _ _ _ _ _ _ p hp; simp at hp)
      d_is_least := defI_mk X G a_is_least l_is_least c_is_least k_is_least (fun _ _ _ _ _ _ us hl => match us, hl with | [_, _, _], _ => rfl) (by intro _ _ _ _ _ _ p hp; simp at hp)
      d__law_draw := defI_mk X G a__law_draw l__law_draw c__law_draw k__law_draw (fun _ _ _ _ _ _ us hl => match us, hl with | [_, _], _ => rfl) (by intro _ _ _ _ _ _ p hp; simp at hp)
      d__law_shared := defI_mk X G a__law_shared l__law_shared c__law_shared k__law_shared (fun _ _ _ _ _ _ us hl => match us, hl with | [], _ => rfl) (by intro _ _ _ _ _ _ p hp; simp at hp)
      d__law_int := defI_mk X G a__law_int l__law_int c__law_int k__law_int (fun _ _ _ _ _ _ us hl => match us, hl with | [_], _ => rfl) (by intro _ _ _ _ _ _ p hp; simp at hp)
      d__law_gcd := defI_mk X G a__law_gcd l__law_gcd c__law_gcd k__law_gcd (fun _ _ _ _ _ _ us hl => match us, hl with | [_, _], _ => rfl) (by intro _ _ _ _ _ _ p hp; simp at hp)
      d__law_ratio := defI_mk X G a__law_ratio l__law_ratio c__law_ratio k__law_ratio (fun _ _ _ _ _ _ us hl => match us, hl with | [_], _ => rfl) (by intro _ _ _ _ _ _ p hp; simp at hp)
      d__law_value := defI_mk X G a__law_value l__law_value c__law_value k__law_value (fun _ _ _ _ _ _ us hl => match us, hl with | [_, _], _ => rfl) (by intro _ _ _ _ _ _ p hp; simp at hp)
      d__law_keeps := defI_mk X G a__law_keeps l__law_keeps c__law_keeps k__law_keeps (fun _ _ _ _ _ _ us hl => match us, hl with | [_, _], _ => rfl) (by intro _ _ _ _ _ _ p hp; simp at hp)
      d__law_truth := defI_mk X G a__law_truth l__law_truth c__law_truth k__law_truth (fun _ _ _ _ _ _ us hl => match us, hl with | [_, _], _ => rfl) (by intro _ _ _ _ _ _ p hp; simp at hp)
      d__law_multipliers := defI_mk X G a__law_multipliers l__law_multipliers c__law_multipliers k__law_multipliers (fun _ _ _ _ _ _ us hl => match us, hl with | [_, _], _ => rfl) (by intro _ _ _ _ _ _ p hp; simp at hp)
      d__law_summed := defI_mk X G a__law_summed l__law_summed c__law_summed k__law_summed (fun _ _ _ _ _ _ us hl => match us, hl with | [_, _], _ => rfl) (by intro _ _ _ _ _ _ p hp; simp at hp)
      d__law_refutes := defI_mk X G a__law_refutes l__law_refutes c__law_refutes k__law_refutes (fun _ _ _ _ _ _ us hl => match us, hl with | [_, _], _ => rfl) (by intro _ _ _ _ _ _ p hp; simp at hp)
      d__law_well := defI_mk X G a__law_well l__law_well c__law_well k__law_well (fun _ _ _ _ _ _ us hl => match us, hl with | [_, _], _ => rfl) (by intro _ _ _ _ _ _ p hp; simp at hp)
      d__law_lowest := defI_mk X G a__law_lowest l__law_lowest c__law_lowest k__law_lowest (fun _ _ _ _ _ _ us hl => match us, hl with | [_, _], _ => rfl) (by intro _ _ _ _ _ _ p hp; simp at hp)
      d__law_point := defI_mk X G a__law_point l__law_point c__law_point k__law_point (fun _ _ _ _ _ _ us hl => match us, hl with | [_, _], _ => rfl) (by intro _ _ _ _ _ _ p hp; simp at hp)
      d__law_terms := defI_mk X G a__law_terms l__law_terms c__law_terms k__law_terms (fun _ _ _ _ _ _ us hl => match us, hl with | [_, _, _], _ => rfl) (by intro _ _ _ _ _ _ p hp; simp at hp)
      d__law_row_at := defI_mk X G a__law_row_at l__law_row_at c__law_row_at k__law_row_at (fun _ _ _ _ _ _ us hl => match us, hl with | [_, _, _, _], _ => rfl) (by intro _ _ _ _ _ _ p hp; simp at hp)
      d__law_kept_rows := defI_mk X G a__law_kept_rows l__law_kept_rows c__law_kept_rows k__law_kept_rows (fun _ _ _ _ _ _ us hl => match us, hl with | [_, _, _, _], _ => rfl) (by intro _ _ _ _ _ _ p hp; simp at hp)
      d__law_torn_rows := defI_mk X G a__law_torn_rows l__law_torn_rows c__law_torn_rows k__law_torn_rows (fun _ _ _ _ _ _ us hl => match us, hl with | [_, _, _, _], _ => rfl) (by intro _ _ _ _ _ _ p hp; simp at hp)
      d__law_no_system := defI_mk X G a__law_no_system l__law_no_system c__law_no_system k__law_no_system (fun _ _ _ _ _ _ us hl => match us, hl with | [_, _, _], _ => rfl) (by intro _ _ _ _ _ _ p hp; simp at hp)
      d__law_swapped := defI_mk X G a__law_swapped l__law_swapped c__law_swapped k__law_swapped (fun _ _ _ _ _ _ us hl => match us, hl with | [_, _, _], _ => rfl) (by intro _ _ _ _ _ _ p hp; simp at hp)
      d__law_spoilt_point := defI_mk X G a__law_spoilt_point l__law_spoilt_point c__law_spoilt_point k__law_spoilt_point (fun _ _ _ _ _ _ us hl => match us, hl with | [_, _], _ => rfl) (by intro _ _ _ _ _ _ p hp; simp at hp)
      d__law_spoilt_numbers := defI_mk X G a__law_spoilt_numbers l__law_spoilt_numbers c__law_spoilt_numbers k__law_spoilt_numbers (fun _ _ _ _ _ _ us hl => match us, hl with | [_, _], _ => rfl) (by intro _ _ _ _ _ _ p hp; simp at hp)
      d__law_word := defI_mk X G a__law_word l__law_word c__law_word k__law_word (fun _ _ _ _ _ _ us hl => match us, hl with | [_, _, _], _ => rfl) (by intro _ _ _ _ _ _ p hp; simp at hp)
      d__law_asked := defI_mk X G a__law_asked l__law_asked c__law_asked k__law_asked (fun _ _ _ _ _ _ us hl => match us, hl with | [_, _, _, _], _ => rfl) (by intro _ _ _ _ _ _ p hp; simp at hp)
      d_law := defI_mk X G a_law l_law c_law k_law (fun _ _ _ _ _ _ us hl => match us, hl with | [_], _ => rfl) (by intro _ _ _ _ _ _ p hp; simp at hp) }
  exact ⟨_, fun s v => .of_eq rfl, fun base _ _ => (law_ok T (fun_mk (st := s_law) l_law c_law k_law)).imp (law_sp law_true)⟩
end K64
open PySem PySem.W PyProof.Rows
set_option maxRecDepth 100000 in
set_option maxHeartbeats 0 in
theorem PySem.Challenge.cw_cellcode_k64_points_and_papers_holds : PySem.Challenge.rw_cellcode_k64_points_and_papers.Holds := by
  w_on; o_law; k_head; (case hw => w_witness2)
  k_fill
  refine PI.walkM (l := PySem.Challenge.rw_cellcode_k64_points_and_papers) (k := 60) rfl rfl ⟨rfl, by decide, by decide⟩ (fun w h Y => PySem.W.kIn_of Y) ?F
  case F =>
    intro w mg fa h KX G hmg
    refine' K64.all_mk KX G hmg ?z_ValueError ?z_abs ?z_all ?z_bool ?z_enumerate ?z_int ?z_isinstance ?z_len ?z_list ?z_max ?z_range ?z_sorted ?z_str ?z_tuple ?i_gcd ?ea_PaidError ?ex_PaidError ?ek_PaidError ?eb_PaidError ?et_PaidError ?ei_PaidError ?ed_PaidError ?ea_BadSystem ?ex_BadSystem ?ek_BadSystem ?eb_BadSystem ?et_BadSystem ?ei_BadSystem ?ed_BadSystem ?ea_BadLine ?ex_BadLine ?ek_BadLine ?eb_BadLine ?et_BadLine ?ei_BadLine ?ed_BadLine ?s_BadSystem_BadSystem ?s_BadSystem_PaidError ?s_BadSystem_ValueError ?s_BadSystem_BadLine ?xg_BadSystem ?xh_BadSystem ?xa_BadSystem ?xm_BadSystem ?s_BadLine_BadSystem ?s_BadLine_PaidError ?s_BadLine_ValueError ?s_BadLine_BadLine ?xg_BadLine ?xh_BadLine ?xa_BadLine ?xm_BadLine ?xn ?xt ?a_is_int ?l_is_int ?c_is_int ?k_is_int ?a_lowest ?l_lowest ?c_lowest ?k_lowest ?a_is_ratio ?l_is_ratio ?c_is_ratio ?k_is_ratio ?a_is_line ?l_is_line ?c_is_line ?k_is_line ?a_is_system ?l_is_system ?c_is_system ?k_is_system ?a_need_system ?l_need_system ?c_need_system ?k_need_system ?a_is_point ?l_is_point ?c_is_point ?k_is_point ?a_is_multipliers ?l_is_multipliers ?c_is_multipliers ?k_is_multipliers ?a_value_at ?l_value_at ?c_value_at ?k_value_at ?a_keeps_rows ?l_keeps_rows ?c_keeps_rows ?k_keeps_rows ?a_gathered ?l_gathered ?c_gathered ?k_gathered ?a_refutes_rows ?l_refutes_rows ?c_refutes_rows ?k_refutes_rows ?a_keeps ?l_keeps ?c_keeps ?k_keeps ?a_refutes ?l_refutes ?c_refutes ?k_refutes ?a_solve ?l_solve ?c_solve ?k_solve ?a_need_line ?l_need_line ?c_need_line ?k_need_line ?a_least ?l_least ?c_least ?k_least ?a_is_least ?l_is_least ?c_is_least ?k_is_least ?a__law_draw ?l__law_draw ?c__law_draw ?k__law_draw ?a__law_shared ?l__law_shared ?c__law_shared ?k__law_shared ?a__law_int ?l__law_int ?c__law_int ?k__law_int ?a__law_gcd ?l__law_gcd ?c__law_gcd ?k__law_gcd ?a__law_ratio ?l__law_ratio ?c__law_ratio ?k__law_ratio ?a__law_value ?l__law_value ?c__law_value ?k__law_value ?a__law_keeps ?l__law_keeps ?c__law_keeps ?k__law_keeps ?a__law_truth ?l__law_truth ?c__law_truth ?k__law_truth ?a__law_multipliers ?l__law_multipliers ?c__law_multipliers ?k__law_multipliers ?a__law_summed ?l__law_summed ?c__law_summed ?k__law_summed ?a__law_refutes ?l__law_refutes ?c__law_refutes ?k__law_refutes ?a__law_well ?l__law_well ?c__law_well ?k__law_well ?a__law_lowest ?l__law_lowest ?c__law_lowest ?k__law_lowest ?a__law_point ?l__law_point ?c__law_point ?k__law_point ?a__law_terms ?l__law_terms ?c__law_terms ?k__law_terms ?a__law_row_at ?l__law_row_at ?c__law_row_at ?k__law_row_at ?a__law_kept_rows ?l__law_kept_rows ?c__law_kept_rows ?k__law_kept_rows ?a__law_torn_rows ?l__law_torn_rows ?c__law_torn_rows ?k__law_torn_rows ?a__law_no_system ?l__law_no_system ?c__law_no_system ?k__law_no_system ?a__law_swapped ?l__law_swapped ?c__law_swapped ?k__law_swapped ?a__law_spoilt_point ?l__law_spoilt_point ?c__law_spoilt_point ?k__law_spoilt_point ?a__law_spoilt_numbers ?l__law_spoilt_numbers ?c__law_spoilt_numbers ?k__law_spoilt_numbers ?a__law_word ?l__law_word ?c__law_word ?k__law_word ?a__law_asked ?l__law_asked ?c__law_asked ?k__law_asked ?a_law ?l_law ?c_law ?k_law
    (case z_ValueError => k_is)
    (case z_abs => k_is)
    (case z_all => k_is)
    (case z_bool => k_is)
    (case z_enumerate => k_is)
    (case z_int => k_is)
    (case z_isinstance => k_is)
    (case z_len => k_is)
    (case z_list => k_is)
    (case z_max => k_is)
    (case z_range => k_is)
    (case z_sorted => k_is)
    (case z_str => k_is)
    (case z_tuple => k_is)
    (case i_gcd => k_is)
    (case ea_PaidError => k_is)
    (case ex_PaidError => k_exc)
    (case ek_PaidError => k_is)
    (case eb_PaidError => k_is)
    (case et_PaidError => k_is)
    (case ei_PaidError => k_is)
    (case ed_PaidError => k_is)
    (case ea_BadSystem => k_is)
    (case ex_BadSystem => k_exc)
    (case ek_BadSystem => k_is)
    (case eb_BadSystem => k_is)
    (case et_BadSystem => k_is)
    (case ei_BadSystem => k_is)
    (case ed_BadSystem => k_is)
    (case ea_BadLine => k_is)
    (case ex_BadLine => k_exc)
    (case ek_BadLine => k_is)
    (case eb_BadLine => k_is)
    (case et_BadLine => k_is)
    (case ei_BadLine => k_is)
    (case ed_BadLine => k_is)
    (case s_BadSystem_BadSystem => k_is)
    (case s_BadSystem_PaidError => k_is)
    (case s_BadSystem_ValueError => k_is)
    (case s_BadSystem_BadLine => k_is)
    (case xg_BadSystem => k_is)
    (case xh_BadSystem => k_is)
    (case xa_BadSystem => k_is)
    (case xm_BadSystem => k_is)
    (case s_BadLine_BadSystem => k_is)
    (case s_BadLine_PaidError => k_is)
    (case s_BadLine_ValueError => k_is)
    (case s_BadLine_BadLine => k_is)
    (case xg_BadLine => k_is)
    (case xh_BadLine => k_is)
    (case xa_BadLine => k_is)
    (case xm_BadLine => k_is)
    (case xn => k_is)
    (case xt => k_is)
    (case a_is_int => k_is)
    (case l_is_int => k_is)
    (case c_is_int => k_is)
    (case k_is_int => k_is)
    (case a_lowest => k_is)
    (case l_lowest => k_is)
    (case c_lowest => k_is)
    (case k_lowest => k_is)
    (case a_is_ratio => k_is)
    (case l_is_ratio => k_is)
    (case c_is_ratio => k_is)
    (case k_is_ratio => k_is)
    (case a_is_line => k_is)
    (case l_is_line => k_is)
    (case c_is_line => k_is)
    (case k_is_line => k_is)
    (case a_is_system => k_is)
    (case l_is_system => k_is)
    (case c_is_system => k_is)
    (case k_is_system => k_is)
    (case a_need_system => k_is)
    (case l_need_system => k_is)
    (case c_need_system => k_is)
    (case k_need_system => k_is)
    (case a_is_point => k_is)
    (case l_is_point => k_is)
    (case c_is_point => k_is)
    (case k_is_point => k_is)
    (case a_is_multipliers => k_is)
    (case l_is_multipliers => k_is)
    (case c_is_multipliers => k_is)
    (case k_is_multipliers => k_is)
    (case a_value_at => k_is)
    (case l_value_at => k_is)
    (case c_value_at => k_is)
    (case k_value_at => k_is)
    (case a_keeps_rows => k_is)
    (case l_keeps_rows => k_is)
    (case c_keeps_rows => k_is)
    (case k_keeps_rows => k_is)
    (case a_gathered => k_is)
    (case l_gathered => k_is)
    (case c_gathered => k_is)
    (case k_gathered => k_is)
    (case a_refutes_rows => k_is)
    (case l_refutes_rows => k_is)
    (case c_refutes_rows => k_is)
    (case k_refutes_rows => k_is)
    (case a_keeps => k_is)
    (case l_keeps => k_is)
    (case c_keeps => k_is)
    (case k_keeps => k_is)
    (case a_refutes => k_is)
    (case l_refutes => k_is)
    (case c_refutes => k_is)
    (case k_refutes => k_is)
    (case a_solve => k_is)
    (case l_solve => k_is)
    (case c_solve => k_is)
    (case k_solve => k_is)
    (case a_need_line => k_is)
    (case l_need_line => k_is)
    (case c_need_line => k_is)
    (case k_need_line => k_is)
    (case a_least => k_is)
    (case l_least => k_is)
    (case c_least => k_is)
    (case k_least => k_is)
    (case a_is_least => k_is)
    (case l_is_least => k_is)
    (case c_is_least => k_is)
    (case k_is_least => k_is)
    (case a__law_draw => k_is)
    (case l__law_draw => k_is)
    (case c__law_draw => k_is)
    (case k__law_draw => k_is)
    (case a__law_shared => k_is)
    (case l__law_shared => k_is)
    (case c__law_shared => k_is)
    (case k__law_shared => k_is)
    (case a__law_int => k_is)
    (case l__law_int => k_is)
    (case c__law_int => k_is)
    (case k__law_int => k_is)
    (case a__law_gcd => k_is)
    (case l__law_gcd => k_is)
    (case c__law_gcd => k_is)
    (case k__law_gcd => k_is)
    (case a__law_ratio => k_is)
    (case l__law_ratio => k_is)
    (case c__law_ratio => k_is)
    (case k__law_ratio => k_is)
    (case a__law_value => k_is)
    (case l__law_value => k_is)
    (case c__law_value => k_is)
    (case k__law_value => k_is)
    (case a__law_keeps => k_is)
    (case l__law_keeps => k_is)
    (case c__law_keeps => k_is)
    (case k__law_keeps => k_is)
    (case a__law_truth => k_is)
    (case l__law_truth => k_is)
    (case c__law_truth => k_is)
    (case k__law_truth => k_is)
    (case a__law_multipliers => k_is)
    (case l__law_multipliers => k_is)
    (case c__law_multipliers => k_is)
    (case k__law_multipliers => k_is)
    (case a__law_summed => k_is)
    (case l__law_summed => k_is)
    (case c__law_summed => k_is)
    (case k__law_summed => k_is)
    (case a__law_refutes => k_is)
    (case l__law_refutes => k_is)
    (case c__law_refutes => k_is)
    (case k__law_refutes => k_is)
    (case a__law_well => k_is)
    (case l__law_well => k_is)
    (case c__law_well => k_is)
    (case k__law_well => k_is)
    (case a__law_lowest => k_is)
    (case l__law_lowest => k_is)
    (case c__law_lowest => k_is)
    (case k__law_lowest => k_is)
    (case a__law_point => k_is)
    (case l__law_point => k_is)
    (case c__law_point => k_is)
    (case k__law_point => k_is)
    (case a__law_terms => k_is)
    (case l__law_terms => k_is)
    (case c__law_terms => k_is)
    (case k__law_terms => k_is)
    (case a__law_row_at => k_is)
    (case l__law_row_at => k_is)
    (case c__law_row_at => k_is)
    (case k__law_row_at => k_is)
    (case a__law_kept_rows => k_is)
    (case l__law_kept_rows => k_is)
    (case c__law_kept_rows => k_is)
    (case k__law_kept_rows => k_is)
    (case a__law_torn_rows => k_is)
    (case l__law_torn_rows => k_is)
    (case c__law_torn_rows => k_is)
    (case k__law_torn_rows => k_is)
    (case a__law_no_system => k_is)
    (case l__law_no_system => k_is)
    (case c__law_no_system => k_is)
    (case k__law_no_system => k_is)
    (case a__law_swapped => k_is)
    (case l__law_swapped => k_is)
    (case c__law_swapped => k_is)
    (case k__law_swapped => k_is)
    (case a__law_spoilt_point => k_is)
    (case l__law_spoilt_point => k_is)
    (case c__law_spoilt_point => k_is)
    (case k__law_spoilt_point => k_is)
    (case a__law_spoilt_numbers => k_is)
    (case l__law_spoilt_numbers => k_is)
    (case c__law_spoilt_numbers => k_is)
    (case k__law_spoilt_numbers => k_is)
    (case a__law_word => k_is)
    (case l__law_word => k_is)
    (case c__law_word => k_is)
    (case k__law_word => k_is)
    (case a__law_asked => k_is)
    (case l__law_asked => k_is)
    (case c__law_asked => k_is)
    (case k__law_asked => k_is)
    (case a_law => k_is)
    (case l_law => k_is)
    (case c_law => k_is)
    (case k_law => k_is)
