import PyProof.Rows.All
import Wide.All
import OpenK.AllK
import Wide.FinOn
import HandS.ForMost
import HandS.ForExc
import HandS.TryMany
import HandS.Gcd
import HandS.Wide
import HandS.IsInst
import HandS.Flow
import HandS.TupAny
import HandS.ExcIs
import PySem.Challenge.RW_cellcode_k63_ratios
set_option Elab.async false
set_option linter.all false
set_option maxRecDepth 100000
set_option maxHeartbeats 1000000
/-! A mirror of the language: values without addresses, a heap of one's own, and what it means that a reading is mirrored. -/
namespace PI
open PySem PySem.Spec L2
open PyProof.Rows hiding St

inductive D where
  | non | bl (b : Bool) | int (i : Int) | str (x : Str)
  | tup (xs : List D) | rol (xs : List D) | ref (i : Nat) | ex (a : Addr)
  deriving Inhabited

inductive Ob where
  | lst (xs : List D)
  | dct (kvs : List (Key × D))
  | dctT (kvs : List (List Key × D))
  deriving Inhabited

abbrev Hh := List Ob
abbrev Rho := List (Option D)
structure Exn where
  cls : Str
  fs : List (Str × D) := []

inductive Out (α : Type) where
  | ok (a : α) (h : Hh)
  | err (x : Exn) (h : Hh)
  | bad

inductive OutS where
  | nx (ρ : Rho) (h : Hh)
  | rt (d : D) (h : Hh)
  | bk (ρ : Rho) (h : Hh)
  | ct (ρ : Rho) (h : Hh)
  | er (x : Exn) (ρ : Rho) (h : Hh)
  | bad

abbrev ME := Rho → Hh → Out D
abbrev MA := Rho → Hh → Out (List D)
abbrev MT := Rho → Hh → Out Bool
abbrev MS := Rho → Hh → OutS
abbrev FnM := List D → Hh → Out D

/-- a list that is only read: locked, or of the written part -/
def RoL (K : PySem.W.Frag) (H : Hp) (a : Addr) (xs : List V) : Prop :=
  (∃ o, H a = some (.frz o (.lst xs))) ∨
    ∃ (o : Obj) (its : Array Value) (n : Nat), K.lookup a = some o ∧ o.cls = .type "list" ∧ o.dict = none ∧ o.data = .seq its n ∧ its.size ≤ sizeLine ∧ Vals xs its.toList

theorem RoL.sq {K : PySem.W.Frag} {H : Hp} {a : Addr} {xs : List V} (h : RoL K H a xs) : SqL K H a xs := by
  rcases h with ⟨o, h⟩ | h
  · exact .inl (.inr ⟨o, h⟩)
  · exact .inr h

mutual
def Den (K : PySem.W.Frag) (μ : List Addr) (H : Hp) : D → V → Prop
  | .non, v => v = .non
  | .bl b, v => v = .bl b
  | .int i, v => v = .int i
  | .str x, v => v = .str x
  | .tup ds, v => ∃ a vs, v = .ref a ∧ SqT K H a vs ∧ Dens K μ H ds vs
  | .rol ds, v => ∃ a vs, v = .ref a ∧ RoL K H a vs ∧ Dens K μ H ds vs
  | .ref i, v => ∃ a, v = .ref a ∧ μ[i]? = some a
  | .ex a, v => v = .ref a
def Dens (K : PySem.W.Frag) (μ : List Addr) (H : Hp) : List D → List V → Prop
  | [], vs => vs = []
  | d :: ds, vs => ∃ v vr, vs = v :: vr ∧ Den K μ H d v ∧ Dens K μ H ds vr
end

structure Step (μ : List Addr) (H : Hp) (μ' : List Addr) (H' : Hp) : Prop where
  ext : ∃ l, μ' = μ ++ l
  tup : ∀ a xs, H a = some (.tup xs) → H' a = some (.tup xs)
  frz : ∀ a o u, H a = some (.frz o u) → H' a = some (.frz o u)
  xd : ∀ a fs, H a = some (.xd fs) → H' a = some (.xd fs)

section
variable {K : PySem.W.Frag} {μ μ' μ1 μ2 : List Addr} {H H' H1 H2 : Hp}
theorem Step.refl : Step μ H μ H := ⟨⟨[], by simp⟩, fun _ _ h => h, fun _ _ _ h => h, fun _ _ h => h⟩
theorem Step.trans (a : Step μ H μ1 H1) (b : Step μ1 H1 μ2 H2) : Step μ H μ2 H2 := by
  obtain ⟨l, rfl⟩ := a.ext
  obtain ⟨m, rfl⟩ := b.ext
  exact ⟨⟨l ++ m, by simp⟩, fun x y h => b.tup _ _ (a.tup x y h), fun x o u h => b.frz _ _ _ (a.frz x o u h), fun x y h => b.xd _ _ (a.xd x y h)⟩
theorem Step.get (a : Step μ H μ1 H1) {i : Nat} {p : Addr} (h : μ[i]? = some p) : μ1[i]? = some p := by
  obtain ⟨l, rfl⟩ := a.ext
  have hi : i < μ.length := (List.getElem?_eq_some_iff.mp h).1
  rw [List.getElem?_append_left hi]
  exact h
theorem Step.new {p : Addr} {o : HO} (h : H p = none) : Step μ H μ (upd H p o) :=
  ⟨⟨[], by simp⟩, fun a xs e => by rw [upd_ne (ne_of_none e h)]; exact e, fun a o u e => by rw [upd_ne (ne_of_none e h)]; exact e, fun a xs e => by rw [upd_ne (ne_of_none e h)]; exact e⟩
theorem Step.newT {p : Addr} {o : HO} (h : H p = none) : Step μ H (μ ++ [p]) (upd H p o) :=
  ⟨⟨[p], rfl⟩, fun a xs e => by rw [upd_ne (ne_of_none e h)]; exact e, fun a o u e => by rw [upd_ne (ne_of_none e h)]; exact e, fun a xs e => by rw [upd_ne (ne_of_none e h)]; exact e⟩
theorem Step.set {p : Addr} {o u : HO} (h : H p = some o) (hl : ∀ xs, o ≠ .tup xs) (hf : ∀ x y, o ≠ .frz x y) (hx : ∀ fs, o ≠ .xd fs) : Step μ H μ (upd H p u) :=
  ⟨⟨[], by simp⟩, fun a xs e => by rw [upd_ne (ne_of e h (fun z => hl _ z.symm))]; exact e, fun a x y e => by rw [upd_ne (ne_of e h (fun z => hf _ _ z.symm))]; exact e, fun a xs e => by rw [upd_ne (ne_of e h (fun z => hx _ z.symm))]; exact e⟩
theorem Step.sqT (s : Step μ H μ1 H1) {a : Addr} {xs : List V} (h : SqT K H a xs) : SqT K H1 a xs := by
  rcases h with (h | ⟨o, h⟩) | h
  · exact .inl (.inl (s.tup _ _ h))
  · exact .inl (.inr ⟨o, s.frz _ _ _ h⟩)
  · exact .inr h
theorem Step.roL (s : Step μ H μ1 H1) {a : Addr} {xs : List V} (h : RoL K H a xs) : RoL K H1 a xs := by
  rcases h with ⟨o, h⟩ | h
  · exact .inl ⟨o, s.frz _ _ _ h⟩
  · exact .inr h
mutual
theorem Den.mono (s : Step μ H μ1 H1) : ∀ {d : D} {v : V}, Den K μ H d v → Den K μ1 H1 d v
  | .non, _, h => h
  | .bl _, _, h => h
  | .int _, _, h => h
  | .str _, _, h => h
  | .tup ds, _, h => by
    obtain ⟨a, vs, e, q, r⟩ := h
    exact ⟨a, vs, e, s.sqT q, Dens.mono s r⟩
  | .rol ds, _, h => by
    obtain ⟨a, vs, e, q, r⟩ := h
    exact ⟨a, vs, e, s.roL q, Dens.mono s r⟩
  | .ref i, _, h => by
    obtain ⟨a, e, q⟩ := h
    exact ⟨a, e, s.get q⟩
  | .ex _, _, h => h
theorem Dens.mono (s : Step μ H μ1 H1) : ∀ {ds : List D} {vs : List V}, Dens K μ H ds vs → Dens K μ1 H1 ds vs
  | [], _, h => h
  | d :: ds, _, h => by
    obtain ⟨v, vr, e, q, r⟩ := h
    exact ⟨v, vr, e, Den.mono s q, Dens.mono s r⟩
end
theorem Dens.length : ∀ {ds : List D} {vs : List V}, Dens K μ H ds vs → vs.length = ds.length
  | [], _, h => by
    have h : _ = [] := h
    rw [h]; rfl
  | d :: ds, _, h => by
    obtain ⟨v, vr, rfl, q, r⟩ := h
    simp [Dens.length r]
theorem Dens.get : ∀ {ds : List D} {vs : List V} {i : Nat} {d : D}, Dens K μ H ds vs → ds[i]? = some d → ∃ v, vs[i]? = some v ∧ Den K μ H d v
  | [], _, _, _, _, e => by simp at e
  | d :: ds, _, 0, x, h, e => by
    obtain ⟨v, vr, rfl, q, r⟩ := h
    simp at e
    subst e
    exact ⟨v, rfl, q⟩
  | d :: ds, _, i + 1, x, h, e => by
    obtain ⟨v, vr, rfl, q, r⟩ := h
    obtain ⟨w, e1, e2⟩ := Dens.get r (i := i) (by simpa using e)
    exact ⟨w, by simpa using e1, e2⟩
theorem Dens.append : ∀ {ds es : List D} {vs ws : List V}, Dens K μ H ds vs → Dens K μ H es ws → Dens K μ H (ds ++ es) (vs ++ ws)
  | [], _, _, _, h, g => by
    have h : _ = [] := h
    rw [h]; exact g
  | d :: ds, _, _, _, h, g => by
    obtain ⟨v, vr, rfl, q, r⟩ := h
    exact ⟨v, _, rfl, q, Dens.append r g⟩
theorem Dens.set {x : D} {v : V} (hx : Den K μ H x v) : ∀ {ds : List D} {vs : List V} (i : Nat), Dens K μ H ds vs → Dens K μ H (ds.set i x) (vs.set i v)
  | [], _, _, h => by
    have h : _ = [] := h
    rw [h]; rfl
  | d :: ds, _, 0, h => by
    obtain ⟨w, vr, rfl, q, r⟩ := h
    exact ⟨v, vr, rfl, hx, r⟩
  | d :: ds, _, i + 1, h => by
    obtain ⟨w, vr, rfl, q, r⟩ := h
    exact ⟨w, _, rfl, q, Dens.set hx i r⟩
theorem Dens.take : ∀ {ds : List D} {vs : List V} (n : Nat), Dens K μ H ds vs → Dens K μ H (ds.take n) (vs.take n)
  | _, _, 0, _ => by simp [Dens]
  | [], _, n + 1, h => by
    have h : _ = [] := h
    rw [h]; rfl
  | d :: ds, _, n + 1, h => by
    obtain ⟨v, vr, rfl, q, r⟩ := h
    exact ⟨v, _, rfl, q, Dens.take n r⟩
theorem Dens.drop : ∀ {ds : List D} {vs : List V} (n : Nat), Dens K μ H ds vs → Dens K μ H (ds.drop n) (vs.drop n)
  | _, _, 0, h => by simpa using h
  | [], _, n + 1, h => by
    have h : _ = [] := h
    rw [h]; rfl
  | d :: ds, _, n + 1, h => by
    obtain ⟨v, vr, rfl, q, r⟩ := h
    exact Dens.drop n r
theorem Dens.ints : ∀ ns : List Int, Dens K μ H (ns.map D.int) (ns.map V.int)
  | [] => rfl
  | n :: ns => ⟨_, _, rfl, rfl, Dens.ints ns⟩
end

/-- an own object as it stands at a -/
def OR (K : PySem.W.Frag) (μ : List Addr) (H : Hp) (a : Addr) : Ob → Prop
  | .lst ds => ∃ vs, H a = some (.lst vs) ∧ Dens K μ H ds vs
  | .dct kvs => ∃ kws, H a = some (.dK kws) ∧ kws.map (·.1) = kvs.map (·.1) ∧ Dens K μ H (kvs.map (·.2)) (kws.map (·.2))
  | .dctT kvs => ∃ kws, H a = some (.dT kws) ∧ kws.map (·.1) = kvs.map (·.1) ∧ Dens K μ H (kvs.map (·.2)) (kws.map (·.2))

structure RelH (K : PySem.W.Frag) (μ : List Addr) (H : Hp) (h : Hh) : Prop where
  len : μ.length = h.length
  dis : ∀ (i j : Nat) (a : Addr), μ[i]? = some a → μ[j]? = some a → i = j
  obj : ∀ (i : Nat) (o : Ob), h[i]? = some o → ∃ a, μ[i]? = some a ∧ OR K μ H a o

structure RelS (K : PySem.W.Frag) (μ : List Addr) (H : Hp) (ρ : Rho) (σ : L2.St) : Prop where
  len : ρ.length = σ.length
  get : ∀ (i : Nat) (d : D), ρ[i]? = some (some d) → ∃ v, σ[i]? = some (some v) ∧ Den K μ H d v

section
variable {K : PySem.W.Frag} {μ μ' μ1 μ2 : List Addr} {H H' H1 H2 : Hp} {h h' : Hh} {ρ : Rho} {σ : L2.St}
theorem OR.some {a : Addr} {o : Ob} (x : OR K μ H a o) : ∃ u, H a = some u ∧ (∀ xs, u ≠ .tup xs) ∧ (∀ p q, u ≠ .frz p q) ∧ (∀ fs, u ≠ .xd fs) := by
  cases o with
  | lst ds => obtain ⟨vs, e, _⟩ := x; exact ⟨_, e, fun _ z => (by cases z), fun _ _ z => (by cases z), fun _ z => (by cases z)⟩
  | dct ds => obtain ⟨vs, e, _⟩ := x; exact ⟨_, e, fun _ z => (by cases z), fun _ _ z => (by cases z), fun _ z => (by cases z)⟩
  | dctT ds => obtain ⟨vs, e, _⟩ := x; exact ⟨_, e, fun _ z => (by cases z), fun _ _ z => (by cases z), fun _ z => (by cases z)⟩
/-- an object that stands as it stood -/
theorem OR.mono {a : Addr} {o : Ob} (s : Step μ H μ1 H1) (e : H1 a = H a) (x : OR K μ H a o) : OR K μ1 H1 a o := by
  cases o with
  | lst ds => obtain ⟨vs, e1, d⟩ := x; exact ⟨vs, e.trans e1, d.mono s⟩
  | dct ds => obtain ⟨vs, e1, e2, d⟩ := x; exact ⟨vs, e.trans e1, e2, d.mono s⟩
  | dctT ds => obtain ⟨vs, e1, e2, d⟩ := x; exact ⟨vs, e.trans e1, e2, d.mono s⟩
theorem RelS.mono (s : Step μ H μ1 H1) (r : RelS K μ H ρ σ) : RelS K μ1 H1 ρ σ :=
  ⟨r.len, fun i d e => let ⟨v, h1, h2⟩ := r.get i d e; ⟨v, h1, h2.mono s⟩⟩
theorem RelS.set {i : Nat} {d : D} {v : V} (r : RelS K μ H ρ σ) (hd : Den K μ H d v) : RelS K μ H (ρ.set i (some d)) (σ.set i (some v)) := by
  refine ⟨by simp [r.len], fun j e hj => ?_⟩
  by_cases hij : i = j
  · subst hij
    have hl : i < ρ.length := by
      by_cases hl : i < ρ.length
      · exact hl
      · rw [List.getElem?_eq_none (by simp; omega)] at hj
        cases hj
    rw [List.getElem?_set_self hl] at hj
    cases hj
    exact ⟨v, by rw [List.getElem?_set_self (by rw [← r.len]; exact hl)], hd⟩
  · rw [List.getElem?_set_ne hij] at hj
    obtain ⟨w, h1, h2⟩ := r.get j e hj
    exact ⟨w, by rw [List.getElem?_set_ne hij]; exact h1, h2⟩
theorem RelS.clear {i : Nat} (r : RelS K μ H ρ σ) : RelS K μ H (ρ.set i none) (σ.set i none) := by
  refine ⟨by simp [r.len], fun j e hj => ?_⟩
  by_cases hij : i = j
  · subst hij
    by_cases hl : i < ρ.length
    · rw [List.getElem?_set_self hl] at hj; cases hj
    · rw [List.getElem?_eq_none (by simp; omega)] at hj; cases hj
  · rw [List.getElem?_set_ne hij] at hj
    obtain ⟨w, h1, h2⟩ := r.get j e hj
    exact ⟨w, by rw [List.getElem?_set_ne hij]; exact h1, h2⟩
theorem RelS.wipe (r : RelS K μ H ρ σ) {i : Nat} {x : Option V} : RelS K μ H (ρ.set i none) (σ.set i x) := by
  refine ⟨by simp [r.len], fun j e hj => ?_⟩
  by_cases hij : i = j
  · subst hij
    by_cases hl : i < ρ.length
    · rw [List.getElem?_set_self hl] at hj; cases hj
    · rw [List.getElem?_eq_none (by simp; omega)] at hj; cases hj
  · rw [List.getElem?_set_ne hij] at hj
    obtain ⟨w, h1, h2⟩ := r.get j e hj
    exact ⟨w, by rw [List.getElem?_set_ne hij]; exact h1, h2⟩
theorem RelH.notin (r : RelH K μ H h) {p : Addr} (hp : H p = none) (i : Nat) : μ[i]? ≠ some p := by
  intro e
  have hi : i < h.length := by rw [← r.len]; exact (List.getElem?_eq_some_iff.mp e).1
  obtain ⟨a, e1, x⟩ := r.obj i h[i] (List.getElem?_eq_getElem hi)
  rw [e] at e1
  cases e1
  obtain ⟨u, e2, _⟩ := x.some
  rw [hp] at e2
  cases e2
/-- a new thing that is not tracked by us -/
theorem RelH.new (r : RelH K μ H h) {p : Addr} {o : HO} (hp : H p = none) : RelH K μ (upd H p o) h :=
  ⟨r.len, r.dis, fun i o' e => by
    obtain ⟨a, e1, x⟩ := r.obj i o' e
    refine ⟨a, e1, x.mono (Step.new hp) ?_⟩
    rw [upd_ne (fun z => r.notin hp i (by rw [e1, z]))]⟩
/-- a new object of our heap -/
theorem RelH.push (r : RelH K μ H h) {p : Addr} {o : HO} {ob : Ob} (hp : H p = none) (new : OR K (μ ++ [p]) (upd H p o) p ob) : RelH K (μ ++ [p]) (upd H p o) (h ++ [ob]) := by
  refine ⟨by simp [r.len], fun i j a e1 e2 => ?_, fun i o' e => ?_⟩
  · by_cases h1 : i < μ.length
    · rw [List.getElem?_append_left h1] at e1
      by_cases h2 : j < μ.length
      · rw [List.getElem?_append_left h2] at e2
        exact r.dis i j a e1 e2
      · rw [List.getElem?_append_right (by omega)] at e2
        have : a = p := by
          cases q : j - μ.length with
          | zero => rw [q] at e2; simpa using e2.symm
          | succ n => rw [q] at e2; simp at e2
        subst this
        exact absurd e1 (r.notin hp i)
    · rw [List.getElem?_append_right (by omega)] at e1
      have ea : a = p := by
        cases q : i - μ.length with
        | zero => rw [q] at e1; simpa using e1.symm
        | succ n => rw [q] at e1; simp at e1
      subst ea
      by_cases h2 : j < μ.length
      · rw [List.getElem?_append_left h2] at e2
        exact absurd e2 (r.notin hp j)
      · have l1 : i < (μ ++ [a]).length := by
          by_cases z : i < (μ ++ [a]).length
          · exact z
          · have : i - μ.length ≥ 1 := by simp at z; omega
            rw [List.getElem?_eq_none (by simpa using this)] at e1
            cases e1
        have l2 : j < (μ ++ [a]).length := (List.getElem?_eq_some_iff.mp e2).1
        simp at l1 l2
        omega
  · by_cases h1 : i < h.length
    · rw [List.getElem?_append_left h1] at e
      obtain ⟨a, e1, x⟩ := r.obj i o' e
      refine ⟨a, (Step.newT (o := o) hp).get e1, x.mono (Step.newT hp) ?_⟩
      rw [upd_ne (fun z => r.notin hp i (by rw [e1, z]))]
    · rw [List.getElem?_append_right (by omega)] at e
      have hq : i - h.length = 0 := by
        cases q : i - h.length with
        | zero => rfl
        | succ n => rw [q] at e; simp at e
      rw [hq] at e
      have eo : ob = o' := by simpa using e
      subst eo
      have ei : i = μ.length := by rw [r.len]; omega
      subst ei
      exact ⟨p, by simp, new⟩
/-- an object of our heap changes -/
theorem RelH.put (r : RelH K μ H h) {i : Nat} {p : Addr} {o : HO} {ob ob0 : Ob} (hi : h[i]? = some ob0) (hp : μ[i]? = some p) (new : OR K μ (upd H p o) p ob) : RelH K μ (upd H p o) (h.set i ob) := by
  obtain ⟨a, ea, x⟩ := r.obj i ob0 hi
  rw [hp] at ea
  cases ea
  obtain ⟨u, eu, n1, n2, n3⟩ := x.some
  have st : Step μ H μ (upd H p o) := Step.set eu n1 n2 n3
  refine ⟨by simp [r.len], r.dis, fun j o' e => ?_⟩
  by_cases hij : i = j
  · subst hij
    rw [List.getElem?_set_self (List.getElem?_eq_some_iff.mp hi).1] at e
    cases e
    exact ⟨p, hp, new⟩
  · rw [List.getElem?_set_ne hij] at e
    obtain ⟨b, e1, y⟩ := r.obj j o' e
    refine ⟨b, e1, y.mono st ?_⟩
    rw [upd_ne (fun z => hij (r.dis i j p hp (by rw [e1, z])))]
/-- objects behind may be forgotten -/
theorem Den.cut : True := trivial
end
end PI
/-! What it means that a reading is mirrored; expressions. -/
namespace PI
open PySem PySem.Spec L2
open PyProof.Rows hiding St

def Out.bind {α β : Type} (o : Out α) (f : α → Hh → Out β) : Out β := match o with
  | .ok a h => f a h
  | .err x h => .err x h
  | .bad => .bad
def Out.ofO {α : Type} : Option (α × Hh) → Out α
  | some (a, h) => .ok a h
  | none => .bad
@[simp] theorem Out.bind_ok {α β : Type} {a : α} {h : Hh} {f : α → Hh → Out β} : (Out.ok a h).bind f = f a h := rfl
@[simp] theorem Out.bind_err {α β : Type} {x : Exn} {h : Hh} {f : α → Hh → Out β} : (Out.err x h : Out α).bind f = .err x h := rfl
@[simp] theorem Out.bind_bad {α β : Type} {f : α → Hh → Out β} : (Out.bad : Out α).bind f = .bad := rfl
@[simp] theorem Out.ofO_some {α : Type} {a : α} {h : Hh} : Out.ofO (some (a, h)) = .ok a h := rfl
@[simp] theorem Out.ofO_none {α : Type} : (Out.ofO none : Out α) = .bad := rfl

abbrev Ctb := Str → Option Value
/-- how an exception of ours looks -/
def ExcR (K : PySem.W.Frag) (ct : Ctb) (μ : List Addr) (H : Hp) (x : Exn) (cls : Value) (d : Option Addr) : Prop :=
  ct x.cls = some cls ∧ ((x.fs = [] ∧ d = none) ∨ (x.fs ≠ [] ∧ ∃ dd ws, d = some dd ∧ H dd = some (.xd ws) ∧ ws.map (·.1) = x.fs.map (·.1) ∧ Dens K μ H (x.fs.map (·.2)) (ws.map (·.2))))

section
variable (K : PySem.W.Frag) (ct : Ctb) (W : WX) (σ : L2.St)
def PO {α : Type} (μ : List Addr) (H : Hp) (R : α → Hh → List Addr → Hp → Prop) : Out α → Prop
  | .ok a h' => ∀ μ' H', Step μ H μ' H' → RelH K μ' H' h' → R a h' μ' H'
  | .err x h' => ∀ μ' H' cls d, Step μ H μ' H' → RelH K μ' H' h' → ExcR K ct μ' H' x cls d → W cls d σ H'
  | .bad => False
def POo {α : Type} (μ : List Addr) (H : Hp) (R : α → Hh → List Addr → Hp → Prop) : Option (α × Hh) → Prop
  | some (a, h') => ∀ μ' H', Step μ H μ' H' → RelH K μ' H' h' → R a h' μ' H'
  | none => False
end
section
variable {K : PySem.W.Frag} {ct : Ctb} {W : WX} {σ : L2.St} {μ μ1 : List Addr} {H H1 : Hp} {α β : Type} {R R' : α → Hh → List Addr → Hp → Prop}
theorem PO.step (s : Step μ H μ1 H1) {o : Out α} (p : PO K ct W σ μ H R o) : PO K ct W σ μ1 H1 R o := by
  cases o with
  | ok a h => exact fun μ' H' s' r => p μ' H' (s.trans s') r
  | err x h => exact fun μ' H' c d s' r e => p μ' H' c d (s.trans s') r e
  | bad => exact p
theorem PO.mono {o : Out α} (p : PO K ct W σ μ H R o) (i : ∀ a h' μ' H', Step μ H μ' H' → RelH K μ' H' h' → R a h' μ' H' → R' a h' μ' H') : PO K ct W σ μ H R' o := by
  cases o with
  | ok a h => exact fun μ' H' s' r => i a h μ' H' s' r (p μ' H' s' r)
  | err x h => exact p
  | bad => exact p
theorem PO.bind {o : Out α} {f : α → Hh → Out β} {R : β → Hh → List Addr → Hp → Prop} (p : PO K ct W σ μ H R (o.bind f)) :
    PO K ct W σ μ H (fun a h1 μ1 H1 => PO K ct W σ μ1 H1 R (f a h1)) o := by
  cases o with
  | ok a h => exact fun μ' H' s' r => PO.step s' (show PO K ct W σ μ H R (f a h) from p)
  | err x h => exact p
  | bad => exact p
theorem PO.ofO {o : Option (α × Hh)} (p : PO K ct W σ μ H R (Out.ofO o)) : POo K μ H R o := by
  cases o with
  | none => exact p
  | some a => obtain ⟨a, h⟩ := a; exact p
theorem POo.mono {o : Option (α × Hh)} (p : POo K μ H R o) (i : ∀ a h' μ' H', Step μ H μ' H' → RelH K μ' H' h' → R a h' μ' H' → R' a h' μ' H') : POo K μ H R' o := by
  cases o with
  | none => exact p
  | some a => obtain ⟨a, h⟩ := a; exact fun μ' H' s r => i _ _ _ _ s r (p μ' H' s r)
end

/-! ### mirrored readings -/
section
variable (K : PySem.W.Frag) (ct : Ctb) (W : WX)
def rdE (m : ME) : TE := fun σ H Q => ∃ μ ρ h, RelS K μ H ρ σ ∧ RelH K μ H h ∧ PO K ct W σ μ H (fun d _ μ' H' => ∀ v, Den K μ' H' d v → Q v H') (m ρ h)
def rdA (m : MA) : TA := fun σ H Q => ∃ μ ρ h, RelS K μ H ρ σ ∧ RelH K μ H h ∧ PO K ct W σ μ H (fun d _ μ' H' => ∀ v, Dens K μ' H' d v → Q v H') (m ρ h)
def rdT (m : MT) : TT := fun σ H Q => ∃ μ ρ h, RelS K μ H ρ σ ∧ RelH K μ H h ∧ PO K ct W σ μ H (fun b _ _ H' => Q b H') (m ρ h)
def rdS (m : MS) : TS := fun D σ H => ∃ μ ρ h, RelS K μ H ρ σ ∧ RelH K μ H h ∧ match m ρ h with
  | .nx ρ' h' => ∀ μ' H' σ', Step μ H μ' H' → RelH K μ' H' h' → RelS K μ' H' ρ' σ' → D.nx σ' H'
  | .bk ρ' h' => ∀ μ' H' σ', Step μ H μ' H' → RelH K μ' H' h' → RelS K μ' H' ρ' σ' → D.bk σ' H'
  | .ct ρ' h' => ∀ μ' H' σ', Step μ H μ' H' → RelH K μ' H' h' → RelS K μ' H' ρ' σ' → D.ct σ' H'
  | .rt d h' => ∀ μ' H' v, Step μ H μ' H' → RelH K μ' H' h' → Den K μ' H' d v → D.rt v H'
  | .er x ρ' h' => ∀ μ' H' σ' cls d, Step μ H μ' H' → RelH K μ' H' h' → RelS K μ' H' ρ' σ' → ExcR K ct μ' H' x cls d → W cls d σ' H'
  | .bad => False
/-- values in, one value out -/
def r1 (g : D → Hh → Option (D × Hh)) : V → Hp → VK → Prop := fun x H Q => ∃ μ h a, Den K μ H a x ∧ RelH K μ H h ∧ POo K μ H (fun d _ μ' H' => ∀ v, Den K μ' H' d v → Q v H') (g a h)
def r2 (g : D → D → Hh → Option (D × Hh)) : R2 := fun x y H Q => ∃ μ h a b, Den K μ H a x ∧ Den K μ H b y ∧ RelH K μ H h ∧ POo K μ H (fun d _ μ' H' => ∀ v, Den K μ' H' d v → Q v H') (g a b h)
def rN (g : List D → Hh → Option (D × Hh)) : List V → Hp → VK → Prop := fun xs H Q => ∃ μ h as, Dens K μ H as xs ∧ RelH K μ H h ∧ POo K μ H (fun d _ μ' H' => ∀ v, Den K μ' H' d v → Q v H') (g as h)
end
abbrev SE (X : Cx) (ct : Ctb) (W : WX) (e : Expr) (m : ME) : Prop := PE X e (rdE X.K ct W m)
abbrev SA (X : Cx) (ct : Ctb) (W : WX) (es : List Expr) (m : MA) : Prop := PA X es (rdA X.K ct W m)
abbrev ST (X : Cx) (ct : Ctb) (W : WX) (e : Expr) (m : MT) : Prop := PT X e (rdT X.K ct W m)
abbrev SS (X : Cx) (ct : Ctb) (W : WX) (s : Stmt) (m : MS) : Prop := PS X s (rdS X.K ct W m)
abbrev SSs (X : Cx) (ct : Ctb) (W : WX) (s : List Stmt) (m : MS) : Prop := PSs X s (rdS X.K ct W m)

section
variable {X : Cx} {ct : Ctb} {W : WX}
theorem _root_.L2.PE.imp {e : Expr} {t t' : TE} (h : PE X e t) (i : ∀ σ H Q, t' σ H Q → t σ H Q) : PE X e t' := ⟨fun pins s σ H Q I q => h.run pins s σ H Q I (i σ H Q q)⟩
theorem _root_.L2.PA.imp {e : List Expr} {t t' : TA} (h : PA X e t) (i : ∀ σ H Q, t' σ H Q → t σ H Q) : PA X e t' := ⟨fun pos pins s σ H Q I q => h.run pos pins s σ H Q I (i σ H Q q)⟩
theorem _root_.L2.PT.imp {e : Expr} {t t' : TT} (h : PT X e t) (i : ∀ σ H Q, t' σ H Q → t σ H Q) : PT X e t' := ⟨fun pins s σ H Q I q => h.run pins s σ H Q I (i σ H Q q)⟩
theorem _root_.L2.PS.imp {e : Stmt} {t t' : TS} (h : PS X e t) (i : ∀ D σ H, t' D σ H → t D σ H) : PS X e t' := ⟨fun pins s σ H D I q => h.run pins s σ H D I (i D σ H q)⟩
theorem _root_.L2.PSs.imp {e : List Stmt} {t t' : TS} (h : PSs X e t) (i : ∀ D σ H, t' D σ H → t D σ H) : PSs X e t' := ⟨fun pins s σ H D I q => h.run pins s σ H D I (i D σ H q)⟩

/-- the first part of a computation, then the rest -/
theorem rdE.go {K : PySem.W.Frag} {ma : ME} {β : Type} {f : D → Hh → Out β} {σ : L2.St} {H : Hp} {ρ : Rho} {h : Hh} {μ : List Addr} {R : β → Hh → List Addr → Hp → Prop} (rs : RelS K μ H ρ σ) (rh : RelH K μ H h) (p : PO K ct W σ μ H R ((ma ρ h).bind f))
    {Q : VK} (k : ∀ d h1 μ1 H1 v, Step μ H μ1 H1 → RelS K μ1 H1 ρ σ → RelH K μ1 H1 h1 → Den K μ1 H1 d v → PO K ct W σ μ1 H1 R (f d h1) → Q v H1) : rdE K ct W ma σ H Q :=
  ⟨μ, ρ, h, rs, rh, p.bind.mono fun d h1 μ1 H1 s r q v dv => k d h1 μ1 H1 v s (rs.mono s) r dv q⟩
theorem rdA.go {K : PySem.W.Frag} {ma : MA} {β : Type} {f : List D → Hh → Out β} {σ : L2.St} {H : Hp} {ρ : Rho} {h : Hh} {μ : List Addr} {R : β → Hh → List Addr → Hp → Prop} (rs : RelS K μ H ρ σ) (rh : RelH K μ H h) (p : PO K ct W σ μ H R ((ma ρ h).bind f))
    {Q : List V → Hp → Prop} (k : ∀ d h1 μ1 H1 v, Step μ H μ1 H1 → RelS K μ1 H1 ρ σ → RelH K μ1 H1 h1 → Dens K μ1 H1 d v → PO K ct W σ μ1 H1 R (f d h1) → Q v H1) : rdA K ct W ma σ H Q :=
  ⟨μ, ρ, h, rs, rh, p.bind.mono fun d h1 μ1 H1 s r q v dv => k d h1 μ1 H1 v s (rs.mono s) r dv q⟩
theorem rdT.go {K : PySem.W.Frag} {ma : MT} {β : Type} {f : Bool → Hh → Out β} {σ : L2.St} {H : Hp} {ρ : Rho} {h : Hh} {μ : List Addr} {R : β → Hh → List Addr → Hp → Prop} (rs : RelS K μ H ρ σ) (rh : RelH K μ H h) (p : PO K ct W σ μ H R ((ma ρ h).bind f))
    {Q : Bool → Hp → Prop} (k : ∀ d h1 μ1 H1, Step μ H μ1 H1 → RelS K μ1 H1 ρ σ → RelH K μ1 H1 h1 → PO K ct W σ μ1 H1 R (f d h1) → Q d H1) : rdT K ct W ma σ H Q :=
  ⟨μ, ρ, h, rs, rh, p.bind.mono fun d h1 μ1 H1 s r q => k d h1 μ1 H1 s (rs.mono s) r q⟩
/-- an end -/
theorem PO.at {K : PySem.W.Frag} {σ : L2.St} {α : Type} {μ : List Addr} {H : Hp} {R : α → Hh → List Addr → Hp → Prop} {a : α} {h : Hh} (rh : RelH K μ H h) (p : PO K ct W σ μ H R (.ok a h)) : R a h μ H := p μ H Step.refl rh

/-! ### names and constants -/
def mC (d : D) : ME := fun _ h => .ok d h
def mVar (i : Nat) : ME := fun ρ h => match ρ[i]? with
  | some (some d) => .ok d h
  | _ => .bad
theorem se_var (i : Nat) {x : Str} {pos : Pos} (hN : X.N[i]? = some x := by rfl) (hv : Vis X.env.scope x := by first | exact Or.inl rfl | exact Or.inr (Or.inl rfl) | exact Or.inr (Or.inr rfl)) (hd : (x == ("__debug__" : Str)) = false := by decide)
    (hcd : (x == ("__classdict__" : Str)) = false := by decide) : SE X ct W (.Name x pos) (mVar i) :=
  (pe_var hN hv hd hcd).imp fun σ H Q ⟨μ, ρ, h, rs, rh, p⟩ => by
    unfold mVar at p
    split at p
    · rename_i d e
      obtain ⟨v, e1, dv⟩ := rs.get i d e
      exact ⟨v, e1, p.at rh v dv⟩
    · exact p.elim
theorem se_c {e : Expr} {v : V} {d : D} (h : PE X e (tC v)) (hd : ∀ μ H, Den X.K μ H d v) : SE X ct W e (mC d) :=
  h.imp fun σ H Q ⟨μ, ρ, h, rs, rh, p⟩ => p.at rh v (hd μ H)
theorem se_int {i j pos} : SE X ct W (.Constant (.int i) j pos) (mC (.int i)) := se_c pe_int fun _ _ => rfl
theorem se_bl {i j pos} : SE X ct W (.Constant (.bool i) j pos) (mC (.bl i)) := se_c pe_bl fun _ _ => rfl
theorem se_non {j pos} : SE X ct W (.Constant .none j pos) (mC .non) := se_c pe_non fun _ _ => rfl
theorem se_str {i j pos} : SE X ct W (.Constant (.str i) j pos) (mC (.str i)) := se_c pe_str fun _ _ => rfl
/-- a module's constant -/
theorem se_glob {x : Str} {pos : Pos} {u : Value} {v : V} {d : D} (hg : Gl X x) (hm : X.mg x = some u) (r : RelV v u) (hd : ∀ μ H, Den X.K μ H d v) (hdb : (x == ("__debug__" : Str)) = false := by decide) : SE X ct W (.Name x pos) (mC d) :=
  se_c (pe_glob hg hm r hdb) hd

/-! ### argument lists -/
def mNil : MA := fun _ h => .ok [] h
def mCons (m : ME) (r : MA) : MA := fun ρ h => (m ρ h).bind fun d h1 => (r ρ h1).bind fun ds h2 => .ok (d :: ds) h2
theorem sa_nil : SA X ct W [] mNil := L2.PA.imp pa_nil fun σ H Q ⟨μ, ρ, h, rs, rh, p⟩ => p.at rh [] rfl
theorem sa_cons {e : Expr} {es : List Expr} {m : ME} {r : MA} (ha : SE X ct W e m) (hr : SA X ct W es r) (hs : starEach (e :: es) X.env = (false, eval e X.env) :: starEach es X.env := by rfl) : SA X ct W (e :: es) (mCons m r) :=
  L2.PA.imp (pa_cons ha hr hs) fun σ H Q ⟨μ, ρ, h, rs, rh, p⟩ => rdE.go rs rh p fun d h1 μ1 H1 v s1 rs1 rh1 dv p1 => rdA.go rs1 rh1 p1 fun ds h2 μ2 H2 vs s2 rs2 rh2 dvs p2 =>
    p2.at rh2 (v :: vs) ⟨v, vs, rfl, dv.mono s2, dvs⟩
/-! ### operators by values -/
def mOp (g : D → D → Hh → Option (D × Hh)) (ma mb : ME) : ME := fun ρ h => (ma ρ h).bind fun a h1 => (mb ρ h1).bind fun b h2 => Out.ofO (g a b h2)
def mUn (g : D → Hh → Option (D × Hh)) (ma : ME) : ME := fun ρ h => (ma ρ h).bind fun a h1 => Out.ofO (g a h1)
theorem op_go {g : D → D → Hh → Option (D × Hh)} {ma mb : ME} (σ : L2.St) (H : Hp) (Q : VK) (q : rdE X.K ct W (mOp g ma mb) σ H Q) : tOp (r2 X.K g) (rdE X.K ct W ma) (rdE X.K ct W mb) σ H Q := by
  obtain ⟨μ, ρ, h, rs, rh, p⟩ := q
  exact rdE.go rs rh p fun a h1 μ1 H1 v s1 rs1 rh1 da p1 => rdE.go rs1 rh1 p1 fun b h2 μ2 H2 w s2 rs2 rh2 db p2 => ⟨μ2, h2, a, b, da.mono s2, db, rh2, p2.ofO⟩
theorem un_go {g : D → Hh → Option (D × Hh)} {ma : ME} (σ : L2.St) (H : Hp) (Q : VK) (q : rdE X.K ct W (mUn g ma) σ H Q) : tUn (r1 X.K g) (rdE X.K ct W ma) σ H Q := by
  obtain ⟨μ, ρ, h, rs, rh, p⟩ := q
  exact rdE.go rs rh p fun a h1 μ1 H1 v s1 rs1 rh1 da p1 => ⟨μ1, h1, a, da, rh1, p1.ofO⟩
theorem se_op {a b : Expr} {op : Operator} {pos : Pos} {g : D → D → Hh → Option (D × Hh)} {ma mb : ME} (ho : OpR X (binaryOp op) (r2 X.K g)) (ha : SE X ct W a ma) (hb : SE X ct W b mb) : SE X ct W (.BinOp a op b pos) (mOp g ma mb) :=
  (pe_op ho ha hb).imp op_go
theorem se_un {a : Expr} {op : UnaryOp} {pos : Pos} {g : D → Hh → Option (D × Hh)} {ma : ME} (ho : UnR X (unaryOp op) (r1 X.K g)) (ha : SE X ct W a ma) : SE X ct W (.UnaryOp op a pos) (mUn g ma) :=
  (pe_un ho ha).imp un_go
theorem se_cmp {a b : Expr} {op : CmpOp} {pos : Pos} {g : D → D → Hh → Option (D × Hh)} {ma mb : ME} (ho : OpR X (compareOp op) (r2 X.K g)) (ha : SE X ct W a ma) (hb : SE X ct W b mb) (hm : behindInMarks op b = false) : SE X ct W (.Compare a [op] [b] pos) (mOp g ma mb) :=
  (pe_cmpR ho ha hb hm).imp op_go
theorem se_ix {a b : Expr} {pos : Pos} {g : D → D → Hh → Option (D × Hh)} {ma mb : ME} (ho : IxR X (r2 X.K g)) (ha : SE X ct W a ma) (hb : SE X ct W b mb) (hs : PlainIx b) : SE X ct W (.Subscript a b pos) (mOp g ma mb) :=
  (pe_ix ho ha hb hs).imp op_go
/-- a built-in by its name -/
def mB (g : List D → Hh → Option (D × Hh)) (ma : MA) : ME := fun ρ h => (ma ρ h).bind fun as h1 => Out.ofO (g as h1)
theorem b_go {g : List D → Hh → Option (D × Hh)} {ma : MA} (σ : L2.St) (H : Hp) (Q : VK) (q : rdE X.K ct W (mB g ma) σ H Q) : tCB (rN X.K g) (rdA X.K ct W ma) σ H Q := by
  obtain ⟨μ, ρ, h, rs, rh, p⟩ := q
  exact rdA.go rs rh p fun as h1 μ1 H1 v s1 rs1 rh1 da p1 => ⟨μ1, h1, as, da, rh1, p1.ofO⟩
theorem se_callB {id : String} {x : Str} {e : Expr} {es : List Expr} {p pos : Pos} {g : List D → Hh → Option (D × Hh)} {ma : MA} (hc : CallR X (.builtin id) (rN X.K g)) (hg : Gl X x) (hm : X.mg x = none) (hv : bootBuiltins x = some (.builtin id)) (ha : SA X ct W (e :: es) ma) (hn : x ≠ "__name__" := by decide) (hdb : (x == ("__debug__" : Str)) = false := by decide)
    (he : starEach (e :: es) X.env = (false, eval e X.env) :: starEach es X.env := by rfl) (hpl : (backTo pos (starEach es X.env)).any (·.1) = false := by rfl) : SE X ct W (.Call (.Name x p) (e :: es) [] pos) (mB g ma) :=
  (pe_callB hc hg hm hv ha hn hdb he hpl).imp b_go
theorem se_callTy {id : String} {x : Str} {e : Expr} {es : List Expr} {p pos : Pos} {g : List D → Hh → Option (D × Hh)} {ma : MA} (hc : CallR X (.type id) (rN X.K g)) (hg : Gl X x) (hm : X.mg x = none) (hv : bootBuiltins x = some (.type id)) (ha : SA X ct W (e :: es) ma) (hn : x ≠ "__name__" := by decide) (hdb : (x == ("__debug__" : Str)) = false := by decide)
    (he : starEach (e :: es) X.env = (false, eval e X.env) :: starEach es X.env := by rfl) (hpl : (backTo pos (starEach es X.env)).any (·.1) = false := by rfl) : SE X ct W (.Call (.Name x p) (e :: es) [] pos) (mB g ma) :=
  (pe_callTy hc hg hm hv ha hn hdb he hpl).imp b_go
theorem se_callFun {id : String} {x : Str} {e : Expr} {es : List Expr} {p pos : Pos} {g : List D → Hh → Option (D × Hh)} {ma : MA} (hc : CallR X (.builtin id) (rN X.K g)) (hg : Gl X x) (hm : X.mg x = some (.builtin id)) (ha : SA X ct W (e :: es) ma) (hdb : (x == ("__debug__" : Str)) = false := by decide)
    (he : starEach (e :: es) X.env = (false, eval e X.env) :: starEach es X.env := by rfl) (hpl : (backTo pos (starEach es X.env)).any (·.1) = false := by rfl) : SE X ct W (.Call (.Name x p) (e :: es) [] pos) (mB g ma) :=
  (pe_callBfun hc hg hm ha hdb he hpl).imp b_go
/-- a method of a built-in type -/
def mM (g : D → List D → Hh → Option (D × Hh)) (mo : ME) (ma : MA) : ME := fun ρ h => (mo ρ h).bind fun o h1 => (ma ρ h1).bind fun as h2 => Out.ofO (g o as h2)

/-! ### displays -/
def mTup (ma : MA) : ME := fun ρ h => (ma ρ h).bind fun as h1 => if as.length ≤ sizeLine then .ok (.tup as) h1 else .bad
def mLst (ma : MA) : ME := fun ρ h => (ma ρ h).bind fun as h1 => if as.length ≤ sizeLine then .ok (.ref h1.length) (h1 ++ [.lst as]) else .bad
def mDnew : ME := fun _ h => .ok (.ref h.length) (h ++ [.dct []])
theorem new_lst {K : PySem.W.Frag} {μ : List Addr} {H : Hp} {h : Hh} {as : List D} {vs : List V} (rh : RelH K μ H h) (dv : Dens K μ H as vs) {p : Addr} (hp : H p = none) :
    Step μ H (μ ++ [p]) (upd H p (.lst vs)) ∧ RelH K (μ ++ [p]) (upd H p (.lst vs)) (h ++ [.lst as]) ∧ Den K (μ ++ [p]) (upd H p (.lst vs)) (.ref h.length) (.ref p) := by
  have s : Step μ H (μ ++ [p]) (upd H p (.lst vs)) := Step.newT hp
  exact ⟨s, rh.push hp ⟨vs, upd_same, dv.mono s⟩, p, rfl, by rw [← rh.len]; simp⟩
theorem new_tup {K : PySem.W.Frag} {μ : List Addr} {H : Hp} {h : Hh} {as : List D} {vs : List V} (rh : RelH K μ H h) (dv : Dens K μ H as vs) {p : Addr} (hp : H p = none) :
    Step μ H μ (upd H p (.tup vs)) ∧ RelH K μ (upd H p (.tup vs)) h ∧ Den K μ (upd H p (.tup vs)) (.tup as) (.ref p) := by
  have s : Step μ H μ (upd H p (.tup vs)) := Step.new hp
  exact ⟨s, rh.new hp, p, vs, rfl, SqT.of upd_same, dv.mono s⟩
theorem se_tup {es : List Expr} {k : Nat} {pos : Pos} {ma : MA} (ha : SA X ct W es ma) : SE X ct W (.Tuple es k pos) (mTup ma) :=
  (pe_tup ha).imp fun σ H Q ⟨μ, ρ, h, rs, rh, p⟩ => rdA.go rs rh p fun as h1 μ1 H1 vs s1 rs1 rh1 dv p1 => by
    split at p1
    · rename_i hl
      refine ⟨by rw [dv.length]; exact hl, fun q hq => ?_⟩
      obtain ⟨s, r, d⟩ := new_tup rh1 dv hq
      exact p1 _ _ s r _ d
    · exact p1.elim
theorem se_lst {es : List Expr} {pos : Pos} {ma : MA} (ha : SA X ct W es ma) : SE X ct W (.List es pos) (mLst ma) :=
  (pe_lst ha).imp fun σ H Q ⟨μ, ρ, h, rs, rh, p⟩ => rdA.go rs rh p fun as h1 μ1 H1 vs s1 rs1 rh1 dv p1 => by
    split at p1
    · rename_i hl
      refine ⟨by rw [dv.length]; exact hl, fun q hq => ?_⟩
      obtain ⟨s, r, d⟩ := new_lst rh1 dv hq
      exact p1 _ _ s r _ d
    · exact p1.elim
theorem se_dnew {pos : Pos} : SE X ct W (.Dict [] [] pos) mDnew :=
  pe_dnewK.imp fun σ H Q ⟨μ, ρ, h, rs, rh, p⟩ q hq => by
    have s : Step μ H (μ ++ [q]) (upd H q (.dK [])) := Step.newT hq
    exact p _ _ s (rh.push hq ⟨[], upd_same, rfl, rfl⟩) _ ⟨q, rfl, by rw [← rh.len]; simp⟩

/-! ### tests, truth -/
def mTest (m : ME) : MT := fun ρ h => (m ρ h).bind fun d h1 => match d with
  | .bl b => .ok b h1
  | _ => .bad
theorem test_go {m : ME} (σ : L2.St) (H : Hp) (Q : Bool → Hp → Prop) (q : rdT X.K ct W (mTest m) σ H Q) : tTest (rdE X.K ct W m) σ H Q := by
  obtain ⟨μ, ρ, h, rs, rh, p⟩ := q
  refine rdE.go rs rh p fun d h1 μ1 H1 v s1 rs1 rh1 dv p1 => ?_
  split at p1
  · exact ⟨_, dv, p1.at rh1⟩
  · exact p1.elim
theorem st_cmp {a b : Expr} {op : CmpOp} {pos : Pos} {g : D → D → Hh → Option (D × Hh)} {ma mb : ME} (ho : OpR X (compareOp op) (r2 X.K g)) (ha : SE X ct W a ma) (hb : SE X ct W b mb) (hm : behindInMarks op b = false) : ST X ct W (.Compare a [op] [b] pos) (mTest (mOp g ma mb)) :=
  (pt_cmpR ho ha hb hm).imp fun σ H Q q => by
    obtain ⟨μ, ρ, h, rs, rh, p⟩ := test_go σ H Q q
    exact op_go σ H _ ⟨μ, ρ, h, rs, rh, p⟩
/-- an expression that gives True or False -/
theorem st_val {e : Expr} {m : ME} (he : SE X ct W e m) (h : ∀ {t : TE}, PE X e t → PT X e (tB t) := by exact fun h => pt_val h) : ST X ct W e (mTest m) :=
  (h he).imp fun σ H Q q => test_go σ H Q q
def mAnd (a b : MT) : MT := fun ρ h => (a ρ h).bind fun c h1 => if c = true then b ρ h1 else .ok false h1
def mOr (a b : MT) : MT := fun ρ h => (a ρ h).bind fun c h1 => if c = true then .ok true h1 else b ρ h1
def mNot (a : MT) : MT := fun ρ h => (a ρ h).bind fun c h1 => .ok (!c) h1
abbrev SW (X : Cx) (ct : Ctb) (W : WX) (e : Expr) (m : MT) : Prop := PW X e (rdT X.K ct W m)
theorem _root_.L2.PW.imp {e : Expr} {t t' : TT} (h : PW X e t) (i : ∀ σ H Q, t' σ H Q → t σ H Q) : PW X e t' := ⟨fun whole pins s σ H Q I q => h.run whole pins s σ H Q I (i σ H Q q)⟩
theorem sw_and1 {a : Expr} {m : MT} {pos : Pos} (h : ST X ct W a m) : SW X ct W (.BoolOp .And [a] pos) m := pw_and1 h
theorem sw_or1 {a : Expr} {m : MT} {pos : Pos} (h : ST X ct W a m) : SW X ct W (.BoolOp .Or [a] pos) m := pw_or1 h
theorem sw_and {a b : Expr} {rest : List Expr} {ma mb : MT} {pos : Pos} (ha : ST X ct W a ma) (hb : SW X ct W (.BoolOp .And (b :: rest) pos) mb) : SW X ct W (.BoolOp .And (a :: b :: rest) pos) (mAnd ma mb) :=
  (pw_and ha hb).imp fun σ H Q ⟨μ, ρ, h, rs, rh, p⟩ => rdT.go rs rh p fun c h1 μ1 H1 s1 rs1 rh1 p1 => by
    cases c with
    | true => exact ⟨μ1, ρ, h1, rs1, rh1, p1⟩
    | false => exact p1.at rh1
theorem sw_or {a b : Expr} {rest : List Expr} {ma mb : MT} {pos : Pos} (ha : ST X ct W a ma) (hb : SW X ct W (.BoolOp .Or (b :: rest) pos) mb) : SW X ct W (.BoolOp .Or (a :: b :: rest) pos) (mOr ma mb) :=
  (pw_or ha hb).imp fun σ H Q ⟨μ, ρ, h, rs, rh, p⟩ => rdT.go rs rh p fun c h1 μ1 H1 s1 rs1 rh1 p1 => by
    cases c with
    | true => exact p1.at rh1
    | false => exact ⟨μ1, ρ, h1, rs1, rh1, p1⟩
theorem st_w {e : Expr} {m : MT} (h : SW X ct W e m) : ST X ct W e m := PW.pt h
theorem st_not {a : Expr} {m : MT} {pos : Pos} (h : ST X ct W a m) : ST X ct W (.UnaryOp .Not a pos) (mNot m) :=
  (pt_not h).imp fun σ H Q ⟨μ, ρ, h, rs, rh, p⟩ => rdT.go rs rh p fun c h1 μ1 H1 s1 rs1 rh1 p1 => p1.at rh1
/-- and, or, not as values, all but the last True or False -/
def mAndV (a b : ME) : ME := fun ρ h => (mTest a ρ h).bind fun c h1 => if c = true then b ρ h1 else .ok (.bl false) h1
def mOrV (a b : ME) : ME := fun ρ h => (mTest a ρ h).bind fun c h1 => if c = true then .ok (.bl true) h1 else b ρ h1
def mNotV (a : ME) : ME := fun ρ h => (mTest a ρ h).bind fun c h1 => .ok (.bl (!c)) h1
theorem bool_go {K : PySem.W.Frag} {ma : ME} {β : Type} {f : Bool → Hh → Out β} {σ : L2.St} {H : Hp} {ρ : Rho} {h : Hh} {μ : List Addr} {R : β → Hh → List Addr → Hp → Prop} (rs : RelS K μ H ρ σ) (rh : RelH K μ H h) (p : PO K ct W σ μ H R ((mTest ma ρ h).bind f))
    {Q : VK} (k : ∀ c h1 μ1 H1, Step μ H μ1 H1 → RelS K μ1 H1 ρ σ → RelH K μ1 H1 h1 → PO K ct W σ μ1 H1 R (f c h1) → Q (.bl c) H1) : rdE K ct W ma σ H Q := by
  have p' : PO K ct W σ μ H R ((ma ρ h).bind fun d h1 => (match d with | .bl b => Out.ok b h1 | _ => .bad : Out Bool).bind f) := by
    unfold mTest at p
    cases e : ma ρ h with
    | ok d h1 => rw [e] at p; exact p
    | err x h1 => rw [e] at p; exact p
    | bad => rw [e] at p; exact p
  refine rdE.go rs rh p' fun d h1 μ1 H1 v s1 rs1 rh1 dv p1 => ?_
  cases d with
  | bl b =>
    have dv : v = .bl b := dv
    subst dv
    exact k b h1 μ1 H1 s1 rs1 rh1 p1
  | _ => exact p1.elim
theorem se_and1 {a : Expr} {m : ME} {op : BoolOp} {pos : Pos} (h : SE X ct W a m) : SE X ct W (.BoolOp op [a] pos) m := pe_one h
theorem se_and {a b : Expr} {rest : List Expr} {ma mb : ME} {pos : Pos} (ha : SE X ct W a ma) (hb : SE X ct W (.BoolOp .And (b :: rest) pos) mb) : SE X ct W (.BoolOp .And (a :: b :: rest) pos) (mAndV ma mb) :=
  (pe_and ha hb).imp fun σ H Q ⟨μ, ρ, h, rs, rh, p⟩ => bool_go rs rh p fun c h1 μ1 H1 s1 rs1 rh1 p1 => ⟨c, rfl, by
    cases c with
    | true => exact ⟨μ1, ρ, h1, rs1, rh1, p1⟩
    | false => exact p1.at rh1 _ rfl⟩
theorem se_or {a b : Expr} {rest : List Expr} {ma mb : ME} {pos : Pos} (ha : SE X ct W a ma) (hb : SE X ct W (.BoolOp .Or (b :: rest) pos) mb) : SE X ct W (.BoolOp .Or (a :: b :: rest) pos) (mOrV ma mb) :=
  (pe_or ha hb).imp fun σ H Q ⟨μ, ρ, h, rs, rh, p⟩ => bool_go rs rh p fun c h1 μ1 H1 s1 rs1 rh1 p1 => ⟨c, rfl, by
    cases c with
    | true => exact p1.at rh1 _ rfl
    | false => exact ⟨μ1, ρ, h1, rs1, rh1, p1⟩⟩
theorem se_not {a : Expr} {m : ME} {pos : Pos} (h : SE X ct W a m) : SE X ct W (.UnaryOp .Not a pos) (mNotV m) :=
  (pe_not h).imp fun σ H Q ⟨μ, ρ, h, rs, rh, p⟩ => bool_go rs rh p fun c h1 μ1 H1 s1 rs1 rh1 p1 => ⟨c, rfl, p1.at rh1 _ rfl⟩
def mIf (t : MT) (a b : ME) : ME := fun ρ h => (t ρ h).bind fun c h1 => if c = true then a ρ h1 else b ρ h1
theorem se_if {t a b : Expr} {mt : MT} {ma mb : ME} {pos : Pos} (ht : ST X ct W t mt) (ha : SE X ct W a ma) (hb : SE X ct W b mb) : SE X ct W (.IfExp t a b pos) (mIf mt ma mb) :=
  (pe_ifExp ht ha hb).imp fun σ H Q ⟨μ, ρ, h, rs, rh, p⟩ => rdT.go rs rh p fun c h1 μ1 H1 s1 rs1 rh1 p1 => by
    cases c with
    | true => exact ⟨μ1, ρ, h1, rs1, rh1, p1⟩
    | false => exact ⟨μ1, ρ, h1, rs1, rh1, p1⟩
/-- a < b < c -/
def mChain (g g' : D → D → Hh → Option (D × Hh)) (ma mb mc : ME) : ME := fun ρ h => (ma ρ h).bind fun a h1 => (mb ρ h1).bind fun b h2 => (Out.ofO (g a b h2)).bind fun r h3 => match r with
  | .bl true => (mc ρ h3).bind fun c h4 => Out.ofO (g' b c h4)
  | .bl false => .ok (.bl false) h3
  | _ => .bad
theorem chain_go {g g' : D → D → Hh → Option (D × Hh)} {ma mb mc : ME} (σ : L2.St) (H : Hp) (Q : VK) (q : rdE X.K ct W (mChain g g' ma mb mc) σ H Q) : tChain (r2 X.K g) (r2 X.K g') (rdE X.K ct W ma) (rdE X.K ct W mb) (rdE X.K ct W mc) σ H Q := by
  obtain ⟨μ, ρ, h, rs, rh, p⟩ := q
  refine rdE.go rs rh p fun a h1 μ1 H1 v s1 rs1 rh1 da p1 => rdE.go rs1 rh1 p1 fun b h2 μ2 H2 w s2 rs2 rh2 db p2 => ⟨μ2, h2, a, b, da.mono s2, db, rh2, p2.bind.ofO.mono fun r h3 μ3 H3 s3 rh3 p3 z dz => ?_⟩
  have rs3 := rs2.mono s3
  split at p3
  · refine ⟨true, dz, ?_⟩
    rw [if_pos rfl]
    exact rdE.go rs3 rh3 p3 fun c h4 μ4 H4 w4 s4 rs4 rh4 dc p4 => ⟨μ4, h4, b, c, (db.mono s3).mono s4, dc, rh4, p4.ofO⟩
  · refine ⟨false, dz, ?_⟩
    rw [if_neg Bool.false_ne_true]
    exact p3.at rh3 _ rfl
  · exact p3.elim
theorem se_chain {a b c : Expr} {op op' : CmpOp} {pos : Pos} {g g' : D → D → Hh → Option (D × Hh)} {ma mb mc : ME} (ho : OpR X (compareOp op) (r2 X.K g)) (ho' : OpR X (compareOp op') (r2 X.K g')) (ha : SE X ct W a ma) (hb : SE X ct W b mb) (hc : SE X ct W c mc) (hm : lastMarks [op, op'] [b, c] = false := by rfl) :
    SE X ct W (.Compare a [op, op'] [b, c] pos) (mChain g g' ma mb mc) := (pe_chain ho ho' ha hb hc hm).imp chain_go
theorem st_chain {a b c : Expr} {op op' : CmpOp} {pos : Pos} {g g' : D → D → Hh → Option (D × Hh)} {ma mb mc : ME} (ho : OpR X (compareOp op) (r2 X.K g)) (ho' : OpR X (compareOp op') (r2 X.K g')) (ha : SE X ct W a ma) (hb : SE X ct W b mb) (hc : SE X ct W c mc) (hm : lastMarks [op, op'] [b, c] = false := by rfl) :
    ST X ct W (.Compare a [op, op'] [b, c] pos) (mTest (mChain g g' ma mb mc)) := (pt_chain ho ho' ha hb hc hm).imp fun σ H Q q => by
    obtain ⟨μ, ρ, h, rs, rh, p⟩ := test_go σ H Q q
    exact chain_go σ H _ ⟨μ, ρ, h, rs, rh, p⟩
end
end PI
/-! Statements, loops, calls of defs, exceptions. -/
namespace PI
open PySem PySem.Spec L2
open PyProof.Rows hiding St

/-- what follows a statement's mirror -/
def PSt (K : PySem.W.Frag) (ct : Ctb) (W : WX) (μ : List Addr) (H : Hp) (D : Ends) : OutS → Prop
  | .nx ρ' h' => ∀ μ' H' σ', Step μ H μ' H' → RelH K μ' H' h' → RelS K μ' H' ρ' σ' → D.nx σ' H'
  | .bk ρ' h' => ∀ μ' H' σ', Step μ H μ' H' → RelH K μ' H' h' → RelS K μ' H' ρ' σ' → D.bk σ' H'
  | .ct ρ' h' => ∀ μ' H' σ', Step μ H μ' H' → RelH K μ' H' h' → RelS K μ' H' ρ' σ' → D.ct σ' H'
  | .rt d h' => ∀ μ' H' v, Step μ H μ' H' → RelH K μ' H' h' → Den K μ' H' d v → D.rt v H'
  | .er x ρ' h' => ∀ μ' H' σ' cls d, Step μ H μ' H' → RelH K μ' H' h' → RelS K μ' H' ρ' σ' → ExcR K ct μ' H' x cls d → W cls d σ' H'
  | .bad => False
section
variable {K : PySem.W.Frag} {ct : Ctb} {W : WX} {μ μ1 : List Addr} {H H1 : Hp} {D D' : Ends} {o : OutS}
theorem PSt.step (s : Step μ H μ1 H1) (p : PSt K ct W μ H D o) : PSt K ct W μ1 H1 D o := by
  cases o with
  | nx ρ h => exact fun μ' H' σ' s' => p μ' H' σ' (s.trans s')
  | bk ρ h => exact fun μ' H' σ' s' => p μ' H' σ' (s.trans s')
  | ct ρ h => exact fun μ' H' σ' s' => p μ' H' σ' (s.trans s')
  | rt d h => exact fun μ' H' σ' s' => p μ' H' σ' (s.trans s')
  | er x ρ h => exact fun μ' H' σ' c d s' => p μ' H' σ' c d (s.trans s')
  | bad => exact p
theorem rdS_def {m : MS} {σ : L2.St} : rdS K ct W m D σ H ↔ ∃ μ ρ h, RelS K μ H ρ σ ∧ RelH K μ H h ∧ PSt K ct W μ H D (m ρ h) := by
  unfold rdS PSt
  exact Iff.rfl
end
def Out.bindS {α : Type} (o : Out α) (ρ : Rho) (f : α → Hh → OutS) : OutS := match o with
  | .ok a h => f a h
  | .err x h => .er x ρ h
  | .bad => .bad
def OutS.seq (o : OutS) (f : Rho → Hh → OutS) : OutS := match o with
  | .nx ρ h => f ρ h
  | o => o
@[simp] theorem Out.bindS_ok {α : Type} {a : α} {h : Hh} {ρ : Rho} {f : α → Hh → OutS} : (Out.ok a h).bindS ρ f = f a h := rfl
@[simp] theorem Out.bindS_err {α : Type} {x : Exn} {h : Hh} {ρ : Rho} {f : α → Hh → OutS} : (Out.err x h : Out α).bindS ρ f = .er x ρ h := rfl
@[simp] theorem Out.bindS_bad {α : Type} {ρ : Rho} {f : α → Hh → OutS} : (Out.bad : Out α).bindS ρ f = .bad := rfl
@[simp] theorem OutS.seq_nx {ρ : Rho} {h : Hh} {f : Rho → Hh → OutS} : (OutS.nx ρ h).seq f = f ρ h := rfl
@[simp] theorem OutS.seq_rt {d : D} {h : Hh} {f : Rho → Hh → OutS} : (OutS.rt d h).seq f = .rt d h := rfl
@[simp] theorem OutS.seq_bk {ρ : Rho} {h : Hh} {f : Rho → Hh → OutS} : (OutS.bk ρ h).seq f = .bk ρ h := rfl
@[simp] theorem OutS.seq_ct {ρ : Rho} {h : Hh} {f : Rho → Hh → OutS} : (OutS.ct ρ h).seq f = .ct ρ h := rfl
@[simp] theorem OutS.seq_er {x : Exn} {ρ : Rho} {h : Hh} {f : Rho → Hh → OutS} : (OutS.er x ρ h).seq f = .er x ρ h := rfl
@[simp] theorem OutS.seq_bad {f : Rho → Hh → OutS} : (OutS.bad).seq f = .bad := rfl

section
variable {X : Cx} {ct : Ctb} {W : WX}
theorem PSt.bindS {K : PySem.W.Frag} {α : Type} {o : Out α} {ρ : Rho} {f : α → Hh → OutS} {μ : List Addr} {H : Hp} {D : Ends} {σ : L2.St} (rs : RelS K μ H ρ σ) (p : PSt K ct W μ H D (o.bindS ρ f)) :
    PO K ct W σ μ H (fun a h1 μ1 H1 => PSt K ct W μ1 H1 D (f a h1)) o := by
  cases o with
  | ok a h => exact fun μ' H' s' r => PSt.step s' (show PSt K ct W μ H D (f a h) from p)
  | err x h => exact fun μ' H' c d s r e => p μ' H' σ c d s r (rs.mono s) e
  | bad => exact p
theorem rdE.goS {K : PySem.W.Frag} {ma : ME} {f : D → Hh → OutS} {σ : L2.St} {H : Hp} {ρ : Rho} {h : Hh} {μ : List Addr} {D : Ends} (rs : RelS K μ H ρ σ) (rh : RelH K μ H h) (p : PSt K ct W μ H D ((ma ρ h).bindS ρ f))
    {Q : VK} (k : ∀ d h1 μ1 H1 v, Step μ H μ1 H1 → RelS K μ1 H1 ρ σ → RelH K μ1 H1 h1 → Den K μ1 H1 d v → PSt K ct W μ1 H1 D (f d h1) → Q v H1) : rdE K ct W ma σ H Q :=
  ⟨μ, ρ, h, rs, rh, (PSt.bindS rs p).mono fun d h1 μ1 H1 s r q v dv => k d h1 μ1 H1 v s (rs.mono s) r dv q⟩
theorem rdA.goS {K : PySem.W.Frag} {ma : MA} {f : List D → Hh → OutS} {σ : L2.St} {H : Hp} {ρ : Rho} {h : Hh} {μ : List Addr} {D : Ends} (rs : RelS K μ H ρ σ) (rh : RelH K μ H h) (p : PSt K ct W μ H D ((ma ρ h).bindS ρ f))
    {Q : List V → Hp → Prop} (k : ∀ d h1 μ1 H1 v, Step μ H μ1 H1 → RelS K μ1 H1 ρ σ → RelH K μ1 H1 h1 → Dens K μ1 H1 d v → PSt K ct W μ1 H1 D (f d h1) → Q v H1) : rdA K ct W ma σ H Q :=
  ⟨μ, ρ, h, rs, rh, (PSt.bindS rs p).mono fun d h1 μ1 H1 s r q v dv => k d h1 μ1 H1 v s (rs.mono s) r dv q⟩
theorem rdT.goS {K : PySem.W.Frag} {ma : MT} {f : Bool → Hh → OutS} {σ : L2.St} {H : Hp} {ρ : Rho} {h : Hh} {μ : List Addr} {D : Ends} (rs : RelS K μ H ρ σ) (rh : RelH K μ H h) (p : PSt K ct W μ H D ((ma ρ h).bindS ρ f))
    {Q : Bool → Hp → Prop} (k : ∀ d h1 μ1 H1, Step μ H μ1 H1 → RelS K μ1 H1 ρ σ → RelH K μ1 H1 h1 → PSt K ct W μ1 H1 D (f d h1) → Q d H1) : rdT K ct W ma σ H Q :=
  ⟨μ, ρ, h, rs, rh, (PSt.bindS rs p).mono fun d h1 μ1 H1 s r q => k d h1 μ1 H1 s (rs.mono s) r q⟩

/-! ### blocks -/
def mNx : MS := fun ρ h => .nx ρ h
def mSeq (a b : MS) : MS := fun ρ h => (a ρ h).seq b
theorem sss_nil : SSs X ct W [] mNx := ⟨fun pins s σ H D I ⟨μ, ρ, h, rs, rh, p⟩ => wpAny_execs_nil ⟨σ, H, I, p μ H σ Step.refl rh rs⟩⟩
theorem seq_go {K : PySem.W.Frag} {a b : MS} {D : Ends} {σ : L2.St} {H : Hp} (q : rdS K ct W (mSeq a b) D σ H) : rdS K ct W a { D with nx := rdS K ct W b D } σ H := by
  obtain ⟨μ, ρ, h, rs, rh, p⟩ := q
  refine ⟨μ, ρ, h, rs, rh, ?_⟩
  have p : PSt K ct W μ H D ((a ρ h).seq b) := p
  cases e : a ρ h with
  | nx ρ' h' =>
    rw [e] at p
    exact fun μ' H' σ' s r rs' => ⟨μ', ρ', h', rs', r, PSt.step s p⟩
  | bk ρ' h' => rw [e] at p; exact p
  | ct ρ' h' => rw [e] at p; exact p
  | rt d h' => rw [e] at p; exact p
  | er x ρ' h' => rw [e] at p; exact p
  | bad => rw [e] at p; exact p
theorem sss_cons {s : Stmt} {r : List Stmt} {a b : MS} (h1 : SS X ct W s a) (h2 : SSs X ct W r b) : SSs X ct W (s :: r) (mSeq a b) :=
  L2.PSs.imp (pss_cons h1 h2) fun D σ H q => seq_go q
theorem sss_one {s : Stmt} {a : MS} (h1 : SS X ct W s a) : SSs X ct W [s] a :=
  L2.PSs.imp (pss_one h1) fun D σ H q => q
theorem ss_pass {pos : Pos} : SS X ct W (.Pass pos) mNx := ps_pass.imp fun D σ H ⟨μ, ρ, h, rs, rh, p⟩ => p μ H σ Step.refl rh rs
theorem ss_break {pos : Pos} : SS X ct W (.Break pos) (fun ρ h => .bk ρ h) := ps_break.imp fun D σ H ⟨μ, ρ, h, rs, rh, p⟩ => p μ H σ Step.refl rh rs
theorem ss_continue {pos : Pos} : SS X ct W (.Continue pos) (fun ρ h => .ct ρ h) := ps_continue.imp fun D σ H ⟨μ, ρ, h, rs, rh, p⟩ => p μ H σ Step.refl rh rs
def mRet (m : ME) : MS := fun ρ h => (m ρ h).bindS ρ fun d h1 => .rt d h1
theorem ss_ret {e : Expr} {m : ME} {pos : Pos} (he : SE X ct W e m) : SS X ct W (.Return (some e) pos) (mRet m) :=
  (ps_ret he).imp fun D σ H ⟨μ, ρ, h, rs, rh, p⟩ => rdE.goS rs rh p fun d h1 μ1 H1 v s1 rs1 rh1 dv p1 => p1 μ1 H1 v Step.refl rh1 dv
def mRetN : MS := fun _ h => .rt .non h
theorem ss_retN {pos : Pos} : SS X ct W (.Return none pos) mRetN := ps_retN.imp fun D σ H ⟨μ, ρ, h, rs, rh, p⟩ => p μ H .non Step.refl rh rfl
def mDrop (m : ME) : MS := fun ρ h => (m ρ h).bindS ρ fun _ h1 => .nx ρ h1
theorem ss_expr {e : Expr} {m : ME} {pos : Pos} (he : SE X ct W e m) (hs : swapsWith e none pos.line X.env = pure false := by rfl) : SS X ct W (.Expr e pos) (mDrop m) :=
  (ps_expr he hs).imp fun D σ H ⟨μ, ρ, h, rs, rh, p⟩ => rdE.goS rs rh p fun d h1 μ1 H1 v s1 rs1 rh1 dv p1 => p1 μ1 H1 σ Step.refl rh1 rs1
def mIfS (t : MT) (a b : MS) : MS := fun ρ h => (t ρ h).bindS ρ fun c h1 => if c = true then a ρ h1 else b ρ h1
theorem ss_if {t : Expr} {a b : List Stmt} {mt : MT} {ma mb : MS} {pos : Pos} (ht : ST X ct W t mt) (ha : SSs X ct W a ma) (hb : SSs X ct W b mb) : SS X ct W (.If t a b pos) (mIfS mt ma mb) :=
  (ps_if ht ha hb).imp fun D σ H ⟨μ, ρ, h, rs, rh, p⟩ => rdT.goS rs rh p fun c h1 μ1 H1 s1 rs1 rh1 p1 => by
    cases c with
    | true => exact ⟨μ1, ρ, h1, rs1, rh1, p1⟩
    | false => exact ⟨μ1, ρ, h1, rs1, rh1, p1⟩

/-! ### targets: a value stored -/
abbrev MG := D → Rho → Hh → Option (Rho × Hh)
def rdG (K : PySem.W.Frag) (m : MG) : TG := fun v σ H Q => ∃ μ ρ h d, RelS K μ H ρ σ ∧ RelH K μ H h ∧ Den K μ H d v ∧ match m d ρ h with
  | some (ρ', h') => ∀ μ' H' σ', Step μ H μ' H' → RelH K μ' H' h' → RelS K μ' H' ρ' σ' → Q σ' H'
  | none => False
abbrev MGs := List D → Rho → Hh → Option (Rho × Hh)
def rdGs (K : PySem.W.Frag) (m : MGs) : TGs := fun vs σ H Q => ∃ μ ρ h ds, RelS K μ H ρ σ ∧ RelH K μ H h ∧ Dens K μ H ds vs ∧ match m ds ρ h with
  | some (ρ', h') => ∀ μ' H' σ', Step μ H μ' H' → RelH K μ' H' h' → RelS K μ' H' ρ' σ' → Q σ' H'
  | none => False
abbrev SG (X : Cx) (tg : Expr) (m : MG) : Prop := PG X tg (rdG X.K m)
abbrev SGs (X : Cx) (tg : List Expr) (m : MGs) : Prop := PGs X tg (rdGs X.K m)
theorem _root_.L2.PG.imp {e : Expr} {t t' : TG} (h : PG X e t) (i : ∀ v σ H Q, t' v σ H Q → t v σ H Q) : PG X e t' := ⟨fun pins s σ H v u Q I r q => h.run pins s σ H v u Q I r (i v σ H Q q)⟩
theorem _root_.L2.PGs.imp {e : List Expr} {t t' : TGs} (h : PGs X e t) (i : ∀ v σ H Q, t' v σ H Q → t v σ H Q) : PGs X e t' := ⟨fun pins s σ H v u Q I r q => h.run pins s σ H v u Q I r (i v σ H Q q)⟩
def gmName (i : Nat) : MG := fun d ρ h => some (ρ.set i (some d), h)
theorem sg_name {i : Nat} {x : Str} {pos : Pos} (hN : X.N.Nodup) (hi : X.N[i]? = some x) (hx : Loc X.env.scope x) (hf : X.fn x = true ∨ X.env.scope.names.lookup x = some .local := by first | exact .inl rfl | exact .inr rfl | assumption) : SG X (.Name x pos) (gmName i) :=
  (pg_name hN hi hx hf).imp fun v σ H Q ⟨μ, ρ, h, d, rs, rh, dv, p⟩ => p μ H _ Step.refl rh (rs.set dv)
def gmNil : MGs := fun ds ρ h => match ds with
  | [] => some (ρ, h)
  | _ => none
def gmCons (a : MG) (b : MGs) : MGs := fun ds ρ h => match ds with
  | d :: r => (a d ρ h).bind fun p => b r p.1 p.2
  | [] => none
theorem sgs_nil : SGs X [] gmNil := pgs_nil.imp fun vs σ H Q ⟨μ, ρ, h, ds, rs, rh, dv, p⟩ => by
  cases ds with
  | nil =>
    have dv : vs = [] := dv
    exact ⟨dv, p μ H σ Step.refl rh rs⟩
  | cons d r => exact p.elim
theorem sgs_cons {e : Expr} {es : List Expr} {a : MG} {b : MGs} (h1 : SG X e a) (h2 : SGs X es b) (hs : (assignEach (e :: es) X.env).map (·.2) = assign e X.env :: (assignEach es X.env).map (·.2) := by rfl) : SGs X (e :: es) (gmCons a b) :=
  (pgs_cons h1 h2 hs).imp fun vs σ H Q ⟨μ, ρ, h, ds, rs, rh, dv, p⟩ => by
    cases ds with
    | nil => exact p.elim
    | cons d r =>
      obtain ⟨v, vr, e, q1, q2⟩ := dv
      refine ⟨v, vr, e, μ, ρ, h, d, rs, rh, q1, ?_⟩
      have p : (match (a d ρ h).bind fun p => b r p.1 p.2 with
        | some (ρ', h') => ∀ μ' H' σ', Step μ H μ' H' → RelH X.K μ' H' h' → RelS X.K μ' H' ρ' σ' → Q σ' H'
        | none => False) := p
      cases ea : a d ρ h with
      | none => rw [ea] at p; exact p.elim
      | some z =>
        obtain ⟨ρ1, h1⟩ := z
        rw [ea] at p
        intro μ1 H1 σ1 s1 rh1 rs1
        refine ⟨μ1, ρ1, h1, r, rs1, rh1, q2.mono s1, ?_⟩
        have p : (match b r ρ1 h1 with
          | some (ρ', h') => ∀ μ' H' σ', Step μ H μ' H' → RelH X.K μ' H' h' → RelS X.K μ' H' ρ' σ' → Q σ' H'
          | none => False) := p
        cases eb : b r ρ1 h1 with
        | none => rw [eb] at p; exact p.elim
        | some z =>
          obtain ⟨ρ2, h2⟩ := z
          rw [eb] at p
          exact fun μ2 H2 σ2 s2 => p μ2 H2 σ2 (s1.trans s2)
/-- a, b, .. = a tuple -/
def gmTup (n : Nat) (m : MGs) : MG := fun d ρ h => match d with
  | .tup ds => if ds.length = n then m ds ρ h else none
  | _ => none
theorem sg_tup {es : List Expr} {k : Nat} {m : MGs} {n : Nat} {pos : Pos} (hc : X.calm = true) (h : SGs X es m)
    (hn : (assignEach es X.env).length = n := by rfl) (hst : (assignEach es X.env).findIdx? (·.1) = none := by rfl) : SG X (.Tuple es k pos) (gmTup n m) :=
  (pg_tup hc h hn hst).imp fun v σ H Q ⟨μ, ρ, h, d, rs, rh, dv, p⟩ => by
    cases d with
    | tup ds =>
      obtain ⟨a, vs, e, q, r⟩ := dv
      by_cases hl : ds.length = n
      · have p : (match (if ds.length = n then m ds ρ h else none) with
          | some (ρ', h') => ∀ μ' H' σ', Step μ H μ' H' → RelH X.K μ' H' h' → RelS X.K μ' H' ρ' σ' → Q σ' H'
          | none => False) := p
        rw [if_pos hl] at p
        exact ⟨a, vs, e, q, by rw [r.length]; exact hl, μ, ρ, h, ds, rs, rh, r, p⟩
      · have p : (match (if ds.length = n then m ds ρ h else none) with
          | some (ρ', h') => ∀ μ' H' σ', Step μ H μ' H' → RelH X.K μ' H' h' → RelS X.K μ' H' ρ' σ' → Q σ' H'
          | none => False) := p
        rw [if_neg hl] at p
        exact p.elim
    | _ => exact p.elim
/-- target = value -/
def mAsg (m : ME) (g : MG) : MS := fun ρ h => (m ρ h).bindS ρ fun d h1 => match g d ρ h1 with
  | some (ρ', h') => .nx ρ' h'
  | none => .bad
theorem asg_go {m : ME} {g : MG} {D : Ends} {σ : L2.St} {H : Hp} (q : rdS X.K ct W (mAsg m g) D σ H) : tAsg (rdE X.K ct W m) (rdG X.K g) D σ H := by
  obtain ⟨μ, ρ, h, rs, rh, p⟩ := q
  refine rdE.goS rs rh p fun d h1 μ1 H1 v s1 rs1 rh1 dv p1 => ⟨μ1, ρ, h1, d, rs1, rh1, dv, ?_⟩
  cases e : g d ρ h1 with
  | none =>
    have p1 : PSt X.K ct W μ1 H1 D (match g d ρ h1 with | some (ρ', h') => .nx ρ' h' | none => .bad) := p1
    rw [e] at p1
    exact p1.elim
  | some z =>
    have p1 : PSt X.K ct W μ1 H1 D (match g d ρ h1 with | some (ρ', h') => .nx ρ' h' | none => .bad) := p1
    rw [e] at p1
    exact p1
theorem ss_asg {tg e : Expr} {m : ME} {g : MG} {pos : Pos} (he : SE X ct W e m) (hg : SG X tg g) (hs : swapsWithSole [tg] e pos.line X.env = pure false := by rfl) (hw : swappedStores [tg] e X.env = pure none := by rfl)
    (h1 : (assignEach [tg] X.env).map (·.2) = [assign tg X.env] := by rfl) : SS X ct W (.Assign [tg] e pos) (mAsg m g) :=
  (ps_asg he hg hs hw h1).imp fun D σ H q => asg_go q
def mSet (i : Nat) (m : ME) : MS := fun ρ h => (m ρ h).bindS ρ fun d h1 => .nx (ρ.set i (some d)) h1
theorem ss_set {i : Nat} {x : Str} {e : Expr} {m : ME} {pos pos' : Pos} (hN : X.N.Nodup) (hi : X.N[i]? = some x) (hx : Loc X.env.scope x) (he : SE X ct W e m) (hs : swapsWith e (some (.Name x pos')) pos.line X.env = pure false := by rfl) (hf : X.fn x = true ∨ X.env.scope.names.lookup x = some .local := by first | exact .inl rfl | exact .inr rfl | assumption) :
    SS X ct W (.Assign [.Name x pos'] e pos) (mSet i m) :=
  (ps_set hN hi hx he hs hf).imp fun D σ H ⟨μ, ρ, h, rs, rh, p⟩ => rdE.goS rs rh p fun d h1 μ1 H1 v s1 rs1 rh1 dv p1 => p1 μ1 H1 _ Step.refl rh1 (rs1.set dv)
/-- a, b = x, y -/
def mPar (i j : Nat) (ma : MA) : MS := fun ρ h => (ma ρ h).bindS ρ fun ds h1 => match ds with
  | [d, e] => .nx ((ρ.set i (some d)).set j (some e)) h1
  | _ => .bad
theorem ss_par {i j : Nat} {x y : Str} {a b : Expr} {ma : MA} {px py pt pos : Pos} {kt k2 pt2} (hc : X.calm = true) (hN : X.N.Nodup) (hi : X.N[i]? = some x) (hj : X.N[j]? = some y) (hij : i ≠ j)
    (hx : X.env.scope.names.lookup x = some .local) (hy : X.env.scope.names.lookup y = some .local) (ha : SA X ct W [a, b] ma)
    (hw : swappedStores [.Tuple [.Name x px, .Name y py] kt pt] (.Tuple [a, b] k2 pt2) X.env = pure (some [x, y]))
    (hs : swapsWithSole [.Tuple [.Name x px, .Name y py] kt pt] (.Tuple [a, b] k2 pt2) pos.line X.env = pure false := by rfl) :
    SS X ct W (.Assign [.Tuple [.Name x px, .Name y py] kt pt] (.Tuple [a, b] k2 pt2) pos) (mPar i j ma) :=
  (ps_par hc hN hi hj hij hx hy ha hw hs).imp fun D σ H ⟨μ, ρ, h, rs, rh, p⟩ => rdA.goS rs rh p fun ds h1 μ1 H1 vs s1 rs1 rh1 dv p1 => by
    split at p1
    · obtain ⟨v, vr, rfl, q1, w, wr, rfl, q2, q3⟩ := dv
      have q3 : wr = [] := q3
      subst q3
      exact ⟨v, w, rfl, p1 μ1 H1 _ Step.refl rh1 ((rs1.set q1).set q2)⟩
    · exact p1.elim
/-- name op= e -/
def mAug (i : Nat) (g : D → D → Hh → Option (D × Hh)) (m : ME) : MS := fun ρ h => match ρ[i]? with
  | some (some x) => (m ρ h).bindS ρ fun y h1 => (Out.ofO (g x y h1)).bindS ρ fun z h2 => .nx (ρ.set i (some z)) h2
  | _ => .bad
theorem ss_aug {i : Nat} {x : Str} {e : Expr} {m : ME} {op : Operator} {g : D → D → Hh → Option (D × Hh)} {pos pos' : Pos} (hN : X.N.Nodup) (hi : X.N[i]? = some x) (hx : Loc X.env.scope x) (he : SE X ct W e m) (ho : PIp X op (r2 X.K g)) (hf : X.fn x = true ∨ X.env.scope.names.lookup x = some .local := by first | exact .inl rfl | exact .inr rfl | assumption) :
    SS X ct W (.AugAssign (.Name x pos') op e pos) (mAug i g m) :=
  (ps_aug hN hi hx he ho hf).imp fun D σ H ⟨μ, ρ, h, rs, rh, p⟩ => by
    have p : PSt X.K ct W μ H D (mAug i g m ρ h) := p
    unfold mAug at p
    split at p
    · rename_i d ed
      obtain ⟨v, e1, dv⟩ := rs.get i d ed
      exact ⟨v, e1, rdE.goS rs rh p fun y h1 μ1 H1 w s1 rs1 rh1 dy p1 => ⟨μ1, h1, d, y, dv.mono s1, dy, rh1, (PSt.bindS (W := W) rs1 p1).ofO.mono fun z h2 μ2 H2 s2 rh2 p2 u du => p2 μ2 H2 _ Step.refl rh2 ((rs1.mono s2).set du)⟩⟩
    · exact p.elim

/-! ### while -/
def whileL (c : MT) (b : MS) : Nat → MS
  | 0, _, _ => .bad
  | n + 1, ρ, h => (c ρ h).bindS ρ fun t h1 => if t = true then
      match b ρ h1 with
      | .nx ρ' h' => whileL c b n ρ' h'
      | .ct ρ' h' => whileL c b n ρ' h'
      | .bk ρ' h' => .nx ρ' h'
      | .rt d h' => .rt d h'
      | .er x ρ' h' => .er x ρ' h'
      | .bad => .bad
    else .nx ρ h1
theorem ss_while {c : Expr} {body : List Stmt} {pos : Pos} {mc : MT} {mb : MS} (n : Rho → Hh → Nat) (hp : PassesOwn (model X.prog X.w) X.A X.env X.xe) (hc : ST X ct W c mc) (hb : SSs X ct W body mb) :
    SS X ct W (.While c body [] pos) (fun ρ h => whileL mc mb (n ρ h) ρ h) :=
  (ps_while hp hc hb).imp fun D σ H ⟨μ, ρ, h, rs, rh, p⟩ => by
    have p : PSt X.K ct W μ H D (whileL mc mb (n ρ h) ρ h) := p
    refine ⟨fun m σ' H' => ∃ μ' ρ' h', RelS X.K μ' H' ρ' σ' ∧ RelH X.K μ' H' h' ∧ PSt X.K ct W μ' H' D (whileL mc mb m ρ' h'), ⟨n ρ h, μ, ρ, h, rs, rh, p⟩, ?_⟩
    rintro m σ' H' ⟨μ', ρ', h', rs', rh', p'⟩
    cases m with
    | zero => exact p'.elim
    | succ m =>
      refine rdT.goS rs' rh' p' fun t h1 μ1 H1 s1 rs1 rh1 p1 => ?_
      cases t with
      | false =>
        rw [if_neg Bool.false_ne_true]
        rw [if_neg Bool.false_ne_true] at p1
        exact p1 μ1 H1 _ Step.refl rh1 rs1
      | true =>
        rw [if_pos rfl]
        rw [if_pos rfl] at p1
        refine ⟨fun σ2 H2 => ∃ μ2 ρ2 h2, RelS X.K μ2 H2 ρ2 σ2 ∧ RelH X.K μ2 H2 h2 ∧ PSt X.K ct W μ2 H2 D (whileL mc mb m ρ2 h2), fun σ2 H2 w2 => ⟨m, Nat.lt_succ_self _, w2⟩, μ1, ρ', h1, rs1, rh1, ?_⟩
        cases e : mb ρ' h1 with
        | nx ρ2 h2 => rw [e] at p1; exact fun μ2 H2 σ2 s2 rh2 rs2 => ⟨μ2, ρ2, h2, rs2, rh2, PSt.step s2 p1⟩
        | ct ρ2 h2 => rw [e] at p1; exact fun μ2 H2 σ2 s2 rh2 rs2 => ⟨μ2, ρ2, h2, rs2, rh2, PSt.step s2 p1⟩
        | bk ρ2 h2 => rw [e] at p1; exact p1
        | rt d h2 => rw [e] at p1; exact p1
        | er x ρ2 h2 => rw [e] at p1; exact p1
        | bad => rw [e] at p1; exact p1

/-! ### for -/
/-- what a walked thing gives, turn by turn: the item, or the end, from the heap as it stands -/
structure MIt where
  /-- none: it can't be told; some none: the end; some (some d): an item -/
  at_ : Nat → Hh → Option (Option D)
  /-- at most so many turns -/
  most : Nat
abbrev MI := Rho → Hh → Out MIt
/-- the mirror J of an iterator It -/
structure ItR (K : PySem.W.Frag) (μ : List Addr) (H : Hp) (J : It) (j : MIt) : Prop where
  stop : ∀ i μ' H' h', Step μ H μ' H' → RelH K μ' H' h' → j.at_ i h' = some none → J.stop i H'
  go : ∀ i μ' H' h' d, Step μ H μ' H' → RelH K μ' H' h' → j.at_ i h' = some (some d) → J.go i H' ∧ ∀ x H'', J.yld i H' x H'' → Step μ' H' μ' H'' ∧ RelH K μ' H'' h' ∧ Den K μ' H'' d x
def rdI (K : PySem.W.Frag) (ct : Ctb) (W : WX) (m : MI) : TI := fun σ H R => ∃ μ ρ h, RelS K μ H ρ σ ∧ RelH K μ H h ∧ PO K ct W σ μ H (fun j _ μ' H' => ∀ J, ItR K μ' H' J j → R J H') (m ρ h)
abbrev SI (X : Cx) (ct : Ctb) (W : WX) (tg iter : Expr) (m : MI) : Prop := PI X tg iter (rdI X.K ct W m)
theorem _root_.L2.PI.imp {tg e : Expr} {t t' : TI} (h : L2.PI X tg e t) (i : ∀ σ H R, t' σ H R → t σ H R) : L2.PI X tg e t' := ⟨fun pins s σ H R I q => h.run pins s σ H R I (i σ H R q)⟩
def forL (j : MIt) (g : MG) (b : MS) : Nat → Nat → MS
  | 0, i, ρ, h => match j.at_ i h with
    | some none => .nx ρ h
    | _ => .bad
  | n + 1, i, ρ, h => match j.at_ i h with
    | some none => .nx ρ h
    | some (some d) => match g d ρ h with
      | none => .bad
      | some (ρ1, h1) => match b ρ1 h1 with
        | .nx ρ' h' => forL j g b n (i + 1) ρ' h'
        | .ct ρ' h' => forL j g b n (i + 1) ρ' h'
        | .bk ρ' h' => .nx ρ' h'
        | .rt d h' => .rt d h'
        | .er x ρ' h' => .er x ρ' h'
        | .bad => .bad
    | none => .bad
def mFor (m : MI) (g : MG) (b : MS) : MS := fun ρ h => (m ρ h).bindS ρ fun j h1 => forL j g b j.most 0 ρ h1
theorem ss_for {tg iter : Expr} {body : List Stmt} {pos : Pos} {m : MI} {g : MG} {b : MS} (hp : PassesOwn (model X.prog X.w) X.A X.env X.xe) (hc : X.calm = true) (hi : L2.PI X tg iter (rdI X.K ct W m)) (hg : SG X tg g) (hb : SSs X ct W body b)
    (hs : ∀ x, foldedSetIterable iter X.env x = pure x := by intro _; rfl) : SS X ct W (.For tg iter body [] pos) (mFor m g b) :=
  (ps_for hp hc hi hg hb hs).imp fun D σ H ⟨μ, ρ, h, rs, rh, p⟩ => by
    refine ⟨μ, ρ, h, rs, rh, (PSt.bindS (W := W) rs p).mono fun j h1 μ1 H1 s1 rh1 p1 J ij => ?_⟩
    have rs1 := rs.mono s1
    refine ⟨fun i m σ' H' => ∃ μ' ρ' h', Step μ1 H1 μ' H' ∧ RelS X.K μ' H' ρ' σ' ∧ RelH X.K μ' H' h' ∧ PSt X.K ct W μ' H' D (forL j g b m i ρ' h'), ⟨j.most, μ1, ρ, h1, Step.refl, rs1, rh1, p1⟩, ?_⟩
    rintro i m σ' H' ⟨μ', ρ', h', st, rs', rh', p'⟩
    have stop : j.at_ i h' = some none → PSt X.K ct W μ' H' D (.nx ρ' h') → (J.stop i H' ∧ D.nx σ' H') := fun e q => ⟨ij.stop i μ' H' h' st rh' e, q μ' H' σ' Step.refl rh' rs'⟩
    cases m with
    | zero =>
      unfold forL at p'
      split at p'
      · rename_i e
        exact .inl (stop e p')
      · exact p'.elim
    | succ m =>
      unfold forL at p'
      split at p'
      · rename_i e
        exact .inl (stop e p')
      · rename_i d e
        obtain ⟨go, yl⟩ := ij.go i μ' H' h' d st rh' e
        refine .inr ⟨go, fun σ2 H2 => ∃ μ2 ρ2 h2, Step μ1 H1 μ2 H2 ∧ RelS X.K μ2 H2 ρ2 σ2 ∧ RelH X.K μ2 H2 h2 ∧ PSt X.K ct W μ2 H2 D (forL j g b m (i + 1) ρ2 h2), fun σ2 H2 w2 => ⟨m, Nat.lt_succ_self _, w2⟩, fun x H'' y => ?_⟩
        obtain ⟨st2, rh2, dx⟩ := yl x H'' y
        refine ⟨μ', ρ', h', d, rs'.mono st2, rh2, dx, ?_⟩
        cases eg : g d ρ' h' with
        | none => rw [eg] at p'; exact p'.elim
        | some z =>
          obtain ⟨ρ3, h3⟩ := z
          rw [eg] at p'
          intro μ3 H3 σ3 st3 rh3 rs3
          have st4 := (st.trans st2).trans st3
          have p' : PSt X.K ct W μ' H' D (match b ρ3 h3 with
            | .nx ρ' h' => forL j g b m (i + 1) ρ' h'
            | .ct ρ' h' => forL j g b m (i + 1) ρ' h'
            | .bk ρ' h' => .nx ρ' h'
            | .rt d h' => .rt d h'
            | .er x ρ' h' => .er x ρ' h'
            | .bad => .bad) := p'
          have p' := PSt.step (st2.trans st3) p'
          refine ⟨μ3, ρ3, h3, rs3, rh3, ?_⟩
          cases e : b ρ3 h3 with
          | nx ρ2 h2 => rw [e] at p'; exact fun μ2 H2 σ2 s2 rh2 rs2 => ⟨μ2, ρ2, h2, st4.trans s2, rs2, rh2, PSt.step s2 p'⟩
          | ct ρ2 h2 => rw [e] at p'; exact fun μ2 H2 σ2 s2 rh2 rs2 => ⟨μ2, ρ2, h2, st4.trans s2, rs2, rh2, PSt.step s2 p'⟩
          | bk ρ2 h2 => rw [e] at p'; exact p'
          | rt d h2 => rw [e] at p'; exact p'
          | er x ρ2 h2 => rw [e] at p'; exact p'
          | bad => rw [e] at p'; exact p'
      · exact p'.elim
end
end PI
/-! Defs, calls, exceptions. -/
namespace PI
open PySem PySem.Spec L2
open PyProof.Rows hiding St

/-- what a def gives, by its mirror f -/
def spM (K : PySem.W.Frag) (ct : Ctb) (n : Nat) (f : FnM) : Sp := fun vs H Q E => ∃ μ h ds, ds.length = n ∧ Dens K μ H ds vs ∧ RelH K μ H h ∧ PO K ct (fun c d _ H' => E c d H') [] μ H (fun d _ μ' H' => ∀ v, Den K μ' H' d v → Q v H') (f ds h)
def OutS.out : OutS → Out D
  | .nx _ h => .ok .non h
  | .rt d h => .ok d h
  | .er x _ h => .err x h
  | _ => .bad
@[simp] theorem OutS.out_nx {ρ : Rho} {h : Hh} : (OutS.nx ρ h).out = .ok .non h := rfl
@[simp] theorem OutS.out_rt {d : D} {h : Hh} : (OutS.rt d h).out = .ok d h := rfl
@[simp] theorem OutS.out_er {x : Exn} {ρ : Rho} {h : Hh} : (OutS.er x ρ h).out = .err x h := rfl
/-- the mirror of a def with N names -/
def mFn (N : Nat) (b : MS) : FnM := fun ds h => (b (ds.map some ++ List.replicate (N - ds.length) none) h).out
theorem PO.wish {K : PySem.W.Frag} {ct : Ctb} {W W' : WX} {σ σ' : L2.St} {α : Type} {μ : List Addr} {H : Hp} {R : α → Hh → List Addr → Hp → Prop} {o : Out α} (p : PO K ct W σ μ H R o) (i : ∀ c d H', W c d σ H' → W' c d σ' H') : PO K ct W' σ' μ H R o := by
  cases o with
  | ok a h => exact p
  | err x h => exact fun μ' H' c d s r e => i _ _ _ (p μ' H' c d s r e)
  | bad => exact p
theorem starts {K : PySem.W.Frag} {μ : List Addr} {H : Hp} {ds : List D} {vs : List V} (N : List Str) (dv : Dens K μ H ds vs) : RelS K μ H (ds.map some ++ List.replicate (N.length - ds.length) none) (L2.start N vs) := by
  have hl := dv.length
  refine ⟨by unfold L2.start; simp [hl], fun i d e => ?_⟩
  by_cases hi : i < ds.length
  · rw [List.getElem?_append_left (by simpa using hi), List.getElem?_map] at e
    cases q : ds[i]? with
    | none => rw [q] at e; cases e
    | some d' =>
      rw [q] at e
      cases e
      obtain ⟨v, e1, e2⟩ := dv.get q
      refine ⟨v, ?_, e2⟩
      unfold L2.start
      rw [List.getElem?_append_left (by simp; omega), List.getElem?_map, e1]
      rfl
  · rw [List.getElem?_append_right (by simp; omega), List.getElem?_replicate] at e
    split at e <;> cases e
section
variable {P : Program} {w : World} {K : PySem.W.Frag} {mg : Str → Option Value} {base : Heap} {ct : Ctb}
/-- THE RULE for a def -/
theorem fn_ok {x qual : Str} {st : Stmt} {f : Addr} {fd : FuncData} {N ps : List Str} {k : Nat} {b : MS} (F : Fun K x qual st f fd) (S : FnScope N ps (defScope st))
    (hbody : ∀ (cdv : Value) (A : Around) (outer : List Env) (s : Shared) (H : Hp) (E : XK), Room k (A.deeper (envOfC qual (defScope st) s.heap.objs.size f cdv)) →
      Takes (cxOf (L2.CX P w) P w K mg base N qual (defScope st) f cdv A outer s H E) (fun c d _ H' => E c d H') →
      PassesOwn (model P w) (cxOf (L2.CX P w) P w K mg base N qual (defScope st) f cdv A outer s H E).A (cxOf (L2.CX P w) P w K mg base N qual (defScope st) f cdv A outer s H E).env (cxOf (L2.CX P w) P w K mg base N qual (defScope st) f cdv A outer s H E).xe →
      SSs (cxOf (L2.CX P w) P w K mg base N qual (defScope st) f cdv A outer s H E) ct (fun c d _ H' => E c d H') (defBody st) b) : FnOk P w K mg base (L2.CX P w) (k + 1) f fd ps (spM K ct ps.length (mFn N.length b)) := by
  refine F.okX S (fun vs H Q E h => ?_) (fun cdv A outer s H vs Q E hr h => ⟨_, hbody cdv A outer s H E hr (takes_of rfl rfl rfl rfl) (passes_of rfl), ?_⟩)
  · obtain ⟨μ, h, ds, e, dv, _⟩ := h
    rw [dv.length, e]
  · obtain ⟨μ, h, ds, e, dv, rh, p⟩ := h
    refine ⟨μ, _, h, starts N dv, rh, ?_⟩
    have p : PO K ct (fun c d _ H' => E c d H') [] μ H (fun d _ μ' H' => ∀ v, Den K μ' H' d v → Q v H') (b (ds.map some ++ List.replicate (N.length - ds.length) none) h).out := p
    cases eb : b (ds.map some ++ List.replicate (N.length - ds.length) none) h with
    | nx ρ h' => rw [eb] at p; exact fun μ' H' σ' s r _ => p μ' H' s r .non rfl
    | rt d h' => rw [eb] at p; exact fun μ' H' v s r dv => p μ' H' s r v dv
    | er x ρ h' => rw [eb] at p; exact fun μ' H' σ' c d s r _ e => p μ' H' c d s r e
    | bk ρ h' => rw [eb] at p; exact p.elim
    | ct ρ h' => rw [eb] at p; exact p.elim
    | bad => rw [eb] at p; exact p.elim
/-- another mirror that says less -/
theorem fn_imp {f : Addr} {fd : FuncData} {ps : List Str} {k n : Nat} {g g' : FnM} (F : FnOk P w K mg base (L2.CX P w) k f fd ps (spM K ct n g))
    (i : ∀ ds h μ H vs R, ds.length = n → Dens K μ H ds vs → RelH K μ H h → ∀ W, PO K ct W [] μ H R (g' ds h) → PO K ct W [] μ H R (g ds h)) : FnOk P w K mg base (L2.CX P w) k f fd ps (spM K ct n g') :=
  F.imp fun vs H Q E ⟨μ, h, ds, e, dv, rh, p⟩ => ⟨μ, h, ds, e, dv, rh, i ds h μ H vs _ e dv rh _ p⟩
end

/-! ### calls -/
section
variable {X : Cx} {ct : Ctb} {W : WX}
def mCall (n : Nat) (f : FnM) (ma : MA) : ME := fun ρ h => (ma ρ h).bind fun ds h1 => if ds.length = n then f ds h1 else .bad
theorem call_go {n : Nat} {f : FnM} {ma : MA} (σ : L2.St) (H : Hp) (Q : VK) (q : rdE X.K ct W (mCall n f ma) σ H Q) : tCallS (spM X.K ct n f) (WE W) (rdA X.K ct W ma) σ H Q := by
  obtain ⟨μ, ρ, h, rs, rh, p⟩ := q
  refine rdA.go rs rh p fun ds h1 μ1 H1 vs s1 rs1 rh1 dv p1 => ?_
  by_cases hl : ds.length = n
  · rw [if_pos hl] at p1
    exact ⟨μ1, h1, ds, hl, dv, rh1, p1.wish fun _ _ _ z => z⟩
  · rw [if_neg hl] at p1
    exact p1.elim
theorem se_call {k n : Nat} {fa : Addr} {fd : FuncData} {ps : List Str} {f : FnM} {x : Str} {p pos : Pos} {e : Expr} {es : List Expr} {ma : MA} (F : FnOk X.prog X.w X.K X.mg X.base (L2.CX X.prog X.w) k fa fd ps (spM X.K ct n f)) (hr : Room k X.A) (hg : Gl X x) (hm : X.mg x = some (.ref fa)) (hk : PySem.W.keepIn X.K (.ref fa) = true) (hb : Binds X.K fd ps []) (tk : Takes X W)
    (ha : SA X ct W (e :: es) ma) (hdb : (x == ("__debug__" : Str)) = false := by decide) (he : starEach (e :: es) X.env = (false, eval e X.env) :: starEach es X.env := by rfl) (hpl : (backTo pos (starEach es X.env)).any (·.1) = false := by rfl) :
    SE X ct W (.Call (.Name x p) (e :: es) [] pos) (mCall n f ma) :=
  (pe_callS F hr hg hm hk hb (fun σ => passAt tk σ) ha hdb he hpl).imp call_go
/-- keyword arguments alone: g puts them into the parameters' order -/
abbrev SK (X : Cx) (ct : Ctb) (W : WX) (kws : List Keyword) (m : MA) : Prop := PK X kws (rdA X.K ct W m)
theorem sk_nil : SK X ct W [] mNil := ⟨fun _ _ _ _ _ _ I ⟨μ, ρ, h, rs, rh, p⟩ => pk_nil.run default _ _ _ _ _ I (p.at rh [] rfl)⟩
theorem sk_cons {nm : Option Str} {e : Expr} {kpos : Pos} {kws : List Keyword} {m : ME} {r : MA} (ha : SE X ct W e m) (hr : SK X ct W kws r) : SK X ct W (⟨nm, e, kpos⟩ :: kws) (mCons m r) :=
  ⟨fun pos pins s σ H Q I ⟨μ, ρ, h, rs, rh, p⟩ => (pk_cons ha hr).run pos pins s σ H Q I (rdE.go rs rh p fun d h1 μ1 H1 v s1 rs1 rh1 dv p1 => rdA.go rs1 rh1 p1 fun ds h2 μ2 H2 vs s2 rs2 rh2 dvs p2 =>
    p2.at rh2 (v :: vs) ⟨v, vs, rfl, dv.mono s2, dvs⟩)⟩
/-- the places of the keywords' values among the parameters -/
def perm {α : Type} (pl : List Nat) (xs : List α) : List α := pl.filterMap fun i => xs[i]?
theorem Vals.perm {xs : List V} {us : List Value} (r : Vals xs us) : ∀ pl : List Nat, Vals (perm pl xs) (perm pl us)
  | [] => .nil
  | i :: pl => by
    have t := Vals.perm r pl
    unfold PI.perm at *
    cases e : xs[i]? with
    | none =>
      have e2 := Vals.none_of r e
      rw [List.filterMap_cons_none e, List.filterMap_cons_none e2]
      exact t
    | some x =>
      obtain ⟨u, e2, q⟩ := Vals.get r e
      rw [List.filterMap_cons_some e, List.filterMap_cons_some e2]
      exact .cons q t
theorem Dens.perm {K : PySem.W.Frag} {μ : List Addr} {H : Hp} {ds : List D} {vs : List V} (r : Dens K μ H ds vs) : ∀ pl : List Nat, Dens K μ H (perm pl ds) (perm pl vs)
  | [] => rfl
  | i :: pl => by
    have t := Dens.perm r pl
    unfold PI.perm at *
    cases e : ds[i]? with
    | none =>
      have e2 : vs[i]? = none := by
        rw [List.getElem?_eq_none_iff] at e ⊢
        rw [r.length]; exact e
      rw [List.filterMap_cons_none e, List.filterMap_cons_none e2]
      exact t
    | some x =>
      obtain ⟨u, e2, q⟩ := r.get e
      rw [List.filterMap_cons_some e, List.filterMap_cons_some e2]
      exact ⟨_, _, rfl, q, t⟩
def mCallK (n : Nat) (pl : List Nat) (f : FnM) (mk : MA) : ME := fun ρ h => (mk ρ h).bind fun ds h1 => if (perm pl ds).length = n then f (perm pl ds) h1 else .bad
/-- f(a=x, b=y): no positional argument -/
theorem se_callK {k n : Nat} {pl : List Nat} {fa : Addr} {fd : FuncData} {ps ks : List Str} {f : FnM} {x : Str} {p pos : Pos} {kws : List Keyword} {mk : MA} (F : FnOk X.prog X.w X.K X.mg X.base (L2.CX X.prog X.w) k fa fd ps (spM X.K ct n f)) (hr : Room k X.A) (hg : Gl X x) (hm : X.mg x = some (.ref fa)) (hk : PySem.W.keepIn X.K (.ref fa) = true)
    (hb : ∀ (s : Shared) (ws : List Value), (perm pl ws).length = ps.length → BindsTo s fd ⟨[], ks.zip ws⟩ (ps.zip (perm pl ws))) (tk : Takes X W)
    (hkw : SK X ct W kws mk) (hall : (backToKw pos (keywordEach kws X.env)).all (·.1.isSome) = true := by rfl) (hks : (backToKw pos (keywordEach kws X.env)).filterMap (·.1) = ks := by rfl)
    (hdb : (x == ("__debug__" : Str)) = false := by decide)
    (hpl : ((backTo pos (starEach [] X.env)).any (·.1) || (backToKw pos (keywordEach kws X.env)).any (·.1.isNone)) = false := by rfl) :
    SE X ct W (.Call (.Name x p) [] kws pos) (mCallK n pl f mk) := by
  refine ⟨fun pins s σ H Q I q => ?_⟩
  obtain ⟨μ, ρ, h, rs, rh, po⟩ := q
  refine wpAny_Call_Name_kw (ld_glob I hg hm ?_ hdb)
  refine PySem.W.callWith_KW0 (h₀ := X.base) I.ok.mod.kin hk hall ?_ hpl
  refine thn (hkw.run pos pins s σ H (fun zs H1 => ∃ μ1 h1 ds, Dens X.K μ1 H1 ds zs ∧ RelH X.K μ1 H1 h1 ∧ PO X.K ct W σ μ1 H1 (fun d _ μ' H' => ∀ v, Den X.K μ' H' d v → Q v H') (if (perm pl ds).length = n then f (perm pl ds) h1 else .bad)) I
    (rdA.go rs rh po fun ds h1 μ1 H1 vs s1 rs1 rh1 dv p1 => ⟨μ1, h1, ds, dv, rh1, p1⟩)) fun ws s2 h2 => ?_
  obtain ⟨zs, H1, I1, rz, μ1, h1, ds, dv, rh1, p1⟩ := h2
  refine ⟨I1.kIn, ?_⟩
  rw [hks]
  by_cases hl : (perm pl ds).length = n
  · rw [if_pos hl] at p1
    have rp := Vals.perm rz pl
    have dp := Dens.perm dv pl
    have sp : spM X.K ct n f (perm pl zs) H1 Q (WE W σ) := ⟨μ1, h1, perm pl ds, hl, dp, rh1, p1.wish fun _ _ _ z => z⟩
    have hlen : (perm pl ws).length = ps.length := by rw [← rp.length]; exact F.len _ _ _ _ sp
    show wpAny _ _ (call (.ref fa) ([] ++ []) (ks.zip ws)) _ _ s2
    refine wpAny_call (codeAny_mono (F.run X.A X.stack s2 H1 ⟨[], ks.zip ws⟩ (perm pl ws) (perm pl zs) Q (WE W σ) hr I1.env0 (hb s2 ws hlen) rp sp) fun r s' hq => ?_)
    cases r with
    | error e => exact passAt tk σ pins H1 s2 e s' I1 hq
    | ok fl =>
      cases fl with
      | ret u => exact I1.after hq
      | next => exact False.elim hq
      | brk => exact False.elim hq
      | cont => exact False.elim hq
  · rw [if_neg hl] at p1
    exact p1.elim

/-- a def as its callers see it -/
structure FnI (P : Program) (w : World) (K : PySem.W.Frag) (mg : Str → Option Value) (base : Heap) (ct : Ctb) (k : Nat) (x : Str) (ps : List Str) (f : FnM) : Prop where
  ex : ∃ fa fd, mg x = some (.ref fa) ∧ PySem.W.keepIn K (.ref fa) = true ∧ Binds K fd ps [] ∧ FnOk P w K mg base (L2.CX P w) k fa fd ps (spM K ct ps.length f)
theorem se_callI {k n : Nat} {ps : List Str} {f : FnM} {x : Str} {p pos : Pos} {e : Expr} {es : List Expr} {ma : MA} (F : FnI X.prog X.w X.K X.mg X.base ct k x ps f) (hn : ps.length = n) (hr : Room k X.A) (hg : Gl X x) (tk : Takes X W)
    (ha : SA X ct W (e :: es) ma) (hdb : (x == ("__debug__" : Str)) = false := by decide) (he : starEach (e :: es) X.env = (false, eval e X.env) :: starEach es X.env := by rfl) (hpl : (backTo pos (starEach es X.env)).any (·.1) = false := by rfl) :
    SE X ct W (.Call (.Name x p) (e :: es) [] pos) (mCall n f ma) := by
  obtain ⟨fa, fd, hm, hk, hb, hF⟩ := F.ex
  subst hn
  exact se_call hF hr hg hm hk hb tk ha hdb he hpl
/-- keyword arguments bind so -/
def KwB (fd : FuncData) (ps ks : List Str) (pl : List Nat) : Prop := ∀ (s : Shared) (ws : List Value), (perm pl ws).length = ps.length → BindsTo s fd ⟨[], ks.zip ws⟩ (ps.zip (perm pl ws))
structure FnK (P : Program) (w : World) (K : PySem.W.Frag) (mg : Str → Option Value) (base : Heap) (ct : Ctb) (k : Nat) (x : Str) (ps ks : List Str) (pl : List Nat) (f : FnM) : Prop where
  ex : ∃ fa fd, mg x = some (.ref fa) ∧ PySem.W.keepIn K (.ref fa) = true ∧ KwB fd ps ks pl ∧ FnOk P w K mg base (L2.CX P w) k fa fd ps (spM K ct ps.length f)
theorem se_callKI {k n : Nat} {pl : List Nat} {ps ks : List Str} {f : FnM} {x : Str} {p pos : Pos} {kws : List Keyword} {mk : MA} (F : FnK X.prog X.w X.K X.mg X.base ct k x ps ks pl f) (hn : ps.length = n) (hr : Room k X.A) (hg : Gl X x) (tk : Takes X W)
    (hkw : SK X ct W kws mk) (hall : (backToKw pos (keywordEach kws X.env)).all (·.1.isSome) = true := by rfl) (hks : (backToKw pos (keywordEach kws X.env)).filterMap (·.1) = ks := by rfl)
    (hdb : (x == ("__debug__" : Str)) = false := by decide)
    (hpl : ((backTo pos (starEach [] X.env)).any (·.1) || (backToKw pos (keywordEach kws X.env)).any (·.1.isNone)) = false := by rfl) :
    SE X ct W (.Call (.Name x p) [] kws pos) (mCallK n pl f mk) := by
  obtain ⟨fa, fd, hm, hk, hb, hF⟩ := F.ex
  subst hn
  exact se_callK hF hr hg hm hk hb tk hkw hall hks hdb hpl
/-- an own exception class without an __init__ -/
structure ExcI (K : PySem.W.Frag) (mg : Str → Option Value) (x : Str) (C : Addr) : Prop where
  g : mg x = some (.ref C)
  x : PySem.W.excIn K C [.type "ValueError", .type "Exception", .type "BaseException", .type "object"] "ValueError.__new__" = true
  k : PySem.W.keepIn K (.ref C) = true
  b : PySem.W.subIn K (.ref C) (.type "BaseException") = some true
  t : PySem.W.typeIn K (.ref C) = some (.type "type")
  i : PySem.W.isClsIn K C = true
/-! ### raise, try -/
def mRaise (c : Str) : MS := fun ρ h => .er ⟨c, []⟩ ρ h
/-- raise C('..'), C an own class without an __init__ -/
theorem ss_raise {C : Addr} {bmB : List Value} {B newId initId : String} {x m cn : Str} {j : Nat} {p p2 pos pos2 : Pos} (hc : X.calm = true) (tk : Takes X W) (hct : ct cn = some (.ref C)) (F : ExcBaseFacts B newId initId bmB) (q : PySem.W.excIn X.K C bmB newId = true) (gC : X.mg x = some (.ref C)) (kC : PySem.W.keepIn X.K (.ref C) = true) (r : Raises X (.ref C)) (hg : Gl X x)
    (hdb : (x == ("__debug__" : Str)) = false := by decide) : SS X ct W (.Raise (some (.Call (.Name x p) [.Constant (.str m) j p2] [] pos)) none pos2) (mRaise cn) :=
  (ps_raise hc tk (pmk_own F q gC kC r hg hdb)).imp fun D σ H ⟨μ, ρ, h, rs, rh, po⟩ => po μ H σ (.ref C) none Step.refl rh rs ⟨hct, .inl ⟨rfl, rfl⟩⟩
/-- raise C('..') -/
theorem ss_raiseI {C : Addr} {x m : Str} {j : Nat} {p p2 pos pos2 : Pos} (hc : X.calm = true) (tk : Takes X W) (T : ExcI X.K X.mg x C) (hct : ct x = some (.ref C)) (hg : Gl X x) (hdb : (x == ("__debug__" : Str)) = false := by decide) :
    SS X ct W (.Raise (some (.Call (.Name x p) [.Constant (.str m) j p2] [] pos)) none pos2) (mRaise x) :=
  ss_raise hc tk hct PySem.F.excBase_ValueError T.x T.g T.k (raises_own T.b T.t) hg hdb
end
end PI
/-! Operations by values. -/
namespace PI
open PySem PySem.Spec L2
open PyProof.Rows hiding St

abbrev G1 := D → Hh → Option (D × Hh)
abbrev G2 := D → D → Hh → Option (D × Hh)
abbrev GN := List D → Hh → Option (D × Hh)
section
variable {K : PySem.W.Frag} {μ : List Addr} {H : Hp} {h : Hh} {Q : VK}
/-- an end that makes nothing -/
theorem POo.fin {d : D} (rh : RelH K μ H h) (p : POo K μ H (fun d _ μ' H' => ∀ v, Den K μ' H' d v → Q v H') (some (d, h))) {v : V} (dv : Den K μ H d v) : Q v H := p μ H Step.refl rh v dv
theorem POo.finL {as : List D} {vs : List V} (rh : RelH K μ H h) (dv : Dens K μ H as vs) (p : POo K μ H (fun d _ μ' H' => ∀ v, Den K μ' H' d v → Q v H') (some (.ref h.length, h ++ [.lst as]))) (q : Addr) (hq : H q = none) : Q (.ref q) (upd H q (.lst vs)) := by
  obtain ⟨s, r, d⟩ := new_lst rh dv hq
  exact p _ _ s r _ d
theorem POo.finT {as : List D} {vs : List V} (rh : RelH K μ H h) (dv : Dens K μ H as vs) (p : POo K μ H (fun d _ μ' H' => ∀ v, Den K μ' H' d v → Q v H') (some (.tup as, h))) (q : Addr) (hq : H q = none) : Q (.ref q) (upd H q (.tup vs)) := by
  obtain ⟨s, r, d⟩ := new_tup rh dv hq
  exact p _ _ s r _ d
theorem den_lst {i : Nat} {v : V} {xs : List D} (rh : RelH K μ H h) (dv : Den K μ H (.ref i) v) (hi : h[i]? = some (.lst xs)) : ∃ a vs, v = .ref a ∧ μ[i]? = some a ∧ H a = some (.lst vs) ∧ Dens K μ H xs vs := by
  obtain ⟨a, e, ha⟩ := dv
  obtain ⟨b, hb, vs, hv, d⟩ := rh.obj i _ hi
  rw [ha] at hb
  cases hb
  exact ⟨a, vs, e, ha, hv, d⟩
theorem Den.to_int {i : Int} {v : V} (h : Den K μ H (.int i) v) : v = .int i := h
theorem Den.to_str {i : Str} {v : V} (h : Den K μ H (.str i) v) : v = .str i := h
theorem Den.to_bl {i : Bool} {v : V} (h : Den K μ H (.bl i) v) : v = .bl i := h
theorem Den.to_non {v : V} (h : Den K μ H .non v) : v = .non := h
end

/-! ### numbers -/
def mulOk (i j : Int) : Bool := decide ((-(2 ^ 64) < i ∧ i < 2 ^ 64) ∨ (-(2 ^ 64) < j ∧ j < 2 ^ 64)) || decide (i.natAbs.log2 + j.natAbs.log2 < 1000000)
def divOk (j : Int) : Bool := decide (0 < j) && (decide (j < 1073741824) || decide (j.natAbs.log2 < 9000))
def powOk (i j : Int) : Bool := decide (0 ≤ j ∧ j ≤ 1000000 ∧ i.natAbs < 2 ^ 64)
theorem mulOk_l {i j : Int} (h : -(2 ^ 64) < i ∧ i < 2 ^ 64) : mulOk i j = true := by unfold mulOk; rw [decide_eq_true (.inl h)]; rfl
theorem mulOk_r {i j : Int} (h : -(2 ^ 64) < j ∧ j < 2 ^ 64) : mulOk i j = true := by unfold mulOk; rw [decide_eq_true (.inr h)]; rfl
theorem mulOk_w {i j : Int} (h : i.natAbs.log2 + j.natAbs.log2 < 1000000) : mulOk i j = true := by unfold mulOk; rw [decide_eq_true h, Bool.or_true]
theorem divOk_n {j : Int} (h : 0 < j) (h2 : j < 1073741824) : divOk j = true := by unfold divOk; rw [decide_eq_true h, decide_eq_true h2]; rfl
theorem divOk_w {j : Int} (h : 0 < j) (h2 : j.natAbs.log2 < 9000) : divOk j = true := by unfold divOk; rw [decide_eq_true h, decide_eq_true h2, Bool.or_true]; rfl
def oAdd : G2
  | .int i, .int j, h => some (.int (i + j), h)
  | .str x, .str y, h => if x.length + y.length ≤ sizeLine then some (.str (x ++ y), h) else none
  | .tup xs, .tup ys, h => if xs.length + ys.length ≤ sizeLine then some (.tup (xs ++ ys), h) else none
  | .ref a, .ref b, h => match h[a]?, h[b]? with
    | some (.lst xs), some (.lst ys) => if xs.length + ys.length ≤ sizeLine then some (.ref h.length, h ++ [.lst (xs ++ ys)]) else none
    | _, _ => none
  | _, _, _ => none
def oSub : G2
  | .int i, .int j, h => some (.int (i - j), h)
  | _, _, _ => none
def oMul : G2
  | .int i, .int j, h => if mulOk i j = true then some (.int (i * j), h) else none
  | .ref a, .int k, h => match h[a]? with
    | some (.lst xs) => if -(2 ^ 63) ≤ k ∧ k < 2 ^ 63 ∧ xs.length * k.toNat ≤ sizeLine then some (.ref h.length, h ++ [.lst (List.replicate k.toNat xs).flatten]) else none
    | _ => none
  | _, _, _ => none
def oFdiv : G2
  | .int i, .int j, h => if divOk j = true then some (.int (i / j), h) else none
  | _, _, _ => none
def oMod : G2
  | .int i, .int j, h => if 0 < j then some (.int (i % j), h) else none
  | _, _, _ => none
def oPow : G2
  | .int i, .int j, h => if powOk i j = true then some (.int (i ^ j.toNat), h) else none
  | _, _, _ => none
def oNeg : G1
  | .int i, h => some (.int (-i), h)
  | _, _ => none
theorem Dens.rep {K : PySem.W.Frag} {μ : List Addr} {H : Hp} {ds : List D} {vs : List V} (d : Dens K μ H ds vs) : ∀ n, Dens K μ H (List.replicate n ds).flatten (List.replicate n vs).flatten
  | 0 => rfl
  | n + 1 => by
    rw [List.replicate_succ, List.replicate_succ, List.flatten_cons, List.flatten_cons]
    exact d.append (Dens.rep d n)
theorem Dens.nil_iff {K : PySem.W.Frag} {μ : List Addr} {H : Hp} {ds : List D} {vs : List V} (d : Dens K μ H ds vs) : vs = [] ↔ ds = [] := by
  have := d.length
  constructor
  · rintro rfl; exact List.eq_nil_of_length_eq_zero (by simpa using this.symm)
  · rintro rfl; exact List.eq_nil_of_length_eq_zero (by simpa using this)
section
variable {X : Cx}
theorem op_addM : OpR X (binaryOp .Add) (r2 X.K oAdd) := by
  intro pins s σ H x y v u Q I rx ry ⟨μ, h, a, b, da, db, rh, p⟩
  unfold oAdd at p
  split at p
  · exact op_add pins s σ H x y v u Q I rx ry ⟨_, _, da, db, p.fin rh rfl⟩
  · split at p
    · rename_i hl
      exact op_add_str pins s σ H x y v u Q I rx ry ⟨_, _, da, db, hl, p.fin rh rfl⟩
    · exact p.elim
  · split at p
    · rename_i xs ys hl
      obtain ⟨a1, vs, rfl, q1, d1⟩ := da
      obtain ⟨a2, ws, rfl, q2, d2⟩ := db
      refine op_catA pins s σ H _ _ v u Q I rx ry ⟨a1, a2, vs, ws, rfl, rfl, q1, q2, by rw [d1.length, d2.length]; exact hl, fun e => ?_, fun e1 e2 => ?_, fun e1 e2 q hq => p.finT rh (d1.append d2) q hq⟩
      · have e := d1.nil_iff.mp e
        subst e
        exact p.fin rh ⟨a2, ws, rfl, q2, d2⟩
      · have e2 := d2.nil_iff.mp e2
        subst e2
        rw [List.append_nil] at p
        exact p.fin rh ⟨a1, vs, rfl, q1, d1⟩
    · exact p.elim
  · split at p
    · rename_i e1 e2
      split at p
      · rename_i hl
        obtain ⟨a1, vs, rfl, _, q1, d1⟩ := den_lst rh da e1
        obtain ⟨a2, ws, rfl, _, q2, d2⟩ := den_lst rh db e2
        exact op_cat pins s σ H _ _ v u Q I rx ry ⟨a1, a2, vs, ws, rfl, rfl, q1, q2, by rw [d1.length, d2.length]; exact hl, fun q hq => p.finL rh (d1.append d2) q hq⟩
      · exact p.elim
    · exact p.elim
  · exact p.elim
theorem op_subM : OpR X (binaryOp .Sub) (r2 X.K oSub) := by
  intro pins s σ H x y v u Q I rx ry ⟨μ, h, a, b, da, db, rh, p⟩
  unfold oSub at p
  split at p
  · exact op_sub pins s σ H x y v u Q I rx ry ⟨_, _, da, db, p.fin rh rfl⟩
  · exact p.elim
theorem op_mulM : OpR X (binaryOp .Mult) (r2 X.K oMul) := by
  intro pins s σ H x y v u Q I rx ry ⟨μ, h, a, b, da, db, rh, p⟩
  unfold oMul at p
  split at p
  · split at p
    · rename_i i j hm
      unfold mulOk at hm
      rcases Bool.or_eq_true_iff.mp hm with hm | hm
      · have hq := of_decide_eq_true hm
        exact op_mul pins s σ H x y v u Q I rx ry ⟨_, _, da, db, hq, p.fin rh rfl⟩
      · have hq := of_decide_eq_true hm
        exact op_mulW pins s σ H x y v u Q I rx ry ⟨_, _, da, db, hq, p.fin rh rfl⟩
    · exact p.elim
  · split at p
    · rename_i e1
      split at p
      · rename_i hl
        obtain ⟨a1, vs, rfl, _, q1, d1⟩ := den_lst rh da e1
        exact op_rep pins s σ H _ _ v u Q I rx ry ⟨a1, _, vs, rfl, db, q1, hl.1, hl.2.1, by rw [d1.length]; exact hl.2.2, fun q hq => p.finL rh (d1.rep _) q hq⟩
      · exact p.elim
    · exact p.elim
  · exact p.elim
theorem op_fdivM : OpR X (binaryOp .FloorDiv) (r2 X.K oFdiv) := by
  intro pins s σ H x y v u Q I rx ry ⟨μ, h, a, b, da, db, rh, p⟩
  unfold oFdiv at p
  split at p
  · split at p
    · rename_i i j hm
      unfold divOk at hm
      obtain ⟨h0, hm⟩ := Bool.and_eq_true_iff.mp hm
      rcases Bool.or_eq_true_iff.mp hm with hm | hm
      · exact op_fdiv pins s σ H x y v u Q I rx ry ⟨_, _, da, db, ⟨of_decide_eq_true h0, of_decide_eq_true hm⟩, p.fin rh rfl⟩
      · exact op_fdivW pins s σ H x y v u Q I rx ry ⟨_, _, da, db, ⟨of_decide_eq_true h0, of_decide_eq_true hm⟩, p.fin rh rfl⟩
    · exact p.elim
  · exact p.elim
theorem op_modM : OpR X (binaryOp .Mod) (r2 X.K oMod) := by
  intro pins s σ H x y v u Q I rx ry ⟨μ, h, a, b, da, db, rh, p⟩
  unfold oMod at p
  split at p
  · split at p
    · rename_i hm
      exact op_mod pins s σ H x y v u Q I rx ry ⟨_, _, da, db, hm, p.fin rh rfl⟩
    · exact p.elim
  · exact p.elim
theorem op_powM : OpR X (binaryOp .Pow) (r2 X.K oPow) := by
  intro pins s σ H x y v u Q I rx ry ⟨μ, h, a, b, da, db, rh, p⟩
  unfold oPow at p
  split at p
  · split at p
    · rename_i hm
      unfold powOk at hm
      have hq := of_decide_eq_true hm
      exact op_pow pins s σ H x y v u Q I rx ry ⟨_, _, da, db, hq, p.fin rh rfl⟩
    · exact p.elim
  · exact p.elim
theorem un_negM : UnR X (unaryOp .USub) (r1 X.K oNeg) := by
  intro pins s σ H x v Q I rx ⟨μ, h, a, da, rh, p⟩
  unfold oNeg at p
  split at p
  · exact un_neg pins s σ H x v Q I rx ⟨_, da, p.fin rh rfl⟩
  · exact p.elim
def oIAdd : G2
  | .int i, .int j, h => some (.int (i + j), h)
  | .str x, .str y, h => if x.length + y.length ≤ sizeLine then some (.str (x ++ y), h) else none
  | _, _, _ => none
theorem ip_addM : PIp X .Add (r2 X.K oIAdd) := by
  intro pins s σ H x y v u Q I rx ry ⟨μ, h, a, b, da, db, rh, p⟩
  unfold oIAdd at p
  split at p
  · exact ip_add pins s σ H x y v u Q I rx ry ⟨_, _, da, db, p.fin rh rfl⟩
  · split at p
    · rename_i hl
      exact iop_add_str pins s σ H x y v u Q I rx ry ⟨_, _, da, db, hl, p.fin rh rfl⟩
    · exact p.elim
  · exact p.elim
theorem ip_subM : PIp X .Sub (r2 X.K oSub) := by
  intro pins s σ H x y v u Q I rx ry ⟨μ, h, a, b, da, db, rh, p⟩
  unfold oSub at p
  split at p
  · exact ip_sub pins s σ H x y v u Q I rx ry ⟨_, _, da, db, p.fin rh rfl⟩
  · exact p.elim

/-! ### comparisons -/
def oCmp (r : Int → Int → Bool) : G2
  | .int i, .int j, h => some (.bl (r i j), h)
  | _, _, _ => none
abbrev oLt : G2 := oCmp fun i j => decide (i < j)
abbrev oLe : G2 := oCmp fun i j => decide (i ≤ j)
abbrev oGt : G2 := oCmp fun i j => decide (j < i)
abbrev oGe : G2 := oCmp fun i j => decide (j ≤ i)
theorem op_cmpM {op : CmpOp} {r : Int → Int → Bool} (ho : OpR X (compareOp op) (rI0 fun i j => .bl (r i j))) : OpR X (compareOp op) (r2 X.K (oCmp r)) := by
  intro pins s σ H x y v u Q I rx ry ⟨μ, h, a, b, da, db, rh, p⟩
  unfold oCmp at p
  split at p
  · exact ho pins s σ H x y v u Q I rx ry ⟨_, _, da, db, p.fin rh rfl⟩
  · exact p.elim
theorem op_ltM : OpR X (compareOp .Lt) (r2 X.K oLt) := op_cmpM op_lt
theorem op_leM : OpR X (compareOp .LtE) (r2 X.K oLe) := op_cmpM op_le
theorem op_gtM : OpR X (compareOp .Gt) (r2 X.K oGt) := op_cmpM op_gt
theorem op_geM : OpR X (compareOp .GtE) (r2 X.K oGe) := op_cmpM op_ge
mutual
def toPy (h : Hh) : Nat → D → Option PyData
  | _, .non => some .none
  | _, .bl b => some (.bool b)
  | _, .int i => some (.int i)
  | _, .str x => some (.str x)
  | 0, _ => none
  | n + 1, .tup xs => (toPys h n xs).map .tuple
  | n + 1, .rol xs => (toPys h n xs).map .list
  | n + 1, .ref i => match h[i]? with
    | some (.lst xs) => (toPys h n xs).map .list
    | _ => none
  | _, .ex _ => none
termination_by n d => (n, 0)
def toPys (h : Hh) : Nat → List D → Option (List PyData)
  | _, [] => some []
  | n, d :: ds => match toPy h n d, toPys h n ds with
    | some e, some es => some (e :: es)
    | _, _ => none
termination_by n ds => (n, ds.length + 1)
end
def scalD : D → D → Option Bool
  | .int i, .int j => some (i == j)
  | .str x, .str y => some (x == y)
  | .bl a, .bl b => some (a == b)
  | .non, .non => some true
  | .non, .int _ => some false | .int _, .non => some false | .non, .bl _ => some false | .bl _, .non => some false | .non, .str _ => some false | .str _, .non => some false
  | .int _, .str _ => some false | .str _, .int _ => some false | .bl _, .str _ => some false | .str _, .bl _ => some false
  | _, _ => none
def oEqB (a b : D) (h : Hh) : Option Bool := match scalD a b with
  | some c => some c
  | none => match toPy h 64 a, toPy h 64 b with
    | some d, some e => if SeqAt.shaped d && SeqAt.shaped e then some (PyData.eqv d e) else none
    | _, _ => none
def oEq : G2 := fun a b h => (oEqB a b h).map fun c => (.bl c, h)
def oNe : G2 := fun a b h => (oEqB a b h).map fun c => (.bl (!c), h)
mutual
theorem toPy_dp {K : PySem.W.Frag} {μ : List Addr} {H : Hp} {h : Hh} (rh : RelH K μ H h) : ∀ (n : Nat) (d : D) (v : V) (e : PyData), toPy h n d = some e → Den K μ H d v → Dp K H v e
  | n, .non, _, _, e, dv => by
    unfold toPy at e; cases e; cases dv.to_non; exact .non
  | n, .bl b, _, _, e, dv => by
    unfold toPy at e; cases e; cases dv.to_bl; exact .bl b
  | n, .int b, _, _, e, dv => by
    unfold toPy at e; cases e; cases dv.to_int; exact .int b
  | n, .str b, _, _, e, dv => by
    unfold toPy at e; cases e; cases dv.to_str; exact .str b
  | 0, .tup xs, _, _, e, dv => by unfold toPy at e; cases e
  | 0, .rol xs, _, _, e, dv => by unfold toPy at e; cases e
  | 0, .ref xs, _, _, e, dv => by unfold toPy at e; cases e
  | 0, .ex xs, _, _, e, dv => by unfold toPy at e; cases e
  | n + 1, .ex xs, _, _, e, dv => by unfold toPy at e; cases e
  | n + 1, .tup xs, _, _, e, dv => by
    unfold toPy at e
    cases q : toPys h n xs with
    | none => rw [q] at e; cases e
    | some es =>
      rw [q] at e
      cases e
      obtain ⟨a, vs, rfl, h1, h2⟩ := dv
      exact .tup h1 (toPys_dp rh n xs vs es q h2)
  | n + 1, .rol xs, _, _, e, dv => by
    unfold toPy at e
    cases q : toPys h n xs with
    | none => rw [q] at e; cases e
    | some es =>
      rw [q] at e
      cases e
      obtain ⟨a, vs, rfl, h1, h2⟩ := dv
      exact .lst h1.sq (toPys_dp rh n xs vs es q h2)
  | n + 1, .ref i, _, _, e, dv => by
    unfold toPy at e
    split at e
    · rename_i xs hi
      obtain ⟨a, vs, rfl, _, h1, h2⟩ := den_lst rh dv hi
      cases q : toPys h n xs with
      | none => rw [q] at e; cases e
      | some es =>
        rw [q] at e
        cases e
        exact .lst (SqL.of h1) (toPys_dp rh n xs vs es q h2)
    · cases e
termination_by n d => (n, 0)
theorem toPys_dp {K : PySem.W.Frag} {μ : List Addr} {H : Hp} {h : Hh} (rh : RelH K μ H h) : ∀ (n : Nat) (ds : List D) (vs : List V) (es : List PyData), toPys h n ds = some es → Dens K μ H ds vs → DpAll K H vs es
  | n, [], _, _, e, dv => by
    unfold toPys at e
    cases e
    have dv : _ = [] := dv
    rw [dv]
    exact .nil
  | n, d :: ds, _, _, e, dv => by
    unfold toPys at e
    obtain ⟨v, vr, rfl, h1, h2⟩ := dv
    cases q1 : toPy h n d with
    | none => rw [q1] at e; cases e
    | some e1 =>
      cases q2 : toPys h n ds with
      | none => rw [q1, q2] at e; cases e
      | some e2 =>
        rw [q1, q2] at e
        cases e
        exact .cons (toPy_dp rh n d v e1 q1 h1) (toPys_dp rh n ds vr e2 q2 h2)
termination_by n ds => (n, ds.length + 1)
end
theorem scal_ok {K : PySem.W.Frag} {μ : List Addr} {H : Hp} {a b : D} {x y : V} {c : Bool} (e : scalD a b = some c) (da : Den K μ H a x) (db : Den K μ H b y) : scal x y = true ∧ decide (x = y) = c := by
  unfold scalD at e
  split at e <;> first
    | (cases e; cases da.to_int; cases db.to_int; refine ⟨rfl, ?_⟩; exact dec_int)
    | (cases e; cases da.to_str; cases db.to_str; refine ⟨rfl, ?_⟩; rw [Bool.eq_iff_iff]; simp)
    | (cases e; cases da.to_bl; cases db.to_bl; refine ⟨rfl, ?_⟩; rw [Bool.eq_iff_iff]; simp)
    | (cases e; cases da; cases db; exact ⟨rfl, rfl⟩)
    | cases e
theorem op_eqM (hu : X.A.units + 64 < cLine) : OpR X (compareOp .Eq) (r2 X.K oEq) := by
  intro pins s σ H x y v u Q I rx ry ⟨μ, h, a, b, da, db, rh, p⟩
  unfold oEq oEqB at p
  split at p
  · rename_i c e
    obtain ⟨h1, h2⟩ := scal_ok e da db
    exact op_eq pins s σ H x y v u Q I rx ry ⟨h1, by rw [h2]; exact p.fin rh rfl⟩
  · split at p
    · rename_i d e ed ee
      split at p
      · rename_i hs
        obtain ⟨s1, s2⟩ := Bool.and_eq_true_iff.mp hs
        exact op_eqD hu pins s σ H x y v u Q I rx ry ⟨d, e, toPy_dp rh _ _ _ _ ed da, toPy_dp rh _ _ _ _ ee db, s1, s2, p.fin rh rfl⟩
      · exact p.elim
    · exact p.elim
theorem op_neM (hu : X.A.units + 64 < cLine) : OpR X (compareOp .NotEq) (r2 X.K oNe) := by
  intro pins s σ H x y v u Q I rx ry ⟨μ, h, a, b, da, db, rh, p⟩
  unfold oNe oEqB at p
  split at p
  · rename_i c e
    obtain ⟨h1, h2⟩ := scal_ok e da db
    exact op_ne pins s σ H x y v u Q I rx ry ⟨h1, by rw [h2]; exact p.fin rh rfl⟩
  · split at p
    · rename_i d e ed ee
      split at p
      · rename_i hs
        obtain ⟨s1, s2⟩ := Bool.and_eq_true_iff.mp hs
        exact op_neD hu pins s σ H x y v u Q I rx ry ⟨d, e, toPy_dp rh _ _ _ _ ed da, toPy_dp rh _ _ _ _ ee db, s1, s2, p.fin rh rfl⟩
      · exact p.elim
    · exact p.elim
def isNon : D → Bool
  | .non => true
  | _ => false
theorem isNon_ok {K : PySem.W.Frag} {μ : List Addr} {H : Hp} {a : D} {x : V} (d : Den K μ H a x) : decide (x = .non) = isNon a := by
  cases a with
  | non => cases d.to_non; rfl
  | bl b => cases d.to_bl; rfl
  | int b => cases d.to_int; rfl
  | str b => cases d.to_str; rfl
  | tup b => obtain ⟨_, _, rfl, _⟩ := d; rfl
  | rol b => obtain ⟨_, _, rfl, _⟩ := d; rfl
  | ref b => obtain ⟨_, rfl, _⟩ := d; rfl
  | ex b => have d : x = .ref b := d; subst d; rfl
/-- a is None -/
def oIsN : G2
  | a, .non, h => some (.bl (isNon a), h)
  | _, _, _ => none
def oNotN : G2
  | a, .non, h => some (.bl (!isNon a), h)
  | _, _, _ => none
theorem op_isM : OpR X (compareOp .Is) (r2 X.K oIsN) := by
  intro pins s σ H x y v u Q I rx ry ⟨μ, h, a, b, da, db, rh, p⟩
  unfold oIsN at p
  split at p
  · exact op_isN pins s σ H x y v u Q I rx ry ⟨db, by rw [isNon_ok da]; exact p.fin rh rfl⟩
  · exact p.elim
theorem op_notM : OpR X (compareOp .IsNot) (r2 X.K oNotN) := by
  intro pins s σ H x y v u Q I rx ry ⟨μ, h, a, b, da, db, rh, p⟩
  unfold oNotN at p
  split at p
  · exact op_notN pins s σ H x y v u Q I rx ry ⟨db, by rw [isNon_ok da]; exact p.fin rh rfl⟩
  · exact p.elim

/-! ### subscripts -/
def oIx : G2
  | .tup xs, .int i, h => (atI xs i).map fun d => (d, h)
  | .rol xs, .int i, h => (atI xs i).map fun d => (d, h)
  | .str z, .int i, h => if z.length ≤ sizeLine then (atI z.cps.toList i).map fun c => (.str ⟨#[c]⟩, h) else none
  | .ref a, .int i, h => match h[a]? with
    | some (.lst xs) => (atI xs i).map fun d => (d, h)
    | _ => none
  | _, _, _ => none
theorem Dens.atI {K : PySem.W.Frag} {μ : List Addr} {H : Hp} {ds : List D} {vs : List V} {i : Int} {d : D} (r : Dens K μ H ds vs) (e : L2.atI ds i = some d) : ∃ v, L2.atI vs i = some v ∧ Den K μ H d v := by
  unfold L2.atI at e ⊢
  rw [r.length]
  cases q : ixN ds.length i with
  | none => rw [q] at e; cases e
  | some j =>
    rw [q] at e
    exact r.get e
theorem ix_M : IxR X (r2 X.K oIx) := by
  intro value slice pins s σ H x y v u Q I rx ry ⟨μ, h, a, b, da, db, rh, p⟩ hs
  unfold oIx at p
  split at p
  · cases e : atI _ _ with
    | none => rw [e] at p; exact p.elim
    | some d =>
      rw [e] at p
      obtain ⟨a1, vs, rfl, q1, d1⟩ := da
      obtain ⟨w, e1, dw⟩ := d1.atI e
      exact ix_tup value slice pins s σ H _ _ v u Q I rx ry ⟨a1, vs, _, w, rfl, db, q1, e1, p.fin rh dw⟩ hs
  · cases e : atI _ _ with
    | none => rw [e] at p; exact p.elim
    | some d =>
      rw [e] at p
      obtain ⟨a1, vs, rfl, q1, d1⟩ := da
      obtain ⟨w, e1, dw⟩ := d1.atI e
      exact ix_list value slice pins s σ H _ _ v u Q I rx ry ⟨a1, vs, _, w, rfl, db, q1.sq, e1, p.fin rh dw⟩ hs
  · split at p
    · rename_i hl
      cases e : atI _ _ with
      | none => rw [e] at p; exact p.elim
      | some d =>
        rw [e] at p
        exact ix_str value slice pins s σ H _ _ v u Q I rx ry ⟨_, _, d, da, db, hl, e, p.fin rh rfl⟩ hs
    · exact p.elim
  · split at p
    · rename_i hi
      cases e : atI _ _ with
      | none => rw [e] at p; exact p.elim
      | some d =>
        rw [e] at p
        obtain ⟨a1, vs, rfl, _, q1, d1⟩ := den_lst rh da hi
        obtain ⟨w, e1, dw⟩ := d1.atI e
        exact ix_list value slice pins s σ H _ _ v u Q I rx ry ⟨a1, vs, _, w, rfl, db, SqL.of q1, e1, p.fin rh dw⟩ hs
    · exact p.elim
  · exact p.elim
/-- the store xs[i] = v -/
def oSet : D → D → D → Hh → Option Hh
  | .ref a, .int k, v, h => match h[a]? with
    | some (.lst xs) => (ixN xs.length k).map fun j => h.set a (.lst (xs.set j v))
    | _ => none
  | _, _, _, _ => none
def rset (K : PySem.W.Frag) (g : D → D → D → Hh → Option Hh) : TSet := fun o i v H Q => ∃ μ h a b c, Den K μ H a o ∧ Den K μ H b i ∧ Den K μ H c v ∧ RelH K μ H h ∧ match g a b c h with
  | some h' => ∀ μ' H', Step μ H μ' H' → RelH K μ' H' h' → Q H'
  | none => False
theorem put_lst {K : PySem.W.Frag} {μ : List Addr} {H : Hp} {h : Hh} {i : Nat} {a : Addr} {xs ys : List D} {vs ws : List V} (rh : RelH K μ H h) (hi : h[i]? = some (.lst xs)) (ha : μ[i]? = some a) (hv : H a = some (.lst vs)) (dw : Dens K μ H ys ws) :
    Step μ H μ (upd H a (.lst ws)) ∧ RelH K μ (upd H a (.lst ws)) (h.set i (.lst ys)) := by
  have s : Step μ H μ (upd H a (.lst ws)) := Step.set hv (fun _ z => by cases z) (fun _ _ z => by cases z) (fun _ z => by cases z)
  exact ⟨s, rh.put hi ha ⟨ws, upd_same, dw.mono s⟩⟩
theorem set_M : PSet X (rset X.K oSet) := by
  intro pins s σ H o i v ov iv u Q I ro ri rv ⟨μ, h, a, b, c, da, db, dc, rh, p⟩
  unfold oSet at p
  cases a with
  | ref a1 =>
    cases b with
    | int k1 =>
      cases e1 : h[a1]? with
      | none => simp only [e1] at p
      | some ob =>
        cases ob with
        | lst xs =>
          cases e2 : ixN xs.length k1 with
          | none => simp only [e1, e2, Option.map_none] at p
          | some j =>
            simp only [e1, e2, Option.map_some] at p
            obtain ⟨a2, vs, rfl, ha, hv, d1⟩ := den_lst rh da e1
            obtain ⟨st, r⟩ := put_lst rh e1 ha hv (Dens.set dc j d1)
            exact set_list pins s σ H _ _ _ ov iv u Q I ro ri rv ⟨a2, vs, k1, j, rfl, db, hv, by rw [d1.length]; exact e2, p _ _ st r⟩
        | dct xs => simp only [e1] at p
        | dctT xs => simp only [e1] at p
    | _ => exact p.elim
  | _ => exact p.elim
end
end PI
/-! Built-in functions, methods, iterators. -/
namespace PI
open PySem PySem.Spec L2
open PyProof.Rows hiding St

/-! ### the type of a thing -/
def tyD (h : Hh) : D → Option String
  | .non => some "NoneType"
  | .bl _ => some "bool"
  | .int _ => some "int"
  | .str _ => some "str"
  | .tup _ => some "tuple"
  | .rol _ => some "list"
  | .ref i => match h[i]? with
    | some (.lst _) => some "list"
    | some (.dct _) => some "dict"
    | some (.dctT _) => some "dict"
    | none => none
  | .ex _ => none
theorem tyD_ok {K : PySem.W.Frag} {μ : List Addr} {H : Hp} {h : Hh} (rh : RelH K μ H h) : ∀ {d : D} {v : V} {t : String}, tyD h d = some t → Den K μ H d v → TyX K H v (.type t)
  | .non, _, _, e, dv => by cases e; cases dv.to_non; exact .base .non
  | .bl b, _, _, e, dv => by cases e; cases dv.to_bl; exact .base (.bl b)
  | .int b, _, _, e, dv => by cases e; cases dv.to_int; exact .base (.int b)
  | .str b, _, _, e, dv => by cases e; cases dv.to_str; exact .base (.str b)
  | .tup xs, _, _, e, dv => by
    cases e
    obtain ⟨a, vs, rfl, q, _⟩ := dv
    rcases q with (q | ⟨o, q⟩) | ⟨o, its, n, q1, q2, _⟩
    · exact .base (.tup q)
    · exact .fTuple q
    · exact .kTuple q1 q2
  | .rol xs, _, _, e, dv => by
    cases e
    obtain ⟨a, vs, rfl, q, _⟩ := dv
    rcases q with ⟨o, q⟩ | ⟨o, its, n, q1, q2, _⟩
    · exact .base (.frz q)
    · exact .kList q1 q2
  | .ref i, _, _, e, dv => by
    have e : (match h[i]? with
      | some (.lst _) => some "list"
      | some (.dct _) => some "dict"
      | some (.dctT _) => some "dict"
      | none => none) = some _ := e
    obtain ⟨a, rfl, ha⟩ := dv
    split at e
    · rename_i xs hi
      cases e
      obtain ⟨b, hb, vs, hv, _⟩ := rh.obj i _ hi
      rw [ha] at hb; cases hb
      exact .base (.lst hv)
    · rename_i xs hi
      cases e
      obtain ⟨b, hb, vs, hv, _⟩ := rh.obj i _ hi
      rw [ha] at hb; cases hb
      exact .base (.dK hv)
    · rename_i xs hi
      cases e
      obtain ⟨b, hb, vs, hv, _⟩ := rh.obj i _ hi
      rw [ha] at hb; cases hb
      exact .base (.dT hv)
    · cases e
  | .ex _, _, _, e, _ => by cases e
def subT (t T : String) : Bool := t == T || (t == "bool" && T == "int")
theorem subT_ok {K : PySem.W.Frag} {t T : String} (ht : t ∈ ["NoneType", "bool", "int", "str", "tuple", "list", "dict"]) (hT : T ∈ ["int", "bool", "str", "tuple", "list", "dict"]) : PySem.W.kitOne K (.type t) (.type T) = some (subT t T) := by
  simp only [List.mem_cons, List.not_mem_nil, or_false] at ht hT
  rcases ht with rfl | rfl | rfl | rfl | rfl | rfl | rfl <;> rcases hT with rfl | rfl | rfl | rfl | rfl | rfl <;> exact kit_ty (by decide +kernel)
theorem tyD_mem {h : Hh} {d : D} {t : String} (e : tyD h d = some t) : t ∈ ["NoneType", "bool", "int", "str", "tuple", "list", "dict"] := by
  unfold tyD at e
  repeat' split at e
  all_goals first | (cases e; simp) | cases e
/-- isinstance(x, T) -/
def mIsi (T : String) (m : ME) : ME := fun ρ h => (m ρ h).bind fun d h1 => match tyD h1 d with
  | some t => .ok (.bl (subT t T)) h1
  | none => .bad
section
variable {X : Cx} {ct : Ctb} {W : WX}
theorem se_isi {e : Expr} {T : String} {x : Str} {p p2 pos : Pos} {m : ME} (hT : T ∈ ["int", "bool", "str", "tuple", "list", "dict"]) (hg : Gl X "isinstance") (hm : X.mg "isinstance" = none) (hgx : Gl X x) (hmx : X.mg x = none) (hv : bootBuiltins x = some (.type T)) (ha : SE X ct W e m) (hnx : x ≠ "__name__" := by decide) (hdx : (x == ("__debug__" : Str)) = false := by decide)
    (hs2 : starEach [.Name x p2] X.env = (false, eval (.Name x p2) X.env) :: starEach [] X.env := by rfl) (he : starEach [e, .Name x p2] X.env = (false, eval e X.env) :: starEach [.Name x p2] X.env := by rfl) (hpl : (backTo pos (starEach [.Name x p2] X.env)).any (·.1) = false := by rfl) :
    SE X ct W (.Call (.Name "isinstance" p) [e, .Name x p2] [] pos) (mIsi T m) :=
  (pe_callB call_isi hg hm PyProof.Rows.boot_isinstance (pa_cons ha (pa_cons (pe_bltn (v := .ty T) hgx hmx hv rfl hnx hdx) pa_nil hs2) he) (by decide) (by decide) he hpl).imp fun σ H Q ⟨μ, ρ, h, rs, rh, po⟩ => rdE.go rs rh po fun d h1 μ1 H1 v s1 rs1 rh1 dv p1 => by
    split at p1
    · rename_i t et
      exact ⟨v, .ty T, .type t, .type T, subT t T, rfl, .ty T, tyD_ok rh1 et dv, subT_ok (tyD_mem et) hT, p1.at rh1 _ rfl⟩
    · exact p1.elim
end

/-! ### built-ins by values -/
def lenD (h : Hh) : D → Option Nat
  | .str x => if x.length ≤ sizeLine then some x.length else none
  | .tup xs => some xs.length
  | .rol xs => some xs.length
  | .ref i => match h[i]? with
    | some (.lst xs) => some xs.length
    | _ => none
  | _ => none
def bLen : GN
  | [d], h => match lenD h d with
    | some n => some (.int (n : Int), h)
    | none => none
  | _, _ => none
def bAbs : GN
  | [.int i], h => some (.int (if i < 0 then -i else i), h)
  | _, _ => none
def bInt : GN
  | [.int i], h => some (.int i, h)
  | [.bl b], h => some (.int (if b then 1 else 0), h)
  | _, _ => none
def bGcd : GN
  | [.int a, .int b], h => some (.int ((Nat.gcd a.natAbs b.natAbs : Nat) : Int), h)
  | _, _ => none
def bMax2 : GN
  | [.int i, .int j], h => some (.int (if j > i then j else i), h)
  | _, _ => none
def bMin2 : GN
  | [.int i, .int j], h => some (.int (if j < i then j else i), h)
  | _, _ => none
/-- list(x) -/
def bList : GN
  | [.tup xs], h => some (.ref h.length, h ++ [.lst xs])
  | [.rol xs], h => some (.ref h.length, h ++ [.lst xs])
  | [.ref i], h => match h[i]? with
    | some (.lst xs) => some (.ref h.length, h ++ [.lst xs])
    | _ => none
  | _, _ => none
/-- tuple(x) -/
def bTuple : GN
  | [.tup xs], h => some (.tup xs, h)
  | [.rol xs], h => some (.tup xs, h)
  | [.ref i], h => match h[i]? with
    | some (.lst xs) => some (.tup xs, h)
    | _ => none
  | _, _ => none
theorem dens1 {K : PySem.W.Frag} {μ : List Addr} {H : Hp} {d : D} {vs : List V} (h : Dens K μ H [d] vs) : ∃ v, vs = [v] ∧ Den K μ H d v := by
  obtain ⟨v, vr, e, q, r⟩ := h
  have r : vr = [] := r
  subst r
  exact ⟨v, e, q⟩
theorem dens2 {K : PySem.W.Frag} {μ : List Addr} {H : Hp} {d e : D} {vs : List V} (h : Dens K μ H [d, e] vs) : ∃ v w, vs = [v, w] ∧ Den K μ H d v ∧ Den K μ H e w := by
  obtain ⟨v, vr, e, q, r⟩ := h
  obtain ⟨w, ew, z⟩ := dens1 r
  subst ew
  exact ⟨v, w, e, q, z⟩
section
variable {X : Cx}
theorem cr_len : CallR X (.builtin "len") (rN X.K bLen) := by
  intro pins s σ H xs us Q I r ⟨μ, h, as, da, rh, p⟩
  unfold bLen at p
  split at p
  · split at p
    · rename_i d n e
      obtain ⟨v, rfl, dv⟩ := dens1 da
      refine call_len pins s σ H _ us Q I r ⟨v, n, rfl, ?_, p.fin rh rfl⟩
      unfold lenD at e
      split at e
      · split at e
        · rename_i hl
          cases e
          cases dv.to_str
          exact ⟨hl, rfl⟩
        · cases e
      · cases e
        obtain ⟨a, vs, rfl, q, dd⟩ := dv
        exact .inr ⟨vs, q, by rw [dd.length]⟩
      · cases e
        obtain ⟨a, vs, rfl, q, dd⟩ := dv
        exact .inl ⟨vs, q.sq, by rw [dd.length]⟩
      · split at e
        · rename_i hi
          cases e
          obtain ⟨a, vs, rfl, _, q, dd⟩ := den_lst rh dv hi
          exact .inl ⟨vs, SqL.of q, by rw [dd.length]⟩
        · cases e
      · cases e
    · exact p.elim
  · exact p.elim
theorem cr_abs : CallR X (.builtin "abs") (rN X.K bAbs) := by
  intro pins s σ H xs us Q I r ⟨μ, h, as, da, rh, p⟩
  unfold bAbs at p
  split at p
  · obtain ⟨v, rfl, dv⟩ := dens1 da
    cases dv.to_int
    exact call_abs pins s σ H _ us Q I r ⟨_, rfl, p.fin rh rfl⟩
  · exact p.elim
theorem cr_int : CallR X (.type "int") (rN X.K bInt) := by
  intro pins s σ H xs us Q I r ⟨μ, h, as, da, rh, p⟩
  unfold bInt at p
  split at p
  · obtain ⟨v, rfl, dv⟩ := dens1 da
    cases dv.to_int
    exact call_int1 pins s σ H _ us Q I r (.inl ⟨_, rfl, p.fin rh rfl⟩)
  · obtain ⟨v, rfl, dv⟩ := dens1 da
    cases dv.to_bl
    exact call_int1 pins s σ H _ us Q I r (.inr ⟨_, rfl, p.fin rh rfl⟩)
  · exact p.elim
theorem cr_gcdM : CallR X (.builtin "math.gcd") (rN X.K bGcd) := by
  intro pins s σ H xs us Q I r ⟨μ, h, as, da, rh, p⟩
  unfold bGcd at p
  split at p
  · obtain ⟨v, w, rfl, dv, dw⟩ := dens2 da
    cases dv.to_int
    cases dw.to_int
    exact cr_gcd pins s σ H _ us Q I r ⟨_, _, rfl, p.fin rh rfl⟩
  · exact p.elim
theorem cr_max2 (hc : X.calm = true) : CallR X (.builtin "max") (rN X.K bMax2) := by
  intro pins s σ H xs us Q I r ⟨μ, h, as, da, rh, p⟩
  unfold bMax2 at p
  split at p
  · obtain ⟨v, w, rfl, dv, dw⟩ := dens2 da
    cases dv.to_int
    cases dw.to_int
    exact call_max2 hc pins s σ H _ us Q I r ⟨_, _, rfl, p.fin rh rfl⟩
  · exact p.elim
theorem cr_min2 (hc : X.calm = true) : CallR X (.builtin "min") (rN X.K bMin2) := by
  intro pins s σ H xs us Q I r ⟨μ, h, as, da, rh, p⟩
  unfold bMin2 at p
  split at p
  · obtain ⟨v, w, rfl, dv, dw⟩ := dens2 da
    cases dv.to_int
    cases dw.to_int
    exact call_min2 hc pins s σ H _ us Q I r ⟨_, _, rfl, p.fin rh rfl⟩
  · exact p.elim
theorem cr_list : CallR X (.type "list") (rN X.K bList) := by
  intro pins s σ H xs us Q I r ⟨μ, h, as, da, rh, p⟩
  unfold bList at p
  split at p
  · obtain ⟨v, rfl, a, vs, rfl, q, dd⟩ := dens1 da
    exact call_list_of pins s σ H _ us Q I r ⟨a, vs, rfl, .inr q, fun l hl => p.finL rh dd l hl⟩
  · obtain ⟨v, rfl, a, vs, rfl, q, dd⟩ := dens1 da
    exact call_list_of pins s σ H _ us Q I r ⟨a, vs, rfl, .inl q.sq, fun l hl => p.finL rh dd l hl⟩
  · split at p
    · rename_i hi
      obtain ⟨v, rfl, dv⟩ := dens1 da
      obtain ⟨a, vs, rfl, _, q, dd⟩ := den_lst rh dv hi
      exact call_list_of pins s σ H _ us Q I r ⟨a, vs, rfl, .inl (SqL.of q), fun l hl => p.finL rh dd l hl⟩
    · exact p.elim
  · exact p.elim
theorem cr_tuple : CallR X (.type "tuple") (rN X.K bTuple) := by
  intro pins s σ H xs us Q I r ⟨μ, h, as, da, rh, p⟩
  unfold bTuple at p
  split at p
  · obtain ⟨v, rfl, a, vs, rfl, q, dd⟩ := dens1 da
    exact call_tuple_of pins s σ H _ us Q I r ⟨a, vs, rfl, .inr ⟨q, p.fin rh ⟨a, vs, rfl, q, dd⟩⟩⟩
  · obtain ⟨v, rfl, a, vs, rfl, q, dd⟩ := dens1 da
    exact call_tuple_of pins s σ H _ us Q I r ⟨a, vs, rfl, .inl ⟨q.sq, fun l hl => p.finT rh dd l hl⟩⟩
  · split at p
    · rename_i hi
      obtain ⟨v, rfl, dv⟩ := dens1 da
      obtain ⟨a, vs, rfl, _, q, dd⟩ := den_lst rh dv hi
      exact call_tuple_of pins s σ H _ us Q I r ⟨a, vs, rfl, .inl ⟨SqL.of q, fun l hl => p.finT rh dd l hl⟩⟩
    · exact p.elim
  · exact p.elim
end

/-! ### list.append, and items changed by an operator -/
def mMset (g : D → List D → Hh → Option (D × Hh)) (mo : ME) (ma : MA) : ME := fun ρ h => (mo ρ h).bind fun o h1 => match o with
  | .ref i => match h1[i]? with
    | some (.lst _) => (ma ρ h1).bind fun as h2 => Out.ofO (g o as h2)
    | _ => .bad
  | _ => .bad
def lAppend : D → List D → Hh → Option (D × Hh)
  | .ref i, [d], h => match h[i]? with
    | some (.lst xs) => if xs.length < sizeLine then some (.non, h.set i (.lst (xs ++ [d]))) else none
    | _ => none
  | _, _, _ => none
section
variable {X : Cx} {ct : Ctb} {W : WX}
def rM (K : PySem.W.Frag) (g : D → List D → Hh → Option (D × Hh)) : V → List V → Hp → VK → Prop := fun x xs H Q => ∃ μ h a as, Den K μ H a x ∧ Dens K μ H as xs ∧ RelH K μ H h ∧ POo K μ H (fun d _ μ' H' => ∀ v, Den K μ' H' d v → Q v H') (g a as h)
theorem mt_appendM : MtM X "list.append" (rM X.K lAppend) := by
  intro pins s σ H x xs v us Q I rx rv ⟨μ, h, a, as, da, das, rh, p⟩
  unfold lAppend at p
  split at p
  · split at p
    · rename_i hi
      split at p
      · rename_i hl
        obtain ⟨b, vs, rfl, ha, hv, dd⟩ := den_lst rh da hi
        obtain ⟨w, rfl, dw⟩ := dens1 das
        obtain ⟨st, r⟩ := put_lst rh hi ha hv (dd.append das)
        exact mt_append pins s σ H _ _ v us Q I rx rv ⟨b, vs, w, rfl, rfl, hv, by rw [dd.length]; exact hl, p _ _ st r _ rfl⟩
      · exact p.elim
    · exact p.elim
  · exact p.elim
/-- a method of a list -/
theorem se_lm {o e : Expr} {es : List Expr} {name : Str} {id : String} {apos cpos : Pos} {g : D → List D → Hh → Option (D × Hh)} {mo : ME} {ma : MA} (slot : Slot "list" name id) (hty : typeOf (.builtin id) = pure (.type "method_descriptor")) (hm : MtR X id (rM X.K g)) (ho : SE X ct W o mo) (ha : SA X ct W (e :: es) ma)
    (hbase : attributeBase o name X.env (eval o X.env) = eval o X.env := by rfl)
    (hfew : ((backTo cpos (starEach (e :: es) X.env)).all (fun x => !x.1) && (backToKw cpos (keywordEach [] X.env)).all (fun x => x.1.isSome) && decide ((e :: es).length + ([] : List Keyword).length + (if ([] : List Keyword).isEmpty then 0 else 1) < 30)) = true := by rfl)
    (he : starEach (e :: es) X.env = (false, eval e X.env) :: starEach es X.env := by rfl) (hpl : (backTo cpos (starEach es X.env)).any (·.1) = false := by rfl) (hline : (apos.endLine == cpos.line) = true := by rfl) :
    SE X ct W (.Call (.Attribute o name apos) (e :: es) [] cpos) (mMset g mo ma) := by
  refine L2.PE.imp (pe_bm PySem.F.plainAttrs_list slot hty hm ho ha hbase hfew hline he hpl) fun σ H Q ⟨μ, ρ, h, rs, rh, p⟩ => rdE.go rs rh p fun d h1 μ1 H1 v s1 rs1 rh1 dv p1 => ?_
  split at p1
  · rename_i i
    split at p1
    · rename_i xs hi
      obtain ⟨a, vs, rfl, ha, hv, dd⟩ := den_lst rh1 dv hi
      exact ⟨.inl ⟨rfl, vs, SqL.of hv⟩, rdA.go rs1 rh1 p1 fun as h2 μ2 H2 ws s2 rs2 rh2 das p2 => ⟨μ2, h2, .ref i, as, dv.mono s2, das, rh2, p2.ofO⟩⟩
    · exact p1.elim
  · exact p1.elim
/-- xs[i], a list, 0 ≤ i -/
def oIxL : G2
  | .ref a, .int i, h => match h[a]? with
    | some (.lst xs) => if 0 ≤ i ∧ i < 2 ^ 63 then (xs[i.toNat]?).map fun d => (d, h) else none
    | _ => none
  | _, _, _ => none
theorem get_M : PGet X (r2 X.K oIxL) := by
  intro pins s σ H o i ov iv Q I ro ri ⟨μ, h, a, b, da, db, rh, p⟩
  cases a with
  | ref a1 =>
    cases b with
    | int k =>
      cases hi : h[a1]? with
      | none => simp only [oIxL, hi] at p; exact p.elim
      | some ob =>
        cases ob with
        | lst xs =>
          by_cases h0 : 0 ≤ k ∧ k < 2 ^ 63
          · cases e : xs[k.toNat]? with
            | none => simp only [oIxL, hi, if_pos h0, e, Option.map_none] at p; exact p.elim
            | some d =>
              simp only [oIxL, hi, if_pos h0, e, Option.map_some] at p
              obtain ⟨a2, vs, rfl, _, hv, dd⟩ := den_lst rh da hi
              cases ro
              cases db.to_int
              obtain ⟨t, rfl⟩ := ri
              obtain ⟨its, r, pl, hz⟩ := I.list (SqL.of hv)
              obtain ⟨w, ew, dw⟩ := dd.get e
              obtain ⟨u, eu, ru⟩ := r.get ew
              exact wpAny_getItem_list pl.isList h0.1 h0.2 (by simpa using eu) ⟨w, H, I, ru, p.fin rh dw⟩
          · simp only [oIxL, hi, if_neg h0] at p; exact p.elim
        | dct xs => simp only [oIxL, hi] at p; exact p.elim
        | dctT xs => simp only [oIxL, hi] at p; exact p.elim
    | _ => exact p.elim
  | _ => exact p.elim
/-- o[i] = e -/
def gmSub (g : D → D → D → Hh → Option Hh) (mo mi : ME) : MG := fun d ρ h => match mo ρ h with
  | .ok o h1 => match mi ρ h1 with
    | .ok i h2 => (g o i d h2).map fun h3 => (ρ, h3)
    | _ => none
  | _ => none
theorem sg_sub {o i : Expr} {mo mi : ME} {pos : Pos} {g : D → D → D → Hh → Option Hh} (ho : SE X ct W o mo) (hi : SE X ct W i mi) (hs : PSet X (rset X.K g))
    (ha : ∀ v, assign (.Subscript o i pos) X.env v = (do
      let ov ← holding [v] (eval o X.env)
      let iv ← holding [v, ov] (eval i X.env)
      standAt pos
      holding [v, ov, iv] (setItem ov iv v)
      release [v, ov, iv] []) := by intro _; rfl) : SG X (.Subscript o i pos) (gmSub g mo mi) :=
  (pg_sub ho hi hs ha).imp fun v σ H Q ⟨μ, ρ, h, d, rs, rh, dv, p⟩ => by
    cases e1 : mo ρ h with
    | ok od h1 =>
      cases e2 : mi ρ h1 with
      | ok idd h2 =>
        cases e3 : g od idd d h2 with
        | some h3 =>
          have hg : gmSub g mo mi d ρ h = some (ρ, h3) := by unfold gmSub; simp only [e1, e2, e3, Option.map_some]
          rw [hg] at p
          refine ⟨μ, ρ, h, rs, rh, ?_⟩
          rw [e1]
          intro μ1 H1 s1 rh1 x dx
          refine ⟨μ1, ρ, h1, rs.mono s1, rh1, ?_⟩
          rw [e2]
          intro μ2 H2 s2 rh2 y dy
          refine ⟨μ2, h2, od, idd, d, dx.mono s2, dy, (dv.mono s1).mono s2, rh2, ?_⟩
          rw [e3]
          intro μ3 H3 s3 rh3
          exact p μ3 H3 σ ((s1.trans s2).trans s3) rh3 (((rs.mono s1).mono s2).mono s3)
        | none =>
          have hg : gmSub g mo mi d ρ h = none := by unfold gmSub; simp only [e1, e2, e3, Option.map_none]
          rw [hg] at p
          exact p.elim
      | err x h2 =>
        have hg : gmSub g mo mi d ρ h = none := by unfold gmSub; simp only [e1, e2]
        rw [hg] at p
        exact p.elim
      | bad =>
        have hg : gmSub g mo mi d ρ h = none := by unfold gmSub; simp only [e1, e2]
        rw [hg] at p
        exact p.elim
    | err x h2 =>
      have hg : gmSub g mo mi d ρ h = none := by unfold gmSub; simp only [e1]
      rw [hg] at p
      exact p.elim
    | bad =>
      have hg : gmSub g mo mi d ρ h = none := by unfold gmSub; simp only [e1]
      rw [hg] at p
      exact p.elim
/-- o[i] op= e -/
def mAugS (g : G2) (gi : G2) (gs : D → D → D → Hh → Option Hh) (mo mi me : ME) : MS := fun ρ h => (mo ρ h).bindS ρ fun o h1 => (mi ρ h1).bindS ρ fun i h2 => (Out.ofO (g o i h2)).bindS ρ fun x h3 => (me ρ h3).bindS ρ fun y h4 => (Out.ofO (gi x y h4)).bindS ρ fun z h5 => match gs o i z h5 with
  | some h6 => .nx ρ h6
  | none => .bad
theorem ss_augS {o i e : Expr} {mo mi me : ME} {g gi : G2} {gs : D → D → D → Hh → Option Hh} {op : Operator} {tpos pos : Pos} (ho : SE X ct W o mo) (hi : SE X ct W i mi) (hg : PGet X (r2 X.K g)) (he : SE X ct W e me) (hp : PIp X op (r2 X.K gi)) (hs : PSet X (rset X.K gs))
    (ha : ∀ ov iv new, augStore i ov iv new = (do holding [new, ov, iv] (setItem ov iv new); release [new, ov, iv] []; pure .next) := by intros; rfl) : SS X ct W (.AugAssign (.Subscript o i tpos) op e pos) (mAugS g gi gs mo mi me) :=
  (ps_augS ho hi hg he hp hs ha).imp fun D σ H ⟨μ, ρ, h, rs, rh, p⟩ => rdE.goS rs rh p fun od h1 μ1 H1 ov s1 rs1 rh1 do1 p1 => rdE.goS rs1 rh1 p1 fun id1 h2 μ2 H2 iv s2 rs2 rh2 di1 p2 =>
    ⟨μ2, h2, od, id1, do1.mono s2, di1, rh2, (PSt.bindS (W := W) rs2 p2).ofO.mono fun x h3 μ3 H3 s3 rh3 p3 xv dx => rdE.goS (rs2.mono s3) rh3 p3 fun y h4 μ4 H4 yv s4 rs4 rh4 dy p4 =>
      ⟨μ4, h4, x, y, dx.mono s4, dy, rh4, (PSt.bindS (W := W) rs4 p4).ofO.mono fun z h5 μ5 H5 s5 rh5 p5 zv dz => ⟨μ5, h5, od, id1, z, (((do1.mono s2).mono s3).mono s4).mono s5, ((di1.mono s3).mono s4).mono s5, dz, rh5, by
        split at p5
        · rename_i h6 e6
          try rw [e6]
          exact fun μ6 H6 s6 rh6 => p5 μ6 H6 σ s6 rh6 ((rs4.mono s5).mono s6)
        · exact p5.elim⟩⟩⟩
end

/-! ### iterators -/
section
variable {X : Cx} {ct : Ctb} {W : WX} {tg : Expr}
/-- over a tuple, a list that is only read, or a list of ours -/
def jSeq (xs : List D) : MIt := ⟨fun i _ => some xs[i]?, xs.length⟩
def jRef (a : Nat) (n : Nat) : MIt := ⟨fun i h => match h[a]? with
  | some (.lst xs) => some xs[i]?
  | _ => none, n⟩
def jRng (lo : Int) (n : Nat) : MIt := ⟨fun i _ => some (if i < n then some (.int (lo + i)) else none), n⟩
def iterD : D → Hh → Option MIt
  | .tup xs, _ => some (jSeq xs)
  | _, _ => none
def iterL : D → Hh → Option MIt
  | .rol xs, _ => some (jSeq xs)
  | .ref a, h => match h[a]? with
    | some (.lst xs) => some (jRef a xs.length)
    | _ => none
  | _, _ => none
def miOf (f : D → Hh → Option MIt) (m : ME) : MI := fun ρ h => (m ρ h).bind fun d h1 => match f d h1 with
  | some j => .ok j h1
  | none => .bad
theorem itr_tup {K : PySem.W.Frag} {μ : List Addr} {H : Hp} {a : Addr} {xs : List D} {vs : List V} (q : SqT K H a vs) (d : Dens K μ H xs vs) : ItR K μ H (Itt K a) (jSeq xs) where
  stop := fun i μ' H' h' s rh e => ⟨vs, s.sqT q, by
    have e : xs[i]? = none := Option.some.inj e
    rw [d.length]
    exact List.getElem?_eq_none_iff.mp e⟩
  go := fun i μ' H' h' x s rh e => by
    have e : xs[i]? = some x := Option.some.inj e
    obtain ⟨v, e1, dv⟩ := d.get e
    refine ⟨⟨vs, v, s.sqT q, e1⟩, fun y H'' hy => ?_⟩
    obtain ⟨rfl, hy⟩ := hy
    have ey := hy vs (s.sqT q)
    rw [e1] at ey
    cases ey
    exact ⟨Step.refl, rh, dv.mono s⟩
theorem itr_rol {K : PySem.W.Frag} {μ : List Addr} {H : Hp} {a : Addr} {xs : List D} {vs : List V} (q : RoL K H a vs) (d : Dens K μ H xs vs) : ItR K μ H (Itl K a) (jSeq xs) where
  stop := fun i μ' H' h' s rh e => ⟨vs, (s.roL q).sq, by
    have e : xs[i]? = none := Option.some.inj e
    rw [d.length]
    exact List.getElem?_eq_none_iff.mp e⟩
  go := fun i μ' H' h' x s rh e => by
    have e : xs[i]? = some x := Option.some.inj e
    obtain ⟨v, e1, dv⟩ := d.get e
    refine ⟨⟨vs, v, (s.roL q).sq, e1⟩, fun y H'' hy => ?_⟩
    obtain ⟨rfl, hy⟩ := hy
    have ey := hy vs (s.roL q).sq
    rw [e1] at ey
    cases ey
    exact ⟨Step.refl, rh, dv.mono s⟩
theorem itr_ref {K : PySem.W.Frag} {μ : List Addr} {H : Hp} {a : Nat} {p : Addr} {n : Nat} (hp : μ[a]? = some p) : ItR K μ H (Itl K p) (jRef a n) where
  stop := fun i μ' H' h' s rh e => by
    have e : (match h'[a]? with | some (.lst xs) => some xs[i]? | _ => none) = some none := e
    split at e
    · rename_i xs hi
      obtain ⟨b, hb, vs, hv, d⟩ := rh.obj a _ hi
      rw [s.get hp] at hb
      cases hb
      exact ⟨vs, SqL.of hv, by rw [d.length]; exact List.getElem?_eq_none_iff.mp (Option.some.inj e)⟩
    · cases e
  go := fun i μ' H' h' x s rh e => by
    have e : (match h'[a]? with | some (.lst xs) => some xs[i]? | _ => none) = some (some x) := e
    split at e
    · rename_i xs hi
      obtain ⟨b, hb, vs, hv, d⟩ := rh.obj a _ hi
      rw [s.get hp] at hb
      cases hb
      obtain ⟨v, e1, dv⟩ := d.get (Option.some.inj e)
      refine ⟨⟨vs, v, SqL.of hv, e1⟩, fun y H'' hy => ?_⟩
      obtain ⟨rfl, hy⟩ := hy
      have ey := hy vs (SqL.of hv)
      rw [e1] at ey
      cases ey
      exact ⟨Step.refl, rh, dv⟩
    · cases e
theorem itr_rng {K : PySem.W.Frag} {μ : List Addr} {H : Hp} {lo : Int} {n : Nat} : ItR K μ H (Itr lo n) (jRng lo n) where
  stop := fun i μ' H' h' s rh e => by
    have e : (if i < n then some (D.int (lo + i)) else none) = none := Option.some.inj e
    split at e
    · cases e
    · rename_i h
      exact Nat.le_of_not_lt h
  go := fun i μ' H' h' x s rh e => by
    have e : (if i < n then some (D.int (lo + i)) else none) = some x := Option.some.inj e
    split at e
    · rename_i h
      cases e
      refine ⟨h, fun y H'' hy => ?_⟩
      obtain ⟨rfl, rfl⟩ := hy
      exact ⟨Step.refl, rh, rfl⟩
    · cases e
theorem si_tup {e : Expr} {m : ME} (he : SE X ct W e m) : L2.PI X tg e (rdI X.K ct W (miOf iterD m)) :=
  (pi_tup he).imp fun σ H R ⟨μ, ρ, h, rs, rh, p⟩ => rdE.go rs rh p fun d h1 μ1 H1 v s1 rs1 rh1 dv p1 => by
    split at p1
    · rename_i j ej
      unfold iterD at ej
      split at ej
      · cases ej
        obtain ⟨a, vs, rfl, q, dd⟩ := dv
        exact ⟨a, rfl, ⟨vs, q⟩, p1.at rh1 _ (itr_tup q dd)⟩
      · cases ej
    · exact p1.elim
theorem si_list {e : Expr} {m : ME} (he : SE X ct W e m) : L2.PI X tg e (rdI X.K ct W (miOf iterL m)) :=
  (pi_list he).imp fun σ H R ⟨μ, ρ, h, rs, rh, p⟩ => rdE.go rs rh p fun d h1 μ1 H1 v s1 rs1 rh1 dv p1 => by
    split at p1
    · rename_i j ej
      unfold iterL at ej
      split at ej
      · cases ej
        obtain ⟨a, vs, rfl, q, dd⟩ := dv
        exact ⟨a, rfl, ⟨vs, q.sq⟩, p1.at rh1 _ (itr_rol q dd)⟩
      · split at ej
        · rename_i hi
          cases ej
          obtain ⟨a, vs, rfl, ha, hv, dd⟩ := den_lst rh1 dv hi
          exact ⟨a, rfl, ⟨vs, SqL.of hv⟩, p1.at rh1 _ (itr_ref ha)⟩
        · cases ej
      · cases ej
    · exact p1.elim
def miRng1 (m : ME) : MI := fun ρ h => (m ρ h).bind fun d h1 => match d with
  | .int n => if -(2 ^ 62) ≤ n ∧ n < 2 ^ 62 then .ok (jRng 0 n.toNat) h1 else .bad
  | _ => .bad
def miRng2 (m m' : ME) : MI := fun ρ h => (m ρ h).bind fun d h1 => (m' ρ h1).bind fun e h2 => match d, e with
  | .int i, .int j => if -(2 ^ 62) ≤ i ∧ i < 2 ^ 62 ∧ -(2 ^ 62) ≤ j ∧ j < 2 ^ 62 then .ok (jRng i (j - i).toNat) h2 else .bad
  | _, _ => .bad
theorem si_rng1 {a : Expr} {m : ME} {p pos : Pos} (hg : Gl X "range") (hm : X.mg "range" = none) (ha : SE X ct W a m) (hs : starEach [a] X.env = [(false, eval a X.env)] := by rfl) :
    L2.PI X tg (.Call (.Name "range" p) [a] [] pos) (rdI X.K ct W (miRng1 m)) :=
  (pi_range1 hg hm (pa_cons ha pa_nil hs) hs).imp fun σ H R ⟨μ, ρ, h, rs, rh, p⟩ => rdE.go rs rh p fun d h1 μ1 H1 v s1 rs1 rh1 dv p1 => by
    split at p1
    · split at p1
      · rename_i hn
        cases dv.to_int
        exact ⟨_, rfl, hn.1, hn.2, p1.at rh1 _ itr_rng⟩
      · exact p1.elim
    · exact p1.elim
theorem si_rng2 {a b : Expr} {m m' : ME} {p pos : Pos} (hg : Gl X "range") (hm : X.mg "range" = none) (ha : SE X ct W a m) (hb : SE X ct W b m') (hs : starEach [a, b] X.env = [(false, eval a X.env), (false, eval b X.env)] := by rfl) (hs2 : starEach [b] X.env = [(false, eval b X.env)] := by rfl) :
    L2.PI X tg (.Call (.Name "range" p) [a, b] [] pos) (rdI X.K ct W (miRng2 m m')) :=
  (pi_range2 hg hm (pa_cons ha (pa_cons hb pa_nil hs2) (by rw [hs, hs2])) hs hs2).imp fun σ H R ⟨μ, ρ, h, rs, rh, p⟩ => rdE.go rs rh p fun d h1 μ1 H1 v s1 rs1 rh1 dv p1 => rdE.go rs1 rh1 p1 fun e h2 μ2 H2 w s2 rs2 rh2 dw p2 => by
    split at p2
    · split at p2
      · rename_i hn
        cases dv.to_int
        cases dw.to_int
        exact ⟨_, _, rfl, hn, p2.at rh2 _ itr_rng⟩
      · exact p2.elim
    · exact p2.elim
end
/-- the int in a slot -/
def slotInt (i : Nat) (ρ : Rho) : Int := match ρ.getD i none with
  | some (.int b) => b
  | _ => 0
end PI
/-! try with several clauses, with or without a name. -/
namespace PI
open PySem PySem.Spec L2
open PyProof.Rows hiding St

abbrev W0 : WX := fun _ _ _ _ => False
abbrev Hd := Str × Option Nat × (Addr → Exn → MS)
/-- one value for all -/
noncomputable def uni (f : Addr → OutS) : OutS := open Classical in if ∀ a, f a = f 0 then f 0 else .bad
theorem uni_eq {f : Addr → OutS} {o : OutS} (h : ∀ a, f a = o) : uni f = o := by
  unfold uni
  rw [if_pos (fun a => by rw [h a, h 0])]
  exact h 0
theorem uni_pst {K : PySem.W.Frag} {ct : Ctb} {W : WX} {μ : List Addr} {H : Hp} {D : Ends} {f : Addr → OutS} (p : PSt K ct W μ H D (uni f)) (a : Addr) : PSt K ct W μ H D (f a) := by
  unfold uni at p
  split at p
  · rename_i h
    rw [h a]
    exact p
  · exact p.elim
/-- the exception's name goes behind the suite -/
def unName (i : Nat) : OutS → OutS
  | .nx ρ h => .nx (ρ.set i none) h
  | .bk ρ h => .bk (ρ.set i none) h
  | .ct ρ h => .ct (ρ.set i none) h
  | .rt d h => .rt d h
  | _ => .bad
/-- a suite that raises is not mirrored -/
def noEr : OutS → OutS
  | .er _ _ _ => .bad
  | o => o
noncomputable def clauses (sb : Str → Str → Bool) (x : Exn) (ρ : Rho) (h : Hh) : List Hd → OutS
  | [] => .er x ρ h
  | (c, none, ms) :: r => if sb x.cls c = true then uni fun a => noEr (ms a x ρ h) else clauses sb x ρ h r
  | (c, some i, ms) :: r => if sb x.cls c = true then uni fun a => unName i (ms a x (ρ.set i (some (.ex a))) h) else clauses sb x ρ h r
noncomputable def mTry (sb : Str → Str → Bool) (b : MS) (hs : List Hd) : MS := fun ρ h => match b ρ h with
  | .er x ρ' h' => clauses sb x ρ' h' hs
  | o => o
inductive HdsM (X : Cx) (ct : Ctb) (sb : Str → Str → Bool) : List ExceptHandler → List Hd → Prop
  | nil : HdsM X ct sb [] []
  | plain {x : Str} {c : Value} {ms : Addr → Exn → MS} {b₀ : Stmt} {suite : List Stmt} {np pos' : Pos} {hds : List ExceptHandler} {l : List Hd} (hc : Names X x c) (hsb : ∀ z cz, ct z = some cz → PySem.W.exmOne X.K cz c = some (sb z x))
      (hsu : ∀ (a : Addr) (oe : Obj) (cls : Value) (d : Option Addr) (pn : List (Addr × Obj)) (e : Exn), Zc cls d oe → (∃ vs, oe.data = .fields vs) → ct e.cls = some cls → (e.fs = [] → d = none) → SSs (X.suite a ((a, oe) :: pn)) ct W0 (b₀ :: suite) (ms a e)) (r : HdsM X ct sb hds l) :
      HdsM X ct sb (.ExceptHandler (some (.Name x np)) none (b₀ :: suite) pos' :: hds) ((x, none, ms) :: l)
  | named {x n : Str} {i : Nat} {c : Value} {ms : Addr → Exn → MS} {b₀ : Stmt} {suite : List Stmt} {np pos' : Pos} {hds : List ExceptHandler} {l : List Hd} (hi : X.N[i]? = some n) (hln : X.env.kindOf n = some .local) (hc : Names X x c) (hsb : ∀ z cz, ct z = some cz → PySem.W.exmOne X.K cz c = some (sb z x))
      (hsu : ∀ (a : Addr) (oe : Obj) (cls : Value) (d : Option Addr) (pn : List (Addr × Obj)) (e : Exn), Zc cls d oe → (∃ vs, oe.data = .fields vs) → ct e.cls = some cls → (e.fs = [] → d = none) → SSs (X.suite a ((a, oe) :: pn)) ct W0 (b₀ :: suite) (ms a e)) (r : HdsM X ct sb hds l) :
      HdsM X ct sb (.ExceptHandler (some (.Name x np)) (some n) (b₀ :: suite) pos' :: hds) ((x, some i, ms) :: l)
section
variable {X : Cx} {ct : Ctb} {W : WX}
/-- what the clauses wish of an exception of the body -/
noncomputable def wishC (K : PySem.W.Frag) (ct : Ctb) (sb : Str → Str → Bool) (W : WX) (D : Ends) (hs : List Hd) : WX := fun cls d σ H => ∃ μ ρ h x, RelS K μ H ρ σ ∧ RelH K μ H h ∧ ExcR K ct μ H x cls d ∧ PSt K ct W μ H D (clauses sb x ρ h hs)
theorem ss_try {body : List Stmt} {h₀ : ExceptHandler} {hds : List ExceptHandler} {pos : Pos} {mb : MS} {l : List Hd} {sb : Str → Str → Bool}
    (hs : X.stack = X.env :: X.outer) (hf : X.env.frame = some X.env.locals) (hN : X.N.Nodup) (tk : Takes X W)
    (hb : ∀ (W : WX) (pn : List (Addr × Obj)) (xe : Value → Shared → Prop), Takes (X.tr pn xe) W → PassesOwn (model X.prog X.w) X.A X.env xe → SSs (X.tr pn xe) ct W body mb)
    (hh : HdsM X ct sb (h₀ :: hds) l) : SS X ct W (.Try body (h₀ :: hds) [] [] pos) (mTry sb mb l) := by
  refine ⟨fun pins s σ H D I hq => ?_⟩
  have ok := I.ok
  have frames : X.A.frames = some (X.env :: X.outer) := by rw [ok.frames, hs]
  refine wpAny_Try_except ?_
  obtain ⟨μ, ρ, h, rs, rh, p⟩ := hq
  have p : PSt X.K ct W μ H D (match mb ρ h with | .er x ρ' h' => clauses sb x ρ' h' l | o => o) := p
  have start : rdS X.K ct (wishC X.K ct sb W D l) mb D σ H := by
    refine ⟨μ, ρ, h, rs, rh, ?_⟩
    cases e : mb ρ h with
    | nx ρ' h' => rw [e] at p; exact p
    | bk ρ' h' => rw [e] at p; exact p
    | ct ρ' h' => rw [e] at p; exact p
    | rt d h' => rw [e] at p; exact p
    | bad => rw [e] at p; exact p
    | er x ρ' h' =>
      rw [e] at p
      exact fun μ' H' σ' cls d s r rs' ex => ⟨μ', ρ', h', x, rs', r, ex, PSt.step s p⟩
  refine wpAny_mono ((hb (wishC X.K ct sb W D l) (X.pn ++ pins)
    (fun e t1 => wpAny (model X.prog X.w) X.A (noteFrame e X.env) (fun _ t2 => wpAny (model X.prog X.w) X.A (setFlight e none) (fun _ t3 => wpAny (model X.prog X.w) X.A (handleBy e X.env (h₀ :: hds)) (SP X pins D) X.xe t3) X.xe t2) X.xe t1)
    (fun u t xx => ?_) PassesOwn.looking).run [] s σ H D (I.toTry _) start) (fun f t hsp => ?_) (fun e t he => he)
  · obtain ⟨ea, B, sB, pinsB, σB, HB, cls, d, rfl, JT, hnb, upB, skyB, hna, hos, hag, wish⟩ := xx
    have JB : Inv X pins σB HB sB := JT.ofTry ok
    have skyE : Sky B (X.env :: X.outer) ea (Zc cls d) X.env.locals t.heap := by rw [← hs]; exact skyB
    show wpAny (model X.prog X.w) X.A (noteFrame (.ref ea) X.env) _ _ _
    refine Sky.land Zc.steady frames hf skyE fun hp3 fly3 ups3 => ?_
    have J3 : Inv X pins σB HB { t with heap := hp3 } := JB.landed hnb fly3.1 (upB.trans ups3) hos hag
    obtain ⟨o3, v3, ho3, hz3, hd3⟩ := fly3.there
    have notOne : ∀ {g : Heap} {o : Obj} {vs : Array Value}, g.FunFrames B (X.env :: X.outer) → g.get? ea = some o → o.data = .fields vs → ea ∉ frs (X.env :: X.outer) := fun {g o vs} ff eo ed hm => by
      obtain ⟨_, o2, eo2, hnf⟩ := ff.mem hm
      rw [eo] at eo2
      cases eo2
      exact hnf _ ed
    have outF := notOne fly3.2.2.1 ho3 hd3
    have outL : ea ≠ X.env.locals := fun z => outF (List.mem_filterMap.mpr ⟨X.env, List.mem_cons_self, by rw [hf, z]⟩)
    have outO : ea ∉ X.fs := fun hm => by
      obtain ⟨en, hen, qn⟩ := List.mem_filterMap.mp hm
      exact outF (List.mem_filterMap.mpr ⟨en, List.mem_cons_of_mem _ hen, qn⟩)
    have S3 := J3.suite ho3 hd3 hna outL outO
    obtain ⟨μ2, ρ2, h2, x, rs2, rh2, ex, p2⟩ := wish
    have ectx : ct x.cls = some cls := ex.1
    have enone : x.fs = [] → d = none := fun z => by
      rcases ex.2 with q | q
      · exact q.2
      · exact absurd z q.1
    have go : ∀ {hds' : List ExceptHandler} {l' : List Hd}, HdsM X ct sb hds' l' → PSt X.K ct W μ2 HB D (clauses sb x ρ2 h2 l') →
        wpAny (model X.prog X.w) X.A (handleBy (.ref ea) X.env hds') (SP X pins D) X.xe { t with heap := hp3 } := by
      intro hds' l' hk
      induction hk with
      | nil =>
        intro q
        have out : W cls d σB HB := q μ2 HB σB cls d Step.refl rh2 rs2 ex
        refine wpAny_handleBy_nil ?_
        obtain ⟨k1, k2, k3, oe, vs, T, oT, ts', he, hz, hd, h1, hr⟩ := id fly3
        unfold PySem.passOn
        refine wpAny_bind (wpAny_field he hd h1 ?_)
        rw [if_neg (show ¬ ((Value.ref T == Value.none) = true) from by simp)]
        have fin : wpAny (model X.prog X.w) X.A (setFlight (.ref ea) X.env.frame) (fun _ t4 => wpAny (model X.prog X.w) X.A (throw (.ref ea) : Sem Flow) (SP X pins D) X.xe t4) X.xe { t with heap := hp3 } := by
          rw [hf]
          refine HandSPX.setFlight_upZ fly3 fun h4 hh4 up4 => wpAny_throw (tk _ _ ?_)
          exact ⟨ea, B, sB, pins, σB, HB, cls, d, rfl, JB, hnb, (upB.trans ups3).trans up4, .inr (.inr (by rw [hs]; exact hh4)), hna, hos, hag, out⟩
        first
          | exact wpAny_bind (wpAny_pure (wpAny_bind fin))
          | exact wpAny_bind fin
      | @plain xn c ms b₀ suite np pos' hds2 l2 hc hsb hsu r ih =>
        intro q
        have hb1 := hsb _ _ ectx
        refine wpAny_handleBy_cons (codeAny_handlers_test ?_) (by intro z; cases z)
        have LT : PySem.W.Looks (model X.prog X.w) hp3 (typeOf (.ref ea)) cls := fun A Q E s k q => wpAny_typeOf_ref (k _ _ ho3) (by rw [hz3.1]; exact q)
        have LM := PySem.W.exm_one (M := model X.prog X.w) (J3.kIn) LT hb1
        have test : ∀ {Q : Value → Shared → Prop} {E : Value → Shared → Prop}, Q c { t with heap := hp3 } → wpAny (model X.prog X.w) (X.A.mark (some (.ref ea))) (eval (.Name xn np) X.env) Q E { t with heap := hp3 } := fun {Q E} z => by
          obtain ⟨hg, hdbg, hm | ⟨hm, hv, hnn⟩⟩ := hc
          · exact ld_glob (X := X.suite ea ((ea, o3) :: (X.pn ++ pins))) S3 hg hm z hdbg
          · exact ld_blt (X := X.suite ea ((ea, o3) :: (X.pn ++ pins))) S3 hg hm hv z hnn hdbg
        refine test (LM.here ?_)
        have q : PSt X.K ct W μ2 HB D (if sb x.cls xn = true then uni fun a => noEr (ms a x ρ2 h2) else clauses sb x ρ2 h2 l2) := q
        cases eb : sb x.cls xn with
        | true =>
          rw [eb, if_pos rfl] at q
          have q := uni_pst q ea
          refine codeAny_handlers_suite ?_
          refine HandSPX.lands_againZ fly3 fun h4 fl4 up4 => ?_
          have J4 : Inv X pins σB HB { t with heap := h4 } := JB.landed hnb fl4.1 ((upB.trans ups3).trans up4) hos hag
          obtain ⟨oe4, vs4, he4, hz4, hd4⟩ := fl4.there
          have S4 := J4.suite he4 hd4 hna outL outO
          have rd : rdS X.K ct W0 (ms ea x) D σB HB := by
            refine ⟨μ2, ρ2, h2, rs2, rh2, ?_⟩
            cases em : ms ea x ρ2 h2 with
            | er x' ρ' h' => rw [em] at q; exact q.elim
            | nx ρ' h' => rw [em] at q; exact q
            | bk ρ' h' => rw [em] at q; exact q
            | ct ρ' h' => rw [em] at q; exact q
            | rt d h' => rw [em] at q; exact q
            | bad => rw [em] at q; exact q
          refine wpAny_mono ((hsu ea oe4 cls d (X.pn ++ pins) x hz4 ⟨_, hd4⟩ ectx enone).run [] _ _ HB _ S4 rd) (fun f t6 hsp => ?_) (fun _ _ z => False.elim z)
          cases f with
          | next =>
            obtain ⟨σ6, H6, S6, q6⟩ := hsp
            exact ⟨_, _, S6.unsuite ok, q6⟩
          | brk =>
            obtain ⟨σ6, H6, S6, q6⟩ := hsp
            exact ⟨_, _, S6.unsuite ok, q6⟩
          | cont =>
            obtain ⟨σ6, H6, S6, q6⟩ := hsp
            exact ⟨_, _, S6.unsuite ok, q6⟩
          | ret u =>
            obtain ⟨v6, σ6, H6, S6, r6, q6⟩ := hsp
            exact ⟨_, _, _, S6.unsuite ok, r6, q6⟩
        | false =>
          rw [eb, if_neg Bool.false_ne_true] at q
          show wpAny _ X.A (handleBy (.ref ea) X.env hds2) _ _ _
          exact ih q
      | @named xn n i c ms b₀ suite np pos' hds2 l2 hi hln hc hsb hsu r ih =>
        intro q
        have hloc : Loc X.env.scope n := .inl hln
        have hb1 := hsb _ _ ectx
        refine wpAny_handleBy_cons (codeAny_handlers_test ?_) (by intro z; cases z)
        have LT : PySem.W.Looks (model X.prog X.w) hp3 (typeOf (.ref ea)) cls := fun A Q E s k q => wpAny_typeOf_ref (k _ _ ho3) (by rw [hz3.1]; exact q)
        have LM := PySem.W.exm_one (M := model X.prog X.w) (J3.kIn) LT hb1
        have test : ∀ {Q : Value → Shared → Prop} {E : Value → Shared → Prop}, Q c { t with heap := hp3 } → wpAny (model X.prog X.w) (X.A.mark (some (.ref ea))) (eval (.Name xn np) X.env) Q E { t with heap := hp3 } := fun {Q E} z => by
          obtain ⟨hg, hdbg, hm | ⟨hm, hv, hnn⟩⟩ := hc
          · exact ld_glob (X := X.suite ea ((ea, o3) :: (X.pn ++ pins))) S3 hg hm z hdbg
          · exact ld_blt (X := X.suite ea ((ea, o3) :: (X.pn ++ pins))) S3 hg hm hv z hnn hdbg
        refine test (LM.here ?_)
        have q : PSt X.K ct W μ2 HB D (if sb x.cls xn = true then uni fun a => unName i (ms a x (ρ2.set i (some (.ex a))) h2) else clauses sb x ρ2 h2 l2) := q
        cases eb : sb x.cls xn with
        | true =>
          rw [eb, if_pos rfl] at q
          have q := uni_pst q ea
          refine codeAny_handlers_suite_as ?_
          refine HandSPX.lands_againZ fly3 fun h4 fl4 up4 => ?_
          have J4 : Inv X pins σB HB { t with heap := h4 } := JB.landed hnb fl4.1 ((upB.trans ups3).trans up4) hos hag
          obtain ⟨oe4, vs4, he4, hz4, hd4⟩ := fl4.there
          have S4 := J4.suite he4 hd4 hna outL outO
          refine store_ok (X := X.suite ea ((ea, oe4) :: (X.pn ++ pins))) (v := .ref ea) S4 hN hi hloc rfl (fun s5 S5 => ?_) (.inr hln)
          have rd : rdS X.K ct W0 (ms ea x) { nx := fun σ' H' => D.nx (σ'.set i none) H', rt := D.rt, bk := fun σ' H' => D.bk (σ'.set i none) H', ct := fun σ' H' => D.ct (σ'.set i none) H' } (σB.set i (some (.ref ea))) HB := by
            refine ⟨μ2, ρ2.set i (some (.ex ea)), h2, rs2.set rfl, rh2, ?_⟩
            cases em : ms ea x (ρ2.set i (some (.ex ea))) h2 with
            | er x' ρ' h' => rw [em] at q; exact q.elim
            | nx ρ' h' => rw [em] at q; exact fun μ' H' σ' s r rs' => q μ' H' (σ'.set i none) s r rs'.clear
            | bk ρ' h' => rw [em] at q; exact fun μ' H' σ' s r rs' => q μ' H' (σ'.set i none) s r rs'.clear
            | ct ρ' h' => rw [em] at q; exact fun μ' H' σ' s r rs' => q μ' H' (σ'.set i none) s r rs'.clear
            | rt d h' => rw [em] at q; exact q
            | bad => rw [em] at q; exact q
          refine wpAny_mono ((hsu ea oe4 cls d (X.pn ++ pins) x hz4 ⟨_, hd4⟩ ectx enone).run [] s5 _ HB _ S5 rd) (fun f t6 hsp => ?_) (fun _ _ z => False.elim z)
          have end_ : ∀ {σ6 : L2.St} {H6 : Hp} {Q : Shared → Prop}, Inv (X.suite ea ((ea, oe4) :: (X.pn ++ pins))) [] σ6 H6 t6 → (∀ t7, Inv X pins (σ6.set i none) H6 t7 → Q t7) →
              wpAny (model X.prog X.w) X.A (do bindName X.env n .none; unbindBehindTheSuite X.env n pos') (fun _ t7 => Q t7) X.xe t6 := fun {σ6 H6 Q} S6 hq => gone_ok (S6.unsuite ok) hN hi hln hq
          cases f with
          | next =>
            obtain ⟨σ6, H6, S6, q6⟩ := hsp
            exact end_ S6 fun t7 J7 => ⟨_, _, J7, q6⟩
          | brk =>
            obtain ⟨σ6, H6, S6, q6⟩ := hsp
            exact end_ S6 fun t7 J7 => ⟨_, _, J7, q6⟩
          | cont =>
            obtain ⟨σ6, H6, S6, q6⟩ := hsp
            exact end_ S6 fun t7 J7 => ⟨_, _, J7, q6⟩
          | ret u =>
            obtain ⟨v6, σ6, H6, S6, r6, q6⟩ := hsp
            exact end_ S6 fun t7 J7 => ⟨_, _, _, J7, r6, q6⟩
        | false =>
          rw [eb, if_neg Bool.false_ne_true] at q
          show wpAny _ X.A (handleBy (.ref ea) X.env hds2) _ _ _
          exact ih q
    exact go hh p2
  · cases f with
    | next =>
      obtain ⟨σ', H', J', q⟩ := hsp
      exact wpAny_execs_nil ⟨σ', H', J'.ofTry ok, q⟩
    | brk =>
      obtain ⟨σ', H', J', q⟩ := hsp
      exact ⟨σ', H', J'.ofTry ok, q⟩
    | cont =>
      obtain ⟨σ', H', J', q⟩ := hsp
      exact ⟨σ', H', J'.ofTry ok, q⟩
    | ret u =>
      obtain ⟨v, σ', H', J', r, q⟩ := hsp
      exact ⟨v, σ', H', J'.ofTry ok, r, q⟩
/-- isinstance(e, T), e the exception that the suite holds -/
def mIsE (i : Nat) (a : Addr) (e : Exn) (b : Bool) : ME := fun ρ h => match ρ[i]? with
  | some (some (.ex a')) => if a' = a ∧ e.fs = [] then .ok (.bl b) h else .bad
  | _ => .bad
theorem se_isE {a : Addr} {oe : Obj} {cls : Value} {d : Option Addr} {pn : List (Addr × Obj)} {e : Exn} {i : Nat} {x n : Str} {p p1 p2 pos : Pos} {c : V} {cv : Value} {isb : Str → Bool} (hz : Zc cls d oe) (hf : ∃ vs, oe.data = .fields vs) (hcl : ct e.cls = some cls) (hd : e.fs = [] → d = none)
    (hX : ∀ k v, ct k = some v → ∃ C, v = .ref C ∧ ExcC X.K C ∧ PySem.W.kitOne X.K (.ref C) cv = some (isb k)) (hN : X.N[i]? = some n) (hv : Vis X.env.scope n) (hg : Gl X "isinstance") (hm : X.mg "isinstance" = none)
    (hc : PE (X.suite a ((a, oe) :: pn)) (.Name x p2) (tC c)) (hcv : ∀ u, RelV c u → u = cv) (hnd : (n == ("__debug__" : Str)) = false := by decide) (hncd : (n == ("__classdict__" : Str)) = false := by decide)
    (hs2 : starEach [.Name x p2] X.env = (false, eval (.Name x p2) X.env) :: starEach [] X.env := by rfl) (he : starEach [.Name n p1, .Name x p2] X.env = (false, eval (.Name n p1) X.env) :: starEach [.Name x p2] X.env := by rfl) (hpl : (backTo pos (starEach [.Name x p2] X.env)).any (·.1) = false := by rfl) :
    SE (X.suite a ((a, oe) :: pn)) ct W0 (.Call (.Name "isinstance" p) [.Name n p1, .Name x p2] [] pos) (mIsE i a e (isb e.cls)) := by
  obtain ⟨C, rfl, hC, hk⟩ := hX _ _ hcl
  refine ⟨fun pins s σ H Q I ⟨μ, ρ, h, rs, rh, po⟩ => ?_⟩
  unfold mIsE at po
  split at po
  · rename_i a' ea
    split at po
    · rename_i hh
      obtain ⟨rfl, hfs⟩ := hh
      have hd := hd hfs
      subst hd
      obtain ⟨v, hv1, hv2⟩ := rs.get i _ ea
      have hv2 : v = .ref a' := hv2
      subst hv2
      exact (pe_callB (X := X.suite a' ((a', oe) :: pn)) (call_isE (X := X) hC hz hf) hg hm PyProof.Rows.boot_isinstance (pa_cons (pe_var (i := i) hN hv hnd hncd) (pa_cons hc pa_nil hs2) he) (by decide) (by decide) he hpl).run pins s σ H Q I
        ⟨_, hv1, c, cv, isb e.cls, rfl, hcv, hk, po.at rh _ rfl⟩
    · exact po.elim
  · exact po.elim
end
end PI
/-! The end: what the top has written, the law's own promise. -/
namespace PI
open PySem PySem.Spec L2
open PyProof.Rows hiding St

/-- a def as the top has written it -/
structure DefI (K : PySem.W.Frag) (mg : Str → Option Value) (x : Str) (st : Stmt) (ps : List Str) (kws : List (List Str × List Nat)) : Prop where
  ex : ∃ fa fd, Fun K x x st fa fd ∧ mg x = some (.ref fa) ∧ Binds K fd ps [] ∧ ∀ p ∈ kws, KwB fd ps p.1 p.2
theorem defI_mk {K : PySem.W.Frag} {h : Heap} {mg : Str → Option Value} {x : Str} {st : Stmt} {ps : List Str} {kws : List (List Str × List Nat)} {f : Addr} {oc : Value} {od an : Option Addr} {osl : Array (Option Value)} {kV doc pm cdv ct : Value} (X : K.In h) (G : h.Ns mainGlobals mg)
    (a : PySem.W.nsIn K mainGlobals x = some (some (.ref f))) (l : K.lookup f = some ⟨oc, od, .func (PySem.W.fnOf x x (defArgs st) (defBody st) (defScope st) .none kV doc pm an cdv ct), osl⟩)
    (c : PySem.W.codeIn K cdv x = true) (k : PySem.W.keepIn K (.ref f) = true)
    (hb : ∀ (kV doc pm : Value) (an : Option Addr) (cdv ct : Value) (us : List Value), us.length = ps.length → bindArgs (PySem.W.fnOf x x (defArgs st) (defBody st) (defScope st) .none kV doc pm an cdv ct) ⟨us, []⟩ = pure (ps.zip us))
    (hk : ∀ (kV doc pm : Value) (an : Option Addr) (cdv ct : Value), ∀ p ∈ kws, KwB (PySem.W.fnOf x x (defArgs st) (defBody st) (defScope st) .none kV doc pm an cdv ct) ps p.1 p.2) : DefI K mg x st ps kws := by
  have F := fun_mk (st := st) l c k
  exact ⟨f, _, F, PySem.W.mg_of X G a, F.binds hb, hk _ _ _ _ _ _⟩
section
variable {P : Program} {w : World} {K : PySem.W.Frag} {mg : Str → Option Value} {base : Heap} {ct : Ctb}
theorem FnI.mono {j k : Nat} {x : Str} {ps : List Str} {f : FnM} (F : FnI P w K mg base ct j x ps f) (h : j ≤ k) : FnI P w K mg base ct k x ps f := by
  obtain ⟨fa, fd, a, b, c, d⟩ := F.ex
  exact ⟨fa, fd, a, b, c, d.mono h⟩
theorem FnK.mono {j k : Nat} {x : Str} {ps ks : List Str} {pl : List Nat} {f : FnM} (F : FnK P w K mg base ct j x ps ks pl f) (h : j ≤ k) : FnK P w K mg base ct k x ps ks pl f := by
  obtain ⟨fa, fd, a, b, c, d⟩ := F.ex
  exact ⟨fa, fd, a, b, c, d.mono h⟩
/-- a def's mirror, from its body's -/
theorem DefI.fn {k : Nat} {x : Str} {st : Stmt} {ps : List Str} {kws : List (List Str × List Nat)} {f : FnM} (D : DefI K mg x st ps kws) (h : ∀ {fa fd}, Fun K x x st fa fd → FnOk P w K mg base (L2.CX P w) k fa fd ps (spM K ct ps.length f)) : FnI P w K mg base ct k x ps f := by
  obtain ⟨fa, fd, F, m, b, _⟩ := D.ex
  exact ⟨fa, fd, m, F.kp, b, h F⟩
theorem DefI.kw {k : Nat} {x : Str} {st : Stmt} {ps : List Str} {kws : List (List Str × List Nat)} {f : FnM} (D : DefI K mg x st ps kws) {ks : List Str} {pl : List Nat} (hp : (ks, pl) ∈ kws) (h : ∀ {fa fd}, Fun K x x st fa fd → FnOk P w K mg base (L2.CX P w) k fa fd ps (spM K ct ps.length f)) : FnK P w K mg base ct k x ps ks pl f := by
  obtain ⟨fa, fd, F, m, _, b⟩ := D.ex
  exact ⟨fa, fd, m, F.kp, b _ hp, h F⟩
/-- a closed thing: its own addresses lie below n -/
def D.lt (n : Nat) : D → Bool
  | .ref i => decide (i < n)
  | .tup xs => D.ltS n xs
  | .rol xs => D.ltS n xs
  | _ => true
where D.ltS (n : Nat) : List D → Bool
  | [] => true
  | d :: ds => D.lt n d && D.ltS n ds
end
/-- what the row asks of the law -/
def spLaw (K : PySem.W.Frag) : Sp := fun vs H Q _ => ∃ (a : Addr) (ns : List Int), vs = [.ref a] ∧ Only H ∧ SqL K H a (ns.map V.int) ∧ ns.length ≤ 63 ∧ ∀ H', Q (.bl true) H'
theorem law_sp {K : PySem.W.Frag} {ct : Ctb} {f : FnM} (hf : ∀ ns : List Int, ns.length ≤ 63 → ∃ h, f [.rol (ns.map D.int)] [] = .ok (.bl true) h) (vs : List V) (H : Hp) (Q : VK) (E : XK) (q : spLaw K vs H Q E) : spM K ct 1 f vs H Q E := by
  obtain ⟨a, ns, rfl, hO, hS, hl, hq⟩ := q
  obtain ⟨h', e⟩ := hf ns hl
  have ro : RoL K H a (ns.map V.int) := by
    rcases hS with (hS | ⟨o, hS⟩) | hS
    · rcases hO a with z | ⟨o, xs, z⟩
      · rw [hS] at z; cases z
      · rw [hS] at z; cases z
    · exact .inl ⟨o, hS⟩
    · exact .inr hS
  refine ⟨[], [], [.rol (ns.map D.int)], rfl, ⟨_, _, rfl, ⟨a, _, rfl, ro, Dens.ints ns⟩, rfl⟩, ⟨rfl, fun i j a e => by simp at e, fun i o e => by simp at e⟩, ?_⟩
  rw [e]
  intro μ' H' s r v dv
  have dv : v = .bl true := dv
  rw [dv]
  exact hq H'
theorem walkM {l : PySem.W.OpenLaw} {k : Nat} {q : Program} {loose : List Str} {XP : (Str → Option Value) → Heap → Prop} {YP : World → Heap → Prop} {d : DefRec} {K : Params → PySem.W.Frag} (hn : l.most = some 63) (hdf : d.params.defaults = []) (hr : Room k callerA)
    (hY : ∀ (w : World) (h : Heap), YP w h → (K w.params).In h)
    (F : ∀ (w : World) (mg : Str → Option Value) (fa : Addr) (h : Heap), (K w.params).In h → h.Ns mainGlobals mg → mg d.name = some (.ref fa) →
      ∃ fd : FuncData, (∀ (s : Shared) (u : Value), BindsTo s fd ⟨[u], []⟩ [("script", u)]) ∧ ∀ base : Heap, (K w.params).In base → base.Ns mainGlobals mg → FnOk l.prog w (K w.params) mg base (L2.CX l.prog w) k fa fd ["script"] (spLaw (K w.params))) :
    PySem.W.WalkO q loose XP YP l.row.toRowW d [] (fun f vs => PySem.call f vs) :=
  L2.walk_of (n := 63) (k := k) (x := "script") (CX := fun w => L2.CX l.prog w) (sp := fun w => spLaw (K w.params)) hn (by decide) hdf hr hY F (fun _ _ a ns hl hO hS => ⟨a, ns, rfl, hO, hS, hl, fun _ => rfl⟩)
    fun _ _ _ _ _ z => by obtain ⟨_, _, _, _, _, _, _, _, _, _, _, _, z⟩ := z; exact z
/-- facts of own exception classes -/
theorem kit_ref {K : PySem.W.Frag} {R C : Addr} {b : Bool} (hd : PySem.W.hasDictIn K C = true) (t : PySem.W.typeIn K (.ref C) = some (.type "type")) (s : PySem.W.subIn K (.ref R) (.ref C) = some b) (e : R = C → b = true) : PySem.W.kitOne K (.ref R) (.ref C) = some b := by
  obtain ⟨cd, hc, _⟩ := PySem.W.any_some hd
  unfold PySem.W.kitOne
  split
  · rename_i h
    have : R = C := Value.ref.inj (beq_iff_eq.mp h)
    rw [e this]
  · unfold PySem.W.kitCls
    have e2 : ((PySem.W.clsIn K C).isSome && PySem.W.typeIn K (.ref C) == some (.type "type")) = true := by rw [hc, t] <;> rfl
    dsimp only
    rw [if_pos e2]
    exact s
theorem kit_tyE {K : PySem.W.Frag} {R : Addr} {T : String} {b : Bool} (m : PySem.W.kitMeta T = true) (s : PySem.W.subIn K (.ref R) (.type T) = some b) : PySem.W.kitOne K (.ref R) (.type T) = some b := by
  unfold PySem.W.kitOne
  split
  · rename_i h
    have : Value.ref R = .type T := beq_iff_eq.mp h
    cases this
  · unfold PySem.W.kitCls
    dsimp only
    rw [if_pos m]
    exact s
end PI
/-! How a mirror is reckoned: its parts as equations. -/
namespace PI
open PySem PySem.Spec L2
open PyProof.Rows hiding St
section
variable {ρ : Rho} {h : Hh} {d e : D} {a b c : ME} {s t u : MT} {x y z : MS} {m : MA} {i j : Int} {n : Nat} {g g' : G2} {k : G1} {w w' : Str}
@[simp] theorem mC_ap : mC d ρ h = .ok d h := rfl
@[simp] theorem mVar_0 : mVar 0 (some d :: ρ) h = .ok d h := rfl
@[simp] theorem mVar_s {o : Option D} : mVar (n + 1) (o :: ρ) h = mVar n ρ h := rfl
@[simp] theorem mNil_ap : mNil ρ h = .ok [] h := rfl
@[simp] theorem mCons_ap : mCons a m ρ h = (a ρ h).bind fun d h1 => (m ρ h1).bind fun ds h2 => .ok (d :: ds) h2 := rfl
@[simp] theorem mOp_ap : mOp g a b ρ h = (a ρ h).bind fun a h1 => (b ρ h1).bind fun b h2 => Out.ofO (g a b h2) := rfl
@[simp] theorem mUn_ap : mUn k a ρ h = (a ρ h).bind fun a h1 => Out.ofO (k a h1) := rfl
@[simp] theorem mB_ap {g : GN} : mB g m ρ h = (m ρ h).bind fun as h1 => Out.ofO (g as h1) := rfl
@[simp] theorem mTup_ap : mTup m ρ h = (m ρ h).bind fun as h1 => if as.length ≤ sizeLine then .ok (.tup as) h1 else .bad := rfl
@[simp] theorem mLst_ap : mLst m ρ h = (m ρ h).bind fun as h1 => if as.length ≤ sizeLine then .ok (.ref h1.length) (h1 ++ [.lst as]) else .bad := rfl
@[simp] theorem mDnew_ap : mDnew ρ h = .ok (.ref h.length) (h ++ [.dct []]) := rfl
@[simp] theorem mTest_ap : mTest a ρ h = (a ρ h).bind fun d h1 => match d with
  | .bl b => .ok b h1
  | _ => .bad := rfl
@[simp] theorem mAnd_ap : mAnd s t ρ h = (s ρ h).bind fun c h1 => if c = true then t ρ h1 else .ok false h1 := rfl
@[simp] theorem mOr_ap : mOr s t ρ h = (s ρ h).bind fun c h1 => if c = true then .ok true h1 else t ρ h1 := rfl
@[simp] theorem mNot_ap : mNot s ρ h = (s ρ h).bind fun c h1 => .ok (!c) h1 := rfl
@[simp] theorem mAndV_ap : mAndV a b ρ h = (mTest a ρ h).bind fun c h1 => if c = true then b ρ h1 else .ok (.bl false) h1 := rfl
@[simp] theorem mOrV_ap : mOrV a b ρ h = (mTest a ρ h).bind fun c h1 => if c = true then .ok (.bl true) h1 else b ρ h1 := rfl
@[simp] theorem mNotV_ap : mNotV a ρ h = (mTest a ρ h).bind fun c h1 => .ok (.bl (!c)) h1 := rfl
@[simp] theorem mIf_ap : mIf s a b ρ h = (s ρ h).bind fun c h1 => if c = true then a ρ h1 else b ρ h1 := rfl
@[simp] theorem mChain_ap : mChain g g' a b c ρ h = (a ρ h).bind fun a h1 => (b ρ h1).bind fun b h2 => (Out.ofO (g a b h2)).bind fun r h3 => match r with
  | .bl true => (c ρ h3).bind fun c h4 => Out.ofO (g' b c h4)
  | .bl false => .ok (.bl false) h3
  | _ => .bad := rfl
@[simp] theorem mCall_ap {f : FnM} : mCall n f m ρ h = (m ρ h).bind fun ds h1 => if ds.length = n then f ds h1 else .bad := rfl
@[simp] theorem mCallK_ap {f : FnM} {pl : List Nat} : mCallK n pl f m ρ h = (m ρ h).bind fun ds h1 => if (perm pl ds).length = n then f (perm pl ds) h1 else .bad := rfl
@[simp] theorem mIsi_ap {T : String} : mIsi T a ρ h = (a ρ h).bind fun d h1 => match tyD h1 d with
  | some t => .ok (.bl (subT t T)) h1
  | none => .bad := rfl
@[simp] theorem mMset_ap {l : D → List D → Hh → Option (D × Hh)} : mMset l a m ρ h = (a ρ h).bind fun o h1 => match o with
  | .ref i => match h1[i]? with
    | some (.lst _) => (m ρ h1).bind fun as h2 => Out.ofO (l o as h2)
    | _ => .bad
  | _ => .bad := rfl
@[simp] theorem mNx_ap : mNx ρ h = .nx ρ h := rfl
@[simp] theorem mSeq_ap : mSeq x y ρ h = (x ρ h).seq y := rfl
@[simp] theorem mRet_ap : mRet a ρ h = (a ρ h).bindS ρ fun d h1 => .rt d h1 := rfl
@[simp] theorem mRetN_ap : mRetN ρ h = .rt .non h := rfl
@[simp] theorem mDrop_ap : mDrop a ρ h = (a ρ h).bindS ρ fun _ h1 => .nx ρ h1 := rfl
@[simp] theorem mIfS_ap : mIfS s x y ρ h = (s ρ h).bindS ρ fun c h1 => if c = true then x ρ h1 else y ρ h1 := rfl
@[simp] theorem mSet_ap : mSet n a ρ h = (a ρ h).bindS ρ fun d h1 => .nx (ρ.set n (some d)) h1 := rfl
@[simp] theorem mAsg_ap {g : MG} : mAsg a g ρ h = (a ρ h).bindS ρ fun d h1 => match g d ρ h1 with
  | some (ρ', h') => .nx ρ' h'
  | none => .bad := rfl
@[simp] theorem mPar_ap {i j : Nat} : mPar i j m ρ h = (m ρ h).bindS ρ fun ds h1 => match ds with
  | [d, e] => .nx ((ρ.set i (some d)).set j (some e)) h1
  | _ => .bad := rfl
@[simp] theorem mAug_ap : mAug n g a ρ h = match ρ[n]? with
  | some (some x) => (a ρ h).bindS ρ fun y h1 => (Out.ofO (g x y h1)).bindS ρ fun z h2 => .nx (ρ.set n (some z)) h2
  | _ => .bad := rfl
@[simp] theorem mAugS_ap {gs : D → D → D → Hh → Option Hh} : mAugS g g' gs a b c ρ h = (a ρ h).bindS ρ fun o h1 => (b ρ h1).bindS ρ fun i h2 => (Out.ofO (g o i h2)).bindS ρ fun x h3 => (c ρ h3).bindS ρ fun y h4 => (Out.ofO (g' x y h4)).bindS ρ fun z h5 => match gs o i z h5 with
  | some h6 => .nx ρ h6
  | none => .bad := rfl
@[simp] theorem mRaise_ap {q : Str} : mRaise q ρ h = .er ⟨q, []⟩ ρ h := rfl
@[simp] theorem mFor_ap {mi : MI} {g : MG} : mFor mi g x ρ h = (mi ρ h).bindS ρ fun j h1 => forL j g x j.most 0 ρ h1 := rfl
@[simp] theorem gmName_ap : gmName n d ρ h = some (ρ.set n (some d), h) := rfl
@[simp] theorem gmTup_ap {g : MGs} {ds : List D} : gmTup n g (.tup ds) ρ h = if ds.length = n then g ds ρ h else none := rfl
@[simp] theorem gmNil_ap : gmNil [] ρ h = some (ρ, h) := rfl
@[simp] theorem gmCons_ap {p : MG} {q : MGs} {ds : List D} : gmCons p q (d :: ds) ρ h = (p d ρ h).bind fun r => q ds r.1 r.2 := rfl
@[simp] theorem gmSub_ap {gs : D → D → D → Hh → Option Hh} : gmSub gs a b d ρ h = match a ρ h with
  | .ok o h1 => match b ρ h1 with
    | .ok i h2 => (gs o i d h2).map fun h3 => (ρ, h3)
    | _ => none
  | _ => none := rfl
@[simp] theorem oAdd_int : oAdd (.int i) (.int j) h = some (.int (i + j), h) := rfl
@[simp] theorem oIAdd_int : oIAdd (.int i) (.int j) h = some (.int (i + j), h) := rfl
@[simp] theorem oSub_int : oSub (.int i) (.int j) h = some (.int (i - j), h) := rfl
@[simp] theorem oMul_int : oMul (.int i) (.int j) h = if mulOk i j = true then some (.int (i * j), h) else none := rfl
@[simp] theorem oFdiv_int : oFdiv (.int i) (.int j) h = if divOk j = true then some (.int (i / j), h) else none := rfl
@[simp] theorem oMod_int : oMod (.int i) (.int j) h = if 0 < j then some (.int (i % j), h) else none := rfl
@[simp] theorem oPow_int : oPow (.int i) (.int j) h = if powOk i j = true then some (.int (i ^ j.toNat), h) else none := rfl
@[simp] theorem oNeg_int : oNeg (.int i) h = some (.int (-i), h) := rfl
@[simp] theorem oCmp_int {r : Int → Int → Bool} : oCmp r (.int i) (.int j) h = some (.bl (r i j), h) := rfl
@[simp] theorem oEq_int : oEq (.int i) (.int j) h = some (.bl (i == j), h) := rfl
@[simp] theorem oNe_int : oNe (.int i) (.int j) h = some (.bl (!(i == j)), h) := rfl
@[simp] theorem oEq_str : oEq (.str w) (.str w') h = some (.bl (w == w'), h) := rfl
@[simp] theorem oNe_str : oNe (.str w) (.str w') h = some (.bl (!(w == w')), h) := rfl
@[simp] theorem oIsN_ap : oIsN d .non h = some (.bl (isNon d), h) := rfl
@[simp] theorem oNotN_ap : oNotN d .non h = some (.bl (!isNon d), h) := rfl
@[simp] theorem oIx_tup {xs : List D} : oIx (.tup xs) (.int i) h = (atI xs i).map fun d => (d, h) := rfl
@[simp] theorem oIx_rol {xs : List D} : oIx (.rol xs) (.int i) h = (atI xs i).map fun d => (d, h) := rfl
@[simp] theorem oIx_ref : oIx (.ref n) (.int i) h = match h[n]? with
  | some (.lst xs) => (atI xs i).map fun d => (d, h)
  | _ => none := rfl
@[simp] theorem oIxL_ref : oIxL (.ref n) (.int i) h = match h[n]? with
  | some (.lst xs) => if 0 ≤ i ∧ i < 2 ^ 63 then (xs[i.toNat]?).map fun d => (d, h) else none
  | _ => none := rfl
@[simp] theorem oSet_ref : oSet (.ref n) (.int i) d h = match h[n]? with
  | some (.lst xs) => (ixN xs.length i).map fun j => h.set n (.lst (xs.set j d))
  | _ => none := rfl
@[simp] theorem bLen_tup {xs : List D} : bLen [.tup xs] h = some (.int xs.length, h) := rfl
@[simp] theorem bLen_rol {xs : List D} : bLen [.rol xs] h = some (.int xs.length, h) := rfl
theorem bLen_ref {xs : List D} (e : h[n]? = some (.lst xs)) : bLen [.ref n] h = some (.int xs.length, h) := by
  simp [bLen, lenD, e]
@[simp] theorem bAbs_int : bAbs [.int i] h = some (.int (if i < 0 then -i else i), h) := rfl
@[simp] theorem bInt_int : bInt [.int i] h = some (.int i, h) := rfl
@[simp] theorem bInt_bl {b : Bool} : bInt [.bl b] h = some (.int (if b then 1 else 0), h) := rfl
@[simp] theorem bGcd_int : bGcd [.int i, .int j] h = some (.int ((Nat.gcd i.natAbs j.natAbs : Nat) : Int), h) := rfl
@[simp] theorem bMax2_int : bMax2 [.int i, .int j] h = some (.int (if j > i then j else i), h) := rfl
@[simp] theorem bMin2_int : bMin2 [.int i, .int j] h = some (.int (if j < i then j else i), h) := rfl
@[simp] theorem bList_tup {xs : List D} : bList [.tup xs] h = some (.ref h.length, h ++ [.lst xs]) := rfl
@[simp] theorem bList_rol {xs : List D} : bList [.rol xs] h = some (.ref h.length, h ++ [.lst xs]) := rfl
@[simp] theorem bTuple_tup {xs : List D} : bTuple [.tup xs] h = some (.tup xs, h) := rfl
@[simp] theorem atI_0 {α : Type} {p : α} {xs : List α} : atI (p :: xs) 0 = some p := by simp [atI, ixN]
@[simp] theorem atI_1 {α : Type} {p q : α} {xs : List α} : atI (p :: q :: xs) 1 = some q := by
  have e : atI (p :: q :: xs) ((1 : Nat) : Int) = some q := atI_nat rfl
  exact e
@[simp] theorem atI_2 {α : Type} {p q r : α} {xs : List α} : atI (p :: q :: r :: xs) 2 = some r := by
  have e : atI (p :: q :: r :: xs) ((2 : Nat) : Int) = some r := atI_nat rfl
  exact e
@[simp] theorem atI_3 {α : Type} {p q r s : α} {xs : List α} : atI (p :: q :: r :: s :: xs) 3 = some s := by
  have e : atI (p :: q :: r :: s :: xs) ((3 : Nat) : Int) = some s := atI_nat rfl
  exact e
theorem mFn_ap {N : Nat} {b : MS} {ds : List D} {ρ : Rho} (e : ds.map some ++ List.replicate (N - ds.length) none = ρ) : mFn N b ds h = (b ρ h).out := by
  unfold mFn
  rw [e]
@[simp] theorem size_le {n : Nat} (h : n ≤ 1000) : n ≤ sizeLine := Nat.le_trans h (by decide)
end
end PI
namespace PI
open PySem PySem.Spec L2
/-- a loop that runs through -/
theorem forL_nx {j : MIt} {g : MG} {b : MS} {n : Nat} (P : Nat → Rho → Hh → Prop)
    (hit : ∀ i ρ h, i < n → P i ρ h → ∃ d ρ1 h1 ρ' h', j.at_ i h = some (some d) ∧ g d ρ h = some (ρ1, h1) ∧ (b ρ1 h1 = .nx ρ' h' ∨ b ρ1 h1 = .ct ρ' h') ∧ P (i + 1) ρ' h')
    (hend : ∀ ρ h, P n ρ h → j.at_ n h = some none) : ∀ m i ρ h, i + m = n → P i ρ h → ∃ ρ' h', forL j g b m i ρ h = .nx ρ' h' ∧ P n ρ' h'
  | 0, i, ρ, h, e, p => by
    have e : i = n := by omega
    subst e
    refine ⟨ρ, h, ?_, p⟩
    unfold forL
    rw [hend ρ h p]
  | m + 1, i, ρ, h, e, p => by
    obtain ⟨d, ρ1, h1, ρ', h', e1, e2, e3, p'⟩ := hit i ρ h (by omega) p
    obtain ⟨ρ2, h2, e4, p2⟩ := forL_nx P hit hend m (i + 1) ρ' h' (by omega) p'
    refine ⟨ρ2, h2, ?_, p2⟩
    unfold forL
    rw [e1]
    simp only [e2]
    rcases e3 with e3 | e3 <;> rw [e3] <;> exact e4
@[simp] theorem jRng_most {lo : Int} {n : Nat} : (jRng lo n).most = n := rfl
@[simp] theorem jRef_most {a n : Nat} : (jRef a n).most = n := rfl
@[simp] theorem jSeq_most {xs : List D} : (jSeq xs).most = xs.length := rfl
theorem jRng_at {lo : Int} {n i : Nat} {h : Hh} (hi : i < n) : (jRng lo n).at_ i h = some (some (.int (lo + i))) := by simp [jRng, hi]
theorem jRng_end {lo : Int} {n : Nat} {h : Hh} : (jRng lo n).at_ n h = some none := by simp [jRng]
end PI
namespace PI
open PySem PySem.Spec L2
section
variable {h g : Hh} {n a b : Nat}
@[simp] theorem bLen_refM : bLen [.ref n] h = match h[n]? with
  | some (.lst xs) => some (.int xs.length, h)
  | _ => none := by
  cases e : h[n]? with
  | none => simp [bLen, lenD, e]
  | some o => cases o <;> simp [bLen, lenD, e]
@[simp] theorem bList_refM : bList [.ref n] h = match h[n]? with
  | some (.lst xs) => some (.ref h.length, h ++ [.lst xs])
  | _ => none := rfl
@[simp] theorem bTuple_refM : bTuple [.ref n] h = match h[n]? with
  | some (.lst xs) => some (.tup xs, h)
  | _ => none := rfl
@[simp] theorem oAdd_ref : oAdd (.ref a) (.ref b) h = match h[a]?, h[b]? with
  | some (.lst xs), some (.lst ys) => if xs.length + ys.length ≤ sizeLine then some (.ref h.length, h ++ [.lst (xs ++ ys)]) else none
  | _, _ => none := rfl
@[simp] theorem getApp {k : Nat} : (h ++ g)[h.length + k]? = g[k]? := by
  rw [List.getElem?_append_right (by omega)]
  congr 1
  omega
@[simp] theorem getApp0 : (h ++ g)[h.length]? = g[0]? := getApp (k := 0)
end
theorem atI_some {α : Type} {L : List α} {r : Int} (h0 : 0 ≤ r) (h1 : r < L.length) : ∃ d, atI L r = some d ∧ d ∈ L := by
  obtain ⟨j, rfl⟩ : ∃ j : Nat, r = j := ⟨r.toNat, by omega⟩
  have hl : j < L.length := by omega
  exact ⟨L[j], atI_nat (List.getElem?_eq_getElem hl), List.getElem_mem hl⟩
end PI
namespace PI
open PySem PySem.Spec L2
theorem for_nx {j : MIt} {g : MG} {b : MS} {ρ : Rho} {h : Hh} (n : Nat) (P : Nat → Rho → Hh → Prop) (init : P 0 ρ h) (hend : ∀ ρ h, P n ρ h → j.at_ n h = some none)
    (hit : ∀ i ρ h, i < n → P i ρ h → ∃ d ρ1 h1 ρ' h', j.at_ i h = some (some d) ∧ g d ρ h = some (ρ1, h1) ∧ (b ρ1 h1 = .nx ρ' h' ∨ b ρ1 h1 = .ct ρ' h') ∧ P (i + 1) ρ' h') :
    ∃ ρ' h', forL j g b n 0 ρ h = .nx ρ' h' ∧ P n ρ' h' := forL_nx P hit hend n 0 ρ h (by omega) init
end PI
set_option maxHeartbeats 4000000
namespace K63
open PySem PySem.Spec L2 PI
open PyProof.Rows hiding St
def topS (i : Nat) : Stmt := PySem.Challenge.pw_cellcode_k63_ratios.main.body.getD i (.Pass ⟨0, 0, 0, 0⟩)
/-- the classes that are raised -/
def ctb (aPaidError aBadRatio aZeroBottom : Addr) : Ctb := fun z => if z = "BadRatio" then some (.ref aBadRatio) else if z = "ZeroBottom" then some (.ref aZeroBottom) else none
theorem ctb_BadRatio {aPaidError aBadRatio aZeroBottom : Addr} : ctb aPaidError aBadRatio aZeroBottom "BadRatio" = some (.ref aBadRatio) := by unfold ctb; rw [if_pos rfl]
theorem ctb_ZeroBottom {aPaidError aBadRatio aZeroBottom : Addr} : ctb aPaidError aBadRatio aZeroBottom "ZeroBottom" = some (.ref aZeroBottom) := by unfold ctb; rw [if_neg (by decide), if_pos rfl]
def sbT : List (String × String) := [("BadRatio", "BadRatio"), ("BadRatio", "PaidError"), ("BadRatio", "ValueError"), ("ZeroBottom", "ZeroBottom"), ("ZeroBottom", "PaidError"), ("ZeroBottom", "ValueError")]
def sb : Str → Str → Bool := fun z y => if z = "BadRatio" then decide (y ∈ (["BadRatio", "PaidError", "ValueError"] : List Str)) else if z = "ZeroBottom" then decide (y ∈ (["ZeroBottom", "PaidError", "ValueError"] : List Str)) else false
def isb (y z : Str) : Bool := sb z y
/-- what the module has written -/
structure Md (K : PySem.W.Frag) (mg : Str → Option Value) (aPaidError aBadRatio aZeroBottom : Addr) : Prop where
  z_ValueError : mg "ValueError" = none
  z_abs : mg "abs" = none
  z_bool : mg "bool" = none
  z_int : mg "int" = none
  z_isinstance : mg "isinstance" = none
  z_len : mg "len" = none
  z_list : mg "list" = none
  z_range : mg "range" = none
  z_tuple : mg "tuple" = none
  i_gcd : mg "gcd" = some (.builtin "math.gcd")
  e_PaidError : ExcI K mg "PaidError" aPaidError
  e_BadRatio : ExcI K mg "BadRatio" aBadRatio
  e_ZeroBottom : ExcI K mg "ZeroBottom" aZeroBottom
  sb_BadRatio : ∀ z cz, ctb aPaidError aBadRatio aZeroBottom z = some cz → PySem.W.exmOne K cz (.ref aBadRatio) = some (sb z "BadRatio")
  sb_ZeroBottom : ∀ z cz, ctb aPaidError aBadRatio aZeroBottom z = some cz → PySem.W.exmOne K cz (.ref aZeroBottom) = some (sb z "ZeroBottom")
  is_PaidError : ∀ k v, ctb aPaidError aBadRatio aZeroBottom k = some v → ∃ C, v = .ref C ∧ ExcC K C ∧ PySem.W.kitOne K (.ref C) (.ref aPaidError) = some (isb "PaidError" k)
  is_ValueError : ∀ k v, ctb aPaidError aBadRatio aZeroBottom k = some v → ∃ C, v = .ref C ∧ ExcC K C ∧ PySem.W.kitOne K (.ref C) (.type "ValueError") = some (isb "ValueError" k)
  is_ZeroBottom : ∀ k v, ctb aPaidError aBadRatio aZeroBottom k = some v → ∃ C, v = .ref C ∧ ExcC K C ∧ PySem.W.kitOne K (.ref C) (.ref aZeroBottom) = some (isb "ZeroBottom" k)
abbrev s_is_int : Stmt := topS 6
theorem sc_is_int : FnScope ["x"] ["x"] (defScope s_is_int) := ⟨rfl, rfl, rfl, by decide +kernel, rfl, by decide +kernel, by decide +kernel⟩
noncomputable def m_is_int : MS :=
    mRet (mAndV (mIsi "int" (mVar 0)) (mNotV (mIsi "bool" (mVar 0))))
theorem ok_is_int {P : Program} {w : World} {K : PySem.W.Frag} {mg : Str → Option Value} {base : Heap} {aPaidError aBadRatio aZeroBottom : Addr} {fa : Addr} {fd : FuncData} {k : Nat} (F : Fun K "is_int" "is_int" s_is_int fa fd) (T : Md K mg aPaidError aBadRatio aZeroBottom) :
    FnOk P w K mg base (L2.CX P w) (k + 1) fa fd ["x"] (spM K (ctb aPaidError aBadRatio aZeroBottom) 1 (mFn 1 (m_is_int))) :=
  fn_ok F sc_is_int fun cdv A outer s H E hr tk pas => by
    let ct : Ctb := ctb aPaidError aBadRatio aZeroBottom
    exact ((sss_one (ss_ret (se_and (se_isi (by decide) rfl T.z_isinstance rfl T.z_int PyProof.Rows.boot_int (se_var 0)) (se_and1 (se_not (se_isi (by decide) rfl T.z_isinstance rfl T.z_bool PyProof.Rows.boot_bool (se_var 0))))))))
abbrev s_lowest : Stmt := topS 8
theorem sc_lowest : FnScope ["top", "bottom", "common"] ["top", "bottom"] (defScope s_lowest) := ⟨rfl, rfl, rfl, by decide +kernel, rfl, by decide +kernel, by decide +kernel⟩
noncomputable def m_lowest : MS :=
    mSeq (mIfS (mTest (mOp oLt (mVar 1) (mC (.int 0)))) (mSeq (mSet 0 (mUn oNeg (mVar 0)))
    (mSet 1 (mUn oNeg (mVar 1)))) (mNx))
    (mSeq (mSet 2 (mB bGcd (mCons (mVar 0) (mCons (mVar 1) (mNil)))))
    (mRet (mTup (mCons (mOp oFdiv (mVar 0) (mVar 2)) (mCons (mOp oFdiv (mVar 1) (mVar 2)) (mNil))))))
theorem ok_lowest {P : Program} {w : World} {K : PySem.W.Frag} {mg : Str → Option Value} {base : Heap} {aPaidError aBadRatio aZeroBottom : Addr} {fa : Addr} {fd : FuncData} {k : Nat} (F : Fun K "lowest" "lowest" s_lowest fa fd) (T : Md K mg aPaidError aBadRatio aZeroBottom) :
    FnOk P w K mg base (L2.CX P w) (k + 1) fa fd ["top", "bottom"] (spM K (ctb aPaidError aBadRatio aZeroBottom) 2 (mFn 3 (m_lowest))) :=
  fn_ok F sc_lowest fun cdv A outer s H E hr tk pas => by
    let ct : Ctb := ctb aPaidError aBadRatio aZeroBottom
    exact ((sss_cons (ss_if (st_cmp op_ltM (se_var 1) se_int (nomark _)) (sss_cons (ss_set (i := 0) sc_lowest.nd rfl (Or.inl rfl) (se_un un_negM (se_var 0)))
    (sss_one (ss_set (i := 1) sc_lowest.nd rfl (Or.inl rfl) (se_un un_negM (se_var 1))))) sss_nil)
    (sss_cons (ss_set (i := 2) sc_lowest.nd rfl (Or.inl rfl) (se_callFun cr_gcdM rfl T.i_gcd (sa_cons (se_var 0) (sa_cons (se_var 1) sa_nil))))
    (sss_one (ss_ret (se_tup (sa_cons (se_op op_fdivM (se_var 0) (se_var 2)) (sa_cons (se_op op_fdivM (se_var 1) (se_var 2)) sa_nil))))))))
abbrev s_is_ratio : Stmt := topS 9
theorem sc_is_ratio : FnScope ["thing"] ["thing"] (defScope s_is_ratio) := ⟨rfl, rfl, rfl, by decide +kernel, rfl, by decide +kernel, by decide +kernel⟩
noncomputable def m_is_ratio (f_is_int : FnM) : MS :=
    mSeq (mIfS (mOr (mNot (mTest (mIsi "tuple" (mVar 0)))) (mTest (mOp oNe (mB bLen (mCons (mVar 0) (mNil))) (mC (.int 2))))) (mRet (mC (.bl false))) (mNx))
    (mSeq (mIfS (mOr (mNot (mTest (mCall 1 f_is_int (mCons (mOp oIx (mVar 0) (mC (.int 0))) (mNil))))) (mOr (mNot (mTest (mCall 1 f_is_int (mCons (mOp oIx (mVar 0) (mC (.int 1))) (mNil))))) (mTest (mOp oLt (mOp oIx (mVar 0) (mC (.int 1))) (mC (.int 1)))))) (mRet (mC (.bl false))) (mNx))
    (mRet (mOp oEq (mB bGcd (mCons (mOp oIx (mVar 0) (mC (.int 0))) (mCons (mOp oIx (mVar 0) (mC (.int 1))) (mNil)))) (mC (.int 1)))))
theorem ok_is_ratio {P : Program} {w : World} {K : PySem.W.Frag} {mg : Str → Option Value} {base : Heap} {aPaidError aBadRatio aZeroBottom : Addr} {fa : Addr} {fd : FuncData} {k : Nat} (F : Fun K "is_ratio" "is_ratio" s_is_ratio fa fd) (T : Md K mg aPaidError aBadRatio aZeroBottom) {f_is_int : FnM} (F_is_int : FnI P w K mg base (ctb aPaidError aBadRatio aZeroBottom) k "is_int" ["x"] f_is_int) :
    FnOk P w K mg base (L2.CX P w) (k + 1) fa fd ["thing"] (spM K (ctb aPaidError aBadRatio aZeroBottom) 1 (mFn 1 (m_is_ratio f_is_int))) :=
  fn_ok F sc_is_ratio fun cdv A outer s H E hr tk pas => by
    let ct : Ctb := ctb aPaidError aBadRatio aZeroBottom
    exact ((sss_cons (ss_if (st_w (sw_or (st_not (st_val (se_isi (by decide) rfl T.z_isinstance rfl T.z_tuple PyProof.Rows.boot_tuple (se_var 0)))) (sw_or1 (st_cmp (op_neM hr.units) (se_callB cr_len rfl T.z_len PySem.boot_len (sa_cons (se_var 0) sa_nil)) se_int (nomark _))))) (sss_one (ss_ret se_bl)) sss_nil)
    (sss_cons (ss_if (st_w (sw_or (st_not (st_val (se_callI F_is_int rfl hr rfl tk (sa_cons (se_ix ix_M (se_var 0) se_int (fun _ _ => rfl)) sa_nil)))) (sw_or (st_not (st_val (se_callI F_is_int rfl hr rfl tk (sa_cons (se_ix ix_M (se_var 0) se_int (fun _ _ => rfl)) sa_nil)))) (sw_or1 (st_cmp op_ltM (se_ix ix_M (se_var 0) se_int (fun _ _ => rfl)) se_int (nomark _)))))) (sss_one (ss_ret se_bl)) sss_nil)
    (sss_one (ss_ret (se_cmp (op_eqM hr.units) (se_callFun cr_gcdM rfl T.i_gcd (sa_cons (se_ix ix_M (se_var 0) se_int (fun _ _ => rfl)) (sa_cons (se_ix ix_M (se_var 0) se_int (fun _ _ => rfl)) sa_nil))) se_int (nomark _)))))))
abbrev s_need_ratio : Stmt := topS 10
theorem sc_need_ratio : FnScope ["thing"] ["thing"] (defScope s_need_ratio) := ⟨rfl, rfl, rfl, by decide +kernel, rfl, by decide +kernel, by decide +kernel⟩
noncomputable def m_need_ratio (f_is_ratio : FnM) : MS :=
    mIfS (mNot (mTest (mCall 1 f_is_ratio (mCons (mVar 0) (mNil))))) (mRaise "BadRatio") (mNx)
theorem ok_need_ratio {P : Program} {w : World} {K : PySem.W.Frag} {mg : Str → Option Value} {base : Heap} {aPaidError aBadRatio aZeroBottom : Addr} {fa : Addr} {fd : FuncData} {k : Nat} (F : Fun K "need_ratio" "need_ratio" s_need_ratio fa fd) (T : Md K mg aPaidError aBadRatio aZeroBottom) {f_is_ratio : FnM} (F_is_ratio : FnI P w K mg base (ctb aPaidError aBadRatio aZeroBottom) k "is_ratio" ["thing"] f_is_ratio) :
    FnOk P w K mg base (L2.CX P w) (k + 1) fa fd ["thing"] (spM K (ctb aPaidError aBadRatio aZeroBottom) 1 (mFn 1 (m_need_ratio f_is_ratio))) :=
  fn_ok F sc_need_ratio fun cdv A outer s H E hr tk pas => by
    let ct : Ctb := ctb aPaidError aBadRatio aZeroBottom
    exact ((sss_one (ss_if (st_not (st_val (se_callI F_is_ratio rfl hr rfl tk (sa_cons (se_var 0) sa_nil)))) (sss_one (ss_raiseI rfl tk T.e_BadRatio ctb_BadRatio rfl)) sss_nil)))
abbrev s_ratio : Stmt := topS 11
theorem sc_ratio : FnScope ["top", "bottom"] ["top", "bottom"] (defScope s_ratio) := ⟨rfl, rfl, rfl, by decide +kernel, rfl, by decide +kernel, by decide +kernel⟩
noncomputable def m_ratio (f_lowest : FnM) : MS :=
    mSeq (mIfS (mTest (mOp oEq (mVar 1) (mC (.int 0)))) (mRaise "ZeroBottom") (mNx))
    (mRet (mCall 2 f_lowest (mCons (mVar 0) (mCons (mVar 1) (mNil)))))
theorem ok_ratio {P : Program} {w : World} {K : PySem.W.Frag} {mg : Str → Option Value} {base : Heap} {aPaidError aBadRatio aZeroBottom : Addr} {fa : Addr} {fd : FuncData} {k : Nat} (F : Fun K "ratio" "ratio" s_ratio fa fd) (T : Md K mg aPaidError aBadRatio aZeroBottom) {f_lowest : FnM} (F_lowest : FnI P w K mg base (ctb aPaidError aBadRatio aZeroBottom) k "lowest" ["top", "bottom"] f_lowest) :
    FnOk P w K mg base (L2.CX P w) (k + 1) fa fd ["top", "bottom"] (spM K (ctb aPaidError aBadRatio aZeroBottom) 2 (mFn 2 (m_ratio f_lowest))) :=
  fn_ok F sc_ratio fun cdv A outer s H E hr tk pas => by
    let ct : Ctb := ctb aPaidError aBadRatio aZeroBottom
    exact ((sss_cons (ss_if (st_cmp (op_eqM hr.units) (se_var 1) se_int (nomark _)) (sss_one (ss_raiseI rfl tk T.e_ZeroBottom ctb_ZeroBottom rfl)) sss_nil)
    (sss_one (ss_ret (se_callI F_lowest rfl hr rfl tk (sa_cons (se_var 0) (sa_cons (se_var 1) sa_nil)))))))
abbrev s_plus : Stmt := topS 12
theorem sc_plus : FnScope ["a", "b"] ["a", "b"] (defScope s_plus) := ⟨rfl, rfl, rfl, by decide +kernel, rfl, by decide +kernel, by decide +kernel⟩
noncomputable def m_plus (f_need_ratio : FnM) (f_lowest : FnM) : MS :=
    mSeq (mDrop (mCall 1 f_need_ratio (mCons (mVar 0) (mNil))))
    (mSeq (mDrop (mCall 1 f_need_ratio (mCons (mVar 1) (mNil))))
    (mRet (mCall 2 f_lowest (mCons (mOp oAdd (mOp oMul (mOp oIx (mVar 0) (mC (.int 0))) (mOp oIx (mVar 1) (mC (.int 1)))) (mOp oMul (mOp oIx (mVar 1) (mC (.int 0))) (mOp oIx (mVar 0) (mC (.int 1))))) (mCons (mOp oMul (mOp oIx (mVar 0) (mC (.int 1))) (mOp oIx (mVar 1) (mC (.int 1)))) (mNil))))))
theorem ok_plus {P : Program} {w : World} {K : PySem.W.Frag} {mg : Str → Option Value} {base : Heap} {aPaidError aBadRatio aZeroBottom : Addr} {fa : Addr} {fd : FuncData} {k : Nat} (F : Fun K "plus" "plus" s_plus fa fd) (T : Md K mg aPaidError aBadRatio aZeroBottom) {f_need_ratio : FnM} {f_lowest : FnM} (F_need_ratio : FnI P w K mg base (ctb aPaidError aBadRatio aZeroBottom) k "need_ratio" ["thing"] f_need_ratio) (F_lowest : FnI P w K mg base (ctb aPaidError aBadRatio aZeroBottom) k "lowest" ["top", "bottom"] f_lowest) :
    FnOk P w K mg base (L2.CX P w) (k + 1) fa fd ["a", "b"] (spM K (ctb aPaidError aBadRatio aZeroBottom) 2 (mFn 2 (m_plus f_need_ratio f_lowest))) :=
  fn_ok F sc_plus fun cdv A outer s H E hr tk pas => by
    let ct : Ctb := ctb aPaidError aBadRatio aZeroBottom
    exact ((sss_cons (ss_expr (se_callI F_need_ratio rfl hr rfl tk (sa_cons (se_var 0) sa_nil)))
    (sss_cons (ss_expr (se_callI F_need_ratio rfl hr rfl tk (sa_cons (se_var 1) sa_nil)))
    (sss_one (ss_ret (se_callI F_lowest rfl hr rfl tk (sa_cons (se_op op_addM (se_op op_mulM (se_ix ix_M (se_var 0) se_int (fun _ _ => rfl)) (se_ix ix_M (se_var 1) se_int (fun _ _ => rfl))) (se_op op_mulM (se_ix ix_M (se_var 1) se_int (fun _ _ => rfl)) (se_ix ix_M (se_var 0) se_int (fun _ _ => rfl)))) (sa_cons (se_op op_mulM (se_ix ix_M (se_var 0) se_int (fun _ _ => rfl)) (se_ix ix_M (se_var 1) se_int (fun _ _ => rfl))) sa_nil))))))))
abbrev s_minus : Stmt := topS 13
theorem sc_minus : FnScope ["a", "b"] ["a", "b"] (defScope s_minus) := ⟨rfl, rfl, rfl, by decide +kernel, rfl, by decide +kernel, by decide +kernel⟩
noncomputable def m_minus (f_need_ratio : FnM) (f_lowest : FnM) : MS :=
    mSeq (mDrop (mCall 1 f_need_ratio (mCons (mVar 0) (mNil))))
    (mSeq (mDrop (mCall 1 f_need_ratio (mCons (mVar 1) (mNil))))
    (mRet (mCall 2 f_lowest (mCons (mOp oSub (mOp oMul (mOp oIx (mVar 0) (mC (.int 0))) (mOp oIx (mVar 1) (mC (.int 1)))) (mOp oMul (mOp oIx (mVar 1) (mC (.int 0))) (mOp oIx (mVar 0) (mC (.int 1))))) (mCons (mOp oMul (mOp oIx (mVar 0) (mC (.int 1))) (mOp oIx (mVar 1) (mC (.int 1)))) (mNil))))))
theorem ok_minus {P : Program} {w : World} {K : PySem.W.Frag} {mg : Str → Option Value} {base : Heap} {aPaidError aBadRatio aZeroBottom : Addr} {fa : Addr} {fd : FuncData} {k : Nat} (F : Fun K "minus" "minus" s_minus fa fd) (T : Md K mg aPaidError aBadRatio aZeroBottom) {f_need_ratio : FnM} {f_lowest : FnM} (F_need_ratio : FnI P w K mg base (ctb aPaidError aBadRatio aZeroBottom) k "need_ratio" ["thing"] f_need_ratio) (F_lowest : FnI P w K mg base (ctb aPaidError aBadRatio aZeroBottom) k "lowest" ["top", "bottom"] f_lowest) :
    FnOk P w K mg base (L2.CX P w) (k + 1) fa fd ["a", "b"] (spM K (ctb aPaidError aBadRatio aZeroBottom) 2 (mFn 2 (m_minus f_need_ratio f_lowest))) :=
  fn_ok F sc_minus fun cdv A outer s H E hr tk pas => by
    let ct : Ctb := ctb aPaidError aBadRatio aZeroBottom
    exact ((sss_cons (ss_expr (se_callI F_need_ratio rfl hr rfl tk (sa_cons (se_var 0) sa_nil)))
    (sss_cons (ss_expr (se_callI F_need_ratio rfl hr rfl tk (sa_cons (se_var 1) sa_nil)))
    (sss_one (ss_ret (se_callI F_lowest rfl hr rfl tk (sa_cons (se_op op_subM (se_op op_mulM (se_ix ix_M (se_var 0) se_int (fun _ _ => rfl)) (se_ix ix_M (se_var 1) se_int (fun _ _ => rfl))) (se_op op_mulM (se_ix ix_M (se_var 1) se_int (fun _ _ => rfl)) (se_ix ix_M (se_var 0) se_int (fun _ _ => rfl)))) (sa_cons (se_op op_mulM (se_ix ix_M (se_var 0) se_int (fun _ _ => rfl)) (se_ix ix_M (se_var 1) se_int (fun _ _ => rfl))) sa_nil))))))))
abbrev s_product : Stmt := topS 14
theorem sc_product : FnScope ["a", "b"] ["a", "b"] (defScope s_product) := ⟨rfl, rfl, rfl, by decide +kernel, rfl, by decide +kernel, by decide +kernel⟩
noncomputable def m_product (f_need_ratio : FnM) (f_lowest : FnM) : MS :=
    mSeq (mDrop (mCall 1 f_need_ratio (mCons (mVar 0) (mNil))))
    (mSeq (mDrop (mCall 1 f_need_ratio (mCons (mVar 1) (mNil))))
    (mRet (mCall 2 f_lowest (mCons (mOp oMul (mOp oIx (mVar 0) (mC (.int 0))) (mOp oIx (mVar 1) (mC (.int 0)))) (mCons (mOp oMul (mOp oIx (mVar 0) (mC (.int 1))) (mOp oIx (mVar 1) (mC (.int 1)))) (mNil))))))
theorem ok_product {P : Program} {w : World} {K : PySem.W.Frag} {mg : Str → Option Value} {base : Heap} {aPaidError aBadRatio aZeroBottom : Addr} {fa : Addr} {fd : FuncData} {k : Nat} (F : Fun K "product" "product" s_product fa fd) (T : Md K mg aPaidError aBadRatio aZeroBottom) {f_need_ratio : FnM} {f_lowest : FnM} (F_need_ratio : FnI P w K mg base (ctb aPaidError aBadRatio aZeroBottom) k "need_ratio" ["thing"] f_need_ratio) (F_lowest : FnI P w K mg base (ctb aPaidError aBadRatio aZeroBottom) k "lowest" ["top", "bottom"] f_lowest) :
    FnOk P w K mg base (L2.CX P w) (k + 1) fa fd ["a", "b"] (spM K (ctb aPaidError aBadRatio aZeroBottom) 2 (mFn 2 (m_product f_need_ratio f_lowest))) :=
  fn_ok F sc_product fun cdv A outer s H E hr tk pas => by
    let ct : Ctb := ctb aPaidError aBadRatio aZeroBottom
    exact ((sss_cons (ss_expr (se_callI F_need_ratio rfl hr rfl tk (sa_cons (se_var 0) sa_nil)))
    (sss_cons (ss_expr (se_callI F_need_ratio rfl hr rfl tk (sa_cons (se_var 1) sa_nil)))
    (sss_one (ss_ret (se_callI F_lowest rfl hr rfl tk (sa_cons (se_op op_mulM (se_ix ix_M (se_var 0) se_int (fun _ _ => rfl)) (se_ix ix_M (se_var 1) se_int (fun _ _ => rfl))) (sa_cons (se_op op_mulM (se_ix ix_M (se_var 0) se_int (fun _ _ => rfl)) (se_ix ix_M (se_var 1) se_int (fun _ _ => rfl))) sa_nil))))))))
abbrev s_quotient : Stmt := topS 15
theorem sc_quotient : FnScope ["a", "b"] ["a", "b"] (defScope s_quotient) := ⟨rfl, rfl, rfl, by decide +kernel, rfl, by decide +kernel, by decide +kernel⟩
noncomputable def m_quotient (f_need_ratio : FnM) (f_lowest : FnM) : MS :=
    mSeq (mDrop (mCall 1 f_need_ratio (mCons (mVar 0) (mNil))))
    (mSeq (mDrop (mCall 1 f_need_ratio (mCons (mVar 1) (mNil))))
    (mSeq (mIfS (mTest (mOp oEq (mOp oIx (mVar 1) (mC (.int 0))) (mC (.int 0)))) (mRaise "ZeroBottom") (mNx))
    (mRet (mCall 2 f_lowest (mCons (mOp oMul (mOp oIx (mVar 0) (mC (.int 0))) (mOp oIx (mVar 1) (mC (.int 1)))) (mCons (mOp oMul (mOp oIx (mVar 0) (mC (.int 1))) (mOp oIx (mVar 1) (mC (.int 0)))) (mNil)))))))
theorem ok_quotient {P : Program} {w : World} {K : PySem.W.Frag} {mg : Str → Option Value} {base : Heap} {aPaidError aBadRatio aZeroBottom : Addr} {fa : Addr} {fd : FuncData} {k : Nat} (F : Fun K "quotient" "quotient" s_quotient fa fd) (T : Md K mg aPaidError aBadRatio aZeroBottom) {f_need_ratio : FnM} {f_lowest : FnM} (F_need_ratio : FnI P w K mg base (ctb aPaidError aBadRatio aZeroBottom) k "need_ratio" ["thing"] f_need_ratio) (F_lowest : FnI P w K mg base (ctb aPaidError aBadRatio aZeroBottom) k "lowest" ["top", "bottom"] f_lowest) :
    FnOk P w K mg base (L2.CX P w) (k + 1) fa fd ["a", "b"] (spM K (ctb aPaidError aBadRatio aZeroBottom) 2 (mFn 2 (m_quotient f_need_ratio f_lowest))) :=
  fn_ok F sc_quotient fun cdv A outer s H E hr tk pas => by
    let ct : Ctb := ctb aPaidError aBadRatio aZeroBottom
    exact ((sss_cons (ss_expr (se_callI F_need_ratio rfl hr rfl tk (sa_cons (se_var 0) sa_nil)))
    (sss_cons (ss_expr (se_callI F_need_ratio rfl hr rfl tk (sa_cons (se_var 1) sa_nil)))
    (sss_cons (ss_if (st_cmp (op_eqM hr.units) (se_ix ix_M (se_var 1) se_int (fun _ _ => rfl)) se_int (nomark _)) (sss_one (ss_raiseI rfl tk T.e_ZeroBottom ctb_ZeroBottom rfl)) sss_nil)
    (sss_one (ss_ret (se_callI F_lowest rfl hr rfl tk (sa_cons (se_op op_mulM (se_ix ix_M (se_var 0) se_int (fun _ _ => rfl)) (se_ix ix_M (se_var 1) se_int (fun _ _ => rfl))) (sa_cons (se_op op_mulM (se_ix ix_M (se_var 0) se_int (fun _ _ => rfl)) (se_ix ix_M (se_var 1) se_int (fun _ _ => rfl))) sa_nil)))))))))
abbrev s_below : Stmt := topS 16
theorem sc_below : FnScope ["a", "b"] ["a", "b"] (defScope s_below) := ⟨rfl, rfl, rfl, by decide +kernel, rfl, by decide +kernel, by decide +kernel⟩
noncomputable def m_below (f_need_ratio : FnM) : MS :=
    mSeq (mDrop (mCall 1 f_need_ratio (mCons (mVar 0) (mNil))))
    (mSeq (mDrop (mCall 1 f_need_ratio (mCons (mVar 1) (mNil))))
    (mRet (mOp oLt (mOp oMul (mOp oIx (mVar 0) (mC (.int 0))) (mOp oIx (mVar 1) (mC (.int 1)))) (mOp oMul (mOp oIx (mVar 1) (mC (.int 0))) (mOp oIx (mVar 0) (mC (.int 1)))))))
theorem ok_below {P : Program} {w : World} {K : PySem.W.Frag} {mg : Str → Option Value} {base : Heap} {aPaidError aBadRatio aZeroBottom : Addr} {fa : Addr} {fd : FuncData} {k : Nat} (F : Fun K "below" "below" s_below fa fd) (T : Md K mg aPaidError aBadRatio aZeroBottom) {f_need_ratio : FnM} (F_need_ratio : FnI P w K mg base (ctb aPaidError aBadRatio aZeroBottom) k "need_ratio" ["thing"] f_need_ratio) :
    FnOk P w K mg base (L2.CX P w) (k + 1) fa fd ["a", "b"] (spM K (ctb aPaidError aBadRatio aZeroBottom) 2 (mFn 2 (m_below f_need_ratio))) :=
  fn_ok F sc_below fun cdv A outer s H E hr tk pas => by
    let ct : Ctb := ctb aPaidError aBadRatio aZeroBottom
    exact ((sss_cons (ss_expr (se_callI F_need_ratio rfl hr rfl tk (sa_cons (se_var 0) sa_nil)))
    (sss_cons (ss_expr (se_callI F_need_ratio rfl hr rfl tk (sa_cons (se_var 1) sa_nil)))
    (sss_one (ss_ret (se_cmp op_ltM (se_op op_mulM (se_ix ix_M (se_var 0) se_int (fun _ _ => rfl)) (se_ix ix_M (se_var 1) se_int (fun _ _ => rfl))) (se_op op_mulM (se_ix ix_M (se_var 1) se_int (fun _ _ => rfl)) (se_ix ix_M (se_var 0) se_int (fun _ _ => rfl))) (nomark _)))))))
abbrev s__law_gcd : Stmt := topS 18
theorem sc__law_gcd : FnScope ["a", "b", "rest"] ["a", "b"] (defScope s__law_gcd) := ⟨rfl, rfl, rfl, by decide +kernel, rfl, by decide +kernel, by decide +kernel⟩
noncomputable def m__law_gcd : MS :=
    mSeq (mSet 0 (mB bAbs (mCons (mVar 0) (mNil))))
    (mSeq (mSet 1 (mB bAbs (mCons (mVar 1) (mNil))))
    (mSeq ((fun ρ h => whileL (mTest (mOp oGt (mVar 1) (mC (.int 0)))) (mSeq (mSet 2 (mOp oMod (mB bInt (mCons (mVar 0) (mNil))) (mVar 1)))
    (mSeq (mSet 0 (mVar 1))
    (mSet 1 (mVar 2)))) ((fun ρ _ => (slotInt 1 ρ).toNat + 1) ρ h) ρ h))
    (mRet (mVar 0))))
theorem ok__law_gcd {P : Program} {w : World} {K : PySem.W.Frag} {mg : Str → Option Value} {base : Heap} {aPaidError aBadRatio aZeroBottom : Addr} {fa : Addr} {fd : FuncData} {k : Nat} (F : Fun K "_law_gcd" "_law_gcd" s__law_gcd fa fd) (T : Md K mg aPaidError aBadRatio aZeroBottom) :
    FnOk P w K mg base (L2.CX P w) (k + 1) fa fd ["a", "b"] (spM K (ctb aPaidError aBadRatio aZeroBottom) 2 (mFn 3 (m__law_gcd))) :=
  fn_ok F sc__law_gcd fun cdv A outer s H E hr tk pas => by
    let ct : Ctb := ctb aPaidError aBadRatio aZeroBottom
    exact ((sss_cons (ss_set (i := 0) sc__law_gcd.nd rfl (Or.inl rfl) (se_callB cr_abs rfl T.z_abs (by decide +kernel) (sa_cons (se_var 0) sa_nil)))
    (sss_cons (ss_set (i := 1) sc__law_gcd.nd rfl (Or.inl rfl) (se_callB cr_abs rfl T.z_abs (by decide +kernel) (sa_cons (se_var 1) sa_nil)))
    (sss_cons (ss_while (fun ρ _ => (slotInt 1 ρ).toNat + 1) pas (st_cmp op_gtM (se_var 1) se_int (nomark _)) (sss_cons (ss_set (i := 2) sc__law_gcd.nd rfl (Or.inl rfl) (se_op op_modM (se_callTy cr_int rfl T.z_int PyProof.Rows.boot_int (sa_cons (se_var 0) sa_nil)) (se_var 1)))
    (sss_cons (ss_set (i := 0) sc__law_gcd.nd rfl (Or.inl rfl) (se_var 1))
    (sss_one (ss_set (i := 1) sc__law_gcd.nd rfl (Or.inl rfl) (se_var 2))))))
    (sss_one (ss_ret (se_var 0)))))))
abbrev s__law_lowest : Stmt := topS 19
theorem sc__law_lowest : FnScope ["top", "bottom", "common"] ["top", "bottom"] (defScope s__law_lowest) := ⟨rfl, rfl, rfl, by decide +kernel, rfl, by decide +kernel, by decide +kernel⟩
noncomputable def m__law_lowest (f__law_gcd : FnM) : MS :=
    mSeq (mIfS (mTest (mOp oLt (mVar 1) (mC (.int 0)))) (mSeq (mSet 0 (mUn oNeg (mVar 0)))
    (mSet 1 (mUn oNeg (mVar 1)))) (mNx))
    (mSeq (mSet 2 (mCall 2 f__law_gcd (mCons (mVar 0) (mCons (mVar 1) (mNil)))))
    (mRet (mTup (mCons (mOp oFdiv (mVar 0) (mVar 2)) (mCons (mOp oFdiv (mVar 1) (mVar 2)) (mNil))))))
theorem ok__law_lowest {P : Program} {w : World} {K : PySem.W.Frag} {mg : Str → Option Value} {base : Heap} {aPaidError aBadRatio aZeroBottom : Addr} {fa : Addr} {fd : FuncData} {k : Nat} (F : Fun K "_law_lowest" "_law_lowest" s__law_lowest fa fd) (T : Md K mg aPaidError aBadRatio aZeroBottom) {f__law_gcd : FnM} (F__law_gcd : FnI P w K mg base (ctb aPaidError aBadRatio aZeroBottom) k "_law_gcd" ["a", "b"] f__law_gcd) :
    FnOk P w K mg base (L2.CX P w) (k + 1) fa fd ["top", "bottom"] (spM K (ctb aPaidError aBadRatio aZeroBottom) 2 (mFn 3 (m__law_lowest f__law_gcd))) :=
  fn_ok F sc__law_lowest fun cdv A outer s H E hr tk pas => by
    let ct : Ctb := ctb aPaidError aBadRatio aZeroBottom
    exact ((sss_cons (ss_if (st_cmp op_ltM (se_var 1) se_int (nomark _)) (sss_cons (ss_set (i := 0) sc__law_lowest.nd rfl (Or.inl rfl) (se_un un_negM (se_var 0)))
    (sss_one (ss_set (i := 1) sc__law_lowest.nd rfl (Or.inl rfl) (se_un un_negM (se_var 1))))) sss_nil)
    (sss_cons (ss_set (i := 2) sc__law_lowest.nd rfl (Or.inl rfl) (se_callI F__law_gcd rfl hr rfl tk (sa_cons (se_var 0) (sa_cons (se_var 1) sa_nil))))
    (sss_one (ss_ret (se_tup (sa_cons (se_op op_fdivM (se_var 0) (se_var 2)) (sa_cons (se_op op_fdivM (se_var 1) (se_var 2)) sa_nil))))))))
abbrev s__law_draw : Stmt := topS 20
theorem sc__law_draw : FnScope ["well", "many", "cells", "cell", "got"] ["well", "many"] (defScope s__law_draw) := ⟨rfl, rfl, rfl, by decide +kernel, rfl, by decide +kernel, by decide +kernel⟩
noncomputable def m__law_draw : MS :=
    mSeq (mSet 2 (mOp oIx (mVar 0) (mC (.int 2))))
    (mSeq (mIfS (mTest (mOp oEq (mOp oIx (mVar 0) (mC (.int 0))) (mC (.int 0)))) (mSeq (mSet 3 (mC (.int 7)))
    (mSeq (mIfS (mTest (mOp oLt (mOp oIx (mVar 0) (mC (.int 1))) (mB bLen (mCons (mVar 2) (mNil))))) (mSet 3 (mB bAbs (mCons (mOp oIx (mVar 2) (mOp oIx (mVar 0) (mC (.int 1)))) (mNil)))) (mNx))
    (mSeq (mIfS (mTest (mOp oLt (mVar 3) (mOp oPow (mC (.int 10)) (mC (.int 18))))) (mSeq (mSet 3 (mOp oAdd (mOp oAdd (mOp oAdd (mOp oMul (mVar 3) (mC (.int 1000003))) (mOp oMul (mOp oIx (mVar 0) (mC (.int 1))) (mC (.int 7919)))) (mC (.int 12347))) (mOp oMul (mOp oIx (mVar 0) (mC (.int 3))) (mC (.int 613)))))
    (mSet 3 (mOp oAdd (mOp oMul (mOp oFdiv (mOp oMul (mVar 3) (mVar 3)) (mC (.int 97))) (mC (.int 48271))) (mVar 3)))) (mNx))
    (mSeq (mAsg (mVar 3) (gmSub oSet (mVar 0) (mC (.int 0))))
    (mSeq (mAugS oIxL oIAdd oSet (mVar 0) (mC (.int 1)) (mC (.int 1)))
    (mAugS oIxL oIAdd oSet (mVar 0) (mC (.int 3)) (mC (.int 1)))))))) (mNx))
    (mSeq (mSet 4 (mOp oMod (mB bInt (mCons (mOp oIx (mVar 0) (mC (.int 0))) (mNil))) (mVar 1)))
    (mSeq (mAsg (mOp oFdiv (mOp oIx (mVar 0) (mC (.int 0))) (mVar 1)) (gmSub oSet (mVar 0) (mC (.int 0))))
    (mRet (mVar 4)))))
theorem ok__law_draw {P : Program} {w : World} {K : PySem.W.Frag} {mg : Str → Option Value} {base : Heap} {aPaidError aBadRatio aZeroBottom : Addr} {fa : Addr} {fd : FuncData} {k : Nat} (F : Fun K "_law_draw" "_law_draw" s__law_draw fa fd) (T : Md K mg aPaidError aBadRatio aZeroBottom) :
    FnOk P w K mg base (L2.CX P w) (k + 1) fa fd ["well", "many"] (spM K (ctb aPaidError aBadRatio aZeroBottom) 2 (mFn 5 (m__law_draw))) :=
  fn_ok F sc__law_draw fun cdv A outer s H E hr tk pas => by
    let ct : Ctb := ctb aPaidError aBadRatio aZeroBottom
    exact ((sss_cons (ss_set (i := 2) sc__law_draw.nd rfl (Or.inl rfl) (se_ix ix_M (se_var 0) se_int (fun _ _ => rfl)))
    (sss_cons (ss_if (st_cmp (op_eqM hr.units) (se_ix ix_M (se_var 0) se_int (fun _ _ => rfl)) se_int (nomark _)) (sss_cons (ss_set (i := 3) sc__law_draw.nd rfl (Or.inl rfl) se_int)
    (sss_cons (ss_if (st_cmp op_ltM (se_ix ix_M (se_var 0) se_int (fun _ _ => rfl)) (se_callB cr_len rfl T.z_len PySem.boot_len (sa_cons (se_var 2) sa_nil)) (nomark _)) (sss_one (ss_set (i := 3) sc__law_draw.nd rfl (Or.inl rfl) (se_callB cr_abs rfl T.z_abs (by decide +kernel) (sa_cons (se_ix ix_M (se_var 2) (se_ix ix_M (se_var 0) se_int (fun _ _ => rfl)) (fun _ _ => rfl)) sa_nil)))) sss_nil)
    (sss_cons (ss_if (st_cmp op_ltM (se_var 3) (se_op op_powM se_int se_int) (nomark _)) (sss_cons (ss_set (i := 3) sc__law_draw.nd rfl (Or.inl rfl) (se_op op_addM (se_op op_addM (se_op op_addM (se_op op_mulM (se_var 3) se_int) (se_op op_mulM (se_ix ix_M (se_var 0) se_int (fun _ _ => rfl)) se_int)) se_int) (se_op op_mulM (se_ix ix_M (se_var 0) se_int (fun _ _ => rfl)) se_int)))
    (sss_one (ss_set (i := 3) sc__law_draw.nd rfl (Or.inl rfl) (se_op op_addM (se_op op_mulM (se_op op_fdivM (se_op op_mulM (se_var 3) (se_var 3)) se_int) se_int) (se_var 3))))) sss_nil)
    (sss_cons (ss_asg (se_var 3) (sg_sub (ct := ct) (W := (fun c d _ H' => E c d H')) (se_var 0) se_int set_M))
    (sss_cons (ss_augS (se_var 0) se_int get_M se_int ip_addM set_M)
    (sss_one (ss_augS (se_var 0) se_int get_M se_int ip_addM set_M))))))) sss_nil)
    (sss_cons (ss_set (i := 4) sc__law_draw.nd rfl (Or.inl rfl) (se_op op_modM (se_callTy cr_int rfl T.z_int PyProof.Rows.boot_int (sa_cons (se_ix ix_M (se_var 0) se_int (fun _ _ => rfl)) sa_nil)) (se_var 1)))
    (sss_cons (ss_asg (se_op op_fdivM (se_ix ix_M (se_var 0) se_int (fun _ _ => rfl)) (se_var 1)) (sg_sub (ct := ct) (W := (fun c d _ H' => E c d H')) (se_var 0) se_int set_M))
    (sss_one (ss_ret (se_var 4))))))))
abbrev s__law_number : Stmt := topS 21
theorem sc__law_number : FnScope ["well", "shape"] ["well"] (defScope s__law_number) := ⟨rfl, rfl, rfl, by decide +kernel, rfl, by decide +kernel, by decide +kernel⟩
noncomputable def m__law_number (f__law_draw : FnM) : MS :=
    mSeq (mSet 1 (mCall 2 f__law_draw (mCons (mVar 0) (mCons (mC (.int 9)) (mNil)))))
    (mSeq (mIfS (mTest (mOp oEq (mVar 1) (mC (.int 0)))) (mRet (mC (.int 0))) (mNx))
    (mSeq (mIfS (mTest (mOp oEq (mVar 1) (mC (.int 1)))) (mRet (mOp oSub (mC (.int 1)) (mOp oMul (mC (.int 2)) (mCall 2 f__law_draw (mCons (mVar 0) (mCons (mC (.int 2)) (mNil))))))) (mNx))
    (mSeq (mIfS (mTest (mOp oEq (mVar 1) (mC (.int 2)))) (mRet (mOp oSub (mCall 2 f__law_draw (mCons (mVar 0) (mCons (mOp oPow (mC (.int 10)) (mC (.int 60))) (mNil)))) (mOp oMul (mC (.int 5)) (mOp oPow (mC (.int 10)) (mC (.int 59)))))) (mNx))
    (mSeq (mIfS (mTest (mOp oEq (mVar 1) (mC (.int 3)))) (mRet (mOp oMul (mOp oAdd (mOp oPow (mC (.int 10)) (mC (.int 12))) (mCall 2 f__law_draw (mCons (mVar 0) (mCons (mC (.int 5)) (mNil))))) (mOp oSub (mC (.int 1)) (mOp oMul (mC (.int 2)) (mCall 2 f__law_draw (mCons (mVar 0) (mCons (mC (.int 2)) (mNil)))))))) (mNx))
    (mRet (mOp oSub (mCall 2 f__law_draw (mCons (mVar 0) (mCons (mC (.int 25)) (mNil)))) (mC (.int 12))))))))
theorem ok__law_number {P : Program} {w : World} {K : PySem.W.Frag} {mg : Str → Option Value} {base : Heap} {aPaidError aBadRatio aZeroBottom : Addr} {fa : Addr} {fd : FuncData} {k : Nat} (F : Fun K "_law_number" "_law_number" s__law_number fa fd) (T : Md K mg aPaidError aBadRatio aZeroBottom) {f__law_draw : FnM} (F__law_draw : FnI P w K mg base (ctb aPaidError aBadRatio aZeroBottom) k "_law_draw" ["well", "many"] f__law_draw) :
    FnOk P w K mg base (L2.CX P w) (k + 1) fa fd ["well"] (spM K (ctb aPaidError aBadRatio aZeroBottom) 1 (mFn 2 (m__law_number f__law_draw))) :=
  fn_ok F sc__law_number fun cdv A outer s H E hr tk pas => by
    let ct : Ctb := ctb aPaidError aBadRatio aZeroBottom
    exact ((sss_cons (ss_set (i := 1) sc__law_number.nd rfl (Or.inl rfl) (se_callI F__law_draw rfl hr rfl tk (sa_cons (se_var 0) (sa_cons se_int sa_nil))))
    (sss_cons (ss_if (st_cmp (op_eqM hr.units) (se_var 1) se_int (nomark _)) (sss_one (ss_ret se_int)) sss_nil)
    (sss_cons (ss_if (st_cmp (op_eqM hr.units) (se_var 1) se_int (nomark _)) (sss_one (ss_ret (se_op op_subM se_int (se_op op_mulM se_int (se_callI F__law_draw rfl hr rfl tk (sa_cons (se_var 0) (sa_cons se_int sa_nil))))))) sss_nil)
    (sss_cons (ss_if (st_cmp (op_eqM hr.units) (se_var 1) se_int (nomark _)) (sss_one (ss_ret (se_op op_subM (se_callI F__law_draw rfl hr rfl tk (sa_cons (se_var 0) (sa_cons (se_op op_powM se_int se_int) sa_nil))) (se_op op_mulM se_int (se_op op_powM se_int se_int))))) sss_nil)
    (sss_cons (ss_if (st_cmp (op_eqM hr.units) (se_var 1) se_int (nomark _)) (sss_one (ss_ret (se_op op_mulM (se_op op_addM (se_op op_powM se_int se_int) (se_callI F__law_draw rfl hr rfl tk (sa_cons (se_var 0) (sa_cons se_int sa_nil)))) (se_op op_subM se_int (se_op op_mulM se_int (se_callI F__law_draw rfl hr rfl tk (sa_cons (se_var 0) (sa_cons se_int sa_nil)))))))) sss_nil)
    (sss_one (ss_ret (se_op op_subM (se_callI F__law_draw rfl hr rfl tk (sa_cons (se_var 0) (sa_cons se_int sa_nil))) se_int)))))))))
abbrev s__law_no_ratio : Stmt := topS 22
theorem sc__law_no_ratio : FnScope ["well", "n", "m", "things"] ["well"] (defScope s__law_no_ratio) := ⟨rfl, rfl, rfl, by decide +kernel, rfl, by decide +kernel, by decide +kernel⟩
noncomputable def m__law_no_ratio (f__law_draw : FnM) : MS :=
    mSeq (mSet 1 (mOp oAdd (mC (.int 2)) (mCall 2 f__law_draw (mCons (mVar 0) (mCons (mC (.int 9)) (mNil))))))
    (mSeq (mSet 2 (mOp oSub (mCall 2 f__law_draw (mCons (mVar 0) (mCons (mC (.int 21)) (mNil)))) (mC (.int 10))))
    (mSeq (mSet 3 (mLst (mCons (mTup (mCons (mC (.int 2)) (mCons (mC (.int 4)) (mNil)))) (mCons (mTup (mCons (mC (.int 1)) (mCons (mC (.int 0)) (mNil)))) (mCons (mTup (mCons (mC (.int 3)) (mCons (mUn oNeg (mC (.int 1))) (mNil)))) (mCons (mTup (mCons (mC (.int 0)) (mCons (mC (.int 2)) (mNil)))) (mCons (mTup (mCons (mC (.int 0)) (mCons (mC (.int 0)) (mNil)))) (mCons (mTup (mCons (mUn oNeg (mC (.int 4))) (mCons (mC (.int 6)) (mNil)))) (mCons (mLst (mCons (mC (.int 1)) (mCons (mC (.int 2)) (mNil)))) (mCons (mTup (mCons (mC (.int 1)) (mNil))) (mCons (mTup (mCons (mC (.int 1)) (mCons (mC (.int 2)) (mCons (mC (.int 3)) (mNil))))) (mCons (mTup (mCons (mC (.bl true)) (mCons (mC (.int 1)) (mNil)))) (mCons (mTup (mCons (mC (.int 1)) (mCons (mC (.bl true)) (mNil)))) (mNil))))))))))))))
    (mSeq (mSet 3 (mOp oAdd (mVar 3) (mLst (mCons (mC .non) (mCons (mC (.str "1/2")) (mCons (mC (.int 5)) (mCons (mTup (mNil)) (mCons (mTup (mCons (mTup (mCons (mC (.int 1)) (mCons (mC (.int 1)) (mNil)))) (mCons (mC (.int 1)) (mNil)))) (mCons (mTup (mCons (mC (.int 1)) (mCons (mTup (mCons (mC (.int 1)) (mCons (mC (.int 1)) (mNil)))) (mNil)))) (mCons (mDnew) (mCons (mTup (mCons (mC (.str "1")) (mCons (mC (.int 1)) (mNil)))) (mCons (mTup (mCons (mC (.int 0)) (mCons (mUn oNeg (mC (.int 1))) (mNil)))) (mCons (mTup (mCons (mVar 2) (mCons (mUn oNeg (mVar 1)) (mNil)))) (mCons (mTup (mCons (mOp oMul (mVar 1) (mVar 2)) (mCons (mVar 1) (mNil)))) (mNil)))))))))))))))
    (mSeq (mSet 3 (mOp oAdd (mVar 3) (mLst (mCons (mTup (mCons (mOp oMul (mOp oMul (mVar 2) (mVar 1)) (mOp oPow (mC (.int 10)) (mC (.int 40)))) (mCons (mOp oMul (mVar 1) (mOp oPow (mC (.int 10)) (mC (.int 20)))) (mNil)))) (mCons (mLst (mCons (mTup (mCons (mC (.int 1)) (mCons (mC (.int 2)) (mNil)))) (mNil))) (mCons (mTup (mCons (mC .non) (mCons (mC (.int 1)) (mNil)))) (mCons (mTup (mCons (mC (.int 1)) (mCons (mC .non) (mNil)))) (mCons (mC (.bl false)) (mCons (mTup (mCons (mVar 2) (mCons (mC (.int 0)) (mNil)))) (mNil))))))))))
    (mRet (mOp oIx (mVar 3) (mCall 2 f__law_draw (mCons (mVar 0) (mCons (mB bLen (mCons (mVar 3) (mNil))) (mNil))))))))))
theorem ok__law_no_ratio {P : Program} {w : World} {K : PySem.W.Frag} {mg : Str → Option Value} {base : Heap} {aPaidError aBadRatio aZeroBottom : Addr} {fa : Addr} {fd : FuncData} {k : Nat} (F : Fun K "_law_no_ratio" "_law_no_ratio" s__law_no_ratio fa fd) (T : Md K mg aPaidError aBadRatio aZeroBottom) {f__law_draw : FnM} (F__law_draw : FnI P w K mg base (ctb aPaidError aBadRatio aZeroBottom) k "_law_draw" ["well", "many"] f__law_draw) :
    FnOk P w K mg base (L2.CX P w) (k + 1) fa fd ["well"] (spM K (ctb aPaidError aBadRatio aZeroBottom) 1 (mFn 4 (m__law_no_ratio f__law_draw))) :=
  fn_ok F sc__law_no_ratio fun cdv A outer s H E hr tk pas => by
    let ct : Ctb := ctb aPaidError aBadRatio aZeroBottom
    exact ((sss_cons (ss_set (i := 1) sc__law_no_ratio.nd rfl (Or.inl rfl) (se_op op_addM se_int (se_callI F__law_draw rfl hr rfl tk (sa_cons (se_var 0) (sa_cons se_int sa_nil)))))
    (sss_cons (ss_set (i := 2) sc__law_no_ratio.nd rfl (Or.inl rfl) (se_op op_subM (se_callI F__law_draw rfl hr rfl tk (sa_cons (se_var 0) (sa_cons se_int sa_nil))) se_int))
    (sss_cons (ss_set (i := 3) sc__law_no_ratio.nd rfl (Or.inl rfl) (se_lst (sa_cons (se_tup (sa_cons se_int (sa_cons se_int sa_nil))) (sa_cons (se_tup (sa_cons se_int (sa_cons se_int sa_nil))) (sa_cons (se_tup (sa_cons se_int (sa_cons (se_un un_negM se_int) sa_nil))) (sa_cons (se_tup (sa_cons se_int (sa_cons se_int sa_nil))) (sa_cons (se_tup (sa_cons se_int (sa_cons se_int sa_nil))) (sa_cons (se_tup (sa_cons (se_un un_negM se_int) (sa_cons se_int sa_nil))) (sa_cons (se_lst (sa_cons se_int (sa_cons se_int sa_nil))) (sa_cons (se_tup (sa_cons se_int sa_nil)) (sa_cons (se_tup (sa_cons se_int (sa_cons se_int (sa_cons se_int sa_nil)))) (sa_cons (se_tup (sa_cons se_bl (sa_cons se_int sa_nil))) (sa_cons (se_tup (sa_cons se_int (sa_cons se_bl sa_nil))) sa_nil)))))))))))))
    (sss_cons (ss_set (i := 3) sc__law_no_ratio.nd rfl (Or.inl rfl) (se_op op_addM (se_var 3) (se_lst (sa_cons se_non (sa_cons se_str (sa_cons se_int (sa_cons (se_tup sa_nil) (sa_cons (se_tup (sa_cons (se_tup (sa_cons se_int (sa_cons se_int sa_nil))) (sa_cons se_int sa_nil))) (sa_cons (se_tup (sa_cons se_int (sa_cons (se_tup (sa_cons se_int (sa_cons se_int sa_nil))) sa_nil))) (sa_cons se_dnew (sa_cons (se_tup (sa_cons se_str (sa_cons se_int sa_nil))) (sa_cons (se_tup (sa_cons se_int (sa_cons (se_un un_negM se_int) sa_nil))) (sa_cons (se_tup (sa_cons (se_var 2) (sa_cons (se_un un_negM (se_var 1)) sa_nil))) (sa_cons (se_tup (sa_cons (se_op op_mulM (se_var 1) (se_var 2)) (sa_cons (se_var 1) sa_nil))) sa_nil))))))))))))))
    (sss_cons (ss_set (i := 3) sc__law_no_ratio.nd rfl (Or.inl rfl) (se_op op_addM (se_var 3) (se_lst (sa_cons (se_tup (sa_cons (se_op op_mulM (se_op op_mulM (se_var 2) (se_var 1)) (se_op op_powM se_int se_int)) (sa_cons (se_op op_mulM (se_var 1) (se_op op_powM se_int se_int)) sa_nil))) (sa_cons (se_lst (sa_cons (se_tup (sa_cons se_int (sa_cons se_int sa_nil))) sa_nil)) (sa_cons (se_tup (sa_cons se_non (sa_cons se_int sa_nil))) (sa_cons (se_tup (sa_cons se_int (sa_cons se_non sa_nil))) (sa_cons se_bl (sa_cons (se_tup (sa_cons (se_var 2) (sa_cons se_int sa_nil))) sa_nil)))))))))
    (sss_one (ss_ret (se_ix ix_M (se_var 3) (se_callI F__law_draw rfl hr rfl tk (sa_cons (se_var 0) (sa_cons (se_callB cr_len rfl T.z_len PySem.boot_len (sa_cons (se_var 3) sa_nil)) sa_nil))) (fun _ _ => rfl))))))))))
abbrev s__law_int : Stmt := topS 23
theorem sc__law_int : FnScope ["thing"] ["thing"] (defScope s__law_int) := ⟨rfl, rfl, rfl, by decide +kernel, rfl, by decide +kernel, by decide +kernel⟩
noncomputable def m__law_int : MS :=
    mRet (mAndV (mIsi "int" (mVar 0)) (mNotV (mIsi "bool" (mVar 0))))
theorem ok__law_int {P : Program} {w : World} {K : PySem.W.Frag} {mg : Str → Option Value} {base : Heap} {aPaidError aBadRatio aZeroBottom : Addr} {fa : Addr} {fd : FuncData} {k : Nat} (F : Fun K "_law_int" "_law_int" s__law_int fa fd) (T : Md K mg aPaidError aBadRatio aZeroBottom) :
    FnOk P w K mg base (L2.CX P w) (k + 1) fa fd ["thing"] (spM K (ctb aPaidError aBadRatio aZeroBottom) 1 (mFn 1 (m__law_int))) :=
  fn_ok F sc__law_int fun cdv A outer s H E hr tk pas => by
    let ct : Ctb := ctb aPaidError aBadRatio aZeroBottom
    exact ((sss_one (ss_ret (se_and (se_isi (by decide) rfl T.z_isinstance rfl T.z_int PyProof.Rows.boot_int (se_var 0)) (se_and1 (se_not (se_isi (by decide) rfl T.z_isinstance rfl T.z_bool PyProof.Rows.boot_bool (se_var 0))))))))
abbrev s__law_well : Stmt := topS 24
theorem sc__law_well : FnScope ["script", "at"] ["script", "at"] (defScope s__law_well) := ⟨rfl, rfl, rfl, by decide +kernel, rfl, by decide +kernel, by decide +kernel⟩
noncomputable def m__law_well : MS :=
    mRet (mLst (mCons (mC (.int 0)) (mCons (mVar 1) (mCons (mB bList (mCons (mVar 0) (mNil))) (mCons (mC (.int 0)) (mNil))))))
theorem ok__law_well {P : Program} {w : World} {K : PySem.W.Frag} {mg : Str → Option Value} {base : Heap} {aPaidError aBadRatio aZeroBottom : Addr} {fa : Addr} {fd : FuncData} {k : Nat} (F : Fun K "_law_well" "_law_well" s__law_well fa fd) (T : Md K mg aPaidError aBadRatio aZeroBottom) :
    FnOk P w K mg base (L2.CX P w) (k + 1) fa fd ["script", "at"] (spM K (ctb aPaidError aBadRatio aZeroBottom) 2 (mFn 2 (m__law_well))) :=
  fn_ok F sc__law_well fun cdv A outer s H E hr tk pas => by
    let ct : Ctb := ctb aPaidError aBadRatio aZeroBottom
    exact ((sss_one (ss_ret (se_lst (sa_cons se_int (sa_cons (se_var 1) (sa_cons (se_callTy cr_list rfl T.z_list PyProof.Rows.boot_list (sa_cons (se_var 0) sa_nil)) (sa_cons se_int sa_nil))))))))
abbrev s__law_truth : Stmt := topS 25
theorem sc__law_truth : FnScope ["told", "due"] ["told", "due"] (defScope s__law_truth) := ⟨rfl, rfl, rfl, by decide +kernel, rfl, by decide +kernel, by decide +kernel⟩
noncomputable def m__law_truth : MS :=
    mRet (mAndV (mIsi "bool" (mVar 0)) (mOp oEq (mVar 0) (mVar 1)))
theorem ok__law_truth {P : Program} {w : World} {K : PySem.W.Frag} {mg : Str → Option Value} {base : Heap} {aPaidError aBadRatio aZeroBottom : Addr} {fa : Addr} {fd : FuncData} {k : Nat} (F : Fun K "_law_truth" "_law_truth" s__law_truth fa fd) (T : Md K mg aPaidError aBadRatio aZeroBottom) :
    FnOk P w K mg base (L2.CX P w) (k + 1) fa fd ["told", "due"] (spM K (ctb aPaidError aBadRatio aZeroBottom) 2 (mFn 2 (m__law_truth))) :=
  fn_ok F sc__law_truth fun cdv A outer s H E hr tk pas => by
    let ct : Ctb := ctb aPaidError aBadRatio aZeroBottom
    exact ((sss_one (ss_ret (se_and (se_isi (by decide) rfl T.z_isinstance rfl T.z_bool PyProof.Rows.boot_bool (se_var 0)) (se_and1 (se_cmp (op_eqM hr.units) (se_var 0) (se_var 1) (nomark _)))))))
abbrev s__law_called : Stmt := topS 26
theorem sc__law_called : FnScope ["pick", "a", "b"] ["pick", "a", "b"] (defScope s__law_called) := ⟨rfl, rfl, rfl, by decide +kernel, rfl, by decide +kernel, by decide +kernel⟩
noncomputable def m__law_called (f_plus : FnM) (f_minus : FnM) (f_product : FnM) (f_quotient : FnM) (f_below : FnM) (f_ratio : FnM) : MS :=
    mSeq (mIfS (mTest (mOp oEq (mVar 0) (mC (.int 0)))) (mRet (mCall 2 f_plus (mCons (mVar 1) (mCons (mVar 2) (mNil))))) (mNx))
    (mSeq (mIfS (mTest (mOp oEq (mVar 0) (mC (.int 1)))) (mRet (mCall 2 f_minus (mCons (mVar 1) (mCons (mVar 2) (mNil))))) (mNx))
    (mSeq (mIfS (mTest (mOp oEq (mVar 0) (mC (.int 2)))) (mRet (mCall 2 f_product (mCons (mVar 1) (mCons (mVar 2) (mNil))))) (mNx))
    (mSeq (mIfS (mTest (mOp oEq (mVar 0) (mC (.int 3)))) (mRet (mCall 2 f_quotient (mCons (mVar 1) (mCons (mVar 2) (mNil))))) (mNx))
    (mSeq (mIfS (mTest (mOp oEq (mVar 0) (mC (.int 4)))) (mRet (mCall 2 f_below (mCons (mVar 1) (mCons (mVar 2) (mNil))))) (mNx))
    (mRet (mCall 2 f_ratio (mCons (mVar 1) (mCons (mVar 2) (mNil)))))))))
theorem ok__law_called {P : Program} {w : World} {K : PySem.W.Frag} {mg : Str → Option Value} {base : Heap} {aPaidError aBadRatio aZeroBottom : Addr} {fa : Addr} {fd : FuncData} {k : Nat} (F : Fun K "_law_called" "_law_called" s__law_called fa fd) (T : Md K mg aPaidError aBadRatio aZeroBottom) {f_plus : FnM} {f_minus : FnM} {f_product : FnM} {f_quotient : FnM} {f_below : FnM} {f_ratio : FnM} (F_plus : FnI P w K mg base (ctb aPaidError aBadRatio aZeroBottom) k "plus" ["a", "b"] f_plus) (F_minus : FnI P w K mg base (ctb aPaidError aBadRatio aZeroBottom) k "minus" ["a", "b"] f_minus) (F_product : FnI P w K mg base (ctb aPaidError aBadRatio aZeroBottom) k "product" ["a", "b"] f_product) (F_quotient : FnI P w K mg base (ctb aPaidError aBadRatio aZeroBottom) k "quotient" ["a", "b"] f_quotient) (F_below : FnI P w K mg base (ctb aPaidError aBadRatio aZeroBottom) k "below" ["a", "b"] f_below) (F_ratio : FnI P w K mg base (ctb aPaidError aBadRatio aZeroBottom) k "ratio" ["top", "bottom"] f_ratio) :
    FnOk P w K mg base (L2.CX P w) (k + 1) fa fd ["pick", "a", "b"] (spM K (ctb aPaidError aBadRatio aZeroBottom) 3 (mFn 3 (m__law_called f_plus f_minus f_product f_quotient f_below f_ratio))) :=
  fn_ok F sc__law_called fun cdv A outer s H E hr tk pas => by
    let ct : Ctb := ctb aPaidError aBadRatio aZeroBottom
    exact ((sss_cons (ss_if (st_cmp (op_eqM hr.units) (se_var 0) se_int (nomark _)) (sss_one (ss_ret (se_callI F_plus rfl hr rfl tk (sa_cons (se_var 1) (sa_cons (se_var 2) sa_nil))))) sss_nil)
    (sss_cons (ss_if (st_cmp (op_eqM hr.units) (se_var 0) se_int (nomark _)) (sss_one (ss_ret (se_callI F_minus rfl hr rfl tk (sa_cons (se_var 1) (sa_cons (se_var 2) sa_nil))))) sss_nil)
    (sss_cons (ss_if (st_cmp (op_eqM hr.units) (se_var 0) se_int (nomark _)) (sss_one (ss_ret (se_callI F_product rfl hr rfl tk (sa_cons (se_var 1) (sa_cons (se_var 2) sa_nil))))) sss_nil)
    (sss_cons (ss_if (st_cmp (op_eqM hr.units) (se_var 0) se_int (nomark _)) (sss_one (ss_ret (se_callI F_quotient rfl hr rfl tk (sa_cons (se_var 1) (sa_cons (se_var 2) sa_nil))))) sss_nil)
    (sss_cons (ss_if (st_cmp (op_eqM hr.units) (se_var 0) se_int (nomark _)) (sss_one (ss_ret (se_callI F_below rfl hr rfl tk (sa_cons (se_var 1) (sa_cons (se_var 2) sa_nil))))) sss_nil)
    (sss_one (ss_ret (se_callI F_ratio rfl hr rfl tk (sa_cons (se_var 1) (sa_cons (se_var 2) sa_nil)))))))))))
abbrev s__law_named : Stmt := topS 27
theorem sc__law_named : FnScope ["pick", "a", "b"] ["pick", "a", "b"] (defScope s__law_named) := ⟨rfl, rfl, rfl, by decide +kernel, rfl, by decide +kernel, by decide +kernel⟩
noncomputable def m__law_named (f_plus : FnM) (f_minus : FnM) (f_product : FnM) (f_quotient : FnM) (f_below : FnM) (f_ratio : FnM) : MS :=
    mSeq (mIfS (mTest (mOp oEq (mVar 0) (mC (.int 0)))) (mRet (mCallK 2 [1, 0] f_plus (mCons (mVar 2) (mCons (mVar 1) (mNil))))) (mNx))
    (mSeq (mIfS (mTest (mOp oEq (mVar 0) (mC (.int 1)))) (mRet (mCallK 2 [1, 0] f_minus (mCons (mVar 2) (mCons (mVar 1) (mNil))))) (mNx))
    (mSeq (mIfS (mTest (mOp oEq (mVar 0) (mC (.int 2)))) (mRet (mCallK 2 [1, 0] f_product (mCons (mVar 2) (mCons (mVar 1) (mNil))))) (mNx))
    (mSeq (mIfS (mTest (mOp oEq (mVar 0) (mC (.int 3)))) (mRet (mCallK 2 [1, 0] f_quotient (mCons (mVar 2) (mCons (mVar 1) (mNil))))) (mNx))
    (mSeq (mIfS (mTest (mOp oEq (mVar 0) (mC (.int 4)))) (mRet (mCallK 2 [1, 0] f_below (mCons (mVar 2) (mCons (mVar 1) (mNil))))) (mNx))
    (mRet (mCallK 2 [1, 0] f_ratio (mCons (mVar 2) (mCons (mVar 1) (mNil)))))))))
theorem ok__law_named {P : Program} {w : World} {K : PySem.W.Frag} {mg : Str → Option Value} {base : Heap} {aPaidError aBadRatio aZeroBottom : Addr} {fa : Addr} {fd : FuncData} {k : Nat} (F : Fun K "_law_named" "_law_named" s__law_named fa fd) (T : Md K mg aPaidError aBadRatio aZeroBottom) {f_plus : FnM} {f_minus : FnM} {f_product : FnM} {f_quotient : FnM} {f_below : FnM} {f_ratio : FnM} (K_plus_b_a : FnK P w K mg base (ctb aPaidError aBadRatio aZeroBottom) k "plus" ["a", "b"] ["b", "a"] [1, 0] f_plus) (K_minus_b_a : FnK P w K mg base (ctb aPaidError aBadRatio aZeroBottom) k "minus" ["a", "b"] ["b", "a"] [1, 0] f_minus) (K_product_b_a : FnK P w K mg base (ctb aPaidError aBadRatio aZeroBottom) k "product" ["a", "b"] ["b", "a"] [1, 0] f_product) (K_quotient_b_a : FnK P w K mg base (ctb aPaidError aBadRatio aZeroBottom) k "quotient" ["a", "b"] ["b", "a"] [1, 0] f_quotient) (K_below_b_a : FnK P w K mg base (ctb aPaidError aBadRatio aZeroBottom) k "below" ["a", "b"] ["b", "a"] [1, 0] f_below) (K_ratio_bottom_top : FnK P w K mg base (ctb aPaidError aBadRatio aZeroBottom) k "ratio" ["top", "bottom"] ["bottom", "top"] [1, 0] f_ratio) :
    FnOk P w K mg base (L2.CX P w) (k + 1) fa fd ["pick", "a", "b"] (spM K (ctb aPaidError aBadRatio aZeroBottom) 3 (mFn 3 (m__law_named f_plus f_minus f_product f_quotient f_below f_ratio))) :=
  fn_ok F sc__law_named fun cdv A outer s H E hr tk pas => by
    let ct : Ctb := ctb aPaidError aBadRatio aZeroBottom
    exact ((sss_cons (ss_if (st_cmp (op_eqM hr.units) (se_var 0) se_int (nomark _)) (sss_one (ss_ret (se_callKI K_plus_b_a rfl hr rfl tk (sk_cons (se_var 2) (sk_cons (se_var 1) sk_nil))))) sss_nil)
    (sss_cons (ss_if (st_cmp (op_eqM hr.units) (se_var 0) se_int (nomark _)) (sss_one (ss_ret (se_callKI K_minus_b_a rfl hr rfl tk (sk_cons (se_var 2) (sk_cons (se_var 1) sk_nil))))) sss_nil)
    (sss_cons (ss_if (st_cmp (op_eqM hr.units) (se_var 0) se_int (nomark _)) (sss_one (ss_ret (se_callKI K_product_b_a rfl hr rfl tk (sk_cons (se_var 2) (sk_cons (se_var 1) sk_nil))))) sss_nil)
    (sss_cons (ss_if (st_cmp (op_eqM hr.units) (se_var 0) se_int (nomark _)) (sss_one (ss_ret (se_callKI K_quotient_b_a rfl hr rfl tk (sk_cons (se_var 2) (sk_cons (se_var 1) sk_nil))))) sss_nil)
    (sss_cons (ss_if (st_cmp (op_eqM hr.units) (se_var 0) se_int (nomark _)) (sss_one (ss_ret (se_callKI K_below_b_a rfl hr rfl tk (sk_cons (se_var 2) (sk_cons (se_var 1) sk_nil))))) sss_nil)
    (sss_one (ss_ret (se_callKI K_ratio_bottom_top rfl hr rfl tk (sk_cons (se_var 2) (sk_cons (se_var 1) sk_nil)))))))))))
abbrev s__law_word : Stmt := topS 28
theorem sc__law_word : FnScope ["pick", "a", "b", "word", "e"] ["pick", "a", "b"] (defScope s__law_word) := ⟨rfl, rfl, rfl, by decide +kernel, rfl, by decide +kernel, by decide +kernel⟩
noncomputable def m__law_word (f__law_called : FnM) : MS :=
    mSeq (mSet 3 (mC (.str "none")))
    (mSeq (mTry sb (mDrop (mCall 3 f__law_called (mCons (mVar 0) (mCons (mVar 1) (mCons (mVar 2) (mNil)))))) (("BadRatio", some 4, fun a e => mSeq (mSet 3 (mC (.str "bad")))
    (mIfS (mOr (mNot (mTest (mIsE 4 a e (isb "PaidError" e.cls)))) (mOr (mNot (mTest (mIsE 4 a e (isb "ValueError" e.cls)))) (mTest (mIsE 4 a e (isb "ZeroBottom" e.cls))))) (mSet 3 (mC (.str "wrong"))) (mNx))) :: ("ZeroBottom", some 4, fun a e => mSeq (mSet 3 (mC (.str "zero")))
    (mIfS (mOr (mNot (mTest (mIsE 4 a e (isb "PaidError" e.cls)))) (mNot (mTest (mIsE 4 a e (isb "ValueError" e.cls))))) (mSet 3 (mC (.str "wrong"))) (mNx))) :: []))
    (mRet (mVar 3)))
theorem ok__law_word {P : Program} {w : World} {K : PySem.W.Frag} {mg : Str → Option Value} {base : Heap} {aPaidError aBadRatio aZeroBottom : Addr} {fa : Addr} {fd : FuncData} {k : Nat} (F : Fun K "_law_word" "_law_word" s__law_word fa fd) (T : Md K mg aPaidError aBadRatio aZeroBottom) {f__law_called : FnM} (F__law_called : FnI P w K mg base (ctb aPaidError aBadRatio aZeroBottom) k "_law_called" ["pick", "a", "b"] f__law_called) :
    FnOk P w K mg base (L2.CX P w) (k + 1) fa fd ["pick", "a", "b"] (spM K (ctb aPaidError aBadRatio aZeroBottom) 3 (mFn 5 (m__law_word f__law_called))) :=
  fn_ok F sc__law_word fun cdv A outer s H E hr tk pas => by
    let ct : Ctb := ctb aPaidError aBadRatio aZeroBottom
    exact ((sss_cons (ss_set (i := 3) sc__law_word.nd rfl (Or.inl rfl) se_str)
    (sss_cons (ss_try (sb := sb) rfl rfl sc__law_word.nd tk (fun W2 pn2 xe2 tk2 pas2 => (sss_one (ss_expr (se_callI F__law_called rfl hr rfl tk2 (sa_cons (se_var 0) (sa_cons (se_var 1) (sa_cons (se_var 2) sa_nil))))))) (.named (i := 4) rfl rfl ⟨rfl, by decide, .inl T.e_BadRatio.g⟩ T.sb_BadRatio (fun a oe cls d pn e hz hf hcl hd => (sss_cons (ss_set (i := 3) sc__law_word.nd rfl (Or.inl rfl) se_str)
    (sss_one (ss_if (st_w (sw_or (st_not (st_val (se_isE hz hf hcl hd T.is_PaidError (i := 4) rfl (Or.inl rfl) rfl T.z_isinstance (pe_glob (v := .ref aPaidError) rfl T.e_PaidError.g rfl) (fun u z => z)))) (sw_or (st_not (st_val (se_isE hz hf hcl hd T.is_ValueError (i := 4) rfl (Or.inl rfl) rfl T.z_isinstance (pe_bltn (v := .ty "ValueError") rfl T.z_ValueError (by decide +kernel) rfl) (fun u z => z)))) (sw_or1 (st_val (se_isE hz hf hcl hd T.is_ZeroBottom (i := 4) rfl (Or.inl rfl) rfl T.z_isinstance (pe_glob (v := .ref aZeroBottom) rfl T.e_ZeroBottom.g rfl) (fun u z => z))))))) (sss_one (ss_set (i := 3) sc__law_word.nd rfl (Or.inl rfl) se_str)) sss_nil)))) (.named (i := 4) rfl rfl ⟨rfl, by decide, .inl T.e_ZeroBottom.g⟩ T.sb_ZeroBottom (fun a oe cls d pn e hz hf hcl hd => (sss_cons (ss_set (i := 3) sc__law_word.nd rfl (Or.inl rfl) se_str)
    (sss_one (ss_if (st_w (sw_or (st_not (st_val (se_isE hz hf hcl hd T.is_PaidError (i := 4) rfl (Or.inl rfl) rfl T.z_isinstance (pe_glob (v := .ref aPaidError) rfl T.e_PaidError.g rfl) (fun u z => z)))) (sw_or1 (st_not (st_val (se_isE hz hf hcl hd T.is_ValueError (i := 4) rfl (Or.inl rfl) rfl T.z_isinstance (pe_bltn (v := .ty "ValueError") rfl T.z_ValueError (by decide +kernel) rfl) (fun u z => z))))))) (sss_one (ss_set (i := 3) sc__law_word.nd rfl (Or.inl rfl) se_str)) sss_nil)))) .nil)))
    (sss_one (ss_ret (se_var 3))))))
abbrev s__law_due : Stmt := topS 29
theorem sc__law_due : FnScope ["pick", "a", "b"] ["pick", "a", "b"] (defScope s__law_due) := ⟨rfl, rfl, rfl, by decide +kernel, rfl, by decide +kernel, by decide +kernel⟩
noncomputable def m__law_due (f__law_lowest : FnM) : MS :=
    mSeq (mIfS (mTest (mOp oEq (mVar 0) (mC (.int 0)))) (mRet (mCall 2 f__law_lowest (mCons (mOp oAdd (mOp oMul (mOp oIx (mVar 1) (mC (.int 0))) (mOp oIx (mVar 2) (mC (.int 1)))) (mOp oMul (mOp oIx (mVar 2) (mC (.int 0))) (mOp oIx (mVar 1) (mC (.int 1))))) (mCons (mOp oMul (mOp oIx (mVar 1) (mC (.int 1))) (mOp oIx (mVar 2) (mC (.int 1)))) (mNil))))) (mNx))
    (mSeq (mIfS (mTest (mOp oEq (mVar 0) (mC (.int 1)))) (mRet (mCall 2 f__law_lowest (mCons (mOp oSub (mOp oMul (mOp oIx (mVar 1) (mC (.int 0))) (mOp oIx (mVar 2) (mC (.int 1)))) (mOp oMul (mOp oIx (mVar 2) (mC (.int 0))) (mOp oIx (mVar 1) (mC (.int 1))))) (mCons (mOp oMul (mOp oIx (mVar 1) (mC (.int 1))) (mOp oIx (mVar 2) (mC (.int 1)))) (mNil))))) (mNx))
    (mSeq (mIfS (mTest (mOp oEq (mVar 0) (mC (.int 2)))) (mRet (mCall 2 f__law_lowest (mCons (mOp oMul (mOp oIx (mVar 1) (mC (.int 0))) (mOp oIx (mVar 2) (mC (.int 0)))) (mCons (mOp oMul (mOp oIx (mVar 1) (mC (.int 1))) (mOp oIx (mVar 2) (mC (.int 1)))) (mNil))))) (mNx))
    (mRet (mCall 2 f__law_lowest (mCons (mOp oMul (mOp oIx (mVar 1) (mC (.int 0))) (mOp oIx (mVar 2) (mC (.int 1)))) (mCons (mOp oMul (mOp oIx (mVar 1) (mC (.int 1))) (mOp oIx (mVar 2) (mC (.int 0)))) (mNil)))))))
theorem ok__law_due {P : Program} {w : World} {K : PySem.W.Frag} {mg : Str → Option Value} {base : Heap} {aPaidError aBadRatio aZeroBottom : Addr} {fa : Addr} {fd : FuncData} {k : Nat} (F : Fun K "_law_due" "_law_due" s__law_due fa fd) (T : Md K mg aPaidError aBadRatio aZeroBottom) {f__law_lowest : FnM} (F__law_lowest : FnI P w K mg base (ctb aPaidError aBadRatio aZeroBottom) k "_law_lowest" ["top", "bottom"] f__law_lowest) :
    FnOk P w K mg base (L2.CX P w) (k + 1) fa fd ["pick", "a", "b"] (spM K (ctb aPaidError aBadRatio aZeroBottom) 3 (mFn 3 (m__law_due f__law_lowest))) :=
  fn_ok F sc__law_due fun cdv A outer s H E hr tk pas => by
    let ct : Ctb := ctb aPaidError aBadRatio aZeroBottom
    exact ((sss_cons (ss_if (st_cmp (op_eqM hr.units) (se_var 0) se_int (nomark _)) (sss_one (ss_ret (se_callI F__law_lowest rfl hr rfl tk (sa_cons (se_op op_addM (se_op op_mulM (se_ix ix_M (se_var 1) se_int (fun _ _ => rfl)) (se_ix ix_M (se_var 2) se_int (fun _ _ => rfl))) (se_op op_mulM (se_ix ix_M (se_var 2) se_int (fun _ _ => rfl)) (se_ix ix_M (se_var 1) se_int (fun _ _ => rfl)))) (sa_cons (se_op op_mulM (se_ix ix_M (se_var 1) se_int (fun _ _ => rfl)) (se_ix ix_M (se_var 2) se_int (fun _ _ => rfl))) sa_nil))))) sss_nil)
    (sss_cons (ss_if (st_cmp (op_eqM hr.units) (se_var 0) se_int (nomark _)) (sss_one (ss_ret (se_callI F__law_lowest rfl hr rfl tk (sa_cons (se_op op_subM (se_op op_mulM (se_ix ix_M (se_var 1) se_int (fun _ _ => rfl)) (se_ix ix_M (se_var 2) se_int (fun _ _ => rfl))) (se_op op_mulM (se_ix ix_M (se_var 2) se_int (fun _ _ => rfl)) (se_ix ix_M (se_var 1) se_int (fun _ _ => rfl)))) (sa_cons (se_op op_mulM (se_ix ix_M (se_var 1) se_int (fun _ _ => rfl)) (se_ix ix_M (se_var 2) se_int (fun _ _ => rfl))) sa_nil))))) sss_nil)
    (sss_cons (ss_if (st_cmp (op_eqM hr.units) (se_var 0) se_int (nomark _)) (sss_one (ss_ret (se_callI F__law_lowest rfl hr rfl tk (sa_cons (se_op op_mulM (se_ix ix_M (se_var 1) se_int (fun _ _ => rfl)) (se_ix ix_M (se_var 2) se_int (fun _ _ => rfl))) (sa_cons (se_op op_mulM (se_ix ix_M (se_var 1) se_int (fun _ _ => rfl)) (se_ix ix_M (se_var 2) se_int (fun _ _ => rfl))) sa_nil))))) sss_nil)
    (sss_one (ss_ret (se_callI F__law_lowest rfl hr rfl tk (sa_cons (se_op op_mulM (se_ix ix_M (se_var 1) se_int (fun _ _ => rfl)) (se_ix ix_M (se_var 2) se_int (fun _ _ => rfl))) (sa_cons (se_op op_mulM (se_ix ix_M (se_var 1) se_int (fun _ _ => rfl)) (se_ix ix_M (se_var 2) se_int (fun _ _ => rfl))) sa_nil)))))))))
abbrev s__law_pair : Stmt := topS 30
theorem sc__law_pair : FnScope ["well", "top", "bottom", "factor"] ["well"] (defScope s__law_pair) := ⟨rfl, rfl, rfl, by decide +kernel, rfl, by decide +kernel, by decide +kernel⟩
noncomputable def m__law_pair (f__law_number : FnM) (f__law_draw : FnM) : MS :=
    mSeq (mSet 1 (mCall 1 f__law_number (mCons (mVar 0) (mNil))))
    (mSeq (mSet 2 (mCall 1 f__law_number (mCons (mVar 0) (mNil))))
    (mSeq (mIfS (mTest (mOp oEq (mVar 2) (mC (.int 0)))) (mSet 2 (mOp oAdd (mC (.int 1)) (mCall 2 f__law_draw (mCons (mVar 0) (mCons (mC (.int 6)) (mNil)))))) (mNx))
    (mSeq (mSet 3 (mOp oIx (mLst (mCons (mC (.int 1)) (mCons (mC (.int 1)) (mCons (mC (.int 2)) (mCons (mC (.int 6)) (mCons (mOp oPow (mC (.int 10)) (mC (.int 9))) (mCons (mC (.int 30030)) (mNil)))))))) (mCall 2 f__law_draw (mCons (mVar 0) (mCons (mC (.int 6)) (mNil))))))
    (mSeq (mIfS (mTest (mOp oEq (mCall 2 f__law_draw (mCons (mVar 0) (mCons (mC (.int 8)) (mNil)))) (mC (.int 0)))) (mSet 3 (mOp oAdd (mC (.int 1)) (mCall 2 f__law_draw (mCons (mVar 0) (mCons (mOp oPow (mC (.int 10)) (mC (.int 30))) (mNil)))))) (mNx))
    (mRet (mTup (mCons (mOp oMul (mVar 1) (mVar 3)) (mCons (mOp oMul (mVar 2) (mVar 3)) (mNil)))))))))
theorem ok__law_pair {P : Program} {w : World} {K : PySem.W.Frag} {mg : Str → Option Value} {base : Heap} {aPaidError aBadRatio aZeroBottom : Addr} {fa : Addr} {fd : FuncData} {k : Nat} (F : Fun K "_law_pair" "_law_pair" s__law_pair fa fd) (T : Md K mg aPaidError aBadRatio aZeroBottom) {f__law_number : FnM} {f__law_draw : FnM} (F__law_number : FnI P w K mg base (ctb aPaidError aBadRatio aZeroBottom) k "_law_number" ["well"] f__law_number) (F__law_draw : FnI P w K mg base (ctb aPaidError aBadRatio aZeroBottom) k "_law_draw" ["well", "many"] f__law_draw) :
    FnOk P w K mg base (L2.CX P w) (k + 1) fa fd ["well"] (spM K (ctb aPaidError aBadRatio aZeroBottom) 1 (mFn 4 (m__law_pair f__law_number f__law_draw))) :=
  fn_ok F sc__law_pair fun cdv A outer s H E hr tk pas => by
    let ct : Ctb := ctb aPaidError aBadRatio aZeroBottom
    exact ((sss_cons (ss_set (i := 1) sc__law_pair.nd rfl (Or.inl rfl) (se_callI F__law_number rfl hr rfl tk (sa_cons (se_var 0) sa_nil)))
    (sss_cons (ss_set (i := 2) sc__law_pair.nd rfl (Or.inl rfl) (se_callI F__law_number rfl hr rfl tk (sa_cons (se_var 0) sa_nil)))
    (sss_cons (ss_if (st_cmp (op_eqM hr.units) (se_var 2) se_int (nomark _)) (sss_one (ss_set (i := 2) sc__law_pair.nd rfl (Or.inl rfl) (se_op op_addM se_int (se_callI F__law_draw rfl hr rfl tk (sa_cons (se_var 0) (sa_cons se_int sa_nil)))))) sss_nil)
    (sss_cons (ss_set (i := 3) sc__law_pair.nd rfl (Or.inl rfl) (se_ix ix_M (se_lst (sa_cons se_int (sa_cons se_int (sa_cons se_int (sa_cons se_int (sa_cons (se_op op_powM se_int se_int) (sa_cons se_int sa_nil))))))) (se_callI F__law_draw rfl hr rfl tk (sa_cons (se_var 0) (sa_cons se_int sa_nil))) (fun _ _ => rfl)))
    (sss_cons (ss_if (st_cmp (op_eqM hr.units) (se_callI F__law_draw rfl hr rfl tk (sa_cons (se_var 0) (sa_cons se_int sa_nil))) se_int (nomark _)) (sss_one (ss_set (i := 3) sc__law_pair.nd rfl (Or.inl rfl) (se_op op_addM se_int (se_callI F__law_draw rfl hr rfl tk (sa_cons (se_var 0) (sa_cons (se_op op_powM se_int se_int) sa_nil)))))) sss_nil)
    (sss_one (ss_ret (se_tup (sa_cons (se_op op_mulM (se_var 1) (se_var 3)) (sa_cons (se_op op_mulM (se_var 2) (se_var 3)) sa_nil)))))))))))
abbrev s__law_doors : Stmt := topS 31
theorem sc__law_doors : FnScope ["well", "a", "b", "bad", "worse", "zero", "pick"] ["well", "a", "b"] (defScope s__law_doors) := ⟨rfl, rfl, rfl, by decide +kernel, rfl, by decide +kernel, by decide +kernel⟩
noncomputable def m__law_doors (f__law_no_ratio : FnM) (f__law_word : FnM) : MS :=
    mSeq (mSet 3 (mCall 1 f__law_no_ratio (mCons (mVar 0) (mNil))))
    (mSeq (mSet 4 (mCall 1 f__law_no_ratio (mCons (mVar 0) (mNil))))
    (mSeq (mSet 5 (mTup (mCons (mC (.int 0)) (mCons (mC (.int 1)) (mNil)))))
    (mSeq (mFor (miRng1 (mC (.int 5))) (gmName 6) (mSeq (mIfS (mOr (mTest (mOp oNe (mCall 3 f__law_word (mCons (mVar 6) (mCons (mVar 3) (mCons (mVar 2) (mNil))))) (mC (.str "bad")))) (mTest (mOp oNe (mCall 3 f__law_word (mCons (mVar 6) (mCons (mVar 1) (mCons (mVar 4) (mNil))))) (mC (.str "bad"))))) (mRet (mC (.bl false))) (mNx))
    (mSeq (mIfS (mOr (mTest (mOp oNe (mCall 3 f__law_word (mCons (mVar 6) (mCons (mVar 3) (mCons (mVar 4) (mNil))))) (mC (.str "bad")))) (mTest (mOp oNe (mCall 3 f__law_word (mCons (mVar 6) (mCons (mVar 3) (mCons (mVar 5) (mNil))))) (mC (.str "bad"))))) (mRet (mC (.bl false))) (mNx))
    (mSeq (mIfS (mTest (mOp oNe (mCall 3 f__law_word (mCons (mVar 6) (mCons (mVar 5) (mCons (mVar 1) (mNil))))) (mOp oIx (mLst (mCons (mC (.str "none")) (mCons (mC (.str "zero")) (mNil)))) (mB bInt (mCons (mAndV (mOp oEq (mVar 6) (mC (.int 3))) (mOp oEq (mOp oIx (mVar 1) (mC (.int 0))) (mC (.int 0)))) (mNil)))))) (mRet (mC (.bl false))) (mNx))
    (mIfS (mTest (mOp oNe (mCall 3 f__law_word (mCons (mVar 6) (mCons (mVar 1) (mCons (mVar 5) (mNil))))) (mOp oIx (mLst (mCons (mC (.str "none")) (mCons (mC (.str "zero")) (mNil)))) (mB bInt (mCons (mOp oEq (mVar 6) (mC (.int 3))) (mNil)))))) (mRet (mC (.bl false))) (mNx))))))
    (mSeq (mIfS (mOr (mTest (mOp oNe (mCall 3 f__law_word (mCons (mC (.int 5)) (mCons (mOp oIx (mVar 1) (mC (.int 0))) (mCons (mC (.int 0)) (mNil))))) (mC (.str "zero")))) (mTest (mOp oNe (mCall 3 f__law_word (mCons (mC (.int 5)) (mCons (mC (.int 0)) (mCons (mC (.int 0)) (mNil))))) (mC (.str "zero"))))) (mRet (mC (.bl false))) (mNx))
    (mRet (mOp oEq (mCall 3 f__law_word (mCons (mC (.int 5)) (mCons (mC (.int 0)) (mCons (mOp oIx (mVar 1) (mC (.int 1))) (mNil))))) (mC (.str "none"))))))))
theorem ok__law_doors {P : Program} {w : World} {K : PySem.W.Frag} {mg : Str → Option Value} {base : Heap} {aPaidError aBadRatio aZeroBottom : Addr} {fa : Addr} {fd : FuncData} {k : Nat} (F : Fun K "_law_doors" "_law_doors" s__law_doors fa fd) (T : Md K mg aPaidError aBadRatio aZeroBottom) {f__law_no_ratio : FnM} {f__law_word : FnM} (F__law_no_ratio : FnI P w K mg base (ctb aPaidError aBadRatio aZeroBottom) k "_law_no_ratio" ["well"] f__law_no_ratio) (F__law_word : FnI P w K mg base (ctb aPaidError aBadRatio aZeroBottom) k "_law_word" ["pick", "a", "b"] f__law_word) :
    FnOk P w K mg base (L2.CX P w) (k + 1) fa fd ["well", "a", "b"] (spM K (ctb aPaidError aBadRatio aZeroBottom) 3 (mFn 7 (m__law_doors f__law_no_ratio f__law_word))) :=
  fn_ok F sc__law_doors fun cdv A outer s H E hr tk pas => by
    let ct : Ctb := ctb aPaidError aBadRatio aZeroBottom
    exact ((sss_cons (ss_set (i := 3) sc__law_doors.nd rfl (Or.inl rfl) (se_callI F__law_no_ratio rfl hr rfl tk (sa_cons (se_var 0) sa_nil)))
    (sss_cons (ss_set (i := 4) sc__law_doors.nd rfl (Or.inl rfl) (se_callI F__law_no_ratio rfl hr rfl tk (sa_cons (se_var 0) sa_nil)))
    (sss_cons (ss_set (i := 5) sc__law_doors.nd rfl (Or.inl rfl) (se_tup (sa_cons se_int (sa_cons se_int sa_nil))))
    (sss_cons (ss_for pas rfl (si_rng1 rfl T.z_range se_int) (sg_name (i := 6) sc__law_doors.nd rfl (Or.inl rfl)) (sss_cons (ss_if (st_w (sw_or (st_cmp (op_neM hr.units) (se_callI F__law_word rfl hr rfl tk (sa_cons (se_var 6) (sa_cons (se_var 3) (sa_cons (se_var 2) sa_nil)))) se_str (nomark _)) (sw_or1 (st_cmp (op_neM hr.units) (se_callI F__law_word rfl hr rfl tk (sa_cons (se_var 6) (sa_cons (se_var 1) (sa_cons (se_var 4) sa_nil)))) se_str (nomark _))))) (sss_one (ss_ret se_bl)) sss_nil)
    (sss_cons (ss_if (st_w (sw_or (st_cmp (op_neM hr.units) (se_callI F__law_word rfl hr rfl tk (sa_cons (se_var 6) (sa_cons (se_var 3) (sa_cons (se_var 4) sa_nil)))) se_str (nomark _)) (sw_or1 (st_cmp (op_neM hr.units) (se_callI F__law_word rfl hr rfl tk (sa_cons (se_var 6) (sa_cons (se_var 3) (sa_cons (se_var 5) sa_nil)))) se_str (nomark _))))) (sss_one (ss_ret se_bl)) sss_nil)
    (sss_cons (ss_if (st_cmp (op_neM hr.units) (se_callI F__law_word rfl hr rfl tk (sa_cons (se_var 6) (sa_cons (se_var 5) (sa_cons (se_var 1) sa_nil)))) (se_ix ix_M (se_lst (sa_cons se_str (sa_cons se_str sa_nil))) (se_callTy cr_int rfl T.z_int PyProof.Rows.boot_int (sa_cons (se_and (se_cmp (op_eqM hr.units) (se_var 6) se_int (nomark _)) (se_and1 (se_cmp (op_eqM hr.units) (se_ix ix_M (se_var 1) se_int (fun _ _ => rfl)) se_int (nomark _)))) sa_nil)) (fun _ _ => rfl)) (nomark _)) (sss_one (ss_ret se_bl)) sss_nil)
    (sss_one (ss_if (st_cmp (op_neM hr.units) (se_callI F__law_word rfl hr rfl tk (sa_cons (se_var 6) (sa_cons (se_var 1) (sa_cons (se_var 5) sa_nil)))) (se_ix ix_M (se_lst (sa_cons se_str (sa_cons se_str sa_nil))) (se_callTy cr_int rfl T.z_int PyProof.Rows.boot_int (sa_cons (se_cmp (op_eqM hr.units) (se_var 6) se_int (nomark _)) sa_nil)) (fun _ _ => rfl)) (nomark _)) (sss_one (ss_ret se_bl)) sss_nil))))))
    (sss_cons (ss_if (st_w (sw_or (st_cmp (op_neM hr.units) (se_callI F__law_word rfl hr rfl tk (sa_cons se_int (sa_cons (se_ix ix_M (se_var 1) se_int (fun _ _ => rfl)) (sa_cons se_int sa_nil)))) se_str (nomark _)) (sw_or1 (st_cmp (op_neM hr.units) (se_callI F__law_word rfl hr rfl tk (sa_cons se_int (sa_cons se_int (sa_cons se_int sa_nil)))) se_str (nomark _))))) (sss_one (ss_ret se_bl)) sss_nil)
    (sss_one (ss_ret (se_cmp (op_eqM hr.units) (se_callI F__law_word rfl hr rfl tk (sa_cons se_int (sa_cons se_int (sa_cons (se_ix ix_M (se_var 1) se_int (fun _ _ => rfl)) sa_nil)))) se_str (nomark _))))))))))
abbrev s__law_same : Stmt := topS 32
theorem sc__law_same : FnScope ["told", "due"] ["told", "due"] (defScope s__law_same) := ⟨rfl, rfl, rfl, by decide +kernel, rfl, by decide +kernel, by decide +kernel⟩
noncomputable def m__law_same (f__law_int : FnM) : MS :=
    mSeq (mIfS (mOr (mNot (mTest (mIsi "tuple" (mVar 0)))) (mTest (mOp oNe (mB bLen (mCons (mVar 0) (mNil))) (mC (.int 2))))) (mRet (mC (.bl false))) (mNx))
    (mRet (mAndV (mCall 1 f__law_int (mCons (mOp oIx (mVar 0) (mC (.int 0))) (mNil))) (mAndV (mCall 1 f__law_int (mCons (mOp oIx (mVar 0) (mC (.int 1))) (mNil))) (mOp oEq (mVar 0) (mVar 1)))))
theorem ok__law_same {P : Program} {w : World} {K : PySem.W.Frag} {mg : Str → Option Value} {base : Heap} {aPaidError aBadRatio aZeroBottom : Addr} {fa : Addr} {fd : FuncData} {k : Nat} (F : Fun K "_law_same" "_law_same" s__law_same fa fd) (T : Md K mg aPaidError aBadRatio aZeroBottom) {f__law_int : FnM} (F__law_int : FnI P w K mg base (ctb aPaidError aBadRatio aZeroBottom) k "_law_int" ["thing"] f__law_int) :
    FnOk P w K mg base (L2.CX P w) (k + 1) fa fd ["told", "due"] (spM K (ctb aPaidError aBadRatio aZeroBottom) 2 (mFn 2 (m__law_same f__law_int))) :=
  fn_ok F sc__law_same fun cdv A outer s H E hr tk pas => by
    let ct : Ctb := ctb aPaidError aBadRatio aZeroBottom
    exact ((sss_cons (ss_if (st_w (sw_or (st_not (st_val (se_isi (by decide) rfl T.z_isinstance rfl T.z_tuple PyProof.Rows.boot_tuple (se_var 0)))) (sw_or1 (st_cmp (op_neM hr.units) (se_callB cr_len rfl T.z_len PySem.boot_len (sa_cons (se_var 0) sa_nil)) se_int (nomark _))))) (sss_one (ss_ret se_bl)) sss_nil)
    (sss_one (ss_ret (se_and (se_callI F__law_int rfl hr rfl tk (sa_cons (se_ix ix_M (se_var 0) se_int (fun _ _ => rfl)) sa_nil)) (se_and (se_callI F__law_int rfl hr rfl tk (sa_cons (se_ix ix_M (se_var 0) se_int (fun _ _ => rfl)) sa_nil)) (se_and1 (se_cmp (op_eqM hr.units) (se_var 0) (se_var 1) (nomark _)))))))))
abbrev s_law : Stmt := topS 33
theorem sc_law : FnScope ["script", "well", "kept", "k", "top", "bottom", "due", "a", "b", "pick"] ["script"] (defScope s_law) := ⟨rfl, rfl, rfl, by decide +kernel, rfl, by decide +kernel, by decide +kernel⟩
noncomputable def m_law (f__law_well : FnM) (f__law_pair : FnM) (f__law_lowest : FnM) (f__law_same : FnM) (f_ratio : FnM) (f__law_named : FnM) (f__law_draw : FnM) (f__law_due : FnM) (f__law_called : FnM) (f__law_truth : FnM) (f_below : FnM) (f__law_doors : FnM) : MS :=
    mSeq (mSet 1 (mCall 2 f__law_well (mCons (mVar 0) (mCons (mC (.int 0)) (mNil)))))
    (mSeq (mSet 2 (mLst (mCons (mTup (mCons (mC (.int 0)) (mCons (mC (.int 1)) (mNil)))) (mNil))))
    (mSeq (mFor (miRng1 (mC (.int 5))) (gmName 3) (mSeq (mAsg (mCall 1 f__law_pair (mCons (mVar 1) (mNil))) (gmTup 2 (gmCons (gmName 4) (gmCons (gmName 5) (gmNil)))))
    (mSeq (mSet 6 (mCall 2 f__law_lowest (mCons (mVar 4) (mCons (mVar 5) (mNil)))))
    (mSeq (mIfS (mOr (mNot (mTest (mCall 2 f__law_same (mCons (mCall 2 f_ratio (mCons (mVar 4) (mCons (mVar 5) (mNil)))) (mCons (mVar 6) (mNil)))))) (mNot (mTest (mCall 2 f__law_same (mCons (mCall 3 f__law_named (mCons (mC (.int 5)) (mCons (mVar 4) (mCons (mVar 5) (mNil))))) (mCons (mVar 6) (mNil))))))) (mRet (mC (.bl false))) (mNx))
    (mDrop (mMset lAppend (mVar 2) (mCons (mVar 6) (mNil))))))))
    (mSeq (mFor (miOf iterL (mVar 2)) (gmName 7) (mSeq (mSet 8 (mOp oIx (mVar 2) (mCall 2 f__law_draw (mCons (mVar 1) (mCons (mB bLen (mCons (mVar 2) (mNil))) (mNil))))))
    (mSeq (mFor (miRng1 (mC (.int 4))) (gmName 9) (mIfS (mOr (mTest (mOp oLt (mVar 9) (mC (.int 3)))) (mTest (mOp oNe (mOp oIx (mVar 8) (mC (.int 0))) (mC (.int 0))))) (mSeq (mSet 6 (mCall 3 f__law_due (mCons (mVar 9) (mCons (mVar 7) (mCons (mVar 8) (mNil))))))
    (mIfS (mOr (mNot (mTest (mCall 2 f__law_same (mCons (mCall 3 f__law_called (mCons (mVar 9) (mCons (mVar 7) (mCons (mVar 8) (mNil))))) (mCons (mVar 6) (mNil)))))) (mNot (mTest (mCall 2 f__law_same (mCons (mCall 3 f__law_named (mCons (mVar 9) (mCons (mVar 7) (mCons (mVar 8) (mNil))))) (mCons (mVar 6) (mNil))))))) (mRet (mC (.bl false))) (mNx))) (mNx)))
    (mIfS (mOr (mNot (mTest (mCall 2 f__law_truth (mCons (mCall 2 f_below (mCons (mVar 7) (mCons (mVar 8) (mNil)))) (mCons (mOp oLt (mOp oMul (mOp oIx (mVar 7) (mC (.int 0))) (mOp oIx (mVar 8) (mC (.int 1)))) (mOp oMul (mOp oIx (mVar 8) (mC (.int 0))) (mOp oIx (mVar 7) (mC (.int 1))))) (mNil)))))) (mNot (mTest (mCall 2 f__law_truth (mCons (mCall 3 f__law_named (mCons (mC (.int 4)) (mCons (mVar 7) (mCons (mVar 7) (mNil))))) (mCons (mC (.bl false)) (mNil))))))) (mRet (mC (.bl false))) (mNx)))))
    (mRet (mCall 3 f__law_doors (mCons (mVar 1) (mCons (mOp oIx (mVar 2) (mC (.int 1))) (mCons (mOp oIx (mVar 2) (mC (.int 2))) (mNil)))))))))
theorem ok_law {P : Program} {w : World} {K : PySem.W.Frag} {mg : Str → Option Value} {base : Heap} {aPaidError aBadRatio aZeroBottom : Addr} {fa : Addr} {fd : FuncData} {k : Nat} (F : Fun K "law" "law" s_law fa fd) (T : Md K mg aPaidError aBadRatio aZeroBottom) {f__law_well : FnM} {f__law_pair : FnM} {f__law_lowest : FnM} {f__law_same : FnM} {f_ratio : FnM} {f__law_named : FnM} {f__law_draw : FnM} {f__law_due : FnM} {f__law_called : FnM} {f__law_truth : FnM} {f_below : FnM} {f__law_doors : FnM} (F__law_well : FnI P w K mg base (ctb aPaidError aBadRatio aZeroBottom) k "_law_well" ["script", "at"] f__law_well) (F__law_pair : FnI P w K mg base (ctb aPaidError aBadRatio aZeroBottom) k "_law_pair" ["well"] f__law_pair) (F__law_lowest : FnI P w K mg base (ctb aPaidError aBadRatio aZeroBottom) k "_law_lowest" ["top", "bottom"] f__law_lowest) (F__law_same : FnI P w K mg base (ctb aPaidError aBadRatio aZeroBottom) k "_law_same" ["told", "due"] f__law_same) (F_ratio : FnI P w K mg base (ctb aPaidError aBadRatio aZeroBottom) k "ratio" ["top", "bottom"] f_ratio) (F__law_named : FnI P w K mg base (ctb aPaidError aBadRatio aZeroBottom) k "_law_named" ["pick", "a", "b"] f__law_named) (F__law_draw : FnI P w K mg base (ctb aPaidError aBadRatio aZeroBottom) k "_law_draw" ["well", "many"] f__law_draw) (F__law_due : FnI P w K mg base (ctb aPaidError aBadRatio aZeroBottom) k "_law_due" ["pick", "a", "b"] f__law_due) (F__law_called : FnI P w K mg base (ctb aPaidError aBadRatio aZeroBottom) k "_law_called" ["pick", "a", "b"] f__law_called) (F__law_truth : FnI P w K mg base (ctb aPaidError aBadRatio aZeroBottom) k "_law_truth" ["told", "due"] f__law_truth) (F_below : FnI P w K mg base (ctb aPaidError aBadRatio aZeroBottom) k "below" ["a", "b"] f_below) (F__law_doors : FnI P w K mg base (ctb aPaidError aBadRatio aZeroBottom) k "_law_doors" ["well", "a", "b"] f__law_doors) :
    FnOk P w K mg base (L2.CX P w) (k + 1) fa fd ["script"] (spM K (ctb aPaidError aBadRatio aZeroBottom) 1 (mFn 10 (m_law f__law_well f__law_pair f__law_lowest f__law_same f_ratio f__law_named f__law_draw f__law_due f__law_called f__law_truth f_below f__law_doors))) :=
  fn_ok F sc_law fun cdv A outer s H E hr tk pas => by
    let ct : Ctb := ctb aPaidError aBadRatio aZeroBottom
    exact ((sss_cons (ss_set (i := 1) sc_law.nd rfl (Or.inl rfl) (se_callI F__law_well rfl hr rfl tk (sa_cons (se_var 0) (sa_cons se_int sa_nil))))
    (sss_cons (ss_set (i := 2) sc_law.nd rfl (Or.inl rfl) (se_lst (sa_cons (se_tup (sa_cons se_int (sa_cons se_int sa_nil))) sa_nil)))
    (sss_cons (ss_for pas rfl (si_rng1 rfl T.z_range se_int) (sg_name (i := 3) sc_law.nd rfl (Or.inl rfl)) (sss_cons (ss_asg (se_callI F__law_pair rfl hr rfl tk (sa_cons (se_var 1) sa_nil)) (sg_tup rfl (sgs_cons (sg_name (i := 4) sc_law.nd rfl (Or.inl rfl)) (sgs_cons (sg_name (i := 5) sc_law.nd rfl (Or.inl rfl)) sgs_nil))))
    (sss_cons (ss_set (i := 6) sc_law.nd rfl (Or.inl rfl) (se_callI F__law_lowest rfl hr rfl tk (sa_cons (se_var 4) (sa_cons (se_var 5) sa_nil))))
    (sss_cons (ss_if (st_w (sw_or (st_not (st_val (se_callI F__law_same rfl hr rfl tk (sa_cons (se_callI F_ratio rfl hr rfl tk (sa_cons (se_var 4) (sa_cons (se_var 5) sa_nil))) (sa_cons (se_var 6) sa_nil))))) (sw_or1 (st_not (st_val (se_callI F__law_same rfl hr rfl tk (sa_cons (se_callI F__law_named rfl hr rfl tk (sa_cons se_int (sa_cons (se_var 4) (sa_cons (se_var 5) sa_nil)))) (sa_cons (se_var 6) sa_nil)))))))) (sss_one (ss_ret se_bl)) sss_nil)
    (sss_one (ss_expr (se_lm PySem.F.slot_list_append PySem.F.type_list_append mt_appendM (se_var 2) (sa_cons (se_var 6) sa_nil))))))))
    (sss_cons (ss_for pas rfl (si_list (se_var 2)) (sg_name (i := 7) sc_law.nd rfl (Or.inl rfl)) (sss_cons (ss_set (i := 8) sc_law.nd rfl (Or.inl rfl) (se_ix ix_M (se_var 2) (se_callI F__law_draw rfl hr rfl tk (sa_cons (se_var 1) (sa_cons (se_callB cr_len rfl T.z_len PySem.boot_len (sa_cons (se_var 2) sa_nil)) sa_nil))) (fun _ _ => rfl)))
    (sss_cons (ss_for pas rfl (si_rng1 rfl T.z_range se_int) (sg_name (i := 9) sc_law.nd rfl (Or.inl rfl)) (sss_one (ss_if (st_w (sw_or (st_cmp op_ltM (se_var 9) se_int (nomark _)) (sw_or1 (st_cmp (op_neM hr.units) (se_ix ix_M (se_var 8) se_int (fun _ _ => rfl)) se_int (nomark _))))) (sss_cons (ss_set (i := 6) sc_law.nd rfl (Or.inl rfl) (se_callI F__law_due rfl hr rfl tk (sa_cons (se_var 9) (sa_cons (se_var 7) (sa_cons (se_var 8) sa_nil)))))
    (sss_one (ss_if (st_w (sw_or (st_not (st_val (se_callI F__law_same rfl hr rfl tk (sa_cons (se_callI F__law_called rfl hr rfl tk (sa_cons (se_var 9) (sa_cons (se_var 7) (sa_cons (se_var 8) sa_nil)))) (sa_cons (se_var 6) sa_nil))))) (sw_or1 (st_not (st_val (se_callI F__law_same rfl hr rfl tk (sa_cons (se_callI F__law_named rfl hr rfl tk (sa_cons (se_var 9) (sa_cons (se_var 7) (sa_cons (se_var 8) sa_nil)))) (sa_cons (se_var 6) sa_nil)))))))) (sss_one (ss_ret se_bl)) sss_nil))) sss_nil)))
    (sss_one (ss_if (st_w (sw_or (st_not (st_val (se_callI F__law_truth rfl hr rfl tk (sa_cons (se_callI F_below rfl hr rfl tk (sa_cons (se_var 7) (sa_cons (se_var 8) sa_nil))) (sa_cons (se_cmp op_ltM (se_op op_mulM (se_ix ix_M (se_var 7) se_int (fun _ _ => rfl)) (se_ix ix_M (se_var 8) se_int (fun _ _ => rfl))) (se_op op_mulM (se_ix ix_M (se_var 8) se_int (fun _ _ => rfl)) (se_ix ix_M (se_var 7) se_int (fun _ _ => rfl))) (nomark _)) sa_nil))))) (sw_or1 (st_not (st_val (se_callI F__law_truth rfl hr rfl tk (sa_cons (se_callI F__law_named rfl hr rfl tk (sa_cons se_int (sa_cons (se_var 7) (sa_cons (se_var 7) sa_nil)))) (sa_cons se_bl sa_nil)))))))) (sss_one (ss_ret se_bl)) sss_nil)))))
    (sss_one (ss_ret (se_callI F__law_doors rfl hr rfl tk (sa_cons (se_var 1) (sa_cons (se_ix ix_M (se_var 2) se_int (fun _ _ => rfl)) (sa_cons (se_ix ix_M (se_var 2) se_int (fun _ _ => rfl)) sa_nil)))))))))))
/-- all that the top has written -/
structure Tx (K : PySem.W.Frag) (mg : Str → Option Value) (aPaidError aBadRatio aZeroBottom : Addr) : Prop where
  md : Md K mg aPaidError aBadRatio aZeroBottom
  d_is_int : DefI K mg "is_int" s_is_int ["x"] []
  d_lowest : DefI K mg "lowest" s_lowest ["top", "bottom"] []
  d_is_ratio : DefI K mg "is_ratio" s_is_ratio ["thing"] []
  d_need_ratio : DefI K mg "need_ratio" s_need_ratio ["thing"] []
  d_ratio : DefI K mg "ratio" s_ratio ["top", "bottom"] [(["bottom", "top"], [1, 0])]
  d_plus : DefI K mg "plus" s_plus ["a", "b"] [(["b", "a"], [1, 0])]
  d_minus : DefI K mg "minus" s_minus ["a", "b"] [(["b", "a"], [1, 0])]
  d_product : DefI K mg "product" s_product ["a", "b"] [(["b", "a"], [1, 0])]
  d_quotient : DefI K mg "quotient" s_quotient ["a", "b"] [(["b", "a"], [1, 0])]
  d_below : DefI K mg "below" s_below ["a", "b"] [(["b", "a"], [1, 0])]
  d__law_gcd : DefI K mg "_law_gcd" s__law_gcd ["a", "b"] []
  d__law_lowest : DefI K mg "_law_lowest" s__law_lowest ["top", "bottom"] []
  d__law_draw : DefI K mg "_law_draw" s__law_draw ["well", "many"] []
  d__law_number : DefI K mg "_law_number" s__law_number ["well"] []
  d__law_no_ratio : DefI K mg "_law_no_ratio" s__law_no_ratio ["well"] []
  d__law_int : DefI K mg "_law_int" s__law_int ["thing"] []
  d__law_well : DefI K mg "_law_well" s__law_well ["script", "at"] []
  d__law_truth : DefI K mg "_law_truth" s__law_truth ["told", "due"] []
  d__law_called : DefI K mg "_law_called" s__law_called ["pick", "a", "b"] []
  d__law_named : DefI K mg "_law_named" s__law_named ["pick", "a", "b"] []
  d__law_word : DefI K mg "_law_word" s__law_word ["pick", "a", "b"] []
  d__law_due : DefI K mg "_law_due" s__law_due ["pick", "a", "b"] []
  d__law_pair : DefI K mg "_law_pair" s__law_pair ["well"] []
  d__law_doors : DefI K mg "_law_doors" s__law_doors ["well", "a", "b"] []
  d__law_same : DefI K mg "_law_same" s__law_same ["told", "due"] []
  d_law : DefI K mg "law" s_law ["script"] []
noncomputable def F_is_int : FnM := mFn 1 (m_is_int)
noncomputable def F_lowest : FnM := mFn 3 (m_lowest)
noncomputable def F_is_ratio : FnM := mFn 1 (m_is_ratio F_is_int)
noncomputable def F_need_ratio : FnM := mFn 1 (m_need_ratio F_is_ratio)
noncomputable def F_ratio : FnM := mFn 2 (m_ratio F_lowest)
noncomputable def F_plus : FnM := mFn 2 (m_plus F_need_ratio F_lowest)
noncomputable def F_minus : FnM := mFn 2 (m_minus F_need_ratio F_lowest)
noncomputable def F_product : FnM := mFn 2 (m_product F_need_ratio F_lowest)
noncomputable def F_quotient : FnM := mFn 2 (m_quotient F_need_ratio F_lowest)
noncomputable def F_below : FnM := mFn 2 (m_below F_need_ratio)
noncomputable def F__law_gcd : FnM := mFn 3 (m__law_gcd)
noncomputable def F__law_lowest : FnM := mFn 3 (m__law_lowest F__law_gcd)
noncomputable def F__law_draw : FnM := mFn 5 (m__law_draw)
noncomputable def F__law_number : FnM := mFn 2 (m__law_number F__law_draw)
noncomputable def F__law_no_ratio : FnM := mFn 4 (m__law_no_ratio F__law_draw)
noncomputable def F__law_int : FnM := mFn 1 (m__law_int)
noncomputable def F__law_well : FnM := mFn 2 (m__law_well)
noncomputable def F__law_truth : FnM := mFn 2 (m__law_truth)
noncomputable def F__law_called : FnM := mFn 3 (m__law_called F_plus F_minus F_product F_quotient F_below F_ratio)
noncomputable def F__law_named : FnM := mFn 3 (m__law_named F_plus F_minus F_product F_quotient F_below F_ratio)
noncomputable def F__law_word : FnM := mFn 5 (m__law_word F__law_called)
noncomputable def F__law_due : FnM := mFn 3 (m__law_due F__law_lowest)
noncomputable def F__law_pair : FnM := mFn 4 (m__law_pair F__law_number F__law_draw)
noncomputable def F__law_doors : FnM := mFn 7 (m__law_doors F__law_no_ratio F__law_word)
noncomputable def F__law_same : FnM := mFn 2 (m__law_same F__law_int)
noncomputable def F_law : FnM := mFn 10 (m_law F__law_well F__law_pair F__law_lowest F__law_same F_ratio F__law_named F__law_draw F__law_due F__law_called F__law_truth F_below F__law_doors)
theorem o_is_int {P : Program} {w : World} {K : PySem.W.Frag} {mg : Str → Option Value} {base : Heap} {aPaidError aBadRatio aZeroBottom : Addr} (T : Tx K mg aPaidError aBadRatio aZeroBottom) {fa : Addr} {fd : FuncData} (F : Fun K "is_int" "is_int" s_is_int fa fd) : FnOk P w K mg base (L2.CX P w) 1 fa fd ["x"] (spM K (ctb aPaidError aBadRatio aZeroBottom) 1 F_is_int) := ok_is_int (k := 0) F T.md
theorem w_is_int {P : Program} {w : World} {K : PySem.W.Frag} {mg : Str → Option Value} {base : Heap} {aPaidError aBadRatio aZeroBottom : Addr} (T : Tx K mg aPaidError aBadRatio aZeroBottom) : FnI P w K mg base (ctb aPaidError aBadRatio aZeroBottom) 1 "is_int" ["x"] F_is_int := T.d_is_int.fn (fun F => o_is_int T F)
theorem o_lowest {P : Program} {w : World} {K : PySem.W.Frag} {mg : Str → Option Value} {base : Heap} {aPaidError aBadRatio aZeroBottom : Addr} (T : Tx K mg aPaidError aBadRatio aZeroBottom) {fa : Addr} {fd : FuncData} (F : Fun K "lowest" "lowest" s_lowest fa fd) : FnOk P w K mg base (L2.CX P w) 1 fa fd ["top", "bottom"] (spM K (ctb aPaidError aBadRatio aZeroBottom) 2 F_lowest) := ok_lowest (k := 0) F T.md
theorem w_lowest {P : Program} {w : World} {K : PySem.W.Frag} {mg : Str → Option Value} {base : Heap} {aPaidError aBadRatio aZeroBottom : Addr} (T : Tx K mg aPaidError aBadRatio aZeroBottom) : FnI P w K mg base (ctb aPaidError aBadRatio aZeroBottom) 1 "lowest" ["top", "bottom"] F_lowest := T.d_lowest.fn (fun F => o_lowest T F)
theorem o_is_ratio {P : Program} {w : World} {K : PySem.W.Frag} {mg : Str → Option Value} {base : Heap} {aPaidError aBadRatio aZeroBottom : Addr} (T : Tx K mg aPaidError aBadRatio aZeroBottom) {fa : Addr} {fd : FuncData} (F : Fun K "is_ratio" "is_ratio" s_is_ratio fa fd) : FnOk P w K mg base (L2.CX P w) 2 fa fd ["thing"] (spM K (ctb aPaidError aBadRatio aZeroBottom) 1 F_is_ratio) := ok_is_ratio (k := 1) F T.md ((w_is_int T).mono (by decide))
theorem w_is_ratio {P : Program} {w : World} {K : PySem.W.Frag} {mg : Str → Option Value} {base : Heap} {aPaidError aBadRatio aZeroBottom : Addr} (T : Tx K mg aPaidError aBadRatio aZeroBottom) : FnI P w K mg base (ctb aPaidError aBadRatio aZeroBottom) 2 "is_ratio" ["thing"] F_is_ratio := T.d_is_ratio.fn (fun F => o_is_ratio T F)
theorem o_need_ratio {P : Program} {w : World} {K : PySem.W.Frag} {mg : Str → Option Value} {base : Heap} {aPaidError aBadRatio aZeroBottom : Addr} (T : Tx K mg aPaidError aBadRatio aZeroBottom) {fa : Addr} {fd : FuncData} (F : Fun K "need_ratio" "need_ratio" s_need_ratio fa fd) : FnOk P w K mg base (L2.CX P w) 3 fa fd ["thing"] (spM K (ctb aPaidError aBadRatio aZeroBottom) 1 F_need_ratio) := ok_need_ratio (k := 2) F T.md ((w_is_ratio T).mono (by decide))
theorem w_need_ratio {P : Program} {w : World} {K : PySem.W.Frag} {mg : Str → Option Value} {base : Heap} {aPaidError aBadRatio aZeroBottom : Addr} (T : Tx K mg aPaidError aBadRatio aZeroBottom) : FnI P w K mg base (ctb aPaidError aBadRatio aZeroBottom) 3 "need_ratio" ["thing"] F_need_ratio := T.d_need_ratio.fn (fun F => o_need_ratio T F)
theorem o_ratio {P : Program} {w : World} {K : PySem.W.Frag} {mg : Str → Option Value} {base : Heap} {aPaidError aBadRatio aZeroBottom : Addr} (T : Tx K mg aPaidError aBadRatio aZeroBottom) {fa : Addr} {fd : FuncData} (F : Fun K "ratio" "ratio" s_ratio fa fd) : FnOk P w K mg base (L2.CX P w) 2 fa fd ["top", "bottom"] (spM K (ctb aPaidError aBadRatio aZeroBottom) 2 F_ratio) := ok_ratio (k := 1) F T.md ((w_lowest T).mono (by decide))
theorem w_ratio {P : Program} {w : World} {K : PySem.W.Frag} {mg : Str → Option Value} {base : Heap} {aPaidError aBadRatio aZeroBottom : Addr} (T : Tx K mg aPaidError aBadRatio aZeroBottom) : FnI P w K mg base (ctb aPaidError aBadRatio aZeroBottom) 2 "ratio" ["top", "bottom"] F_ratio := T.d_ratio.fn (fun F => o_ratio T F)
theorem wK_ratio_bottom_top {P : Program} {w : World} {K : PySem.W.Frag} {mg : Str → Option Value} {base : Heap} {aPaidError aBadRatio aZeroBottom : Addr} (T : Tx K mg aPaidError aBadRatio aZeroBottom) : FnK P w K mg base (ctb aPaidError aBadRatio aZeroBottom) 2 "ratio" ["top", "bottom"] ["bottom", "top"] [1, 0] F_ratio := T.d_ratio.kw (ks := ["bottom", "top"]) (pl := [1, 0]) (by simp) (fun F => o_ratio T F)
theorem o_plus {P : Program} {w : World} {K : PySem.W.Frag} {mg : Str → Option Value} {base : Heap} {aPaidError aBadRatio aZeroBottom : Addr} (T : Tx K mg aPaidError aBadRatio aZeroBottom) {fa : Addr} {fd : FuncData} (F : Fun K "plus" "plus" s_plus fa fd) : FnOk P w K mg base (L2.CX P w) 4 fa fd ["a", "b"] (spM K (ctb aPaidError aBadRatio aZeroBottom) 2 F_plus) := ok_plus (k := 3) F T.md ((w_need_ratio T).mono (by decide)) ((w_lowest T).mono (by decide))
theorem w_plus {P : Program} {w : World} {K : PySem.W.Frag} {mg : Str → Option Value} {base : Heap} {aPaidError aBadRatio aZeroBottom : Addr} (T : Tx K mg aPaidError aBadRatio aZeroBottom) : FnI P w K mg base (ctb aPaidError aBadRatio aZeroBottom) 4 "plus" ["a", "b"] F_plus := T.d_plus.fn (fun F => o_plus T F)
theorem wK_plus_b_a {P : Program} {w : World} {K : PySem.W.Frag} {mg : Str → Option Value} {base : Heap} {aPaidError aBadRatio aZeroBottom : Addr} (T : Tx K mg aPaidError aBadRatio aZeroBottom) : FnK P w K mg base (ctb aPaidError aBadRatio aZeroBottom) 4 "plus" ["a", "b"] ["b", "a"] [1, 0] F_plus := T.d_plus.kw (ks := ["b", "a"]) (pl := [1, 0]) (by simp) (fun F => o_plus T F)
theorem o_minus {P : Program} {w : World} {K : PySem.W.Frag} {mg : Str → Option Value} {base : Heap} {aPaidError aBadRatio aZeroBottom : Addr} (T : Tx K mg aPaidError aBadRatio aZeroBottom) {fa : Addr} {fd : FuncData} (F : Fun K "minus" "minus" s_minus fa fd) : FnOk P w K mg base (L2.CX P w) 4 fa fd ["a", "b"] (spM K (ctb aPaidError aBadRatio aZeroBottom) 2 F_minus) := ok_minus (k := 3) F T.md ((w_need_ratio T).mono (by decide)) ((w_lowest T).mono (by decide))
theorem w_minus {P : Program} {w : World} {K : PySem.W.Frag} {mg : Str → Option Value} {base : Heap} {aPaidError aBadRatio aZeroBottom : Addr} (T : Tx K mg aPaidError aBadRatio aZeroBottom) : FnI P w K mg base (ctb aPaidError aBadRatio aZeroBottom) 4 "minus" ["a", "b"] F_minus := T.d_minus.fn (fun F => o_minus T F)
theorem wK_minus_b_a {P : Program} {w : World} {K : PySem.W.Frag} {mg : Str → Option Value} {base : Heap} {aPaidError aBadRatio aZeroBottom : Addr} (T : Tx K mg aPaidError aBadRatio aZeroBottom) : FnK P w K mg base (ctb aPaidError aBadRatio aZeroBottom) 4 "minus" ["a", "b"] ["b", "a"] [1, 0] F_minus := T.d_minus.kw (ks := ["b", "a"]) (pl := [1, 0]) (by simp) (fun F => o_minus T F)
theorem o_product {P : Program} {w : World} {K : PySem.W.Frag} {mg : Str → Option Value} {base : Heap} {aPaidError aBadRatio aZeroBottom : Addr} (T : Tx K mg aPaidError aBadRatio aZeroBottom) {fa : Addr} {fd : FuncData} (F : Fun K "product" "product" s_product fa fd) : FnOk P w K mg base (L2.CX P w) 4 fa fd ["a", "b"] (spM K (ctb aPaidError aBadRatio aZeroBottom) 2 F_product) := ok_product (k := 3) F T.md ((w_need_ratio T).mono (by decide)) ((w_lowest T).mono (by decide))
theorem w_product {P : Program} {w : World} {K : PySem.W.Frag} {mg : Str → Option Value} {base : Heap} {aPaidError aBadRatio aZeroBottom : Addr} (T : Tx K mg aPaidError aBadRatio aZeroBottom) : FnI P w K mg base (ctb aPaidError aBadRatio aZeroBottom) 4 "product" ["a", "b"] F_product := T.d_product.fn (fun F => o_product T F)
theorem wK_product_b_a {P : Program} {w : World} {K : PySem.W.Frag} {mg : Str → Option Value} {base : Heap} {aPaidError aBadRatio aZeroBottom : Addr} (T : Tx K mg aPaidError aBadRatio aZeroBottom) : FnK P w K mg base (ctb aPaidError aBadRatio aZeroBottom) 4 "product" ["a", "b"] ["b", "a"] [1, 0] F_product := T.d_product.kw (ks := ["b", "a"]) (pl := [1, 0]) (by simp) (fun F => o_product T F)
theorem o_quotient {P : Program} {w : World} {K : PySem.W.Frag} {mg : Str → Option Value} {base : Heap} {aPaidError aBadRatio aZeroBottom : Addr} (T : Tx K mg aPaidError aBadRatio aZeroBottom) {fa : Addr} {fd : FuncData} (F : Fun K "quotient" "quotient" s_quotient fa fd) : FnOk P w K mg base (L2.CX P w) 4 fa fd ["a", "b"] (spM K (ctb aPaidError aBadRatio aZeroBottom) 2 F_quotient) := ok_quotient (k := 3) F T.md ((w_need_ratio T).mono (by decide)) ((w_lowest T).mono (by decide))
theorem w_quotient {P : Program} {w : World} {K : PySem.W.Frag} {mg : Str → Option Value} {base : Heap} {aPaidError aBadRatio aZeroBottom : Addr} (T : Tx K mg aPaidError aBadRatio aZeroBottom) : FnI P w K mg base (ctb aPaidError aBadRatio aZeroBottom) 4 "quotient" ["a", "b"] F_quotient := T.d_quotient.fn (fun F => o_quotient T F)
theorem wK_quotient_b_a {P : Program} {w : World} {K : PySem.W.Frag} {mg : Str → Option Value} {base : Heap} {aPaidError aBadRatio aZeroBottom : Addr} (T : Tx K mg aPaidError aBadRatio aZeroBottom) : FnK P w K mg base (ctb aPaidError aBadRatio aZeroBottom) 4 "quotient" ["a", "b"] ["b", "a"] [1, 0] F_quotient := T.d_quotient.kw (ks := ["b", "a"]) (pl := [1, 0]) (by simp) (fun F => o_quotient T F)
theorem o_below {P : Program} {w : World} {K : PySem.W.Frag} {mg : Str → Option Value} {base : Heap} {aPaidError aBadRatio aZeroBottom : Addr} (T : Tx K mg aPaidError aBadRatio aZeroBottom) {fa : Addr} {fd : FuncData} (F : Fun K "below" "below" s_below fa fd) : FnOk P w K mg base (L2.CX P w) 4 fa fd ["a", "b"] (spM K (ctb aPaidError aBadRatio aZeroBottom) 2 F_below) := ok_below (k := 3) F T.md ((w_need_ratio T).mono (by decide))
theorem w_below {P : Program} {w : World} {K : PySem.W.Frag} {mg : Str → Option Value} {base : Heap} {aPaidError aBadRatio aZeroBottom : Addr} (T : Tx K mg aPaidError aBadRatio aZeroBottom) : FnI P w K mg base (ctb aPaidError aBadRatio aZeroBottom) 4 "below" ["a", "b"] F_below := T.d_below.fn (fun F => o_below T F)
theorem wK_below_b_a {P : Program} {w : World} {K : PySem.W.Frag} {mg : Str → Option Value} {base : Heap} {aPaidError aBadRatio aZeroBottom : Addr} (T : Tx K mg aPaidError aBadRatio aZeroBottom) : FnK P w K mg base (ctb aPaidError aBadRatio aZeroBottom) 4 "below" ["a", "b"] ["b", "a"] [1, 0] F_below := T.d_below.kw (ks := ["b", "a"]) (pl := [1, 0]) (by simp) (fun F => o_below T F)
theorem o__law_gcd {P : Program} {w : World} {K : PySem.W.Frag} {mg : Str → Option Value} {base : Heap} {aPaidError aBadRatio aZeroBottom : Addr} (T : Tx K mg aPaidError aBadRatio aZeroBottom) {fa : Addr} {fd : FuncData} (F : Fun K "_law_gcd" "_law_gcd" s__law_gcd fa fd) : FnOk P w K mg base (L2.CX P w) 1 fa fd ["a", "b"] (spM K (ctb aPaidError aBadRatio aZeroBottom) 2 F__law_gcd) := ok__law_gcd (k := 0) F T.md
theorem w__law_gcd {P : Program} {w : World} {K : PySem.W.Frag} {mg : Str → Option Value} {base : Heap} {aPaidError aBadRatio aZeroBottom : Addr} (T : Tx K mg aPaidError aBadRatio aZeroBottom) : FnI P w K mg base (ctb aPaidError aBadRatio aZeroBottom) 1 "_law_gcd" ["a", "b"] F__law_gcd := T.d__law_gcd.fn (fun F => o__law_gcd T F)
theorem o__law_lowest {P : Program} {w : World} {K : PySem.W.Frag} {mg : Str → Option Value} {base : Heap} {aPaidError aBadRatio aZeroBottom : Addr} (T : Tx K mg aPaidError aBadRatio aZeroBottom) {fa : Addr} {fd : FuncData} (F : Fun K "_law_lowest" "_law_lowest" s__law_lowest fa fd) : FnOk P w K mg base (L2.CX P w) 2 fa fd ["top", "bottom"] (spM K (ctb aPaidError aBadRatio aZeroBottom) 2 F__law_lowest) := ok__law_lowest (k := 1) F T.md ((w__law_gcd T).mono (by decide))
theorem w__law_lowest {P : Program} {w : World} {K : PySem.W.Frag} {mg : Str → Option Value} {base : Heap} {aPaidError aBadRatio aZeroBottom : Addr} (T : Tx K mg aPaidError aBadRatio aZeroBottom) : FnI P w K mg base (ctb aPaidError aBadRatio aZeroBottom) 2 "_law_lowest" ["top", "bottom"] F__law_lowest := T.d__law_lowest.fn (fun F => o__law_lowest T F)
theorem o__law_draw {P : Program} {w : World} {K : PySem.W.Frag} {mg : Str → Option Value} {base : Heap} {aPaidError aBadRatio aZeroBottom : Addr} (T : Tx K mg aPaidError aBadRatio aZeroBottom) {fa : Addr} {fd : FuncData} (F : Fun K "_law_draw" "_law_draw" s__law_draw fa fd) : FnOk P w K mg base (L2.CX P w) 1 fa fd ["well", "many"] (spM K (ctb aPaidError aBadRatio aZeroBottom) 2 F__law_draw) := ok__law_draw (k := 0) F T.md
theorem w__law_draw {P : Program} {w : World} {K : PySem.W.Frag} {mg : Str → Option Value} {base : Heap} {aPaidError aBadRatio aZeroBottom : Addr} (T : Tx K mg aPaidError aBadRatio aZeroBottom) : FnI P w K mg base (ctb aPaidError aBadRatio aZeroBottom) 1 "_law_draw" ["well", "many"] F__law_draw := T.d__law_draw.fn (fun F => o__law_draw T F)
theorem o__law_number {P : Program} {w : World} {K : PySem.W.Frag} {mg : Str → Option Value} {base : Heap} {aPaidError aBadRatio aZeroBottom : Addr} (T : Tx K mg aPaidError aBadRatio aZeroBottom) {fa : Addr} {fd : FuncData} (F : Fun K "_law_number" "_law_number" s__law_number fa fd) : FnOk P w K mg base (L2.CX P w) 2 fa fd ["well"] (spM K (ctb aPaidError aBadRatio aZeroBottom) 1 F__law_number) := ok__law_number (k := 1) F T.md ((w__law_draw T).mono (by decide))
theorem w__law_number {P : Program} {w : World} {K : PySem.W.Frag} {mg : Str → Option Value} {base : Heap} {aPaidError aBadRatio aZeroBottom : Addr} (T : Tx K mg aPaidError aBadRatio aZeroBottom) : FnI P w K mg base (ctb aPaidError aBadRatio aZeroBottom) 2 "_law_number" ["well"] F__law_number := T.d__law_number.fn (fun F => o__law_number T F)
theorem o__law_no_ratio {P : Program} {w : World} {K : PySem.W.Frag} {mg : Str → Option Value} {base : Heap} {aPaidError aBadRatio aZeroBottom : Addr} (T : Tx K mg aPaidError aBadRatio aZeroBottom) {fa : Addr} {fd : FuncData} (F : Fun K "_law_no_ratio" "_law_no_ratio" s__law_no_ratio fa fd) : FnOk P w K mg base (L2.CX P w) 2 fa fd ["well"] (spM K (ctb aPaidError aBadRatio aZeroBottom) 1 F__law_no_ratio) := ok__law_no_ratio (k := 1) F T.md ((w__law_draw T).mono (by decide))
theorem w__law_no_ratio {P : Program} {w : World} {K : PySem.W.Frag} {mg : Str → Option Value} {base : Heap} {aPaidError aBadRatio aZeroBottom : Addr} (T : Tx K mg aPaidError aBadRatio aZeroBottom) : FnI P w K mg base (ctb aPaidError aBadRatio aZeroBottom) 2 "_law_no_ratio" ["well"] F__law_no_ratio := T.d__law_no_ratio.fn (fun F => o__law_no_ratio T F)
theorem o__law_int {P : Program} {w : World} {K : PySem.W.Frag} {mg : Str → Option Value} {base : Heap} {aPaidError aBadRatio aZeroBottom : Addr} (T : Tx K mg aPaidError aBadRatio aZeroBottom) {fa : Addr} {fd : FuncData} (F : Fun K "_law_int" "_law_int" s__law_int fa fd) : FnOk P w K mg base (L2.CX P w) 1 fa fd ["thing"] (spM K (ctb aPaidError aBadRatio aZeroBottom) 1 F__law_int) := ok__law_int (k := 0) F T.md
theorem w__law_int {P : Program} {w : World} {K : PySem.W.Frag} {mg : Str → Option Value} {base : Heap} {aPaidError aBadRatio aZeroBottom : Addr} (T : Tx K mg aPaidError aBadRatio aZeroBottom) : FnI P w K mg base (ctb aPaidError aBadRatio aZeroBottom) 1 "_law_int" ["thing"] F__law_int := T.d__law_int.fn (fun F => o__law_int T F)
theorem o__law_well {P : Program} {w : World} {K : PySem.W.Frag} {mg : Str → Option Value} {base : Heap} {aPaidError aBadRatio aZeroBottom : Addr} (T : Tx K mg aPaidError aBadRatio aZeroBottom) {fa : Addr} {fd : FuncData} (F : Fun K "_law_well" "_law_well" s__law_well fa fd) : FnOk P w K mg base (L2.CX P w) 1 fa fd ["script", "at"] (spM K (ctb aPaidError aBadRatio aZeroBottom) 2 F__law_well) := ok__law_well (k := 0) F T.md
theorem w__law_well {P : Program} {w : World} {K : PySem.W.Frag} {mg : Str → Option Value} {base : Heap} {aPaidError aBadRatio aZeroBottom : Addr} (T : Tx K mg aPaidError aBadRatio aZeroBottom) : FnI P w K mg base (ctb aPaidError aBadRatio aZeroBottom) 1 "_law_well" ["script", "at"] F__law_well := T.d__law_well.fn (fun F => o__law_well T F)
theorem o__law_truth {P : Program} {w : World} {K : PySem.W.Frag} {mg : Str → Option Value} {base : Heap} {aPaidError aBadRatio aZeroBottom : Addr} (T : Tx K mg aPaidError aBadRatio aZeroBottom) {fa : Addr} {fd : FuncData} (F : Fun K "_law_truth" "_law_truth" s__law_truth fa fd) : FnOk P w K mg base (L2.CX P w) 1 fa fd ["told", "due"] (spM K (ctb aPaidError aBadRatio aZeroBottom) 2 F__law_truth) := ok__law_truth (k := 0) F T.md
theorem w__law_truth {P : Program} {w : World} {K : PySem.W.Frag} {mg : Str → Option Value} {base : Heap} {aPaidError aBadRatio aZeroBottom : Addr} (T : Tx K mg aPaidError aBadRatio aZeroBottom) : FnI P w K mg base (ctb aPaidError aBadRatio aZeroBottom) 1 "_law_truth" ["told", "due"] F__law_truth := T.d__law_truth.fn (fun F => o__law_truth T F)
theorem o__law_called {P : Program} {w : World} {K : PySem.W.Frag} {mg : Str → Option Value} {base : Heap} {aPaidError aBadRatio aZeroBottom : Addr} (T : Tx K mg aPaidError aBadRatio aZeroBottom) {fa : Addr} {fd : FuncData} (F : Fun K "_law_called" "_law_called" s__law_called fa fd) : FnOk P w K mg base (L2.CX P w) 5 fa fd ["pick", "a", "b"] (spM K (ctb aPaidError aBadRatio aZeroBottom) 3 F__law_called) := ok__law_called (k := 4) F T.md ((w_plus T).mono (by decide)) ((w_minus T).mono (by decide)) ((w_product T).mono (by decide)) ((w_quotient T).mono (by decide)) ((w_below T).mono (by decide)) ((w_ratio T).mono (by decide))
theorem w__law_called {P : Program} {w : World} {K : PySem.W.Frag} {mg : Str → Option Value} {base : Heap} {aPaidError aBadRatio aZeroBottom : Addr} (T : Tx K mg aPaidError aBadRatio aZeroBottom) : FnI P w K mg base (ctb aPaidError aBadRatio aZeroBottom) 5 "_law_called" ["pick", "a", "b"] F__law_called := T.d__law_called.fn (fun F => o__law_called T F)
theorem o__law_named {P : Program} {w : World} {K : PySem.W.Frag} {mg : Str → Option Value} {base : Heap} {aPaidError aBadRatio aZeroBottom : Addr} (T : Tx K mg aPaidError aBadRatio aZeroBottom) {fa : Addr} {fd : FuncData} (F : Fun K "_law_named" "_law_named" s__law_named fa fd) : FnOk P w K mg base (L2.CX P w) 5 fa fd ["pick", "a", "b"] (spM K (ctb aPaidError aBadRatio aZeroBottom) 3 F__law_named) := ok__law_named (k := 4) F T.md ((wK_plus_b_a T).mono (by decide)) ((wK_minus_b_a T).mono (by decide)) ((wK_product_b_a T).mono (by decide)) ((wK_quotient_b_a T).mono (by decide)) ((wK_below_b_a T).mono (by decide)) ((wK_ratio_bottom_top T).mono (by decide))
theorem w__law_named {P : Program} {w : World} {K : PySem.W.Frag} {mg : Str → Option Value} {base : Heap} {aPaidError aBadRatio aZeroBottom : Addr} (T : Tx K mg aPaidError aBadRatio aZeroBottom) : FnI P w K mg base (ctb aPaidError aBadRatio aZeroBottom) 5 "_law_named" ["pick", "a", "b"] F__law_named := T.d__law_named.fn (fun F => o__law_named T F)
theorem o__law_word {P : Program} {w : World} {K : PySem.W.Frag} {mg : Str → Option Value} {base : Heap} {aPaidError aBadRatio aZeroBottom : Addr} (T : Tx K mg aPaidError aBadRatio aZeroBottom) {fa : Addr} {fd : FuncData} (F : Fun K "_law_word" "_law_word" s__law_word fa fd) : FnOk P w K mg base (L2.CX P w) 6 fa fd ["pick", "a", "b"] (spM K (ctb aPaidError aBadRatio aZeroBottom) 3 F__law_word) := ok__law_word (k := 5) F T.md ((w__law_called T).mono (by decide))
theorem w__law_word {P : Program} {w : World} {K : PySem.W.Frag} {mg : Str → Option Value} {base : Heap} {aPaidError aBadRatio aZeroBottom : Addr} (T : Tx K mg aPaidError aBadRatio aZeroBottom) : FnI P w K mg base (ctb aPaidError aBadRatio aZeroBottom) 6 "_law_word" ["pick", "a", "b"] F__law_word := T.d__law_word.fn (fun F => o__law_word T F)
theorem o__law_due {P : Program} {w : World} {K : PySem.W.Frag} {mg : Str → Option Value} {base : Heap} {aPaidError aBadRatio aZeroBottom : Addr} (T : Tx K mg aPaidError aBadRatio aZeroBottom) {fa : Addr} {fd : FuncData} (F : Fun K "_law_due" "_law_due" s__law_due fa fd) : FnOk P w K mg base (L2.CX P w) 3 fa fd ["pick", "a", "b"] (spM K (ctb aPaidError aBadRatio aZeroBottom) 3 F__law_due) := ok__law_due (k := 2) F T.md ((w__law_lowest T).mono (by decide))
theorem w__law_due {P : Program} {w : World} {K : PySem.W.Frag} {mg : Str → Option Value} {base : Heap} {aPaidError aBadRatio aZeroBottom : Addr} (T : Tx K mg aPaidError aBadRatio aZeroBottom) : FnI P w K mg base (ctb aPaidError aBadRatio aZeroBottom) 3 "_law_due" ["pick", "a", "b"] F__law_due := T.d__law_due.fn (fun F => o__law_due T F)
theorem o__law_pair {P : Program} {w : World} {K : PySem.W.Frag} {mg : Str → Option Value} {base : Heap} {aPaidError aBadRatio aZeroBottom : Addr} (T : Tx K mg aPaidError aBadRatio aZeroBottom) {fa : Addr} {fd : FuncData} (F : Fun K "_law_pair" "_law_pair" s__law_pair fa fd) : FnOk P w K mg base (L2.CX P w) 3 fa fd ["well"] (spM K (ctb aPaidError aBadRatio aZeroBottom) 1 F__law_pair) := ok__law_pair (k := 2) F T.md ((w__law_number T).mono (by decide)) ((w__law_draw T).mono (by decide))
theorem w__law_pair {P : Program} {w : World} {K : PySem.W.Frag} {mg : Str → Option Value} {base : Heap} {aPaidError aBadRatio aZeroBottom : Addr} (T : Tx K mg aPaidError aBadRatio aZeroBottom) : FnI P w K mg base (ctb aPaidError aBadRatio aZeroBottom) 3 "_law_pair" ["well"] F__law_pair := T.d__law_pair.fn (fun F => o__law_pair T F)
theorem o__law_doors {P : Program} {w : World} {K : PySem.W.Frag} {mg : Str → Option Value} {base : Heap} {aPaidError aBadRatio aZeroBottom : Addr} (T : Tx K mg aPaidError aBadRatio aZeroBottom) {fa : Addr} {fd : FuncData} (F : Fun K "_law_doors" "_law_doors" s__law_doors fa fd) : FnOk P w K mg base (L2.CX P w) 7 fa fd ["well", "a", "b"] (spM K (ctb aPaidError aBadRatio aZeroBottom) 3 F__law_doors) := ok__law_doors (k := 6) F T.md ((w__law_no_ratio T).mono (by decide)) ((w__law_word T).mono (by decide))
theorem w__law_doors {P : Program} {w : World} {K : PySem.W.Frag} {mg : Str → Option Value} {base : Heap} {aPaidError aBadRatio aZeroBottom : Addr} (T : Tx K mg aPaidError aBadRatio aZeroBottom) : FnI P w K mg base (ctb aPaidError aBadRatio aZeroBottom) 7 "_law_doors" ["well", "a", "b"] F__law_doors := T.d__law_doors.fn (fun F => o__law_doors T F)
theorem o__law_same {P : Program} {w : World} {K : PySem.W.Frag} {mg : Str → Option Value} {base : Heap} {aPaidError aBadRatio aZeroBottom : Addr} (T : Tx K mg aPaidError aBadRatio aZeroBottom) {fa : Addr} {fd : FuncData} (F : Fun K "_law_same" "_law_same" s__law_same fa fd) : FnOk P w K mg base (L2.CX P w) 2 fa fd ["told", "due"] (spM K (ctb aPaidError aBadRatio aZeroBottom) 2 F__law_same) := ok__law_same (k := 1) F T.md ((w__law_int T).mono (by decide))
theorem w__law_same {P : Program} {w : World} {K : PySem.W.Frag} {mg : Str → Option Value} {base : Heap} {aPaidError aBadRatio aZeroBottom : Addr} (T : Tx K mg aPaidError aBadRatio aZeroBottom) : FnI P w K mg base (ctb aPaidError aBadRatio aZeroBottom) 2 "_law_same" ["told", "due"] F__law_same := T.d__law_same.fn (fun F => o__law_same T F)
theorem o_law {P : Program} {w : World} {K : PySem.W.Frag} {mg : Str → Option Value} {base : Heap} {aPaidError aBadRatio aZeroBottom : Addr} (T : Tx K mg aPaidError aBadRatio aZeroBottom) {fa : Addr} {fd : FuncData} (F : Fun K "law" "law" s_law fa fd) : FnOk P w K mg base (L2.CX P w) 8 fa fd ["script"] (spM K (ctb aPaidError aBadRatio aZeroBottom) 1 F_law) := ok_law (k := 7) F T.md ((w__law_well T).mono (by decide)) ((w__law_pair T).mono (by decide)) ((w__law_lowest T).mono (by decide)) ((w__law_same T).mono (by decide)) ((w_ratio T).mono (by decide)) ((w__law_named T).mono (by decide)) ((w__law_draw T).mono (by decide)) ((w__law_due T).mono (by decide)) ((w__law_called T).mono (by decide)) ((w__law_truth T).mono (by decide)) ((w_below T).mono (by decide)) ((w__law_doors T).mono (by decide))
theorem w_law {P : Program} {w : World} {K : PySem.W.Frag} {mg : Str → Option Value} {base : Heap} {aPaidError aBadRatio aZeroBottom : Addr} (T : Tx K mg aPaidError aBadRatio aZeroBottom) : FnI P w K mg base (ctb aPaidError aBadRatio aZeroBottom) 8 "law" ["script"] F_law := T.d_law.fn (fun F => o_law T F)
theorem law_ok {P : Program} {w : World} {K : PySem.W.Frag} {mg : Str → Option Value} {base : Heap} {aPaidError aBadRatio aZeroBottom : Addr} (T : Tx K mg aPaidError aBadRatio aZeroBottom) {fa : Addr} {fd : FuncData} (F : Fun K "law" "law" s_law fa fd) : FnOk P w K mg base (L2.CX P w) 60 fa fd ["script"] (spM K (ctb aPaidError aBadRatio aZeroBottom) 1 F_law) := (o_law T F).mono (by decide)
end K63
set_option maxHeartbeats 2000000
namespace K63
open PySem PySem.Spec L2 PI
open PyProof.Rows hiding St

noncomputable def f_is_int : FnM := mFn 1 m_is_int
theorem is_int_int (i : Int) (h : Hh) : f_is_int [.int i] h = .ok (.bl true) h := by
  simp [f_is_int, mFn, m_is_int, tyD, subT]
theorem is_int_ty {d : D} {t : String} (h : Hh) (e : tyD h d = some t) (n : t ≠ "int") : f_is_int [d] h = .ok (.bl false) h := by
  simp only [f_is_int, mFn, m_is_int, List.map_cons, List.map_nil, List.length_cons, List.length_nil, Nat.sub_self, List.replicate_zero, List.append_nil, mRet_ap, mAndV_ap, mTest_ap, mIsi_ap, mVar_0, Out.bind_ok, e, mNotV_ap]
  by_cases h2 : t = "bool"
  · subst h2; simp [subT]
  · simp [subT, n, h2]
noncomputable def f_lowest : FnM := mFn 3 m_lowest
noncomputable def f_law_gcd : FnM := mFn 3 m__law_gcd
noncomputable def f_law_lowest : FnM := mFn 3 (m__law_lowest f_law_gcd)
/-- the pair in lowest terms -/
def low (t b : Int) : Int × Int := ((if b < 0 then -t else t) / (Nat.gcd t.natAbs b.natAbs : Int), (if b < 0 then -b else b) / (Nat.gcd t.natAbs b.natAbs : Int))
def rat (p : Int × Int) : D := .tup [.int p.1, .int p.2]
theorem lowest_eq (t b : Int) (h : Hh) (hd : divOk (Nat.gcd t.natAbs b.natAbs : Int) = true) : f_lowest [.int t, .int b] h = .ok (rat (low t b)) h := by
  by_cases hb : b < 0 <;> simp [f_lowest, mFn, m_lowest, low, rat, hb, hd]
theorem gcd_loop : ∀ (n : Nat) (a b : Int) (r : Option D) (h : Hh), 0 ≤ a → 0 ≤ b → b.toNat < n → ∃ ρ, whileL (mTest (mOp oGt (mVar 1) (mC (.int 0)))) (mSeq (mSet 2 (mOp oMod (mB bInt (mCons (mVar 0) (mNil))) (mVar 1)))
    (mSeq (mSet 0 (mVar 1))
    (mSet 1 (mVar 2)))) n [some (.int a), some (.int b), r] h = .nx (some (.int (Nat.gcd a.natAbs b.natAbs : Int)) :: ρ) h
  | 0, a, b, r, h, _, _, hl => by omega
  | n + 1, a, b, r, h, ha, hb, hl => by
    by_cases h0 : 0 < b
    · have hm : 0 ≤ a % b := Int.emod_nonneg _ (by omega)
      have hlt : a % b < b := Int.emod_lt_of_pos _ h0
      obtain ⟨ρ, e⟩ := gcd_loop n b (a % b) (some (.int (a % b))) h hb hm (by omega)
      refine ⟨ρ, ?_⟩
      have e2 : Nat.gcd a.natAbs b.natAbs = Nat.gcd b.natAbs (a % b).natAbs := by
        have : (a % b).natAbs = a.natAbs % b.natAbs := by
          rw [Int.natAbs_emod_of_nonneg ha]
        rw [this, Nat.gcd_comm a.natAbs, Nat.gcd_rec b.natAbs, Nat.gcd_comm]
      rw [e2]
      unfold whileL
      simp [h0, e]
    · have : b = 0 := by omega
      subst this
      refine ⟨[some (.int 0), r], ?_⟩
      unfold whileL
      simp
      omega
theorem law_gcd_eq (a b : Int) (h : Hh) : f_law_gcd [.int a, .int b] h = .ok (.int (Nat.gcd a.natAbs b.natAbs : Int)) h := by
  have ea : (if a < 0 then -a else a) = (a.natAbs : Int) := by split <;> omega
  have eb : (if b < 0 then -b else b) = (b.natAbs : Int) := by split <;> omega
  obtain ⟨ρ, e⟩ := gcd_loop ((b.natAbs : Int).toNat + 1) a.natAbs b.natAbs none h (by omega) (by omega) (by omega)
  simp [f_law_gcd, mFn, m__law_gcd, ea, eb, slotInt] at e ⊢
  simp [e]
end K63
namespace K63
open PySem PySem.Spec L2 PI
open PyProof.Rows hiding St
/-- a well at w that has been drawn from at most n times -/
def Well (h : Hh) (w n : Nat) : Prop := ∃ (c a t : Int) (l : Nat) (xs : List Int), h[w]? = some (.lst [.int c, .int a, .ref l, .int t]) ∧ h[l]? = some (.lst (xs.map D.int)) ∧ l ≠ w ∧ 0 ≤ a ∧ a ≤ n ∧ 0 ≤ t ∧ t ≤ n
/-- all but the well stands -/
def Ext (w : Nat) (h h' : Hh) : Prop := h.length ≤ h'.length ∧ ∀ i, i < h.length → i ≠ w → h'[i]? = h[i]?
theorem Ext.refl {w : Nat} {h : Hh} : Ext w h h := ⟨Nat.le_refl _, fun _ _ _ => rfl⟩
theorem Ext.trans {w : Nat} {h1 h2 h3 : Hh} (a : Ext w h1 h2) (b : Ext w h2 h3) : Ext w h1 h3 := ⟨Nat.le_trans a.1 b.1, fun i hi hw => (b.2 i (Nat.lt_of_lt_of_le hi a.1) hw).trans (a.2 i hi hw)⟩
theorem Ext.app {w : Nat} {h g : Hh} : Ext w h (h ++ g) := ⟨by simp, fun i hi _ => List.getElem?_append_left hi⟩
theorem Ext.set {w : Nat} {h : Hh} {o : Ob} : Ext w h (h.set w o) := ⟨by simp, fun i hi hw => by rw [List.getElem?_set_ne (Ne.symm hw)]⟩
theorem Ext.get {w : Nat} {h h' : Hh} (e : Ext w h h') {i : Nat} {o : Ob} (hi : h[i]? = some o) (hw : i ≠ w) : h'[i]? = some o := by
  rw [e.2 i (List.getElem?_eq_some_iff.mp hi).1 hw]; exact hi
theorem Well.ext {h g : Hh} {w n : Nat} (W : Well h w n) : Well (h ++ g) w n := by
  obtain ⟨c, a, t, l, xs, h1, h2, h3, h4⟩ := W
  exact ⟨c, a, t, l, xs, by rw [List.getElem?_append_left (List.getElem?_eq_some_iff.mp h1).1]; exact h1, by rw [List.getElem?_append_left (List.getElem?_eq_some_iff.mp h2).1]; exact h2, h3, h4⟩
theorem Well.le {h : Hh} {w n m : Nat} (W : Well h w n) (l : n ≤ m) : Well h w m := by
  obtain ⟨c, a, t, l', xs, h1, h2, h3, h4, h5, h6, h7⟩ := W
  exact ⟨c, a, t, l', xs, h1, h2, h3, h4, by omega, h6, by omega⟩
noncomputable def f_draw : FnM := mFn 5 m__law_draw
theorem sq_ok {x : Int} {a t : Int} {n : Nat} (h0 : 0 ≤ x) (h1 : x < 10 ^ 18) (ha : 0 ≤ a) (ha2 : a ≤ n) (ht : 0 ≤ t) (ht2 : t ≤ n) (hn : n ≤ 100000) :
    mulOk (x * 1000003 + a * 7919 + 12347 + t * 613) (x * 1000003 + a * 7919 + 12347 + t * 613) = true := by
  refine mulOk_w ?_
  have hb : (x * 1000003 + a * 7919 + 12347 + t * 613).natAbs < 2 ^ 100 := by omega
  have := PySem.Flt.log2_lt_of (by decide : 0 < 100) hb
  omega
theorem draw_eq {h : Hh} {w n : Nat} {m : Int} (W : Well h w n) (hn : n ≤ 100000) (hm : 0 < m) (hd : divOk m = true) :
    ∃ r h', f_draw [.ref w, .int m] h = .ok (.int r) h' ∧ 0 ≤ r ∧ r < m ∧ Ext w h h' ∧ Well h' w (n + 1) := by
  obtain ⟨c, a, t, l, xs, h1, h2, h3, a0, a1, t0, t1⟩ := W
  have hw : w < h.length := (List.getElem?_eq_some_iff.mp h1).1
  have p18 : powOk 10 18 = true := by decide
  by_cases hc : c = 0
  · subst hc
    have fin : ∀ x0 : Int, 0 ≤ x0 → ∀ c' : Int, c' = (if x0 < 10 ^ 18 then (x0 * 1000003 + a * 7919 + 12347 + t * 613) * (x0 * 1000003 + a * 7919 + 12347 + t * 613) / 97 * 48271 + (x0 * 1000003 + a * 7919 + 12347 + t * 613) else x0) →
        f_draw [.ref w, .int m] h = .ok (.int (c' % m)) (h.set w (.lst [.int (c' / m), .int (a + 1), .ref l, .int (t + 1)])) →
        ∃ r h', f_draw [.ref w, .int m] h = .ok (.int r) h' ∧ 0 ≤ r ∧ r < m ∧ Ext w h h' ∧ Well h' w (n + 1) := fun x0 _ c' _ e =>
      ⟨c' % m, _, e, Int.emod_nonneg _ (by omega), Int.emod_lt_of_pos _ hm, Ext.set, ⟨c' / m, a + 1, t + 1, l, xs, by rw [List.getElem?_set_self hw], by rw [List.getElem?_set_ne (Ne.symm h3)]; exact h2, h3, by omega, by omega, by omega, by omega⟩⟩
    have m1 : ∀ x0 : Int, mulOk x0 1000003 = true := fun _ => mulOk_r (by decide)
    have m2 : mulOk a 7919 = true := mulOk_r (by decide)
    have m3 : mulOk t 613 = true := mulOk_r (by decide)
    have m4 : ∀ x0 : Int, mulOk x0 48271 = true := fun _ => mulOk_r (by decide)
    have d97 : divOk 97 = true := by decide
    have hs : ∀ o, (h.set w o)[w]? = some o := fun o => List.getElem?_set_self hw
    have a63 : a < 9223372036854775808 := by omega
    have t63 : t < 9223372036854775808 := by omega
    by_cases hl : a < (xs.length : Int)
    · obtain ⟨x, hx⟩ : ∃ x, xs[a.toNat]? = some x := ⟨_, List.getElem?_eq_getElem (by omega)⟩
      have hix : atI (xs.map D.int) a = some (.int x) := by
        have ea : a = (a.toNat : Int) := by omega
        rw [ea]
        exact atI_nat (by rw [List.getElem?_map, hx]; rfl)
      have lenr : bLen [.ref l] h = some (.int (xs.length : Int), h) := by rw [bLen_ref h2]; simp
      obtain ⟨y, hy⟩ : ∃ y, (if x < 0 then -x else x) = y := ⟨_, rfl⟩
      have x0 : 0 ≤ y := by rw [← hy]; split <;> omega
      refine fin y x0 _ rfl ?_
      by_cases hx18 : y < 10 ^ 18
      · have sq := sq_ok x0 hx18 a0 a1 t0 t1 hn
        have hx18 : y < 1000000000000000000 := hx18
        simp [f_draw, mFn, m__law_draw, h1, h2, hm, hd, ixN, lenr, hl, hix, p18, hx18, m1, m2, m3, m4, d97, sq, hs, hy, a0, t0, a63, t63]
      · have hx18 : ¬ y < 1000000000000000000 := hx18
        simp [f_draw, mFn, m__law_draw, h1, h2, hm, hd, ixN, lenr, hl, hix, p18, hx18, hs, hy, a0, t0, a63, t63]
    · have lenr : bLen [.ref l] h = some (.int (xs.length : Int), h) := by rw [bLen_ref h2]; simp
      refine fin 7 (by decide) _ rfl ?_
      have sq : mulOk (7000021 + a * 7919 + 12347 + t * 613) (7000021 + a * 7919 + 12347 + t * 613) = true := by simpa using sq_ok (x := 7) (by decide) (by decide) a0 a1 t0 t1 hn
      simp [f_draw, mFn, m__law_draw, h1, h2, hm, hd, ixN, lenr, hl, p18, m1, m2, m3, m4, d97, sq, hs, a0, t0, a63, t63]
  · refine ⟨c % m, h.set w (.lst [.int (c / m), .int a, .ref l, .int t]), ?_, Int.emod_nonneg _ (by omega), Int.emod_lt_of_pos _ hm, Ext.set, ⟨c / m, a, t, l, xs, by rw [List.getElem?_set_self hw], by rw [List.getElem?_set_ne (Ne.symm h3)]; exact h2, h3, a0, by omega, t0, by omega⟩⟩
    simp [f_draw, mFn, m__law_draw, h1, hc, hm, hd, ixN]
end K63
namespace K63
open PySem PySem.Spec L2 PI
open PyProof.Rows hiding St
/-! ### the ratios of the program -/
def isRat (p : Int × Int) : Prop := 1 ≤ p.2 ∧ Nat.gcd p.1.natAbs p.2.natAbs = 1
def Bd (p : Int × Int) : Prop := p.1.natAbs < 2 ^ 400 ∧ p.2.natAbs < 2 ^ 400
theorem mulB {a b : Nat} {x y : Int} (hx : x.natAbs < 2 ^ a) (hy : y.natAbs < 2 ^ b) (ha : 0 < a) (hb : 0 < b) (h : a + b ≤ 1000000) : mulOk x y = true := mulOk_w (wide_mul hx hy ha hb h)
theorem gcd_pos {t b : Int} (h : b ≠ 0) : 0 < Nat.gcd t.natAbs b.natAbs := Nat.gcd_pos_of_pos_right _ (by omega)
theorem divG {a : Nat} {t b : Int} (h : b ≠ 0) (hb : b.natAbs < 2 ^ a) (ha : 0 < a) (h9 : a ≤ 9000) : divOk (Nat.gcd t.natAbs b.natAbs : Int) = true := by
  have h1 := gcd_pos (t := t) h
  have h2 : Nat.gcd t.natAbs b.natAbs ≤ b.natAbs := Nat.gcd_le_right _ (by omega)
  have h3 := wide_div (i := 0) (j := (Nat.gcd t.natAbs b.natAbs : Int)) (b := a) (by omega) (by rw [Int.natAbs_natCast]; omega) ha h9
  exact divOk_w h3.1 h3.2
theorem low_rat {t b : Int} (h : b ≠ 0) : isRat (low t b) := by
  have hg := gcd_pos (t := t) h
  have e1 : (if b < 0 then -t else t).natAbs = t.natAbs := by split <;> simp
  have e2 : (if b < 0 then -b else b) = (b.natAbs : Int) := by split <;> omega
  have d1 : (Nat.gcd t.natAbs b.natAbs : Int) ∣ (if b < 0 then -t else t) := by
    rw [Int.ofNat_dvd_left, e1]; exact Nat.gcd_dvd_left _ _
  unfold isRat low
  rw [e2]
  refine ⟨?_, ?_⟩
  · show 1 ≤ (b.natAbs : Int) / (Nat.gcd t.natAbs b.natAbs : Int)
    rw [← Int.natCast_ediv]
    have : 0 < b.natAbs / Nat.gcd t.natAbs b.natAbs := Nat.div_pos (Nat.gcd_le_right _ (by omega)) hg
    omega
  · show Nat.gcd ((if b < 0 then -t else t) / (Nat.gcd t.natAbs b.natAbs : Int)).natAbs ((b.natAbs : Int) / (Nat.gcd t.natAbs b.natAbs : Int)).natAbs = 1
    rw [← Int.natCast_ediv, Int.natAbs_natCast, Int.natAbs_ediv_of_dvd d1, e1, Int.natAbs_natCast]
    rw [Nat.gcd_div (Nat.gcd_dvd_left _ _) (Nat.gcd_dvd_right _ _)]
    exact Nat.div_self hg
theorem low_bd {a : Nat} {t b : Int} (h1 : t.natAbs < 2 ^ a) (h2 : b.natAbs < 2 ^ a) : (low t b).1.natAbs < 2 ^ a ∧ (low t b).2.natAbs < 2 ^ a := by
  have e1 : (if b < 0 then -t else t).natAbs = t.natAbs := by split <;> simp
  have e2 : (if b < 0 then -b else b).natAbs = b.natAbs := by split <;> simp
  unfold low
  refine ⟨Nat.lt_of_le_of_lt (Int.natAbs_ediv_le_natAbs _ _) (by rw [e1]; exact h1), Nat.lt_of_le_of_lt (Int.natAbs_ediv_le_natAbs _ _) (by rw [e2]; exact h2)⟩
theorem law_lowest_eq (t b : Int) (h : Hh) (hd : divOk (Nat.gcd t.natAbs b.natAbs : Int) = true) : f_law_lowest [.int t, .int b] h = .ok (rat (low t b)) h := by
  have e := fun t b => law_gcd_eq t b h
  by_cases hb : b < 0 <;> simp [f_law_lowest, mFn, m__law_lowest, low, rat, hb, hd, e]
noncomputable def f_is_ratio : FnM := mFn 1 (m_is_ratio f_is_int)
noncomputable def f_need_ratio : FnM := mFn 1 (m_need_ratio f_is_ratio)
noncomputable def f_ratio : FnM := mFn 2 (m_ratio f_lowest)
noncomputable def f_plus : FnM := mFn 2 (m_plus f_need_ratio f_lowest)
noncomputable def f_minus : FnM := mFn 2 (m_minus f_need_ratio f_lowest)
noncomputable def f_product : FnM := mFn 2 (m_product f_need_ratio f_lowest)
noncomputable def f_quotient : FnM := mFn 2 (m_quotient f_need_ratio f_lowest)
noncomputable def f_below : FnM := mFn 2 (m_below f_need_ratio)
theorem is_ratio_eq (a b : Int) (h : Hh) : f_is_ratio [.tup [.int a, .int b]] h = .ok (.bl (decide (1 ≤ b) && (((Nat.gcd a.natAbs b.natAbs : Nat) : Int) == 1))) h := by
  by_cases hb : b < 1
  · have h2 : ¬ 1 ≤ b := by omega
    simp [f_is_ratio, mFn, m_is_ratio, tyD, subT, is_int_int, hb, h2]
  · have h2 : 1 ≤ b := by omega
    simp [f_is_ratio, mFn, m_is_ratio, tyD, subT, is_int_int, hb, h2]
def Bad (d : D) (h : Hh) : Prop := f_is_ratio [d] h = .ok (.bl false) h
theorem need_rat {p : Int × Int} (hp : isRat p) (h : Hh) : f_need_ratio [rat p] h = .ok .non h := by
  have e := is_ratio_eq p.1 p.2 h
  have h1 := hp.1
  have h2 := hp.2
  simp [h1, h2] at e
  simp [f_need_ratio, mFn, m_need_ratio, rat, e]
theorem need_bad {d : D} {h : Hh} (b : Bad d h) : f_need_ratio [d] h = .err ⟨"BadRatio", []⟩ h := by
  unfold Bad at b
  simp [f_need_ratio, mFn, m_need_ratio, b]
section
variable {p q : Int × Int} {h : Hh}
theorem sum_ne {p q : Int × Int} (hp : isRat p) (hq : isRat q) : p.2 * q.2 ≠ 0 := Int.mul_ne_zero (by have := hp.1; omega) (by have := hq.1; omega)
theorem mul_lt {x y : Int} {a b : Nat} (hx : x.natAbs < 2 ^ a) (hy : y.natAbs < 2 ^ b) : (x * y).natAbs < 2 ^ (a + b) := wide_lt hx hy
theorem plus_eq (hp : isRat p) (hq : isRat q) (bp : Bd p) (bq : Bd q) : f_plus [rat p, rat q] h = .ok (rat (low (p.1 * q.2 + q.1 * p.2) (p.2 * q.2))) h := by
  have e := lowest_eq (p.1 * q.2 + q.1 * p.2) (p.2 * q.2) h (divG (sum_ne hp hq) (mul_lt bp.2 bq.2) (by decide) (by decide))
  have e1 := need_rat hp h
  have e2 := need_rat hq h
  have m1 := mulB bp.1 bq.2 (by decide) (by decide) (by decide)
  have m2 := mulB bq.1 bp.2 (by decide) (by decide) (by decide)
  have m3 := mulB bp.2 bq.2 (by decide) (by decide) (by decide)
  simp only [rat] at e e1 e2 ⊢
  simp [f_plus, mFn, m_plus, e, e1, e2, m1, m2, m3]
theorem minus_eq (hp : isRat p) (hq : isRat q) (bp : Bd p) (bq : Bd q) : f_minus [rat p, rat q] h = .ok (rat (low (p.1 * q.2 - q.1 * p.2) (p.2 * q.2))) h := by
  have e := lowest_eq (p.1 * q.2 - q.1 * p.2) (p.2 * q.2) h (divG (sum_ne hp hq) (mul_lt bp.2 bq.2) (by decide) (by decide))
  have e1 := need_rat hp h
  have e2 := need_rat hq h
  have m1 := mulB bp.1 bq.2 (by decide) (by decide) (by decide)
  have m2 := mulB bq.1 bp.2 (by decide) (by decide) (by decide)
  have m3 := mulB bp.2 bq.2 (by decide) (by decide) (by decide)
  simp only [rat] at e e1 e2 ⊢
  simp [f_minus, mFn, m_minus, e, e1, e2, m1, m2, m3]
theorem product_eq (hp : isRat p) (hq : isRat q) (bp : Bd p) (bq : Bd q) : f_product [rat p, rat q] h = .ok (rat (low (p.1 * q.1) (p.2 * q.2))) h := by
  have e := lowest_eq (p.1 * q.1) (p.2 * q.2) h (divG (sum_ne hp hq) (mul_lt bp.2 bq.2) (by decide) (by decide))
  have e1 := need_rat hp h
  have e2 := need_rat hq h
  have m1 := mulB bp.1 bq.1 (by decide) (by decide) (by decide)
  have m3 := mulB bp.2 bq.2 (by decide) (by decide) (by decide)
  simp only [rat] at e e1 e2 ⊢
  simp [f_product, mFn, m_product, e, e1, e2, m1, m3]
theorem quotient_eq (hp : isRat p) (hq : isRat q) (bp : Bd p) (bq : Bd q) (h0 : q.1 ≠ 0) : f_quotient [rat p, rat q] h = .ok (rat (low (p.1 * q.2) (p.2 * q.1))) h := by
  have hne : p.2 * q.1 ≠ 0 := Int.mul_ne_zero (by have := hp.1; omega) h0
  have e := lowest_eq (p.1 * q.2) (p.2 * q.1) h (divG hne (mul_lt bp.2 bq.1) (by decide) (by decide))
  have e1 := need_rat hp h
  have e2 := need_rat hq h
  have m1 := mulB bp.1 bq.2 (by decide) (by decide) (by decide)
  have m3 := mulB bp.2 bq.1 (by decide) (by decide) (by decide)
  simp only [rat] at e e1 e2 ⊢
  simp [f_quotient, mFn, m_quotient, e, e1, e2, m1, m3, h0]
theorem quotient_0 (hp : isRat p) (hq : isRat q) (h0 : q.1 = 0) : f_quotient [rat p, rat q] h = .err ⟨"ZeroBottom", []⟩ h := by
  have e1 := need_rat hp h
  have e2 := need_rat hq h
  simp only [rat] at e1 e2 ⊢
  simp [f_quotient, mFn, m_quotient, e1, e2, h0] at *
  simp [e1, e2]
theorem below_eq (hp : isRat p) (hq : isRat q) (bp : Bd p) (bq : Bd q) : f_below [rat p, rat q] h = .ok (.bl (decide (p.1 * q.2 < q.1 * p.2))) h := by
  have e1 := need_rat hp h
  have e2 := need_rat hq h
  have m1 := mulB bp.1 bq.2 (by decide) (by decide) (by decide)
  have m2 := mulB bq.1 bp.2 (by decide) (by decide) (by decide)
  simp only [rat] at e1 e2 ⊢
  simp [f_below, mFn, m_below, e1, e2, m1, m2]
theorem ratio_eq {t b : Int} (hb : b ≠ 0) (hd : divOk (Nat.gcd t.natAbs b.natAbs : Int) = true) : f_ratio [.int t, .int b] h = .ok (rat (low t b)) h := by
  have e := lowest_eq t b h hd
  simp [f_ratio, mFn, m_ratio, hb, e]
theorem ratio_0 {t : Int} : f_ratio [.int t, .int 0] h = .err ⟨"ZeroBottom", []⟩ h := by
  simp [f_ratio, mFn, m_ratio]
end
end K63
namespace K63
open PySem PySem.Spec L2 PI
open PyProof.Rows hiding St

noncomputable def f_number : FnM := mFn 2 (m__law_number f_draw)
noncomputable def f_pair : FnM := mFn 4 (m__law_pair f_number f_draw)
theorem dv (m : Int) (h : 0 < m) (h2 : m < 1073741824) : divOk m = true := divOk_n h h2
theorem number_eq {h : Hh} {w n : Nat} (W : Well h w n) (hn : n ≤ 99990) : ∃ r h', f_number [.ref w] h = .ok (.int r) h' ∧ r.natAbs < 2 ^ 230 ∧ Ext w h h' ∧ Well h' w (n + 3) := by
  obtain ⟨r, h1, e1, r0, r1, x1, W1⟩ := draw_eq (m := 9) W (by omega) (by decide) (dv _ (by decide) (by decide))
  by_cases c0 : r = 0
  · subst c0
    exact ⟨0, h1, by simp [f_number, mFn, m__law_number, e1], by decide, x1, W1.le (by omega)⟩
  by_cases c1 : r = 1
  · subst c1
    obtain ⟨s, h2, e2, s0, s1, x2, W2⟩ := draw_eq (m := 2) W1 (by omega) (by decide) (dv _ (by decide) (by decide))
    have m1 : ∀ x, mulOk 2 x = true := fun _ => mulOk_l (by decide)
    exact ⟨1 - 2 * s, h2, by simp [f_number, mFn, m__law_number, e1, e2, m1], by omega, x1.trans x2, W2.le (by omega)⟩
  by_cases c2 : r = 2
  · subst c2
    obtain ⟨s, h2, e2, s0, s1, x2, W2⟩ := draw_eq (m := 10 ^ 60) W1 (by omega) (by decide) (by decide +kernel)
    have m1 : mulOk 5 (10 ^ 59) = true := mulOk_l (by decide)
    have p60 : powOk 10 60 = true := by decide
    have p59 : powOk 10 59 = true := by decide
    simp only [Int.reducePow] at e2 m1
    refine ⟨s - 5 * 10 ^ 59, h2, by simp [f_number, mFn, m__law_number, e1, e2, m1, p60, p59], ?_, x1.trans x2, W2.le (by omega)⟩
    omega
  by_cases c3 : r = 3
  · subst c3
    obtain ⟨s, h2, e2, s0, s1, x2, W2⟩ := draw_eq (m := 5) W1 (by omega) (by decide) (dv _ (by decide) (by decide))
    obtain ⟨u, h3, e3, u0, u1, x3, W3⟩ := draw_eq (m := 2) W2 (by omega) (by decide) (dv _ (by decide) (by decide))
    have m1 : ∀ x, mulOk 2 x = true := fun _ => mulOk_l (by decide)
    have m2 : mulOk (1000000000000 + s) (1 - 2 * u) = true := mulOk_r (by omega)
    have p12 : powOk 10 12 = true := by decide
    refine ⟨(10 ^ 12 + s) * (1 - 2 * u), h3, by simp [f_number, mFn, m__law_number, e1, e2, e3, m1, m2, p12], ?_, (x1.trans x2).trans x3, W3.le (by omega)⟩
    have : u = 0 ∨ u = 1 := by omega
    rcases this with rfl | rfl <;> omega
  · obtain ⟨s, h2, e2, s0, s1, x2, W2⟩ := draw_eq (m := 25) W1 (by omega) (by decide) (dv _ (by decide) (by decide))
    exact ⟨s - 12, h2, by simp [f_number, mFn, m__law_number, e1, e2, c0, c1, c2, c3], by omega, x1.trans x2, W2.le (by omega)⟩
theorem fac_bd : ∀ r : Int, 0 ≤ r → r < 6 → ∃ f : Int, atI [D.int 1, .int 1, .int 2, .int 6, .int 1000000000, .int 30030] r = some (.int f) ∧ 0 < f ∧ f < 2 ^ 40 := by
  intro r h0 h1
  have : r = 0 ∨ r = 1 ∨ r = 2 ∨ r = 3 ∨ r = 4 ∨ r = 5 := by omega
  rcases this with rfl | rfl | rfl | rfl | rfl | rfl
  · exact ⟨1, rfl, by decide, by decide⟩
  · exact ⟨1, rfl, by decide, by decide⟩
  · exact ⟨2, rfl, by decide, by decide⟩
  · exact ⟨6, rfl, by decide, by decide⟩
  · exact ⟨1000000000, rfl, by decide, by decide⟩
  · exact ⟨30030, rfl, by decide, by decide⟩
theorem pair_eq {h : Hh} {w n : Nat} (W : Well h w n) (hn : n ≤ 99900) : ∃ t b h', f_pair [.ref w] h = .ok (.tup [.int t, .int b]) h' ∧ b ≠ 0 ∧ t.natAbs < 2 ^ 400 ∧ b.natAbs < 2 ^ 400 ∧ Ext w h h' ∧ Well h' w (n + 10) := by
  obtain ⟨t, h1, e1, t1, x1, W1⟩ := number_eq W (by omega)
  obtain ⟨b, h2, e2, b1, x2, W2⟩ := number_eq W1 (by omega)
  -- the bottom
  obtain ⟨b', h3, eb, b0, b2, x3, W3⟩ : ∃ b' h3, (mIfS (mTest (mOp oEq (mVar 2) (mC (.int 0)))) (mSet 2 (mOp oAdd (mC (.int 1)) (mCall 2 f_draw (mCons (mVar 0) (mCons (mC (.int 6)) (mNil)))))) (mNx)) [some (.ref w), some (.int t), some (.int b), none] h2 = .nx [some (.ref w), some (.int t), some (.int b'), none] h3 ∧ b' ≠ 0 ∧ b'.natAbs < 2 ^ 230 ∧ Ext w h2 h3 ∧ Well h3 w (n + 7) := by
    by_cases c : b = 0
    · subst c
      obtain ⟨s, h3, e3, s0, s1, x3, W3⟩ := draw_eq (m := 6) W2 (by omega) (by decide) (dv _ (by decide) (by decide))
      exact ⟨1 + s, h3, by simp [e3], by omega, by omega, x3, W3⟩
    · exact ⟨b, h2, by simp [c], c, b1, Ext.refl, W2.le (by omega)⟩
  have W3' := W3.ext (g := [.lst [.int 1, .int 1, .int 2, .int 6, .int 1000000000, .int 30030]])
  obtain ⟨r, h4, e4, r0, r1, x4, W4⟩ := draw_eq (m := 6) W3' (by omega) (by decide) (dv _ (by decide) (by decide))
  obtain ⟨f, ef, f0, f1⟩ := fac_bd r r0 r1
  have hw : w < h3.length := by obtain ⟨c, a, t, l, xs, h1, _⟩ := W3; exact (List.getElem?_eq_some_iff.mp h1).1
  have hl : h4[h3.length]? = some (.lst [.int 1, .int 1, .int 2, .int 6, .int 1000000000, .int 30030]) := x4.get (by simp) (by omega)
  obtain ⟨g, h5, e5, g0, g1, x5, W5⟩ := draw_eq (m := 8) W4 (by omega) (by decide) (dv _ (by decide) (by decide))
  have p9 : powOk 10 9 = true := by decide
  have p30 : powOk 10 30 = true := by decide
  have x35 : Ext w h h5 := ((x1.trans (x2.trans x3)).trans Ext.app).trans (x4.trans x5)
  by_cases c : g = 0
  · subst c
    obtain ⟨s, h6, e6, s0, s1, x6, W6⟩ := draw_eq (m := 10 ^ 30) W5 (by omega) (by decide) (by decide +kernel)
    have F : (1 + s).natAbs < 2 ^ 101 := by omega
    have m1 := mulB t1 F (by decide) (by decide) (by decide)
    have m2 := mulB b2 F (by decide) (by decide) (by decide)
    simp only [Int.reducePow] at e6
    refine ⟨t * (1 + s), b' * (1 + s), h6, ?_, Int.mul_ne_zero b0 (by omega), Nat.lt_of_lt_of_le (mul_lt t1 F) (by decide), Nat.lt_of_lt_of_le (mul_lt b2 F) (by decide), x35.trans x6, W6.le (by omega)⟩
    simp [-mIfS_ap, f_pair, mFn, m__law_pair, e1, e2, eb]
    simp [e4, hl, ef, e5, e6, p9, p30, m1, m2]
  · have F : f.natAbs < 2 ^ 101 := by omega
    have m1 := mulB t1 F (by decide) (by decide) (by decide)
    have m2 := mulB b2 F (by decide) (by decide) (by decide)
    refine ⟨t * f, b' * f, h5, ?_, Int.mul_ne_zero b0 (by omega), Nat.lt_of_lt_of_le (mul_lt t1 F) (by decide), Nat.lt_of_lt_of_le (mul_lt b2 F) (by decide), x35, W5.le (by omega)⟩
    simp [-mIfS_ap, f_pair, mFn, m__law_pair, e1, e2, eb]
    simp [e4, hl, ef, e5, c, p9, m1, m2]
end K63
namespace K63
open PySem PySem.Spec L2 PI
open PyProof.Rows hiding St
/-! ### calls by number -/
noncomputable def f_called : FnM := mFn 3 (m__law_called f_plus f_minus f_product f_quotient f_below f_ratio)
noncomputable def f_named : FnM := mFn 3 (m__law_named f_plus f_minus f_product f_quotient f_below f_ratio)
/-- what is called -/
noncomputable def callee (k : Int) : FnM := if k = 0 then f_plus else if k = 1 then f_minus else if k = 2 then f_product else if k = 3 then f_quotient else if k = 4 then f_below else f_ratio
theorem out_ret (o : Out D) (ρ : Rho) : (o.bindS ρ fun d h1 => OutS.rt d h1).out = o := by
  cases o <;> rfl
theorem bindS_seq {o : Out D} {ρ : Rho} {f : Rho → Hh → OutS} : (o.bindS ρ fun d h1 => OutS.rt d h1).seq f = o.bindS ρ fun d h1 => OutS.rt d h1 := by
  cases o <;> rfl
theorem called_eq (k : Int) (x y : D) (h : Hh) : f_called [.int k, x, y] h = callee k [x, y] h := by
  unfold callee
  by_cases c0 : k = 0
  · simp [f_called, mFn, m__law_called, c0, out_ret, bindS_seq]
  by_cases c1 : k = 1
  · simp [f_called, mFn, m__law_called, c1, out_ret, bindS_seq]
  by_cases c2 : k = 2
  · simp [f_called, mFn, m__law_called, c2, out_ret, bindS_seq]
  by_cases c3 : k = 3
  · simp [f_called, mFn, m__law_called, c3, out_ret, bindS_seq]
  by_cases c4 : k = 4
  · simp [f_called, mFn, m__law_called, c4, out_ret, bindS_seq]
  simp [f_called, mFn, m__law_called, c0, c1, c2, c3, c4, out_ret, bindS_seq]
theorem named_eq (k : Int) (x y : D) (h : Hh) : f_named [.int k, x, y] h = callee k [x, y] h := by
  have pm : perm [1, 0] [y, x] = [x, y] := rfl
  unfold callee
  by_cases c0 : k = 0
  · simp [f_named, mFn, m__law_named, c0, out_ret, bindS_seq, pm]
  by_cases c1 : k = 1
  · simp [f_named, mFn, m__law_named, c1, out_ret, bindS_seq, pm]
  by_cases c2 : k = 2
  · simp [f_named, mFn, m__law_named, c2, out_ret, bindS_seq, pm]
  by_cases c3 : k = 3
  · simp [f_named, mFn, m__law_named, c3, out_ret, bindS_seq, pm]
  by_cases c4 : k = 4
  · simp [f_named, mFn, m__law_named, c4, out_ret, bindS_seq, pm]
  simp [f_named, mFn, m__law_named, c0, c1, c2, c3, c4, out_ret, bindS_seq, pm]
/-! ### the words of errors -/
noncomputable def f_word : FnM := mFn 5 (m__law_word f_called)
theorem word_ok {k : Int} {x y d : D} {h : Hh} (e : callee k [x, y] h = .ok d h) : f_word [.int k, x, y] h = .ok (.str "none") h := by
  simp [f_word, mFn, m__law_word, mTry, called_eq, e]
theorem word_bad {k : Int} {x y : D} {h : Hh} (e : callee k [x, y] h = .err ⟨"BadRatio", []⟩ h) : f_word [.int k, x, y] h = .ok (.str "bad") h := by
  have s1 : sb "BadRatio" "BadRatio" = true := by decide
  have i1 : isb "PaidError" "BadRatio" = true := by decide
  have i2 : isb "ValueError" "BadRatio" = true := by decide
  have i3 : isb "ZeroBottom" "BadRatio" = false := by decide
  have u : uni (fun a => unName 4 (mSeq (mSet 3 (mC (.str "bad"))) (mIfS (mOr (mNot (mTest (mIsE 4 a ⟨"BadRatio", []⟩ (isb "PaidError" "BadRatio")))) (mOr (mNot (mTest (mIsE 4 a ⟨"BadRatio", []⟩ (isb "ValueError" "BadRatio")))) (mTest (mIsE 4 a ⟨"BadRatio", []⟩ (isb "ZeroBottom" "BadRatio"))))) (mSet 3 (mC (.str "wrong"))) (mNx)) [some (.int k), some x, some y, some (.str "none"), some (.ex a)] h)) = .nx [some (.int k), some x, some y, some (.str "bad"), none] h :=
    uni_eq fun a => by simp [mIsE, i1, i2, i3, unName]
  simp [f_word, mFn, m__law_word, mTry, called_eq, e, clauses, s1] at u ⊢
  simp [u]
theorem word_zero {k : Int} {x y : D} {h : Hh} (e : callee k [x, y] h = .err ⟨"ZeroBottom", []⟩ h) : f_word [.int k, x, y] h = .ok (.str "zero") h := by
  have s1 : sb "ZeroBottom" "BadRatio" = false := by decide
  have s2 : sb "ZeroBottom" "ZeroBottom" = true := by decide
  have i1 : isb "PaidError" "ZeroBottom" = true := by decide
  have i2 : isb "ValueError" "ZeroBottom" = true := by decide
  have u : uni (fun a => unName 4 (mSeq (mSet 3 (mC (.str "zero"))) (mIfS (mOr (mNot (mTest (mIsE 4 a ⟨"ZeroBottom", []⟩ (isb "PaidError" "ZeroBottom")))) (mNot (mTest (mIsE 4 a ⟨"ZeroBottom", []⟩ (isb "ValueError" "ZeroBottom"))))) (mSet 3 (mC (.str "wrong"))) (mNx)) [some (.int k), some x, some y, some (.str "none"), some (.ex a)] h)) = .nx [some (.int k), some x, some y, some (.str "zero"), none] h :=
    uni_eq fun a => by simp [mIsE, i1, i2, unName]
  simp [f_word, mFn, m__law_word, mTry, called_eq, e, clauses, s1, s2] at u ⊢
  simp [u]
/-! ### things that are no ratio -/
noncomputable def f_no_ratio : FnM := mFn 4 (m__law_no_ratio f_draw)
theorem bad_ty {d : D} {t : String} {h : Hh} (e : tyD h d = some t) (n : t ≠ "tuple") : Bad d h := by
  have : subT t "tuple" = false := by simp [subT, n]
  simp [Bad, f_is_ratio, mFn, m_is_ratio, e, this]
theorem bad_len {xs : List D} {h : Hh} (n : ¬ (xs.length : Int) = 2) : Bad (.tup xs) h := by
  simp [Bad, f_is_ratio, mFn, m_is_ratio, tyD, subT, n]
theorem bad_0 {a b : D} {t : String} {h : Hh} (e : tyD h a = some t) (n : t ≠ "int") : Bad (.tup [a, b]) h := by
  have := is_int_ty h e n
  simp [Bad, f_is_ratio, mFn, m_is_ratio, tyD, subT, this]
theorem bad_1 {a : Int} {b : D} {t : String} {h : Hh} (e : tyD h b = some t) (n : t ≠ "int") : Bad (.tup [.int a, b]) h := by
  have := is_int_ty h e n
  simp [Bad, f_is_ratio, mFn, m_is_ratio, tyD, subT, this, is_int_int]
theorem bad_gcd {a b : Int} {h : Hh} (n : ¬ (1 ≤ b ∧ Nat.gcd a.natAbs b.natAbs = 1)) : Bad (.tup [.int a, .int b]) h := by
  have e := is_ratio_eq a b h
  unfold Bad
  rw [e]
  by_cases h1 : 1 ≤ b
  · have h2 : ¬ Nat.gcd a.natAbs b.natAbs = 1 := fun z => n ⟨h1, z⟩
    simp [h1]
    omega
  · simp [h1]
end K63
namespace K63
open PySem PySem.Spec L2 PI
open PyProof.Rows hiding St
theorem no_ratio_eq {h : Hh} {w n : Nat} (W : Well h w n) (hn : n ≤ 99900) : ∃ d h', f_no_ratio [.ref w] h = .ok d h' ∧ (∀ h'', Ext w h' h'' → Bad d h'') ∧ Ext w h h' ∧ Well h' w (n + 3) := by
  obtain ⟨a, h1, e1, a0, a1, x1, W1⟩ := draw_eq (m := 9) W (by omega) (by decide) (dv _ (by decide) (by decide))
  obtain ⟨b, h2, e2, b0, b1, x2, W2⟩ := draw_eq (m := 21) W1 (by omega) (by decide) (dv _ (by decide) (by decide))
  obtain ⟨k, hk⟩ : ∃ k, 2 + a = k := ⟨_, rfl⟩
  obtain ⟨m, hm⟩ : ∃ m, b - 10 = m := ⟨_, rfl⟩
  have k2 : 2 ≤ k := by omega
  have m1 : ∀ x, -(2 ^ 64) < x ∧ x < 2 ^ 64 → mulOk k x = true := fun x hx => mulOk_r hx
  have m2 : mulOk k m = true := mulOk_r (by omega)
  have m3 : mulOk m k = true := mulOk_r (by omega)
  have mk : (m * k).natAbs < 2 ^ 20 := by
    have h1 : m.natAbs < 2 ^ 5 := by omega
    have h2 : k.natAbs < 2 ^ 5 := by omega
    exact Nat.lt_of_lt_of_le (mul_lt h1 h2) (by decide)
  have m4 : mulOk (m * k) 10000000000000000000000000000000000000000 = true := mulOk_l (by omega)
  have m5 : mulOk k 100000000000000000000 = true := mulOk_l (by omega)
  have p40 : powOk 10 40 = true := by decide
  have p20 : powOk 10 20 = true := by decide
  obtain ⟨L, hL⟩ : ∃ L : List D, L = [.tup [.int 2, .int 4], .tup [.int 1, .int 0], .tup [.int 3, .int (-1)], .tup [.int 0, .int 2], .tup [.int 0, .int 0], .tup [.int (-4), .int 6], .ref h2.length, .tup [.int 1], .tup [.int 1, .int 2, .int 3], .tup [.bl true, .int 1], .tup [.int 1, .bl true],
    .non, .str "1/2", .int 5, .tup [], .tup [.tup [.int 1, .int 1], .int 1], .tup [.int 1, .tup [.int 1, .int 1]], .ref (h2.length + 2), .tup [.str "1", .int 1], .tup [.int 0, .int (-1)], .tup [.int m, .int (-k)], .tup [.int (k * m), .int k],
    .tup [.int (m * k * 10000000000000000000000000000000000000000), .int (k * 100000000000000000000)], .ref (h2.length + 5), .tup [.non, .int 1], .tup [.int 1, .non], .bl false, .tup [.int m, .int 0]] := ⟨_, rfl⟩
  obtain ⟨g, hg⟩ : ∃ g : Hh, g = [.lst [.int 1, .int 2], .lst (L.take 11), .dct [], .lst ((L.drop 11).take 11), .lst (L.take 22), .lst [.tup [.int 1, .int 2]], .lst (L.drop 22), .lst L] := ⟨_, rfl⟩
  have W3 := W2.ext (g := g)
  obtain ⟨r, h3, e3, r0, r1, x3, W4⟩ := draw_eq (m := 28) W3 (by omega) (by decide) (dv _ (by decide) (by decide))
  have hw : w < h2.length := by obtain ⟨c, a, t, l, xs, h1, _⟩ := W2; exact (List.getElem?_eq_some_iff.mp h1).1
  have len : L.length = 28 := by rw [hL]; rfl
  obtain ⟨d, ed, dm⟩ := atI_some (L := L) r0 (by rw [len]; exact r1)
  have gL : h3[h2.length + 7]? = some (.lst L) := x3.get (by rw [getApp, hg]; rfl) (by omega)
  refine ⟨d, h3, ?_, ?_, (x1.trans x2).trans (Ext.app.trans x3), W4.le (by omega)⟩
  · subst hg
    subst hL
    simp [Nat.add_assoc] at e3 gL
    simp [f_no_ratio, mFn, m__law_no_ratio, e1, e2, hk, hm, m1, m2, m3, m4, m5, p40, p20, e3, gL, ed, Nat.add_assoc]
  · intro h'' x
    have t1 : h''[h2.length]? = some (.lst [.int 1, .int 2]) := (Ext.trans x3 x).get (by rw [getApp0, hg]; rfl) (by omega)
    have t2 : h''[h2.length + 2]? = some (.dct []) := (Ext.trans x3 x).get (by rw [getApp, hg]; rfl) (by omega)
    have t3 : h''[h2.length + 5]? = some (.lst [.tup [.int 1, .int 2]]) := (Ext.trans x3 x).get (by rw [getApp, hg]; rfl) (by omega)
    have c1 : tyD h'' (.ref h2.length) = some "list" := by simp [tyD, t1]
    have c2 : tyD h'' (.ref (h2.length + 2)) = some "dict" := by simp [tyD, t2]
    have c3 : tyD h'' (.ref (h2.length + 5)) = some "list" := by simp [tyD, t3]
    rw [hL] at dm
    simp only [List.mem_cons, List.not_mem_nil, or_false] at dm
    rcases dm with rfl | rfl | rfl | rfl | rfl | rfl | rfl | rfl | rfl | rfl | rfl | rfl | rfl | rfl | rfl | rfl | rfl | rfl | rfl | rfl | rfl | rfl | rfl | rfl | rfl | rfl | rfl | rfl
    · exact bad_gcd (by decide)
    · exact bad_gcd (by decide)
    · exact bad_gcd (by decide)
    · exact bad_gcd (by decide)
    · exact bad_gcd (by decide)
    · exact bad_gcd (by decide)
    · exact bad_ty c1 (by decide)
    · exact bad_len (by decide)
    · exact bad_len (by decide)
    · exact bad_0 (t := "bool") rfl (by decide)
    · exact bad_1 (t := "bool") rfl (by decide)
    · exact bad_ty (t := "NoneType") rfl (by decide)
    · exact bad_ty (t := "str") rfl (by decide)
    · exact bad_ty (t := "int") rfl (by decide)
    · exact bad_len (by decide)
    · exact bad_0 (t := "tuple") rfl (by decide)
    · exact bad_1 (t := "tuple") rfl (by decide)
    · exact bad_ty c2 (by decide)
    · exact bad_0 (t := "str") rfl (by decide)
    · exact bad_gcd (by decide)
    · exact bad_gcd (by omega)
    · refine bad_gcd fun z => ?_
      have h1 : k.natAbs ∣ (k * m).natAbs := by rw [Int.natAbs_mul]; exact Nat.dvd_mul_right _ _
      have h2 := Nat.gcd_eq_right h1
      omega
    · refine bad_gcd fun z => ?_
      have h1 : k.natAbs ∣ (m * k * 10000000000000000000000000000000000000000).natAbs := by
        rw [Int.natAbs_mul, Int.natAbs_mul]
        exact Nat.dvd_mul_right_of_dvd (Nat.dvd_mul_left _ _) _
      have h2 : k.natAbs ∣ (k * 100000000000000000000).natAbs := by rw [Int.natAbs_mul]; exact Nat.dvd_mul_right _ _
      have h3 := Nat.dvd_gcd h1 h2
      rw [z.2] at h3
      have h4 := Nat.le_of_dvd (by decide) h3
      omega
    · exact bad_ty c3 (by decide)
    · exact bad_0 (t := "NoneType") rfl (by decide)
    · exact bad_1 (t := "NoneType") rfl (by decide)
    · exact bad_ty (t := "bool") rfl (by decide)
    · exact bad_gcd fun z => absurd z.1 (by decide)
end K63
namespace K63
open PySem PySem.Spec L2 PI
open PyProof.Rows hiding St
noncomputable def f_law_int : FnM := mFn 1 m__law_int
noncomputable def f_same : FnM := mFn 2 (m__law_same f_law_int)
noncomputable def f_truth : FnM := mFn 2 m__law_truth
noncomputable def f_due : FnM := mFn 3 (m__law_due f_law_lowest)
noncomputable def f_well : FnM := mFn 2 m__law_well
noncomputable def f_doors : FnM := mFn 7 (m__law_doors f_no_ratio f_word)
theorem law_int_int (i : Int) (h : Hh) : f_law_int [.int i] h = .ok (.bl true) h := by
  simp [f_law_int, mFn, m__law_int, tyD, subT]
theorem rat_eq (p : Int × Int) (h : Hh) : oEq (rat p) (rat p) h = some (.bl true, h) := by
  have t : toPy h 64 (rat p) = some (.tuple [.int p.1, .int p.2]) := by simp [rat, toPy, toPys]
  have s : scalD (rat p) (rat p) = none := rfl
  have e : oEqB (rat p) (rat p) h = some true := by
    unfold oEqB
    rw [s, t]
    have z : SeqAt.shaped (.tuple [.int p.1, .int p.2]) = true := by simp [SeqAt.shaped, PyData.canLay0, PyData.canLayAll0, PyData.depth, PyData.depthAll]
    have y : PyData.eqv (.tuple [.int p.1, .int p.2]) (.tuple [.int p.1, .int p.2]) = true := by simp [PyData.eqv, PyData.eqvAll]
    simp [z, y]
  simp [oEq, e]
theorem same_eq (p : Int × Int) (h : Hh) : f_same [rat p, rat p] h = .ok (.bl true) h := by
  have e := rat_eq p h
  simp only [rat] at e ⊢
  simp [f_same, mFn, m__law_same, tyD, subT, law_int_int, e]
theorem truth_eq (b : Bool) (h : Hh) : f_truth [.bl b, .bl b] h = .ok (.bl true) h := by
  have e : oEq (.bl b) (.bl b) h = some (.bl true, h) := by simp [oEq, oEqB, scalD]
  simp [f_truth, mFn, m__law_truth, tyD, subT, e]
theorem due_called {p q : Int × Int} {k : Int} (k0 : 0 ≤ k) (k1 : k < 4) (c : k < 3 ∨ q.1 ≠ 0) (hp : isRat p) (hq : isRat q) (bp : Bd p) (bq : Bd q) (h : Hh) : ∃ z, f_due [.int k, rat p, rat q] h = .ok (rat z) h ∧ callee k [rat p, rat q] h = .ok (rat z) h := by
  have m1 := mulB bp.1 bq.2 (by decide) (by decide) (by decide)
  have m2 := mulB bq.1 bp.2 (by decide) (by decide) (by decide)
  have m3 := mulB bp.2 bq.2 (by decide) (by decide) (by decide)
  have m4 := mulB bp.1 bq.1 (by decide) (by decide) (by decide)
  have m5 := mulB bp.2 bq.1 (by decide) (by decide) (by decide)
  have hk : k = 0 ∨ k = 1 ∨ k = 2 ∨ k = 3 := by omega
  rcases hk with rfl | rfl | rfl | rfl
  · refine ⟨_, ?_, plus_eq hp hq bp bq⟩
    have e := law_lowest_eq (p.1 * q.2 + q.1 * p.2) (p.2 * q.2) h (divG (sum_ne hp hq) (mul_lt bp.2 bq.2) (by decide) (by decide))
    simp only [rat] at e ⊢
    simp [f_due, mFn, m__law_due, e, m1, m2, m3]
  · refine ⟨_, ?_, minus_eq hp hq bp bq⟩
    have e := law_lowest_eq (p.1 * q.2 - q.1 * p.2) (p.2 * q.2) h (divG (sum_ne hp hq) (mul_lt bp.2 bq.2) (by decide) (by decide))
    simp only [rat] at e ⊢
    simp [f_due, mFn, m__law_due, e, m1, m2, m3]
  · refine ⟨_, ?_, product_eq hp hq bp bq⟩
    have e := law_lowest_eq (p.1 * q.1) (p.2 * q.2) h (divG (sum_ne hp hq) (mul_lt bp.2 bq.2) (by decide) (by decide))
    simp only [rat] at e ⊢
    simp [f_due, mFn, m__law_due, e, m4, m3]
  · have h0 : q.1 ≠ 0 := by omega
    refine ⟨_, ?_, quotient_eq hp hq bp bq h0⟩
    have hne : p.2 * q.1 ≠ 0 := Int.mul_ne_zero (by have := hp.1; omega) h0
    have e := law_lowest_eq (p.1 * q.2) (p.2 * q.1) h (divG hne (mul_lt bp.2 bq.1) (by decide) (by decide))
    simp only [rat] at e ⊢
    simp [f_due, mFn, m__law_due, e, m1, m5]
/-! ### the doors -/
theorem callee_bad1 {k : Int} (k0 : 0 ≤ k) (k1 : k < 5) {d e : D} {h : Hh} (b : Bad d h) : callee k [d, e] h = .err ⟨"BadRatio", []⟩ h := by
  have n := need_bad b
  have hk : k = 0 ∨ k = 1 ∨ k = 2 ∨ k = 3 ∨ k = 4 := by omega
  rcases hk with rfl | rfl | rfl | rfl | rfl
  · simp [callee, f_plus, mFn, m_plus, n]
  · simp [callee, f_minus, mFn, m_minus, n]
  · simp [callee, f_product, mFn, m_product, n]
  · simp [callee, f_quotient, mFn, m_quotient, n]
  · simp [callee, f_below, mFn, m_below, n]
theorem callee_bad2 {k : Int} (k0 : 0 ≤ k) (k1 : k < 5) {p : Int × Int} {e : D} {h : Hh} (hp : isRat p) (b : Bad e h) : callee k [rat p, e] h = .err ⟨"BadRatio", []⟩ h := by
  have n := need_bad b
  have r := need_rat hp h
  have hk : k = 0 ∨ k = 1 ∨ k = 2 ∨ k = 3 ∨ k = 4 := by omega
  rcases hk with rfl | rfl | rfl | rfl | rfl
  · simp [callee, f_plus, mFn, m_plus, n, r]
  · simp [callee, f_minus, mFn, m_minus, n, r]
  · simp [callee, f_product, mFn, m_product, n, r]
  · simp [callee, f_quotient, mFn, m_quotient, n, r]
  · simp [callee, f_below, mFn, m_below, n, r]
/-- the word where all is well -/
theorem word_rat {k : Int} (k0 : 0 ≤ k) (k1 : k < 5) {p q : Int × Int} (hp : isRat p) (hq : isRat q) (bp : Bd p) (bq : Bd q) (h : Hh) : f_word [.int k, rat p, rat q] h = .ok (.str (if k = 3 ∧ q.1 = 0 then "zero" else "none")) h := by
  have hk : k = 0 ∨ k = 1 ∨ k = 2 ∨ k = 3 ∨ k = 4 := by omega
  rcases hk with rfl | rfl | rfl | rfl | rfl
  · exact word_ok (plus_eq hp hq bp bq)
  · exact word_ok (minus_eq hp hq bp bq)
  · exact word_ok (product_eq hp hq bp bq)
  · by_cases c : q.1 = 0
    · simp only [c, and_self, if_true]
      exact word_zero (quotient_0 hp hq c)
    · simp only [c, and_false, if_false]
      exact word_ok (quotient_eq hp hq bp bq c)
  · exact word_ok (below_eq hp hq bp bq)
theorem zero_rat : isRat (0, 1) := ⟨by decide, by decide⟩
theorem zero_bd : Bd (0, 1) := ⟨by decide, by decide⟩
theorem Bd.ratio {p : Int × Int} (hp : isRat p) (bp : Bd p) : divOk (Nat.gcd (0 : Int).natAbs p.2.natAbs : Int) = true := divG (by have := hp.1; omega) bp.2 (by decide) (by decide)
theorem doors_eq {h : Hh} {w n : Nat} (W : Well h w n) (hn : n ≤ 99000) {p q : Int × Int} (hp : isRat p) (hq : isRat q) (bp : Bd p) (bq : Bd q) : ∃ h', f_doors [.ref w, rat p, rat q] h = .ok (.bl true) h' := by
  obtain ⟨bad, h1, e1, B1, x1, W1⟩ := no_ratio_eq W (by omega)
  obtain ⟨worse, h2, e2, B2, x2, W2⟩ := no_ratio_eq W1 (by omega)
  have n1 : ((Str.ofString "bad") == (Str.ofString "bad")) = true := by decide
  have n2 : ((Str.ofString "none") == (Str.ofString "none")) = true := by decide
  have n3 : ((Str.ofString "zero") == (Str.ofString "zero")) = true := by decide
  have zz : rat (0, 1) = .tup [.int 0, .int 1] := rfl
  obtain ⟨ρ', h', el, o, rfl, xe⟩ := for_nx (j := jRng 0 5) (g := gmName 6) (ρ := [some (.ref w), some (rat p), some (rat q), some bad, some worse, some (rat (0, 1)), none]) (h := h2) (b := (mSeq (mIfS (mOr (mTest (mOp oNe (mCall 3 f_word (mCons (mVar 6) (mCons (mVar 3) (mCons (mVar 2) (mNil))))) (mC (.str "bad")))) (mTest (mOp oNe (mCall 3 f_word (mCons (mVar 6) (mCons (mVar 1) (mCons (mVar 4) (mNil))))) (mC (.str "bad"))))) (mRet (mC (.bl false))) (mNx))
    (mSeq (mIfS (mOr (mTest (mOp oNe (mCall 3 f_word (mCons (mVar 6) (mCons (mVar 3) (mCons (mVar 4) (mNil))))) (mC (.str "bad")))) (mTest (mOp oNe (mCall 3 f_word (mCons (mVar 6) (mCons (mVar 3) (mCons (mVar 5) (mNil))))) (mC (.str "bad"))))) (mRet (mC (.bl false))) (mNx))
    (mSeq (mIfS (mTest (mOp oNe (mCall 3 f_word (mCons (mVar 6) (mCons (mVar 5) (mCons (mVar 1) (mNil))))) (mOp oIx (mLst (mCons (mC (.str "none")) (mCons (mC (.str "zero")) (mNil)))) (mB bInt (mCons (mAndV (mOp oEq (mVar 6) (mC (.int 3))) (mOp oEq (mOp oIx (mVar 1) (mC (.int 0))) (mC (.int 0)))) (mNil)))))) (mRet (mC (.bl false))) (mNx))
    (mIfS (mTest (mOp oNe (mCall 3 f_word (mCons (mVar 6) (mCons (mVar 1) (mCons (mVar 5) (mNil))))) (mOp oIx (mLst (mCons (mC (.str "none")) (mCons (mC (.str "zero")) (mNil)))) (mB bInt (mCons (mOp oEq (mVar 6) (mC (.int 3))) (mNil)))))) (mRet (mC (.bl false))) (mNx)))))) 5
    (fun _ ρ h => ∃ o, ρ = [some (.ref w), some (rat p), some (rat q), some bad, some worse, some (rat (0, 1)), o] ∧ Ext w h2 h) ⟨none, rfl, Ext.refl⟩ (fun ρ h _ => jRng_end)
    (by
      rintro i ρ h hi ⟨o, rfl, x⟩
      have i5 : (i : Int) < 5 := by omega
      have b1 := B1 h (x2.trans x)
      have b2 := B2 h x
      have w1 : f_word [.int i, bad, rat q] h = .ok (.str "bad") h := word_bad (callee_bad1 (by omega) i5 b1)
      have w2 : f_word [.int i, rat p, worse] h = .ok (.str "bad") h := word_bad (callee_bad2 (by omega) i5 hp b2)
      have w3 : f_word [.int i, bad, worse] h = .ok (.str "bad") h := word_bad (callee_bad1 (by omega) i5 b1)
      have w4 : f_word [.int i, bad, rat (0, 1)] h = .ok (.str "bad") h := word_bad (callee_bad1 (by omega) i5 b1)
      have w5 := word_rat (k := i) (by omega) i5 zero_rat hp zero_bd bp h
      have w6 := fun h => word_rat (k := i) (by omega) i5 hp zero_rat bp zero_bd h
      refine ⟨.int (0 + i), _, _, _, h ++ [.lst [.str "none", .str "zero"]] ++ [.lst [.str "none", .str "zero"]], jRng_at hi, rfl, .inl ?_, some (.int i), rfl, (x.trans Ext.app).trans Ext.app⟩
      have p0 : oIx (rat p) (.int 0) = fun h => some (.int p.1, h) := rfl
      have c : i = 0 ∨ i = 1 ∨ i = 2 ∨ i = 3 ∨ i = 4 := by omega
      by_cases z : p.1 = 0 <;> rcases c with rfl | rfl | rfl | rfl | rfl <;> simp [z] at w1 w2 w3 w4 w5 w6 <;> simp [w1, w2, w3, w4, w5, w6, n1, n2, n3, p0, z])
  have r1 : f_word [.int 5, .int p.1, .int 0] h' = .ok (.str "zero") h' := word_zero (k := 5) (ratio_0 (t := p.1))
  have r2 : f_word [.int 5, .int 0, .int 0] h' = .ok (.str "zero") h' := word_zero (k := 5) (ratio_0 (t := 0))
  have r3 : f_word [.int 5, .int 0, .int p.2] h' = .ok (.str "none") h' := word_ok (k := 5) (ratio_eq (by have := hp.1; omega) (Bd.ratio hp bp))
  refine ⟨h', ?_⟩
  have p0 : oIx (rat p) (.int 0) = fun h => some (.int p.1, h) := rfl
  have p1 : oIx (rat p) (.int 1) = fun h => some (.int p.2, h) := rfl
  simp [f_doors, mFn, m__law_doors, e1, e2, miRng1]
  simp [el, ← zz, p0, p1, r1, r2, r3, n2, n3]
end K63
namespace K63
open PySem PySem.Spec L2 PI
open PyProof.Rows hiding St
noncomputable def f_law : FnM := mFn 10 (m_law f_well f_pair f_law_lowest f_same f_ratio f_named f_draw f_due f_called f_truth f_below f_doors)
/-- what is kept -/
def Kept (h : Hh) (c : Nat) (ps : List (Int × Int)) : Prop := h[c]? = some (.lst (ps.map rat)) ∧ (∀ p ∈ ps, isRat p ∧ Bd p) ∧ 0 < ps.length
theorem Kept.ext {h h' : Hh} {w c : Nat} {ps : List (Int × Int)} (q : Kept h c ps) (x : Ext w h h') (n : c ≠ w) : Kept h' c ps := ⟨x.get q.1 n, q.2⟩
theorem Kept.lt {h : Hh} {c : Nat} {ps : List (Int × Int)} (q : Kept h c ps) : c < h.length := (List.getElem?_eq_some_iff.mp q.1).1
theorem Well.put {h : Hh} {w n c : Nat} {ps qs : List (Int × Int)} (W : Well h w n) (q : Kept h c ps) (hn : c ≠ w) : Well (h.set c (.lst (qs.map rat))) w n := by
  obtain ⟨e, a, t, l, xs, h1, h2, h3⟩ := W
  have hl : c ≠ l := by
    rintro rfl
    have := q.1.symm.trans h2
    cases ps with
    | nil => exact absurd q.2.2 (by simp)
    | cons p ps => cases xs <;> simp [rat] at this
  exact ⟨e, a, t, l, xs, by rw [List.getElem?_set_ne hn]; exact h1, by rw [List.getElem?_set_ne hl]; exact h2, h3⟩
theorem well_eq (ns : List Int) : f_well [.rol (ns.map D.int), .int 0] [] = .ok (.ref 1) [.lst (ns.map D.int), .lst [.int 0, .int 0, .ref 0, .int 0]] := by
  simp [f_well, mFn, m__law_well]
theorem law_true0 (ns : List Int) (h : ns.length ≤ 63) : ∃ h, f_law [.rol (ns.map D.int)] [] = .ok (.bl true) h := by
  have ew := well_eq ns
  have W0 : Well [.lst (ns.map D.int), .lst [.int 0, .int 0, .ref 0, .int 0]] 1 0 := ⟨0, 0, 0, 0, ns, rfl, rfl, by decide, by decide, by decide, by decide, by decide⟩
  have W1 := W0.ext (g := [.lst [rat (0, 1)]])
  have K1 : Kept ([.lst (ns.map D.int), .lst [.int 0, .int 0, .ref 0, .int 0]] ++ [.lst [rat (0, 1)]]) 2 [(0, 1)] := ⟨rfl, by intro p hp; simp at hp; subst hp; exact ⟨zero_rat, zero_bd⟩, by decide⟩
  have zz : rat (0, 1) = .tup [.int 0, .int 1] := rfl
  obtain ⟨s, hs⟩ : ∃ s : D, s = .rol (ns.map D.int) := ⟨_, rfl⟩
  obtain ⟨g1, hg1⟩ : ∃ g : Hh, g = [.lst (ns.map D.int), .lst [.int 0, .int 0, .ref 0, .int 0]] ++ [.lst [rat (0, 1)]] := ⟨_, rfl⟩
  rw [← hg1] at W1 K1
  -- the first loop
  obtain ⟨_, h2, e2, ps, o3, o4, o5, o6, rfl, l2, K2, W2⟩ := for_nx (j := jRng 0 5) (g := gmName 3) (ρ := [some s, some (.ref 1), some (.ref 2), none, none, none, none, none, none, none]) (h := g1)
    (b := mSeq (mAsg (mCall 1 f_pair (mCons (mVar 1) (mNil))) (gmTup 2 (gmCons (gmName 4) (gmCons (gmName 5) (gmNil)))))
      (mSeq (mSet 6 (mCall 2 f_law_lowest (mCons (mVar 4) (mCons (mVar 5) (mNil)))))
      (mSeq (mIfS (mOr (mNot (mTest (mCall 2 f_same (mCons (mCall 2 f_ratio (mCons (mVar 4) (mCons (mVar 5) (mNil)))) (mCons (mVar 6) (mNil)))))) (mNot (mTest (mCall 2 f_same (mCons (mCall 3 f_named (mCons (mC (.int 5)) (mCons (mVar 4) (mCons (mVar 5) (mNil))))) (mCons (mVar 6) (mNil))))))) (mRet (mC (.bl false))) (mNx))
      (mDrop (mMset lAppend (mVar 2) (mCons (mVar 6) (mNil)))))))
    5 (fun i ρ h => ∃ ps o3 o4 o5 o6, ρ = [some s, some (.ref 1), some (.ref 2), o3, o4, o5, o6, none, none, none] ∧ ps.length = i + 1 ∧ Kept h 2 ps ∧ Well h 1 (10 * i))
    ⟨[(0, 1)], none, none, none, none, rfl, rfl, K1, W1⟩ (fun ρ h _ => jRng_end) (by
      rintro i ρ h hi ⟨ps, o3, o4, o5, o6, rfl, l, K, W⟩
      obtain ⟨t, b, h1, e1, b0, t1, b1, x1, W1⟩ := pair_eq W (by omega)
      have hd := divG (t := t) b0 b1 (by decide) (by decide)
      have K' := K.ext x1 (by decide)
      have el := law_lowest_eq t b h1 hd
      have er := ratio_eq (h := h1) b0 hd
      have en : f_named [.int 5, .int t, .int b] h1 = .ok (rat (low t b)) h1 := (named_eq 5 _ _ _).trans er
      have es := same_eq (low t b) h1
      have eh := K'.1
      refine ⟨.int (0 + i), _, _, [some s, some (.ref 1), some (.ref 2), some (.int (0 + i)), some (.int t), some (.int b), some (rat (low t b)), none, none, none], h1.set 2 (.lst ((ps ++ [low t b]).map rat)), jRng_at hi, rfl, .inl ?_, ps ++ [low t b], _, _, _, _, rfl, by simp [l], ⟨List.getElem?_set_self K'.lt, ?_, by simp⟩, ?_⟩
      · have ea : lAppend (.ref 2) [rat (low t b)] h1 = some (.non, h1.set 2 (.lst ((ps ++ [low t b]).map rat))) := by
          have : i + 1 < sizeLine := Nat.lt_of_lt_of_le (by omega : i + 1 < 7) (by decide)
          simp [lAppend, eh, l, this]
        simp [e1, el, er, en, es, eh, ea]
      · intro p hp
        rcases List.mem_append.mp hp with hp | hp
        · exact K.2.1 p hp
        · simp at hp; subst hp; exact ⟨low_rat b0, low_bd t1 b1⟩
      · exact (W1.put K' (by decide)).le (by omega))
  -- the second loop
  obtain ⟨_, h3, e3, o3', o6', o7, o8, o9, rfl, K3, W3⟩ := for_nx (j := jRef 2 6) (g := gmName 7) (ρ := [some s, some (.ref 1), some (.ref 2), o3, o4, o5, o6, none, none, none]) (h := h2)
    (b := mSeq (mSet 8 (mOp oIx (mVar 2) (mCall 2 f_draw (mCons (mVar 1) (mCons (mB bLen (mCons (mVar 2) (mNil))) (mNil))))))
      (mSeq (mFor (miRng1 (mC (.int 4))) (gmName 9) (mIfS (mOr (mTest (mOp oLt (mVar 9) (mC (.int 3)))) (mTest (mOp oNe (mOp oIx (mVar 8) (mC (.int 0))) (mC (.int 0))))) (mSeq (mSet 6 (mCall 3 f_due (mCons (mVar 9) (mCons (mVar 7) (mCons (mVar 8) (mNil))))))
      (mIfS (mOr (mNot (mTest (mCall 2 f_same (mCons (mCall 3 f_called (mCons (mVar 9) (mCons (mVar 7) (mCons (mVar 8) (mNil))))) (mCons (mVar 6) (mNil)))))) (mNot (mTest (mCall 2 f_same (mCons (mCall 3 f_named (mCons (mVar 9) (mCons (mVar 7) (mCons (mVar 8) (mNil))))) (mCons (mVar 6) (mNil))))))) (mRet (mC (.bl false))) (mNx))) (mNx)))
      (mIfS (mOr (mNot (mTest (mCall 2 f_truth (mCons (mCall 2 f_below (mCons (mVar 7) (mCons (mVar 8) (mNil)))) (mCons (mOp oLt (mOp oMul (mOp oIx (mVar 7) (mC (.int 0))) (mOp oIx (mVar 8) (mC (.int 1)))) (mOp oMul (mOp oIx (mVar 8) (mC (.int 0))) (mOp oIx (mVar 7) (mC (.int 1))))) (mNil)))))) (mNot (mTest (mCall 2 f_truth (mCons (mCall 3 f_named (mCons (mC (.int 4)) (mCons (mVar 7) (mCons (mVar 7) (mNil))))) (mCons (mC (.bl false)) (mNil))))))) (mRet (mC (.bl false))) (mNx))))
    6 (fun i ρ h => ∃ o3 o6 o7 o8 o9, ρ = [some s, some (.ref 1), some (.ref 2), o3, o4, o5, o6, o7, o8, o9] ∧ Kept h 2 ps ∧ Well h 1 (50 + i))
    ⟨o3, o6, none, none, none, rfl, K2, W2⟩ (by
      rintro ρ h ⟨_, _, _, _, _, _, K, _⟩
      simp [jRef, K.1, l2]) (by
      rintro i ρ h hi ⟨o3, o6, o7, o8, o9, rfl, K, W⟩
      have hi' : i < ps.length := by omega
      obtain ⟨p, hp⟩ : ∃ p, ps[i]? = some p := ⟨_, List.getElem?_eq_getElem hi'⟩
      obtain ⟨rp, bp⟩ := K.2.1 p (List.mem_of_getElem? hp)
      obtain ⟨r, h1, e1, r0, r1, x1, W1⟩ := draw_eq (m := 6) W (by omega) (by decide) (dv _ (by decide) (by decide))
      have K' := K.ext x1 (by decide)
      obtain ⟨d, ed, dm⟩ := atI_some (L := ps.map rat) r0 (by simp [l2]; exact r1)
      obtain ⟨q, hq, rfl⟩ := List.mem_map.mp dm
      obtain ⟨rq, bq⟩ := K.2.1 q hq
      have eh := K.1
      have eh' := K'.1
      obtain ⟨_, h4, e4, o6', o9', rfl, rfl⟩ := for_nx (j := jRng 0 4) (g := gmName 9) (ρ := [some s, some (.ref 1), some (.ref 2), o3, o4, o5, o6, some (rat p), some (rat q), o9]) (h := h1)
        (b := (mIfS (mOr (mTest (mOp oLt (mVar 9) (mC (.int 3)))) (mTest (mOp oNe (mOp oIx (mVar 8) (mC (.int 0))) (mC (.int 0))))) (mSeq (mSet 6 (mCall 3 f_due (mCons (mVar 9) (mCons (mVar 7) (mCons (mVar 8) (mNil))))))
          (mIfS (mOr (mNot (mTest (mCall 2 f_same (mCons (mCall 3 f_called (mCons (mVar 9) (mCons (mVar 7) (mCons (mVar 8) (mNil))))) (mCons (mVar 6) (mNil)))))) (mNot (mTest (mCall 2 f_same (mCons (mCall 3 f_named (mCons (mVar 9) (mCons (mVar 7) (mCons (mVar 8) (mNil))))) (mCons (mVar 6) (mNil))))))) (mRet (mC (.bl false))) (mNx))) (mNx)))
        4 (fun j ρ h => ∃ o6 o9, ρ = [some s, some (.ref 1), some (.ref 2), o3, o4, o5, o6, some (rat p), some (rat q), o9] ∧ h1 = h) ⟨o6, o9, rfl, rfl⟩ (fun ρ h _ => jRng_end) (by
          rintro j ρ _ hj ⟨o6, o9, rfl, rfl⟩
          have q0 : oIx (rat q) (.int 0) = fun h => some (.int q.1, h) := rfl
          by_cases c : (j : Int) < 3 ∨ q.1 ≠ 0
          · obtain ⟨z, z1, z2⟩ := due_called (k := j) (by omega) (by omega) c rp rq bp bq h1
            have c1 := called_eq j (rat p) (rat q) h1
            have c2 := named_eq j (rat p) (rat q) h1
            rw [z2] at c1 c2
            have es := same_eq z h1
            refine ⟨.int (0 + j), _, _, [some s, some (.ref 1), some (.ref 2), o3, o4, o5, some (rat z), some (rat p), some (rat q), some (.int (0 + j))], _, jRng_at hj, rfl, .inl ?_, _, _, rfl, rfl⟩
            by_cases c3 : (j : Int) < 3
            · simp [oLt, c3, z1, c1, c2, es]
            · have c4 : q.1 ≠ 0 := c.resolve_left c3
              simp [oLt, c3, q0, c4, z1, c1, c2, es]
          · have c3 : ¬ (j : Int) < 3 := fun z => c (.inl z)
            have c4 : q.1 = 0 := Classical.byContradiction fun z => c (.inr z)
            refine ⟨.int (0 + j), _, _, [some s, some (.ref 1), some (.ref 2), o3, o4, o5, o6, some (rat p), some (rat q), some (.int (0 + j))], _, jRng_at hj, rfl, .inl ?_, _, _, rfl, rfl⟩
            simp [oLt, c3, q0, c4])
      refine ⟨rat p, _, _, [some s, some (.ref 1), some (.ref 2), o3, o4, o5, o6', some (rat p), some (rat q), o9'], h1, ?_, rfl, .inl ?_, _, _, _, _, _, rfl, K', W1⟩
      · simp [jRef, eh, hp]
      · have m1 := mulB bp.1 bq.2 (by decide) (by decide) (by decide)
        have m2 := mulB bq.1 bp.2 (by decide) (by decide) (by decide)
        have q0 : oIx (rat q) (.int 0) = fun h => some (.int q.1, h) := rfl
        have q1 : oIx (rat q) (.int 1) = fun h => some (.int q.2, h) := rfl
        have p0 : oIx (rat p) (.int 0) = fun h => some (.int p.1, h) := rfl
        have p1 : oIx (rat p) (.int 1) = fun h => some (.int p.2, h) := rfl
        have b1 := below_eq rp rq bp bq (h := h1)
        have b2 : f_named [.int 4, rat p, rat p] h1 = .ok (.bl false) h1 := by
          rw [named_eq]
          have := below_eq rp rp bp bp (h := h1)
          simpa [callee] using this
        have t1 := fun b => truth_eq b h1
        simp [eh, l2, e1, eh', ed, miRng1]
        simp [e4, q0, q1, p0, p1, m1, m2, b1, b2, t1, oLt])
  obtain ⟨a, L, rfl⟩ : ∃ a L, ps = a :: L := by cases ps with
    | nil => simp at l2
    | cons a L => exact ⟨a, L, rfl⟩
  obtain ⟨b, L, rfl⟩ : ∃ a M, L = a :: M := by cases L with
    | nil => simp at l2
    | cons a L => exact ⟨a, L, rfl⟩
  obtain ⟨c, L, rfl⟩ : ∃ a M, L = a :: M := by cases L with
    | nil => simp at l2
    | cons a L => exact ⟨a, L, rfl⟩
  obtain ⟨h4, e4⟩ := doors_eq W3 (by omega) (K3.2.1 b (by simp)).1 (K3.2.1 c (by simp)).1 (K3.2.1 b (by simp)).2 (K3.2.1 c (by simp)).2
  refine ⟨h4, ?_⟩
  have k3 := K3.1
  have k2 := K2.1
  have g1' : g1 = [.lst (ns.map D.int), .lst [.int 0, .int 0, .ref 0, .int 0], .lst [.tup [.int 0, .int 1]]] := hg1
  rw [← hs] at ew ⊢
  simp [f_law, mFn, m_law, ew, miRng1]
  simp only [List.cons_append, List.nil_append, ← g1']
  simp at k2 k3
  simp [e2, miOf, iterL, k2]
  simp at l2
  simp [l2, e3, k3, e4]
theorem law_true (ns : List Int) (h : ns.length ≤ 63) : ∃ h, F_law [.rol (ns.map D.int)] [] = .ok (.bl true) h := law_true0 ns h
end K63
namespace K63
open PySem PySem.Spec L2 PI
open PyProof.Rows hiding St
theorem all_mk {l : PySem.W.OpenLaw} {w : World} {K : PySem.W.Frag} {h : Heap} {mg : Str → Option Value} {fa aPaidError aBadRatio aZeroBottom f_is_int f_lowest f_is_ratio f_need_ratio f_ratio f_plus f_minus f_product f_quotient f_below f__law_gcd f__law_lowest f__law_draw f__law_number f__law_no_ratio f__law_int f__law_well f__law_truth f__law_called f__law_named f__law_word f__law_due f__law_pair f__law_doors f__law_same f_law : Addr} (X : K.In h) (G : h.Ns mainGlobals mg) (hfa : mg "law" = some (.ref fa))
    {od_is_int an_is_int : Option Addr} {sl_is_int : Array (Option Value)} {oc_is_int kV_is_int dc_is_int pm_is_int cd_is_int ct_is_int : Value}
    {od_lowest an_lowest : Option Addr} {sl_lowest : Array (Option Value)} {oc_lowest kV_lowest dc_lowest pm_lowest cd_lowest ct_lowest : Value}
    {od_is_ratio an_is_ratio : Option Addr} {sl_is_ratio : Array (Option Value)} {oc_is_ratio kV_is_ratio dc_is_ratio pm_is_ratio cd_is_ratio ct_is_ratio : Value}
    {od_need_ratio an_need_ratio : Option Addr} {sl_need_ratio : Array (Option Value)} {oc_need_ratio kV_need_ratio dc_need_ratio pm_need_ratio cd_need_ratio ct_need_ratio : Value}
    {od_ratio an_ratio : Option Addr} {sl_ratio : Array (Option Value)} {oc_ratio kV_ratio dc_ratio pm_ratio cd_ratio ct_ratio : Value}
    {od_plus an_plus : Option Addr} {sl_plus : Array (Option Value)} {oc_plus kV_plus dc_plus pm_plus cd_plus ct_plus : Value}
    {od_minus an_minus : Option Addr} {sl_minus : Array (Option Value)} {oc_minus kV_minus dc_minus pm_minus cd_minus ct_minus : Value}
    {od_product an_product : Option Addr} {sl_product : Array (Option Value)} {oc_product kV_product dc_product pm_product cd_product ct_product : Value}
    {od_quotient an_quotient : Option Addr} {sl_quotient : Array (Option Value)} {oc_quotient kV_quotient dc_quotient pm_quotient cd_quotient ct_quotient : Value}
    {od_below an_below : Option Addr} {sl_below : Array (Option Value)} {oc_below kV_below dc_below pm_below cd_below ct_below : Value}
    {od__law_gcd an__law_gcd : Option Addr} {sl__law_gcd : Array (Option Value)} {oc__law_gcd kV__law_gcd dc__law_gcd pm__law_gcd cd__law_gcd ct__law_gcd : Value}
    {od__law_lowest an__law_lowest : Option Addr} {sl__law_lowest : Array (Option Value)} {oc__law_lowest kV__law_lowest dc__law_lowest pm__law_lowest cd__law_lowest ct__law_lowest : Value}
    {od__law_draw an__law_draw : Option Addr} {sl__law_draw : Array (Option Value)} {oc__law_draw kV__law_draw dc__law_draw pm__law_draw cd__law_draw ct__law_draw : Value}
    {od__law_number an__law_number : Option Addr} {sl__law_number : Array (Option Value)} {oc__law_number kV__law_number dc__law_number pm__law_number cd__law_number ct__law_number : Value}
    {od__law_no_ratio an__law_no_ratio : Option Addr} {sl__law_no_ratio : Array (Option Value)} {oc__law_no_ratio kV__law_no_ratio dc__law_no_ratio pm__law_no_ratio cd__law_no_ratio ct__law_no_ratio : Value}
    {od__law_int an__law_int : Option Addr} {sl__law_int : Array (Option Value)} {oc__law_int kV__law_int dc__law_int pm__law_int cd__law_int ct__law_int : Value}
    {od__law_well an__law_well : Option Addr} {sl__law_well : Array (Option Value)} {oc__law_well kV__law_well dc__law_well pm__law_well cd__law_well ct__law_well : Value}
    {od__law_truth an__law_truth : Option Addr} {sl__law_truth : Array (Option Value)} {oc__law_truth kV__law_truth dc__law_truth pm__law_truth cd__law_truth ct__law_truth : Value}
    {od__law_called an__law_called : Option Addr} {sl__law_called : Array (Option Value)} {oc__law_called kV__law_called dc__law_called pm__law_called cd__law_called ct__law_called : Value}
    {od__law_named an__law_named : Option Addr} {sl__law_named : Array (Option Value)} {oc__law_named kV__law_named dc__law_named pm__law_named cd__law_named ct__law_named : Value}
    {od__law_word an__law_word : Option Addr} {sl__law_word : Array (Option Value)} {oc__law_word kV__law_word dc__law_word pm__law_word cd__law_word ct__law_word : Value}
    {od__law_due an__law_due : Option Addr} {sl__law_due : Array (Option Value)} {oc__law_due kV__law_due dc__law_due pm__law_due cd__law_due ct__law_due : Value}
    {od__law_pair an__law_pair : Option Addr} {sl__law_pair : Array (Option Value)} {oc__law_pair kV__law_pair dc__law_pair pm__law_pair cd__law_pair ct__law_pair : Value}
    {od__law_doors an__law_doors : Option Addr} {sl__law_doors : Array (Option Value)} {oc__law_doors kV__law_doors dc__law_doors pm__law_doors cd__law_doors ct__law_doors : Value}
    {od__law_same an__law_same : Option Addr} {sl__law_same : Array (Option Value)} {oc__law_same kV__law_same dc__law_same pm__law_same cd__law_same ct__law_same : Value}
    {od_law an_law : Option Addr} {sl_law : Array (Option Value)} {oc_law kV_law dc_law pm_law cd_law ct_law : Value}
    (z_ValueError : PySem.W.nsIn K mainGlobals "ValueError" = some none)
    (z_abs : PySem.W.nsIn K mainGlobals "abs" = some none)
    (z_bool : PySem.W.nsIn K mainGlobals "bool" = some none)
    (z_int : PySem.W.nsIn K mainGlobals "int" = some none)
    (z_isinstance : PySem.W.nsIn K mainGlobals "isinstance" = some none)
    (z_len : PySem.W.nsIn K mainGlobals "len" = some none)
    (z_list : PySem.W.nsIn K mainGlobals "list" = some none)
    (z_range : PySem.W.nsIn K mainGlobals "range" = some none)
    (z_tuple : PySem.W.nsIn K mainGlobals "tuple" = some none)
    (i_gcd : PySem.W.nsIn K mainGlobals "gcd" = some (some (.builtin "math.gcd")))
    (ea_PaidError : PySem.W.nsIn K mainGlobals "PaidError" = some (some (.ref aPaidError)))
    (ex_PaidError : PySem.W.excIn K aPaidError [.type "ValueError", .type "Exception", .type "BaseException", .type "object"] "ValueError.__new__" = true)
    (ek_PaidError : PySem.W.keepIn K (.ref aPaidError) = true)
    (eb_PaidError : PySem.W.subIn K (.ref aPaidError) (.type "BaseException") = some true)
    (et_PaidError : PySem.W.typeIn K (.ref aPaidError) = some (.type "type"))
    (ei_PaidError : PySem.W.isClsIn K aPaidError = true)
    (ed_PaidError : PySem.W.hasDictIn K aPaidError = true)
    (ea_BadRatio : PySem.W.nsIn K mainGlobals "BadRatio" = some (some (.ref aBadRatio)))
    (ex_BadRatio : PySem.W.excIn K aBadRatio [.type "ValueError", .type "Exception", .type "BaseException", .type "object"] "ValueError.__new__" = true)
    (ek_BadRatio : PySem.W.keepIn K (.ref aBadRatio) = true)
    (eb_BadRatio : PySem.W.subIn K (.ref aBadRatio) (.type "BaseException") = some true)
    (et_BadRatio : PySem.W.typeIn K (.ref aBadRatio) = some (.type "type"))
    (ei_BadRatio : PySem.W.isClsIn K aBadRatio = true)
    (ed_BadRatio : PySem.W.hasDictIn K aBadRatio = true)
    (ea_ZeroBottom : PySem.W.nsIn K mainGlobals "ZeroBottom" = some (some (.ref aZeroBottom)))
    (ex_ZeroBottom : PySem.W.excIn K aZeroBottom [.type "ValueError", .type "Exception", .type "BaseException", .type "object"] "ValueError.__new__" = true)
    (ek_ZeroBottom : PySem.W.keepIn K (.ref aZeroBottom) = true)
    (eb_ZeroBottom : PySem.W.subIn K (.ref aZeroBottom) (.type "BaseException") = some true)
    (et_ZeroBottom : PySem.W.typeIn K (.ref aZeroBottom) = some (.type "type"))
    (ei_ZeroBottom : PySem.W.isClsIn K aZeroBottom = true)
    (ed_ZeroBottom : PySem.W.hasDictIn K aZeroBottom = true)
    (s_BadRatio_BadRatio : PySem.W.subIn K (.ref aBadRatio) (.ref aBadRatio) = some true)
    (s_BadRatio_ZeroBottom : PySem.W.subIn K (.ref aBadRatio) (.ref aZeroBottom) = some false)
    (s_BadRatio_PaidError : PySem.W.subIn K (.ref aBadRatio) (.ref aPaidError) = some true)
    (s_BadRatio_ValueError : PySem.W.subIn K (.ref aBadRatio) (.type "ValueError") = some true)
    (xg_BadRatio : PySem.W.findIn K (.ref aBadRatio) "__getattribute__" = some (some (.builtin "BaseException.__getattribute__")))
    (xh_BadRatio : PySem.W.findIn K (.ref aBadRatio) "__getattr__" = some none)
    (xa_BadRatio : PySem.W.findIn K (.ref aBadRatio) "__class__" = some (some (.builtin "object.__class__")))
    (xm_BadRatio : PySem.W.mroIn K aBadRatio (.type "object") = some true)
    (s_ZeroBottom_BadRatio : PySem.W.subIn K (.ref aZeroBottom) (.ref aBadRatio) = some false)
    (s_ZeroBottom_ZeroBottom : PySem.W.subIn K (.ref aZeroBottom) (.ref aZeroBottom) = some true)
    (s_ZeroBottom_PaidError : PySem.W.subIn K (.ref aZeroBottom) (.ref aPaidError) = some true)
    (s_ZeroBottom_ValueError : PySem.W.subIn K (.ref aZeroBottom) (.type "ValueError") = some true)
    (xg_ZeroBottom : PySem.W.findIn K (.ref aZeroBottom) "__getattribute__" = some (some (.builtin "BaseException.__getattribute__")))
    (xh_ZeroBottom : PySem.W.findIn K (.ref aZeroBottom) "__getattr__" = some none)
    (xa_ZeroBottom : PySem.W.findIn K (.ref aZeroBottom) "__class__" = some (some (.builtin "object.__class__")))
    (xm_ZeroBottom : PySem.W.mroIn K aZeroBottom (.type "object") = some true)
    (xn : PySem.W.specialIn K (.builtin "object.__class__") "__get__" = some (some (.builtin "getset_descriptor.__get__")))
    (xt : PySem.W.takesIn K (.builtin "object.__class__") = some true)
    (a_is_int : PySem.W.nsIn K mainGlobals "is_int" = some (some (.ref f_is_int)))
    (l_is_int : K.lookup f_is_int = some ⟨oc_is_int, od_is_int, .func (PySem.W.fnOf "is_int" "is_int" (defArgs s_is_int) (defBody s_is_int) (defScope s_is_int) .none kV_is_int dc_is_int pm_is_int an_is_int cd_is_int ct_is_int), sl_is_int⟩)
    (c_is_int : PySem.W.codeIn K cd_is_int "is_int" = true)
    (k_is_int : PySem.W.keepIn K (.ref f_is_int) = true)
    (a_lowest : PySem.W.nsIn K mainGlobals "lowest" = some (some (.ref f_lowest)))
    (l_lowest : K.lookup f_lowest = some ⟨oc_lowest, od_lowest, .func (PySem.W.fnOf "lowest" "lowest" (defArgs s_lowest) (defBody s_lowest) (defScope s_lowest) .none kV_lowest dc_lowest pm_lowest an_lowest cd_lowest ct_lowest), sl_lowest⟩)
    (c_lowest : PySem.W.codeIn K cd_lowest "lowest" = true)
    (k_lowest : PySem.W.keepIn K (.ref f_lowest) = true)
    (a_is_ratio : PySem.W.nsIn K mainGlobals "is_ratio" = some (some (.ref f_is_ratio)))
    (l_is_ratio : K.lookup f_is_ratio = some ⟨oc_is_ratio, od_is_ratio, .func (PySem.W.fnOf "is_ratio" "is_ratio" (defArgs s_is_ratio) (defBody s_is_ratio) (defScope s_is_ratio) .none kV_is_ratio dc_is_ratio pm_is_ratio an_is_ratio cd_is_ratio ct_is_ratio), sl_is_ratio⟩)
    (c_is_ratio : PySem.W.codeIn K cd_is_ratio "is_ratio" = true)
    (k_is_ratio : PySem.W.keepIn K (.ref f_is_ratio) = true)
    (a_need_ratio : PySem.W.nsIn K mainGlobals "need_ratio" = some (some (.ref f_need_ratio)))
    (l_need_ratio : K.lookup f_need_ratio = some ⟨oc_need_ratio, od_need_ratio, .func (PySem.W.fnOf "need_ratio" "need_ratio" (defArgs s_need_ratio) (defBody s_need_ratio) (defScope s_need_ratio) .none kV_need_ratio dc_need_ratio pm_need_ratio an_need_ratio cd_need_ratio ct_need_ratio), sl_need_ratio⟩)
    (c_need_ratio : PySem.W.codeIn K cd_need_ratio "need_ratio" = true)
    (k_need_ratio : PySem.W.keepIn K (.ref f_need_ratio) = true)
    (a_ratio : PySem.W.nsIn K mainGlobals "ratio" = some (some (.ref f_ratio)))
    (l_ratio : K.lookup f_ratio = some ⟨oc_ratio, od_ratio, .func (PySem.W.fnOf "ratio" "ratio" (defArgs s_ratio) (defBody s_ratio) (defScope s_ratio) .none kV_ratio dc_ratio pm_ratio an_ratio cd_ratio ct_ratio), sl_ratio⟩)
    (c_ratio : PySem.W.codeIn K cd_ratio "ratio" = true)
    (k_ratio : PySem.W.keepIn K (.ref f_ratio) = true)
    (a_plus : PySem.W.nsIn K mainGlobals "plus" = some (some (.ref f_plus)))
    (l_plus : K.lookup f_plus = some ⟨oc_plus, od_plus, .func (PySem.W.fnOf "plus" "plus" (defArgs s_plus) (defBody s_plus) (defScope s_plus) .none kV_plus dc_plus pm_plus an_plus cd_plus ct_plus), sl_plus⟩)
    (c_plus : PySem.W.codeIn K cd_plus "plus" = true)
    (k_plus : PySem.W.keepIn K (.ref f_plus) = true)
    (a_minus : PySem.W.nsIn K mainGlobals "minus" = some (some (.ref f_minus)))
    (l_minus : K.lookup f_minus = some ⟨oc_minus, od_minus, .func (PySem.W.fnOf "minus" "minus" (defArgs s_minus) (defBody s_minus) (defScope s_minus) .none kV_minus dc_minus pm_minus an_minus cd_minus ct_minus), sl_minus⟩)
    (c_minus : PySem.W.codeIn K cd_minus "minus" = true)
    (k_minus : PySem.W.keepIn K (.ref f_minus) = true)
    (a_product : PySem.W.nsIn K mainGlobals "product" = some (some (.ref f_product)))
    (l_product : K.lookup f_product = some ⟨oc_product, od_product, .func (PySem.W.fnOf "product" "product" (defArgs s_product) (defBody s_product) (defScope s_product) .none kV_product dc_product pm_product an_product cd_product ct_product), sl_product⟩)
    (c_product : PySem.W.codeIn K cd_product "product" = true)
    (k_product : PySem.W.keepIn K (.ref f_product) = true)
    (a_quotient : PySem.W.nsIn K mainGlobals "quotient" = some (some (.ref f_quotient)))
    (l_quotient : K.lookup f_quotient = some ⟨oc_quotient, od_quotient, .func (PySem.W.fnOf "quotient" "quotient" (defArgs s_quotient) (defBody s_quotient) (defScope s_quotient) .none kV_quotient dc_quotient pm_quotient an_quotient cd_quotient ct_quotient), sl_quotient⟩)
    (c_quotient : PySem.W.codeIn K cd_quotient "quotient" = true)
    (k_quotient : PySem.W.keepIn K (.ref f_quotient) = true)
    (a_below : PySem.W.nsIn K mainGlobals "below" = some (some (.ref f_below)))
    (l_below : K.lookup f_below = some ⟨oc_below, od_below, .func (PySem.W.fnOf "below" "below" (defArgs s_below) (defBody s_below) (defScope s_below) .none kV_below dc_below pm_below an_below cd_below ct_below), sl_below⟩)
    (c_below : PySem.W.codeIn K cd_below "below" = true)
    (k_below : PySem.W.keepIn K (.ref f_below) = true)
    (a__law_gcd : PySem.W.nsIn K mainGlobals "_law_gcd" = some (some (.ref f__law_gcd)))
    (l__law_gcd : K.lookup f__law_gcd = some ⟨oc__law_gcd, od__law_gcd, .func (PySem.W.fnOf "_law_gcd" "_law_gcd" (defArgs s__law_gcd) (defBody s__law_gcd) (defScope s__law_gcd) .none kV__law_gcd dc__law_gcd pm__law_gcd an__law_gcd cd__law_gcd ct__law_gcd), sl__law_gcd⟩)
    (c__law_gcd : PySem.W.codeIn K cd__law_gcd "_law_gcd" = true)
    (k__law_gcd : PySem.W.keepIn K (.ref f__law_gcd) = true)
    (a__law_lowest : PySem.W.nsIn K mainGlobals "_law_lowest" = some (some (.ref f__law_lowest)))
    (l__law_lowest : K.lookup f__law_lowest = some ⟨oc__law_lowest, od__law_lowest, .func (PySem.W.fnOf "_law_lowest" "_law_lowest" (defArgs s__law_lowest) (defBody s__law_lowest) (defScope s__law_lowest) .none kV__law_lowest dc__law_lowest pm__law_lowest an__law_lowest cd__law_lowest ct__law_lowest), sl__law_lowest⟩)
    (c__law_lowest : PySem.W.codeIn K cd__law_lowest "_law_lowest" = true)
    (k__law_lowest : PySem.W.keepIn K (.ref f__law_lowest) = true)
    (a__law_draw : PySem.W.nsIn K mainGlobals "_law_draw" = some (some (.ref f__law_draw)))
    (l__law_draw : K.lookup f__law_draw = some ⟨oc__law_draw, od__law_draw, .func (PySem.W.fnOf "_law_draw" "_law_draw" (defArgs s__law_draw) (defBody s__law_draw) (defScope s__law_draw) .none kV__law_draw dc__law_draw pm__law_draw an__law_draw cd__law_draw ct__law_draw), sl__law_draw⟩)
    (c__law_draw : PySem.W.codeIn K cd__law_draw "_law_draw" = true)
    (k__law_draw : PySem.W.keepIn K (.ref f__law_draw) = true)
    (a__law_number : PySem.W.nsIn K mainGlobals "_law_number" = some (some (.ref f__law_number)))
    (l__law_number : K.lookup f__law_number = some ⟨oc__law_number, od__law_number, .func (PySem.W.fnOf "_law_number" "_law_number" (defArgs s__law_number) (defBody s__law_number) (defScope s__law_number) .none kV__law_number dc__law_number pm__law_number an__law_number cd__law_number ct__law_number), sl__law_number⟩)
    (c__law_number : PySem.W.codeIn K cd__law_number "_law_number" = true)
    (k__law_number : PySem.W.keepIn K (.ref f__law_number) = true)
    (a__law_no_ratio : PySem.W.nsIn K mainGlobals "_law_no_ratio" = some (some (.ref f__law_no_ratio)))
    (l__law_no_ratio : K.lookup f__law_no_ratio = some ⟨oc__law_no_ratio, od__law_no_ratio, .func (PySem.W.fnOf "_law_no_ratio" "_law_no_ratio" (defArgs s__law_no_ratio) (defBody s__law_no_ratio) (defScope s__law_no_ratio) .none kV__law_no_ratio dc__law_no_ratio pm__law_no_ratio an__law_no_ratio cd__law_no_ratio ct__law_no_ratio), sl__law_no_ratio⟩)
    (c__law_no_ratio : PySem.W.codeIn K cd__law_no_ratio "_law_no_ratio" = true)
    (k__law_no_ratio : PySem.W.keepIn K (.ref f__law_no_ratio) = true)
    (a__law_int : PySem.W.nsIn K mainGlobals "_law_int" = some (some (.ref f__law_int)))
    (l__law_int : K.lookup f__law_int = some ⟨oc__law_int, od__law_int, .func (PySem.W.fnOf "_law_int" "_law_int" (defArgs s__law_int) (defBody s__law_int) (defScope s__law_int) .none kV__law_int dc__law_int pm__law_int an__law_int cd__law_int ct__law_int), sl__law_int⟩)
    (c__law_int : PySem.W.codeIn K cd__law_int "_law_int" = true)
    (k__law_int : PySem.W.keepIn K (.ref f__law_int) = true)
    (a__law_well : PySem.W.nsIn K mainGlobals "_law_well" = some (some (.ref f__law_well)))
    (l__law_well : K.lookup f__law_well = some ⟨oc__law_well, od__law_well, .func (PySem.W.fnOf "_law_well" "_law_well" (defArgs s__law_well) (defBody s__law_well) (defScope s__law_well) .none kV__law_well dc__law_well pm__law_well an__law_well cd__law_well ct__law_well), sl__law_well⟩)
    (c__law_well : PySem.W.codeIn K cd__law_well "_law_well" = true)
    (k__law_well : PySem.W.keepIn K (.ref f__law_well) = true)
    (a__law_truth : PySem.W.nsIn K mainGlobals "_law_truth" = some (some (.ref f__law_truth)))
    (l__law_truth : K.lookup f__law_truth = some ⟨oc__law_truth, od__law_truth, .func (PySem.W.fnOf "_law_truth" "_law_truth" (defArgs s__law_truth) (defBody s__law_truth) (defScope s__law_truth) .none kV__law_truth dc__law_truth pm__law_truth an__law_truth cd__law_truth ct__law_truth), sl__law_truth⟩)
    (c__law_truth : PySem.W.codeIn K cd__law_truth "_law_truth" = true)
    (k__law_truth : PySem.W.keepIn K (.ref f__law_truth) = true)
    (a__law_called : PySem.W.nsIn K mainGlobals "_law_called" = some (some (.ref f__law_called)))
    (l__law_called : K.lookup f__law_called = some ⟨oc__law_called, od__law_called, .func (PySem.W.fnOf "_law_called" "_law_called" (defArgs s__law_called) (defBody s__law_called) (defScope s__law_called) .none kV__law_called dc__law_called pm__law_called an__law_called cd__law_called ct__law_called), sl__law_called⟩)
    (c__law_called : PySem.W.codeIn K cd__law_called "_law_called" = true)
    (k__law_called : PySem.W.keepIn K (.ref f__law_called) = true)
    (a__law_named : PySem.W.nsIn K mainGlobals "_law_named" = some (some (.ref f__law_named)))
    (l__law_named : K.lookup f__law_named = some ⟨oc__law_named, od__law_named, .func (PySem.W.fnOf "_law_named" "_law_named" (defArgs s__law_named) (defBody s__law_named) (defScope s__law_named) .none kV__law_named dc__law_named pm__law_named an__law_named cd__law_named ct__law_named), sl__law_named⟩)
    (c__law_named : PySem.W.codeIn K cd__law_named "_law_named" = true)
    (k__law_named : PySem.W.keepIn K (.ref f__law_named) = true)
    (a__law_word : PySem.W.nsIn K mainGlobals "_law_word" = some (some (.ref f__law_word)))
    (l__law_word : K.lookup f__law_word = some ⟨oc__law_word, od__law_word, .func (PySem.W.fnOf "_law_word" "_law_word" (defArgs s__law_word) (defBody s__law_word) (defScope s__law_word) .none kV__law_word dc__law_word pm__law_word an__law_word cd__law_word ct__law_word), sl__law_word⟩)
    (c__law_word : PySem.W.codeIn K cd__law_word "_law_word" = true)
    (k__law_word : PySem.W.keepIn K (.ref f__law_word) = true)
    (a__law_due : PySem.W.nsIn K mainGlobals "_law_due" = some (some (.ref f__law_due)))
    (l__law_due : K.lookup f__law_due = some ⟨oc__law_due, od__law_due, .func (PySem.W.fnOf "_law_due" "_law_due" (defArgs s__law_due) (defBody s__law_due) (defScope s__law_due) .none kV__law_due dc__law_due pm__law_due an__law_due cd__law_due ct__law_due), sl__law_due⟩)
    (c__law_due : PySem.W.codeIn K cd__law_due "_law_due" = true)
    (k__law_due : PySem.W.keepIn K (.ref f__law_due) = true)
    (a__law_pair : PySem.W.nsIn K mainGlobals "_law_pair" = some (some (.ref f__law_pair)))
    (l__law_pair : K.lookup f__law_pair = some ⟨oc__law_pair, od__law_pair, .func (PySem.W.fnOf "_law_pair" "_law_pair" (defArgs s__law_pair) (defBody s__law_pair) (defScope s__law_pair) .none kV__law_pair dc__law_pair pm__law_pair an__law_pair cd__law_pair ct__law_pair), sl__law_pair⟩)
    (c__law_pair : PySem.W.codeIn K cd__law_pair "_law_pair" = true)
    (k__law_pair : PySem.W.keepIn K (.ref f__law_pair) = true)
    (a__law_doors : PySem.W.nsIn K mainGlobals "_law_doors" = some (some (.ref f__law_doors)))
    (l__law_doors : K.lookup f__law_doors = some ⟨oc__law_doors, od__law_doors, .func (PySem.W.fnOf "_law_doors" "_law_doors" (defArgs s__law_doors) (defBody s__law_doors) (defScope s__law_doors) .none kV__law_doors dc__law_doors pm__law_doors an__law_doors cd__law_doors ct__law_doors), sl__law_doors⟩)
    (c__law_doors : PySem.W.codeIn K cd__law_doors "_law_doors" = true)
    (k__law_doors : PySem.W.keepIn K (.ref f__law_doors) = true)
    (a__law_same : PySem.W.nsIn K mainGlobals "_law_same" = some (some (.ref f__law_same)))
    (l__law_same : K.lookup f__law_same = some ⟨oc__law_same, od__law_same, .func (PySem.W.fnOf "_law_same" "_law_same" (defArgs s__law_same) (defBody s__law_same) (defScope s__law_same) .none kV__law_same dc__law_same pm__law_same an__law_same cd__law_same ct__law_same), sl__law_same⟩)
    (c__law_same : PySem.W.codeIn K cd__law_same "_law_same" = true)
    (k__law_same : PySem.W.keepIn K (.ref f__law_same) = true)
    (a_law : PySem.W.nsIn K mainGlobals "law" = some (some (.ref f_law)))
    (l_law : K.lookup f_law = some ⟨oc_law, od_law, .func (PySem.W.fnOf "law" "law" (defArgs s_law) (defBody s_law) (defScope s_law) .none kV_law dc_law pm_law an_law cd_law ct_law), sl_law⟩)
    (c_law : PySem.W.codeIn K cd_law "law" = true)
    (k_law : PySem.W.keepIn K (.ref f_law) = true) :
    ∃ fd : FuncData, (∀ (s : Shared) (v : Value), BindsTo s fd ⟨[v], []⟩ [("script", v)]) ∧ ∀ base : Heap, K.In base → base.Ns mainGlobals mg → FnOk l.prog w K mg base (L2.CX l.prog w) 60 fa fd ["script"] (spLaw K) := by
  have e := hfa.symm.trans (PySem.W.mg_of X G a_law)
  cases e
  have sb_BadRatio : ∀ z cz, ctb aPaidError aBadRatio aZeroBottom z = some cz → PySem.W.exmOne K cz (.ref aBadRatio) = some (sb z "BadRatio") := by
    intro z cz h
    unfold ctb at h
    by_cases h_BadRatio : z = "BadRatio"
    · subst h_BadRatio; rw [if_pos rfl] at h; cases h; exact (PySem.W.exm_ref eb_BadRatio ed_BadRatio et_BadRatio s_BadRatio_BadRatio).trans (congrArg some (by decide))
    rw [if_neg h_BadRatio] at h
    by_cases h_ZeroBottom : z = "ZeroBottom"
    · subst h_ZeroBottom; rw [if_pos rfl] at h; cases h; exact (PySem.W.exm_ref eb_BadRatio ed_BadRatio et_BadRatio s_ZeroBottom_BadRatio).trans (congrArg some (by decide))
    rw [if_neg h_ZeroBottom] at h
    cases h
  have sb_ZeroBottom : ∀ z cz, ctb aPaidError aBadRatio aZeroBottom z = some cz → PySem.W.exmOne K cz (.ref aZeroBottom) = some (sb z "ZeroBottom") := by
    intro z cz h
    unfold ctb at h
    by_cases h_BadRatio : z = "BadRatio"
    · subst h_BadRatio; rw [if_pos rfl] at h; cases h; exact (PySem.W.exm_ref eb_ZeroBottom ed_ZeroBottom et_ZeroBottom s_BadRatio_ZeroBottom).trans (congrArg some (by decide))
    rw [if_neg h_BadRatio] at h
    by_cases h_ZeroBottom : z = "ZeroBottom"
    · subst h_ZeroBottom; rw [if_pos rfl] at h; cases h; exact (PySem.W.exm_ref eb_ZeroBottom ed_ZeroBottom et_ZeroBottom s_ZeroBottom_ZeroBottom).trans (congrArg some (by decide))
    rw [if_neg h_ZeroBottom] at h
    cases h
  have is_PaidError : ∀ k v, ctb aPaidError aBadRatio aZeroBottom k = some v → ∃ C, v = .ref C ∧ ExcC K C ∧ PySem.W.kitOne K (.ref C) (.ref aPaidError) = some (isb "PaidError" k) := by
    intro z cz h
    unfold ctb at h
    by_cases h_BadRatio : z = "BadRatio"
    · subst h_BadRatio; rw [if_pos rfl] at h; cases h; exact ⟨_, rfl, ⟨xg_BadRatio, xh_BadRatio, eb_BadRatio, ed_BadRatio, xa_BadRatio, xn, xt, xm_BadRatio⟩, (kit_ref ed_PaidError et_PaidError s_BadRatio_PaidError (fun _ => rfl)).trans (congrArg some (by decide))⟩
    rw [if_neg h_BadRatio] at h
    by_cases h_ZeroBottom : z = "ZeroBottom"
    · subst h_ZeroBottom; rw [if_pos rfl] at h; cases h; exact ⟨_, rfl, ⟨xg_ZeroBottom, xh_ZeroBottom, eb_ZeroBottom, ed_ZeroBottom, xa_ZeroBottom, xn, xt, xm_ZeroBottom⟩, (kit_ref ed_PaidError et_PaidError s_ZeroBottom_PaidError (fun _ => rfl)).trans (congrArg some (by decide))⟩
    rw [if_neg h_ZeroBottom] at h
    cases h
  have is_ValueError : ∀ k v, ctb aPaidError aBadRatio aZeroBottom k = some v → ∃ C, v = .ref C ∧ ExcC K C ∧ PySem.W.kitOne K (.ref C) (.type "ValueError") = some (isb "ValueError" k) := by
    intro z cz h
    unfold ctb at h
    by_cases h_BadRatio : z = "BadRatio"
    · subst h_BadRatio; rw [if_pos rfl] at h; cases h; exact ⟨_, rfl, ⟨xg_BadRatio, xh_BadRatio, eb_BadRatio, ed_BadRatio, xa_BadRatio, xn, xt, xm_BadRatio⟩, (kit_tyE (by decide +kernel) s_BadRatio_ValueError).trans (congrArg some (by decide))⟩
    rw [if_neg h_BadRatio] at h
    by_cases h_ZeroBottom : z = "ZeroBottom"
    · subst h_ZeroBottom; rw [if_pos rfl] at h; cases h; exact ⟨_, rfl, ⟨xg_ZeroBottom, xh_ZeroBottom, eb_ZeroBottom, ed_ZeroBottom, xa_ZeroBottom, xn, xt, xm_ZeroBottom⟩, (kit_tyE (by decide +kernel) s_ZeroBottom_ValueError).trans (congrArg some (by decide))⟩
    rw [if_neg h_ZeroBottom] at h
    cases h
  have is_ZeroBottom : ∀ k v, ctb aPaidError aBadRatio aZeroBottom k = some v → ∃ C, v = .ref C ∧ ExcC K C ∧ PySem.W.kitOne K (.ref C) (.ref aZeroBottom) = some (isb "ZeroBottom" k) := by
    intro z cz h
    unfold ctb at h
    by_cases h_BadRatio : z = "BadRatio"
    · subst h_BadRatio; rw [if_pos rfl] at h; cases h; exact ⟨_, rfl, ⟨xg_BadRatio, xh_BadRatio, eb_BadRatio, ed_BadRatio, xa_BadRatio, xn, xt, xm_BadRatio⟩, (kit_ref ed_ZeroBottom et_ZeroBottom s_BadRatio_ZeroBottom (fun z => by subst z; exact absurd (s_BadRatio_ZeroBottom.symm.trans s_ZeroBottom_ZeroBottom) (by decide))).trans (congrArg some (by decide))⟩
    rw [if_neg h_BadRatio] at h
    by_cases h_ZeroBottom : z = "ZeroBottom"
    · subst h_ZeroBottom; rw [if_pos rfl] at h; cases h; exact ⟨_, rfl, ⟨xg_ZeroBottom, xh_ZeroBottom, eb_ZeroBottom, ed_ZeroBottom, xa_ZeroBottom, xn, xt, xm_ZeroBottom⟩, (kit_ref ed_ZeroBottom et_ZeroBottom s_ZeroBottom_ZeroBottom (fun _ => rfl)).trans (congrArg some (by decide))⟩
    rw [if_neg h_ZeroBottom] at h
    cases h
  have M : Md K mg aPaidError aBadRatio aZeroBottom := {
      z_ValueError := PySem.W.mg_none_of X G z_ValueError
      z_abs := PySem.W.mg_none_of X G z_abs
      z_bool := PySem.W.mg_none_of X G z_bool
      z_int := PySem.W.mg_none_of X G z_int
      z_isinstance := PySem.W.mg_none_of X G z_isinstance
      z_len := PySem.W.mg_none_of X G z_len
      z_list := PySem.W.mg_none_of X G z_list
      z_range := PySem.W.mg_none_of X G z_range
      z_tuple := PySem.W.mg_none_of X G z_tuple
      i_gcd := PySem.W.mg_of X G i_gcd
      e_PaidError := ⟨PySem.W.mg_of X G ea_PaidError, ex_PaidError, ek_PaidError, eb_PaidError, et_PaidError, ei_PaidError⟩
      e_BadRatio := ⟨PySem.W.mg_of X G ea_BadRatio, ex_BadRatio, ek_BadRatio, eb_BadRatio, et_BadRatio, ei_BadRatio⟩
      e_ZeroBottom := ⟨PySem.W.mg_of X G ea_ZeroBottom, ex_ZeroBottom, ek_ZeroBottom, eb_ZeroBottom, et_ZeroBottom, ei_ZeroBottom⟩
      sb_BadRatio := sb_BadRatio
      sb_ZeroBottom := sb_ZeroBottom
      is_PaidError := is_PaidError
      is_ValueError := is_ValueError
      is_ZeroBottom := is_ZeroBottom }
  have T : Tx K mg aPaidError aBadRatio aZeroBottom := {
      md := M
      d_is_int := defI_mk X G a_is_int l_is_int c_is_int k_is_int (fun _ _ _ _ _ _ us hl => match us, hl with | [_], _ => rfl) (by intro _ _ _ _ _ _ p hp; simp at hp)
      d_lowest := defI_mk X G a_lowest l_lowest c_lowest k_lowest (fun _ _ _ _ _ _ us hl => match us, hl with | [_, _], _ => rfl) (by intro _ _ _ _ _ _ p hp; simp at hp)
      d_is_ratio := defI_mk X G a_is_ratio l_is_ratio c_is_ratio k_is_ratio (fun _ _ _ _ _ _ us hl => match us, hl with | [_], _ => rfl) (by intro _ _ _ _ _ _ p hp; simp at hp)
      d_need_ratio := defI_mk X G a_need_ratio l_need_ratio c_need_ratio k_need_ratio (fun _ _ _ _ _ _ us hl => match us, hl with | [_], _ => rfl) (by intro _ _ _ _ _ _ p hp; simp at hp)
      d_ratio := defI_mk X G a_ratio l_ratio c_ratio k_ratio (fun _ _ _ _ _ _ us hl => match us, hl with | [_, _], _ => rfl) (by
          intro _ _ _ _ _ _ p hp
          simp only [List.mem_cons, List.not_mem_nil, or_false] at hp
          rcases hp with rfl
          · exact fun s ws hl => match ws, hl with | _ :: _ :: _, _ => .of_eq rfl)
      d_plus := defI_mk X G a_plus l_plus c_plus k_plus (fun _ _ _ _ _ _ us hl => match us, hl with | [_, _], _ => rfl) (by
          intro _ _ _ _ _ _ p hp
          simp only [List.mem_cons, List.not_mem_nil, or_false] at hp
          rcases hp with rfl
          · exact fun s ws hl => match ws, hl with | _ :: _ :: _, _ => .of_eq rfl)
      d_minus := defI_mk X G a_minus l_minus c_minus k_minus (fun _ _ _ _ _ _ us hl => match us, hl with | [_, _], _ => rfl) (by
          intro _ _ _ _ _ _ p hp
          simp only [List.mem_cons, List.not_mem_nil, or_false] at hp
          rcases hp with rfl
          · exact fun s ws hl => match ws, hl with | _ :: _ :: _, _ => .of_eq rfl)
      d_product := defI_mk X G a_product l_product c_product k_product (fun _ _ _ _ _ _ us hl => match us, hl with | [_, _], _ => rfl) (by
          intro _ _ _ _ _ _ p hp
          simp only [List.mem_cons, List.not_mem_nil, or_false] at hp
          rcases hp with rfl
          · exact fun s ws hl => match ws, hl with | _ :: _ :: _, _ => .of_eq rfl)
      d_quotient := defI_mk X G a_quotient l_quotient c_quotient k_quotient (fun _ _ _ _ _ _ us hl => match us, hl with | [_, _], _ => rfl) (by
          intro _ _ _ _ _ _ p hp
          simp only [List.mem_cons, List.not_mem_nil, or_false] at hp
          rcases hp with rfl
          · exact fun s ws hl => match ws, hl with | _ :: _ :: _, _ => .of_eq rfl)
      d_below := defI_mk X G a_below l_below c_below k_below (fun _ _ _ _ _ _ us hl => match us, hl with | [_, _], _ => rfl) (by
          intro _ _ _ _ _ _ p hp
          simp only [List.mem_cons, List.not_mem_nil, or_false] at hp
          rcases hp with rfl
          · exact fun s ws hl => match ws, hl with | _ :: _ :: _, _ => .of_eq rfl)
      d__law_gcd := defI_mk X G a__law_gcd l__law_gcd c__law_gcd k__law_gcd (fun _ _ _ _ _ _ us hl => match us, hl with | [_, _], _ => rfl) (by intro _ _ _ _ _ _ p hp; simp at hp)
      d__law_lowest := defI_mk X G a__law_lowest l__law_lowest c__law_lowest k__law_lowest (fun _ _ _ _ _ _ us hl => match us, hl with | [_, _], _ => rfl) (by intro _ _ _ _ _ _ p hp; simp at hp)
      d__law_draw := defI_mk X G a__law_draw l__law_draw c__law_draw k__law_draw (fun _ _ _ _ _ _ us hl => match us, hl with | [_, _], _ => rfl) (by intro _ _ _ _ _ _ p hp; simp at hp)
      d__law_number := defI_mk X G a__law_number l__law_number c__law_number k__law_number (fun _ _ _ _ _ _ us hl => match us, hl with | [_], _ => rfl) (by intro _ _ _ _ _ _ p hp; simp at hp)
      d__law_no_ratio := defI_mk X G a__law_no_ratio l__law_no_ratio c__law_no_ratio k__law_no_ratio (fun _ _ _ _ _ _ us hl => match us, hl with | [_], _ => rfl) (by intro _ _ _ _ _ _ p hp; simp at hp)
      d__law_int := defI_mk X G a__law_int l__law_int c__law_int k__law_int (fun _ _ _ _ _ _ us hl => match us, hl with | [_], _ => rfl) (by intro _ _ _ _ _ _ p hp; simp at hp)
      d__law_well := defI_mk X G a__law_well l__law_well c__law_well k__law_well (fun _ _ _ _ _ _ us hl => match us, hl with | [_, _], _ => rfl) (by intro _ _ _ _ _ _ p hp; simp at hp)
      d__law_truth := defI_mk X G a__law_truth l__law_truth c__law_truth k__law_truth (fun _ _ _ _ _ _ us hl => match us, hl with | [_, _], _ => rfl) (by intro _ _ _ _ _ _ p hp; simp at hp)
      d__law_called := defI_mk X G a__law_called l__law_called c__law_called k__law_called (fun _ _ _ _ _ _ us hl => match us, hl with | [_, _, _], _ => rfl) (by intro _ _ _ _ _ _ p hp; simp at hp)
      d__law_named := defI_mk X G a__law_named l__law_named c__law_named k__law_named (fun _ _ _ _ _ _ us hl => match us, hl with | [_, _, _], _ => rfl) (by intro _ _ _ _ _ _ p hp; simp at hp)
      d__law_word := defI_mk X G a__law_word l__law_word c__law_word k__law_word (fun _ _ _ _ _ _ us hl => match us, hl with | [_, _, _], _ => rfl) (by intro _ _ _ _ _ _ p hp; simp at hp)
      d__law_due := defI_mk X G a__law_due l__law_due c__law_due k__law_due (fun _ _ _ _ _ _ us hl => match us, hl with | [_, _, _], _ => rfl) (by intro _ _ _ _ _ _ p hp; simp at hp)
      d__law_pair := defI_mk X G a__law_pair l__law_pair c__law_pair k__law_pair (fun _ _ _ _ _ _ us hl => match us, hl with | [_], _ => rfl) (by intro _ _ _ _ _ _ p hp; simp at hp)
      d__law_doors := defI_mk X G a__law_doors l__law_doors c__law_doors k__law_doors (fun _ _ _ _ _ _ us hl => match us, hl with | [_, _, _], _ => rfl) (by intro _ _ _ _ _ _ p hp; simp at hp)
      d__law_same := defI_mk X G a__law_same l__law_same c__law_same k__law_same (fun _ _ _ _ _ _ us hl => match us, hl with | [_, _], _ => rfl) (by intro _ _ _ _ _ _ p hp; simp at hp)
      d_law := defI_mk X G a_law l_law c_law k_law (fun _ _ _ _ _ _ us hl => match us, hl with | [_], _ => rfl) (by intro _ _ _ _ _ _ p hp; simp at hp) }
  exact ⟨_, fun s v => .of_eq rfl, fun base _ _ => (law_ok T (fun_mk (st := s_law) l_law c_law k_law)).imp (law_sp law_true)⟩
end K63
open PySem PySem.W PyProof.Rows
set_option maxRecDepth 100000 in
set_option maxHeartbeats 0 in
theorem PySem.Challenge.cw_cellcode_k63_ratios_holds : PySem.Challenge.rw_cellcode_k63_ratios.Holds := by
  w_on; o_law; k_head; (case hw => w_witness2)
  k_fill
  refine PI.walkM (l := PySem.Challenge.rw_cellcode_k63_ratios) (k := 60) rfl rfl ⟨rfl, by decide, by decide⟩ (fun w h Y => PySem.W.kIn_of Y) ?F
  case F =>
    intro w mg fa h KX G hmg
    refine' K63.all_mk KX G hmg ?z_ValueError ?z_abs ?z_bool ?z_int ?z_isinstance ?z_len ?z_list ?z_range ?z_tuple ?i_gcd ?ea_PaidError ?ex_PaidError ?ek_PaidError ?eb_PaidError ?et_PaidError ?ei_PaidError ?ed_PaidError ?ea_BadRatio ?ex_BadRatio ?ek_BadRatio ?eb_BadRatio ?et_BadRatio ?ei_BadRatio ?ed_BadRatio ?ea_ZeroBottom ?ex_ZeroBottom ?ek_ZeroBottom ?eb_ZeroBottom ?et_ZeroBottom ?ei_ZeroBottom ?ed_ZeroBottom ?s_BadRatio_BadRatio ?s_BadRatio_ZeroBottom ?s_BadRatio_PaidError ?s_BadRatio_ValueError ?xg_BadRatio ?xh_BadRatio ?xa_BadRatio ?xm_BadRatio ?s_ZeroBottom_BadRatio ?s_ZeroBottom_ZeroBottom ?s_ZeroBottom_PaidError ?s_ZeroBottom_ValueError ?xg_ZeroBottom ?xh_ZeroBottom ?xa_ZeroBottom ?xm_ZeroBottom ?xn ?xt ?a_is_int ?l_is_int ?c_is_int ?k_is_int ?a_lowest ?l_lowest ?c_lowest ?k_lowest ?a_is_ratio ?l_is_ratio ?c_is_ratio ?k_is_ratio ?a_need_ratio ?l_need_ratio ?c_need_ratio ?k_need_ratio ?a_ratio ?l_ratio ?c_ratio ?k_ratio ?a_plus ?l_plus ?c_plus ?k_plus ?a_minus ?l_minus ?c_minus ?k_minus ?a_product ?l_product ?c_product ?k_product ?a_quotient ?l_quotient ?c_quotient ?k_quotient ?a_below ?l_below ?c_below ?k_below ?a__law_gcd ?l__law_gcd ?c__law_gcd ?k__law_gcd ?a__law_lowest ?l__law_lowest ?c__law_lowest ?k__law_lowest ?a__law_draw ?l__law_draw ?c__law_draw ?k__law_draw ?a__law_number ?l__law_number ?c__law_number ?k__law_number ?a__law_no_ratio ?l__law_no_ratio ?c__law_no_ratio ?k__law_no_ratio ?a__law_int ?l__law_int ?c__law_int ?k__law_int ?a__law_well ?l__law_well ?c__law_well ?k__law_well ?a__law_truth ?l__law_truth ?c__law_truth ?k__law_truth ?a__law_called ?l__law_called ?c__law_called ?k__law_called ?a__law_named ?l__law_named ?c__law_named ?k__law_named ?a__law_word ?l__law_word ?c__law_word ?k__law_word ?a__law_due ?l__law_due ?c__law_due ?k__law_due ?a__law_pair ?l__law_pair ?c__law_pair ?k__law_pair ?a__law_doors ?l__law_doors ?c__law_doors ?k__law_doors ?a__law_same ?l__law_same ?c__law_same ?k__law_same ?a_law ?l_law ?c_law ?k_law
    (case z_ValueError => k_is)
    (case z_abs => k_is)
    (case z_bool => k_is)
    (case z_int => k_is)
    (case z_isinstance => k_is)
    (case z_len => k_is)
    (case z_list => k_is)
    (case z_range => k_is)
    (case z_tuple => k_is)
    (case i_gcd => k_is)
    (case ea_PaidError => k_is)
    (case ex_PaidError => k_exc)
    (case ek_PaidError => k_is)
    (case eb_PaidError => k_is)
    (case et_PaidError => k_is)
    (case ei_PaidError => k_is)
    (case ed_PaidError => k_is)
    (case ea_BadRatio => k_is)
    (case ex_BadRatio => k_exc)
    (case ek_BadRatio => k_is)
    (case eb_BadRatio => k_is)
    (case et_BadRatio => k_is)
    (case ei_BadRatio => k_is)
    (case ed_BadRatio => k_is)
    (case ea_ZeroBottom => k_is)
    (case ex_ZeroBottom => k_exc)
    (case ek_ZeroBottom => k_is)
    (case eb_ZeroBottom => k_is)
    (case et_ZeroBottom => k_is)
    (case ei_ZeroBottom => k_is)
    (case ed_ZeroBottom => k_is)
    (case s_BadRatio_BadRatio => k_is)
    (case s_BadRatio_ZeroBottom => k_is)
    (case s_BadRatio_PaidError => k_is)
    (case s_BadRatio_ValueError => k_is)
    (case xg_BadRatio => k_is)
    (case xh_BadRatio => k_is)
    (case xa_BadRatio => k_is)
    (case xm_BadRatio => k_is)
    (case s_ZeroBottom_BadRatio => k_is)
    (case s_ZeroBottom_ZeroBottom => k_is)
    (case s_ZeroBottom_PaidError => k_is)
    (case s_ZeroBottom_ValueError => k_is)
    (case xg_ZeroBottom => k_is)
    (case xh_ZeroBottom => k_is)
    (case xa_ZeroBottom => k_is)
    (case xm_ZeroBottom => k_is)
    (case xn => k_is)
    (case xt => k_is)
    (case a_is_int => k_is)
    (case l_is_int => k_is)
    (case c_is_int => k_is)
    (case k_is_int => k_is)
    (case a_lowest => k_is)
    (case l_lowest => k_is)
    (case c_lowest => k_is)
    (case k_lowest => k_is)
    (case a_is_ratio => k_is)
    (case l_is_ratio => k_is)
    (case c_is_ratio => k_is)
    (case k_is_ratio => k_is)
    (case a_need_ratio => k_is)
    (case l_need_ratio => k_is)
    (case c_need_ratio => k_is)
    (case k_need_ratio => k_is)
    (case a_ratio => k_is)
    (case l_ratio => k_is)
    (case c_ratio => k_is)
    (case k_ratio => k_is)
    (case a_plus => k_is)
    (case l_plus => k_is)
    (case c_plus => k_is)
    (case k_plus => k_is)
    (case a_minus => k_is)
    (case l_minus => k_is)
    (case c_minus => k_is)
    (case k_minus => k_is)
    (case a_product => k_is)
    (case l_product => k_is)
    (case c_product => k_is)
    (case k_product => k_is)
    (case a_quotient => k_is)
    (case l_quotient => k_is)
    (case c_quotient => k_is)
    (case k_quotient => k_is)
    (case a_below => k_is)
    (case l_below => k_is)
    (case c_below => k_is)
    (case k_below => k_is)
    (case a__law_gcd => k_is)
    (case l__law_gcd => k_is)
    (case c__law_gcd => k_is)
    (case k__law_gcd => k_is)
    (case a__law_lowest => k_is)
    (case l__law_lowest => k_is)
    (case c__law_lowest => k_is)
    (case k__law_lowest => k_is)
    (case a__law_draw => k_is)
    (case l__law_draw => k_is)
    (case c__law_draw => k_is)
    (case k__law_draw => k_is)
    (case a__law_number => k_is)
    (case l__law_number => k_is)
    (case c__law_number => k_is)
    (case k__law_number => k_is)
    (case a__law_no_ratio => k_is)
    (case l__law_no_ratio => k_is)
    (case c__law_no_ratio => k_is)
    (case k__law_no_ratio => k_is)
    (case a__law_int => k_is)
    (case l__law_int => k_is)
    (case c__law_int => k_is)
    (case k__law_int => k_is)
    (case a__law_well => k_is)
    (case l__law_well => k_is)
    (case c__law_well => k_is)
    (case k__law_well => k_is)
    (case a__law_truth => k_is)
    (case l__law_truth => k_is)
    (case c__law_truth => k_is)
    (case k__law_truth => k_is)
    (case a__law_called => k_is)
    (case l__law_called => k_is)
    (case c__law_called => k_is)
    (case k__law_called => k_is)
    (case a__law_named => k_is)
    (case l__law_named => k_is)
    (case c__law_named => k_is)
    (case k__law_named => k_is)
    (case a__law_word => k_is)
    (case l__law_word => k_is)
    (case c__law_word => k_is)
    (case k__law_word => k_is)
    (case a__law_due => k_is)
    (case l__law_due => k_is)
    (case c__law_due => k_is)
    (case k__law_due => k_is)
    (case a__law_pair => k_is)
    (case l__law_pair => k_is)
    (case c__law_pair => k_is)
    (case k__law_pair => k_is)
    (case a__law_doors => k_is)
    (case l__law_doors => k_is)
    (case c__law_doors => k_is)
    (case k__law_doors => k_is)
    (case a__law_same => k_is)
    (case l__law_same => k_is)
    (case c__law_same => k_is)
    (case k__law_same => k_is)
    (case a_law => k_is)
    (case l_law => k_is)
    (case c_law => k_is)
    (case k_law => k_is)
