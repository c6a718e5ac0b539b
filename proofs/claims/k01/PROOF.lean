import PyProof.Rows.All
import Wide.All
import OpenK.AllK
import Wide.FinOn
import HandS.ForMost
import HandS.Flow
import HandS.Wide
import HandS.WideBits
import HandS.Deep
import HandS.IsInst
import HandS.TupAny
import HandS.Conv
import HandS.Evl
import KE.DataCmp
import KE.SortData
import KE.SortKeyHeap

import PySem.Challenge.RW_drawntrue_k01_row_of_fractions

set_option maxHeartbeats 8000000

set_option Elab.async false
set_option linter.all false
set_option maxRecDepth 100000
/-! DL: a layer over HandS in which a def's reading speaks of data alone (no heap): what stands in the slots is data, owned lists may be changed. -/
namespace DL
open PySem L2

abbrev D := PyData
/-- the list at a is read: tracked and not among O, or of the module -/
def ShL (K : PySem.W.Frag) (O : Addr → Prop) (H : Hp) (a : Addr) (xs : List V) : Prop :=
  (¬ O a ∧ Rd H a (.lst xs)) ∨ ∃ (o : Obj) (its : Array Value) (n : Nat), K.lookup a = some o ∧ o.cls = .type "list" ∧ o.dict = none ∧ o.data = .seq its n ∧ its.size ≤ sizeLine ∧ Vals xs its.toList
def ShT (K : PySem.W.Frag) (O : Addr → Prop) (H : Hp) (a : Addr) (xs : List V) : Prop :=
  (¬ O a ∧ Rd H a (.tup xs)) ∨ ∃ (o : Obj) (its : Array Value) (n : Nat), K.lookup a = some o ∧ o.cls = .type "tuple" ∧ o.data = .seq its n ∧ its.size ≤ sizeLine ∧ Vals xs its.toList
/-- whatever is outside O stays -/
def Stp (O : Addr → Prop) (H H' : Hp) : Prop := ∀ b o, ¬ O b → H b = some o → H' b = some o
theorem Stp.refl {O : Addr → Prop} {H : Hp} : Stp O H H := fun _ _ _ h => h
theorem Stp.trans {O : Addr → Prop} {H H1 H2 : Hp} (a : Stp O H H1) (b : Stp O H1 H2) : Stp O H H2 := fun c o n h => b c o n (a c o n h)
theorem Stp.of {O : Addr → Prop} {H H' : Hp} (e : Same H H') : Stp O H H' := fun b o _ h => e b o h
theorem Stp.weak {O O' : Addr → Prop} {H H' : Hp} (e : Stp O H H') (s : ∀ b, O b → O' b) : Stp O' H H' := fun b o n h => e b o (fun z => n (s b z)) h
theorem Stp.rd {O : Addr → Prop} {H H' : Hp} {a : Addr} {u : HO} (e : Stp O H H') (n : ¬ O a) (h : Rd H a u) : Rd H' a u := by
  rcases h with h | ⟨o, h⟩
  · exact .inl (e a _ n h)
  · exact .inr ⟨o, e a _ n h⟩
section
variable {K : PySem.W.Frag} {O O' : Addr → Prop} {H H' : Hp} {a : Addr} {xs : List V}
theorem ShL.sq (h : ShL K O H a xs) : SqL K H a xs := by
  rcases h with ⟨_, h⟩ | h
  · exact .inl h
  · exact .inr h
theorem ShT.sq (h : ShT K O H a xs) : SqT K H a xs := by
  rcases h with ⟨_, h⟩ | h
  · exact .inl h
  · exact .inr h
theorem ShL.mono (e : Stp O H H') (h : ShL K O H a xs) : ShL K O H' a xs := by
  rcases h with ⟨n, h⟩ | h
  · exact .inl ⟨n, e.rd n h⟩
  · exact .inr h
theorem ShT.mono (e : Stp O H H') (h : ShT K O H a xs) : ShT K O H' a xs := by
  rcases h with ⟨n, h⟩ | h
  · exact .inl ⟨n, e.rd n h⟩
  · exact .inr h
theorem ShL.less (s : ∀ b, O' b → O b) (h : ShL K O H a xs) : ShL K O' H a xs := by
  rcases h with ⟨n, h⟩ | h
  · exact .inl ⟨fun z => n (s _ z), h⟩
  · exact .inr h
theorem ShT.less (s : ∀ b, O' b → O b) (h : ShT K O H a xs) : ShT K O' H a xs := by
  rcases h with ⟨n, h⟩ | h
  · exact .inl ⟨fun z => n (s _ z), h⟩
  · exact .inr h
/-- one more address that is not tracked -/
theorem ShL.more {p : Addr} (hp : H p = none) (s : ∀ b, O' b → O b ∨ b = p) (h : ShL K O H a xs) : ShL K O' H a xs := by
  rcases h with ⟨n, h⟩ | h
  · refine .inl ⟨fun z => ?_, h⟩
    rcases s _ z with z | z
    · exact n z
    · subst z
      rcases h with h | ⟨o, h⟩ <;> (rw [hp] at h; cases h)
  · exact .inr h
theorem ShT.more {p : Addr} (hp : H p = none) (s : ∀ b, O' b → O b ∨ b = p) (h : ShT K O H a xs) : ShT K O' H a xs := by
  rcases h with ⟨n, h⟩ | h
  · refine .inl ⟨fun z => ?_, h⟩
    rcases s _ z with z | z
    · exact n z
    · subst z
      rcases h with h | ⟨o, h⟩ <;> (rw [hp] at h; cases h)
  · exact .inr h
end

mutual
/-- the value v is the data d; none of its lists and tuples is among O -/
inductive Rp (K : PySem.W.Frag) (O : Addr → Prop) (H : Hp) : V → D → Prop
  | non : Rp K O H .non .none
  | bl (b : Bool) : Rp K O H (.bl b) (.bool b)
  | int (i : Int) : Rp K O H (.int i) (.int i)
  | str (x : Str) : Rp K O H (.str x) (.str x)
  | lst {a : Addr} {xs : List V} {ds : List D} : ShL K O H a xs → RpA K O H xs ds → Rp K O H (.ref a) (.list ds)
  | tup {a : Addr} {xs : List V} {ds : List D} : ShT K O H a xs → RpA K O H xs ds → Rp K O H (.ref a) (.tuple ds)
inductive RpA (K : PySem.W.Frag) (O : Addr → Prop) (H : Hp) : List V → List D → Prop
  | nil : RpA K O H [] []
  | cons {v : V} {vs : List V} {d : D} {ds : List D} : Rp K O H v d → RpA K O H vs ds → RpA K O H (v :: vs) (d :: ds)
end
section
variable {K : PySem.W.Frag} {O O' : Addr → Prop} {H H' : Hp}
mutual
theorem Rp.map (hl : ∀ a xs, ShL K O H a xs → ShL K O' H' a xs) (ht : ∀ a xs, ShT K O H a xs → ShT K O' H' a xs) : ∀ {d : D} {v : V}, Rp K O H v d → Rp K O' H' v d
  | _, _, .non => .non
  | _, _, .bl b => .bl b
  | _, _, .int i => .int i
  | _, _, .str x => .str x
  | _, _, .lst h r => .lst (hl _ _ h) (RpA.map hl ht r)
  | _, _, .tup h r => .tup (ht _ _ h) (RpA.map hl ht r)
theorem RpA.map (hl : ∀ a xs, ShL K O H a xs → ShL K O' H' a xs) (ht : ∀ a xs, ShT K O H a xs → ShT K O' H' a xs) : ∀ {ds : List D} {vs : List V}, RpA K O H vs ds → RpA K O' H' vs ds
  | _, _, .nil => .nil
  | _, _, .cons h r => .cons (Rp.map hl ht h) (RpA.map hl ht r)
end
theorem Rp.mono {v : V} {d : D} (e : Stp O H H') (h : Rp K O H v d) : Rp K O H' v d := h.map (fun _ _ x => x.mono e) fun _ _ x => x.mono e
theorem RpA.mono {vs : List V} {ds : List D} (e : Stp O H H') (h : RpA K O H vs ds) : RpA K O H' vs ds := h.map (fun _ _ x => x.mono e) fun _ _ x => x.mono e
theorem Rp.less {v : V} {d : D} (s : ∀ b, O' b → O b) (h : Rp K O H v d) : Rp K O' H v d := h.map (fun _ _ x => x.less s) fun _ _ x => x.less s
theorem RpA.less {vs : List V} {ds : List D} (s : ∀ b, O' b → O b) (h : RpA K O H vs ds) : RpA K O' H vs ds := h.map (fun _ _ x => x.less s) fun _ _ x => x.less s
theorem Rp.more {v : V} {d : D} {p : Addr} (hp : H p = none) (s : ∀ b, O' b → O b ∨ b = p) (h : Rp K O H v d) : Rp K O' H v d := h.map (fun _ _ x => x.more hp s) fun _ _ x => x.more hp s
theorem RpA.more {vs : List V} {ds : List D} {p : Addr} (hp : H p = none) (s : ∀ b, O' b → O b ∨ b = p) (h : RpA K O H vs ds) : RpA K O' H vs ds := h.map (fun _ _ x => x.more hp s) fun _ _ x => x.more hp s
mutual
theorem Rp.dp : ∀ {d : D} {v : V}, Rp K O H v d → Dp K H v d
  | _, _, .non => .non
  | _, _, .bl b => .bl b
  | _, _, .int i => .int i
  | _, _, .str x => .str x
  | _, _, .lst h r => .lst h.sq (RpA.dp r)
  | _, _, .tup h r => .tup h.sq (RpA.dp r)
theorem RpA.dp : ∀ {ds : List D} {vs : List V}, RpA K O H vs ds → DpAll K H vs ds
  | _, _, .nil => .nil
  | _, _, .cons h r => .cons (Rp.dp h) (RpA.dp r)
end
theorem RpA.len : ∀ {ds : List D} {vs : List V}, RpA K O H vs ds → vs.length = ds.length
  | _, _, .nil => rfl
  | _, _, .cons _ r => by simp [r.len]
theorem RpA.get : ∀ {ds : List D} {vs : List V} {i : Nat} {d : D}, RpA K O H vs ds → ds[i]? = some d → ∃ v, vs[i]? = some v ∧ Rp K O H v d
  | _, _, i, _, .nil, e => by simp at e
  | _, _, 0, _, .cons h _, e => by
    simp at e
    subst e
    exact ⟨_, rfl, h⟩
  | _, _, i + 1, _, .cons _ r, e => by
    obtain ⟨v, h1, h2⟩ := RpA.get (i := i) r (by simpa using e)
    exact ⟨v, by simpa using h1, h2⟩
theorem RpA.getV : ∀ {ds : List D} {vs : List V} {i : Nat} {v : V}, RpA K O H vs ds → vs[i]? = some v → ∃ d, ds[i]? = some d ∧ Rp K O H v d
  | _, _, i, _, .nil, e => by simp at e
  | _, _, 0, _, .cons h _, e => by
    simp at e
    subst e
    exact ⟨_, rfl, h⟩
  | _, _, i + 1, _, .cons _ r, e => by
    obtain ⟨v, h1, h2⟩ := RpA.getV (i := i) r (by simpa using e)
    exact ⟨v, by simpa using h1, h2⟩
theorem RpA.append : ∀ {ds es : List D} {vs ws : List V}, RpA K O H vs ds → RpA K O H ws es → RpA K O H (vs ++ ws) (ds ++ es)
  | _, _, _, _, .nil, s => s
  | _, _, _, _, .cons h r, s => .cons h (RpA.append r s)
theorem RpA.one {v : V} {d : D} (h : Rp K O H v d) : RpA K O H [v] [d] := .cons h .nil
theorem RpA.set {v : V} {d : D} (h : Rp K O H v d) : ∀ {ds : List D} {vs : List V} (i : Nat), RpA K O H vs ds → RpA K O H (vs.set i v) (ds.set i d)
  | _, _, _, .nil => .nil
  | _, _, 0, .cons _ r => .cons h r
  | _, _, i + 1, .cons q r => .cons q (RpA.set h i r)
theorem RpA.map1 {O1 O2 : Addr → Prop} {H1 H2 : Hp} (h : ∀ v d, Rp K O1 H1 v d → Rp K O2 H2 v d) : ∀ {ds : List D} {vs : List V}, RpA K O1 H1 vs ds → RpA K O2 H2 vs ds
  | _, _, .nil => .nil
  | _, _, .cons q r => .cons (h _ _ q) (RpA.map1 h r)
theorem RpA.ints : ∀ {ns : List Int}, RpA K O H (ns.map V.int) (ns.map PyData.int)
  | [] => .nil
  | n :: ns => .cons (.int n) RpA.ints
theorem RpA.drop : ∀ {ds : List D} {vs : List V} (n : Nat), RpA K O H vs ds → RpA K O H (vs.drop n) (ds.drop n)
  | _, _, 0, r => r
  | _, _, _ + 1, .nil => .nil
  | _, _, n + 1, .cons _ r => RpA.drop n r
theorem RpA.take : ∀ {ds : List D} {vs : List V} (n : Nat), RpA K O H vs ds → RpA K O H (vs.take n) (ds.take n)
  | _, _, 0, _ => .nil
  | _, _, _ + 1, .nil => .nil
  | _, _, n + 1, .cons h r => .cons h (RpA.take n r)
end

/-! ### the state -/
/-- what stands in a slot: nothing that is known; data; a list of the def's own; a list of the caller's that the def changes -/
inductive Sl where
  | no | sh (d : D) | ol (ds : List D) | io (ds : List D)
abbrev Env := List Sl
/-- an activation: the heap at the entry, the addresses that belong to others, the slots that hold the caller's own lists, objects that stay, values that stay -/
structure Act where
  H0 : Hp
  FO : Addr → Prop
  io : List (Nat × Addr)
  keep : List (Addr × HO)
  pin : List (List V × List D)
def own (FO : Addr → Prop) (Ow : Nat → Option Addr) : Addr → Prop := fun a => FO a ∨ ∃ i, Ow i = some a
def RelS (K : PySem.W.Frag) (O : Addr → Prop) (H : Hp) (io : List (Nat × Addr)) (i : Nat) (x : Option (Option V)) (w : Option Addr) : Sl → Prop
  | .no => w = none
  | .sh d => w = none ∧ ∃ v, x = some (some v) ∧ Rp K O H v d
  | .ol ds => ∃ a xs, w = some a ∧ x = some (some (.ref a)) ∧ H a = some (.lst xs) ∧ RpA K O H xs ds ∧ ∀ b, (i, b) ∉ io
  | .io ds => ∃ a xs, w = some a ∧ x = some (some (.ref a)) ∧ H a = some (.lst xs) ∧ RpA K O H xs ds ∧ (i, a) ∈ io
structure Rel (K : PySem.W.Frag) (A : Act) (Ow : Nat → Option Addr) (σ : L2.St) (H : Hp) (ρ : Env) : Prop where
  len : σ.length = ρ.length
  sl : ∀ i s, ρ[i]? = some s → RelS K (own A.FO Ow) H A.io i σ[i]? (Ow i) s
  out : ∀ i, ρ.length ≤ i → Ow i = none
  uniq : ∀ i j a, Ow i = some a → Ow j = some a → i = j
  kept : ∀ b o, (∀ i, (i, b) ∉ A.io) → A.H0 b = some o → H b = some o
  fo : ∀ b, A.FO b → ∃ o, H b = some o
  new : ∀ i a, Ow i = some a → A.H0 a = none ∨ (i, a) ∈ A.io
  nofo : ∀ i a, Ow i = some a → (i, a) ∈ A.io ∨ ¬ A.FO a
  io : ∀ p ∈ A.io, ∃ ds, ρ[p.1]? = some (.io ds)
  one : ∀ i a b, (i, a) ∈ A.io → (i, b) ∈ A.io → a = b
  keep : ∀ p ∈ A.keep, H p.1 = some p.2 ∧ ∀ i, Ow i ≠ some p.1
  pin : ∀ p ∈ A.pin, RpA K (own A.FO Ow) H p.1 p.2
section
variable {K : PySem.W.Frag} {A : Act} {Ow : Nat → Option Addr} {σ : L2.St} {H H' : Hp} {ρ : Env}
theorem RelS.mono {O : Addr → Prop} {io : List (Nat × Addr)} {i : Nat} {x : Option (Option V)} {w : Option Addr} {s : Sl} (e : Stp O H H') (k : ∀ a, w = some a → ∀ xs, H a = some (.lst xs) → H' a = some (.lst xs)) (h : RelS K O H io i x w s) : RelS K O H' io i x w s := by
  cases s with
  | no => exact h
  | sh d =>
    obtain ⟨h1, v, h2, h3⟩ := h
    exact ⟨h1, v, h2, h3.mono e⟩
  | ol ds =>
    obtain ⟨a, xs, h1, h2, h3, h4, h5⟩ := h
    exact ⟨a, xs, h1, h2, k a h1 _ h3, h4.mono e, h5⟩
  | io ds =>
    obtain ⟨a, xs, h1, h2, h3, h4, h5⟩ := h
    exact ⟨a, xs, h1, h2, k a h1 _ h3, h4.mono e, h5⟩
/-- what is owned is tracked -/
theorem Rel.at (R : Rel K A Ow σ H ρ) {i : Nat} {a : Addr} (h : Ow i = some a) : ∃ xs, H a = some (.lst xs) ∧ σ[i]? = some (some (.ref a)) := by
  by_cases hi : i < ρ.length
  · have q := R.sl i ρ[i] (List.getElem?_eq_getElem hi)
    cases e : ρ[i] with
    | no => rw [e] at q; exact absurd (show Ow i = none from q) (by rw [h]; simp)
    | sh d => rw [e] at q; exact absurd q.1 (by rw [h]; simp)
    | ol ds =>
      rw [e] at q
      obtain ⟨b, xs, h1, h2, h3, _⟩ := q
      rw [h] at h1; cases h1
      exact ⟨xs, h3, h2⟩
    | io ds =>
      rw [e] at q
      obtain ⟨b, xs, h1, h2, h3, _⟩ := q
      rw [h] at h1; cases h1
      exact ⟨xs, h3, h2⟩
  · rw [R.out i (by omega)] at h
    cases h
theorem Rel.tracked (R : Rel K A Ow σ H ρ) {a : Addr} (h : own A.FO Ow a) : ∃ o, H a = some o := by
  rcases h with h | ⟨i, h⟩
  · exact R.fo a h
  · obtain ⟨xs, h1, _⟩ := R.at h
    exact ⟨_, h1⟩
theorem Rel.fresh (R : Rel K A Ow σ H ρ) {p : Addr} (hp : H p = none) : ¬ own A.FO Ow p := fun z => by
  obtain ⟨o, e⟩ := R.tracked z
  rw [hp] at e
  cases e
/-- the heap grows -/
theorem Rel.ext (R : Rel K A Ow σ H ρ) (e : Same H H') : Rel K A Ow σ H' ρ where
  len := R.len
  sl := fun i s h => (R.sl i s h).mono (Stp.of e) fun a _ xs q => e a _ q
  out := R.out
  uniq := R.uniq
  kept := fun b o n h => e b o (R.kept b o n h)
  fo := fun b h => let ⟨o, q⟩ := R.fo b h; ⟨o, e b o q⟩
  new := R.new
  nofo := R.nofo
  io := R.io
  one := R.one
  keep := fun p h => ⟨e _ _ (R.keep p h).1, (R.keep p h).2⟩
  pin := fun p h => (R.pin p h).mono (Stp.of e)
theorem io_of_new (R : Rel K A Ow σ H ρ) {i : Nat} {a : Addr} (h : Ow i = some a) {b : Addr} {o : HO} (n : ∀ j, (j, b) ∉ A.io) (hb : A.H0 b = some o) : b ≠ a := fun z => by
  subst z
  rcases R.new i b h with q | q
  · rw [q] at hb; cases hb
  · exact n i q
/-- the list of the slot i is changed (by the def or by a callee) -/
theorem Rel.mut (R : Rel K A Ow σ H ρ) {i : Nat} {a : Addr} {xs : List V} {cs : List D} (h : Ow i = some a) (e : Stp (fun b => b = a) H H') (ha : H' a = some (.lst xs)) (hc : RpA K (own A.FO Ow) H' xs cs) :
    (ρ[i]? = some (.ol ds) → Rel K A Ow σ H' (ρ.set i (.ol cs))) ∧ (ρ[i]? = some (.io ds) → Rel K A Ow σ H' (ρ.set i (.io cs))) := by
  have eo : Stp (own A.FO Ow) H H' := e.weak fun b z => by subst z; exact .inr ⟨i, h⟩
  have base : ∀ s : Sl, RelS K (own A.FO Ow) H' A.io i σ[i]? (Ow i) s → (∀ p ∈ A.io, ∃ ds, (ρ.set i s)[p.1]? = some (.io ds)) → i < ρ.length → Rel K A Ow σ H' (ρ.set i s) := fun s hs hio hi => by
    refine ⟨by rw [List.length_set]; exact R.len, fun j t hj => ?_, fun j hj => R.out j (by rw [List.length_set] at hj; exact hj), R.uniq, fun b o n q => e b o (io_of_new R h n q) (R.kept b o n q), fun b q => ?_, R.new, R.nofo, hio, R.one, fun p hp => ?_, fun p hp => (R.pin p hp).mono eo⟩
    · by_cases hij : i = j
      · subst hij
        rw [List.getElem?_set_self hi] at hj
        cases hj
        exact hs
      · rw [List.getElem?_set_ne hij] at hj
        exact (R.sl j t hj).mono eo fun b hb ys q => e b _ (fun z => hij (R.uniq i j a h (z ▸ hb))) q
    · by_cases z : b = a
      · subst z; exact ⟨_, ha⟩
      · obtain ⟨o, q⟩ := R.fo b q
        exact ⟨o, e b o z q⟩
    · obtain ⟨k1, k2⟩ := R.keep p hp
      exact ⟨e _ _ (fun z => k2 i (z ▸ h)) k1, k2⟩
  refine ⟨fun hs => ?_, fun hs => ?_⟩
  · have hi : i < ρ.length := (List.getElem?_eq_some_iff.mp hs).1
    obtain ⟨b, ys, h1, h2, h3, h4, h5⟩ := R.sl i _ hs
    rw [h] at h1; cases h1
    refine base (.ol cs) ⟨a, xs, h, h2, ha, hc, h5⟩ (fun p hp => ?_) hi
    obtain ⟨es, q⟩ := R.io p hp
    by_cases z : i = p.1
    · rw [← z, hs] at q; cases q
    · exact ⟨es, by rw [List.getElem?_set_ne z]; exact q⟩
  · have hi : i < ρ.length := (List.getElem?_eq_some_iff.mp hs).1
    obtain ⟨b, ys, h1, h2, h3, h4, h5⟩ := R.sl i _ hs
    rw [h] at h1; cases h1
    refine base (.io cs) ⟨a, xs, h, h2, ha, hc, h5⟩ (fun p hp => ?_) hi
    obtain ⟨es, q⟩ := R.io p hp
    by_cases z : i = p.1
    · exact ⟨cs, by rw [← z, List.getElem?_set_self hi]⟩
    · exact ⟨es, by rw [List.getElem?_set_ne z]; exact q⟩
/-- one slot is no more owned -/
def off (Ow : Nat → Option Addr) (i : Nat) : Nat → Option Addr := fun j => if j = i then none else Ow j
theorem off_some {Ow : Nat → Option Addr} {i j : Nat} {a : Addr} (h : off Ow i j = some a) : j ≠ i ∧ Ow j = some a := by
  unfold off at h
  by_cases z : j = i
  · rw [if_pos z] at h; cases h
  · rw [if_neg z] at h; exact ⟨z, h⟩
theorem off_ne {Ow : Nat → Option Addr} {i j : Nat} (h : j ≠ i) : off Ow i j = Ow j := by unfold off; rw [if_neg h]
theorem off_self {Ow : Nat → Option Addr} {i : Nat} : off Ow i i = none := by unfold off; rw [if_pos rfl]
theorem own_off {FO : Addr → Prop} {Ow : Nat → Option Addr} {i : Nat} : ∀ b, own FO (off Ow i) b → own FO Ow b := fun b z => by
  rcases z with z | ⟨j, z⟩
  · exact .inl z
  · exact .inr ⟨j, (off_some z).2⟩
theorem RelS.less {O O' : Addr → Prop} {io : List (Nat × Addr)} {i : Nat} {x : Option (Option V)} {w : Option Addr} {s : Sl} (k : ∀ b, O' b → O b) (h : RelS K O H io i x w s) : RelS K O' H io i x w s := by
  cases s with
  | no => exact h
  | sh d =>
    obtain ⟨h1, v, h2, h3⟩ := h
    exact ⟨h1, v, h2, h3.less k⟩
  | ol ds =>
    obtain ⟨a, xs, h1, h2, h3, h4, h5⟩ := h
    exact ⟨a, xs, h1, h2, h3, h4.less k, h5⟩
  | io ds =>
    obtain ⟨a, xs, h1, h2, h3, h4, h5⟩ := h
    exact ⟨a, xs, h1, h2, h3, h4.less k, h5⟩
/-- the slot i gets something else (that is not owned) -/
theorem Rel.put (R : Rel K A Ow σ H ρ) {i : Nat} {x : Option V} {s : Sl} (hi : ∀ ds, ρ[i]? ≠ some (.io ds)) (hs : RelS K (own A.FO (off Ow i)) H A.io i (some x) none s) : Rel K A (off Ow i) (σ.set i x) H (ρ.set i s) where
  len := by rw [List.length_set, List.length_set]; exact R.len
  sl := fun j t hj => by
    by_cases hij : i = j
    · subst hij
      by_cases hl : i < ρ.length
      · rw [List.getElem?_set_self hl] at hj
        cases hj
        rw [List.getElem?_set_self (by rw [R.len]; exact hl), off_self]
        exact hs
      · rw [List.getElem?_eq_none (by rw [List.length_set]; omega)] at hj
        cases hj
    · rw [List.getElem?_set_ne hij] at hj
      rw [List.getElem?_set_ne hij, off_ne (Ne.symm hij)]
      exact (R.sl j t hj).less own_off
  out := fun j hj => by
    by_cases z : j = i
    · subst z; exact off_self
    · rw [off_ne z]; exact R.out j (by rw [List.length_set] at hj; exact hj)
  uniq := fun j k a h1 h2 => R.uniq j k a (off_some h1).2 (off_some h2).2
  kept := R.kept
  fo := R.fo
  new := fun j a h => R.new j a (off_some h).2
  nofo := fun j a h => R.nofo j a (off_some h).2
  io := fun p hp => by
    obtain ⟨es, q⟩ := R.io p hp
    by_cases z : i = p.1
    · rw [← z] at q; exact absurd q (hi es)
    · exact ⟨es, by rw [List.getElem?_set_ne z]; exact q⟩
  one := R.one
  keep := fun p hp => ⟨(R.keep p hp).1, fun j z => (R.keep p hp).2 j (off_some z).2⟩
  pin := fun p hp => (R.pin p hp).less own_off
/-- .. a new list of its own -/
def onn (Ow : Nat → Option Addr) (i : Nat) (p : Addr) : Nat → Option Addr := fun j => if j = i then some p else Ow j
theorem onn_self {Ow : Nat → Option Addr} {i : Nat} {p : Addr} : onn Ow i p i = some p := by unfold onn; rw [if_pos rfl]
theorem onn_ne {Ow : Nat → Option Addr} {i j : Nat} {p : Addr} (h : j ≠ i) : onn Ow i p j = Ow j := by unfold onn; rw [if_neg h]
theorem own_onn {FO : Addr → Prop} {Ow : Nat → Option Addr} {i : Nat} {p : Addr} : ∀ b, own FO (onn Ow i p) b → own FO Ow b ∨ b = p := fun b z => by
  rcases z with z | ⟨j, z⟩
  · exact .inl (.inl z)
  · by_cases k : j = i
    · subst k; rw [onn_self] at z; cases z; exact .inr rfl
    · rw [onn_ne k] at z; exact .inl (.inr ⟨j, z⟩)
/-- the heap has grown by the list p (not tracked at H), whose items are data; the slot i gets it -/
theorem Rel.putNew (R : Rel K A Ow σ H ρ) {i : Nat} {p : Addr} {xs : List V} {cs : List D} (hi : ∀ ds, ρ[i]? ≠ some (.io ds)) (hl : i < ρ.length) (hp : H p = none) (e : Same H H') (ha : H' p = some (.lst xs)) (hc : RpA K (own A.FO (onn Ow i p)) H' xs cs) (hn : A.H0 p = none) (hio : ∀ b, (i, b) ∉ A.io) :
    Rel K A (onn Ow i p) (σ.set i (some (.ref p))) H' (ρ.set i (.ol cs)) where
  len := by rw [List.length_set, List.length_set]; exact R.len
  sl := fun j t hj => by
    by_cases hij : i = j
    · subst hij
      rw [List.getElem?_set_self hl] at hj
      cases hj
      rw [List.getElem?_set_self (by rw [R.len]; exact hl), onn_self]
      exact ⟨p, xs, rfl, rfl, ha, hc, hio⟩
    · rw [List.getElem?_set_ne hij] at hj
      rw [List.getElem?_set_ne hij, onn_ne (Ne.symm hij)]
      have q := R.sl j t hj
      cases t with
      | no => exact q
      | sh d =>
        obtain ⟨h1, v, h2, h3⟩ := q
        exact ⟨h1, v, h2, (h3.more hp own_onn).mono (Stp.of e)⟩
      | ol ds =>
        obtain ⟨a, ys, h1, h2, h3, h4, h5⟩ := q
        exact ⟨a, ys, h1, h2, e _ _ h3, (h4.more hp own_onn).mono (Stp.of e), h5⟩
      | io ds =>
        obtain ⟨a, ys, h1, h2, h3, h4, h5⟩ := q
        exact ⟨a, ys, h1, h2, e _ _ h3, (h4.more hp own_onn).mono (Stp.of e), h5⟩
  out := fun j hj => by
    rw [List.length_set] at hj
    rw [onn_ne (by omega)]
    exact R.out j hj
  uniq := fun j k a h1 h2 => by
    have key : ∀ m, m ≠ i → Ow m = some p → False := fun m hm z => by
      obtain ⟨_, q, _⟩ := R.at z
      rw [hp] at q; cases q
    by_cases z1 : j = i
    · by_cases z2 : k = i
      · rw [z1, z2]
      · rw [z1, onn_self] at h1
        cases h1
        rw [onn_ne z2] at h2
        exact (key k z2 h2).elim
    · by_cases z2 : k = i
      · rw [z2, onn_self] at h2
        cases h2
        rw [onn_ne z1] at h1
        exact (key j z1 h1).elim
      · rw [onn_ne z1] at h1
        rw [onn_ne z2] at h2
        exact R.uniq j k a h1 h2
  kept := fun b o n h => e b o (R.kept b o n h)
  fo := fun b h => let ⟨o, q⟩ := R.fo b h; ⟨o, e b o q⟩
  new := fun j a h => by
    by_cases z : j = i
    · subst z; rw [onn_self] at h; cases h; exact .inl hn
    · rw [onn_ne z] at h; exact R.new j a h
  nofo := fun j a h => by
    by_cases z : j = i
    · subst z
      rw [onn_self] at h
      cases h
      exact .inr fun q => by
        obtain ⟨o, q⟩ := R.fo _ q
        rw [hp] at q
        cases q
    · rw [onn_ne z] at h
      exact R.nofo j a h
  io := fun q hq => by
    obtain ⟨es, q'⟩ := R.io q hq
    by_cases z : i = q.1
    · rw [← z] at q'; exact absurd q' (hi es)
    · exact ⟨es, by rw [List.getElem?_set_ne z]; exact q'⟩
  one := R.one
  keep := fun q hq => ⟨e _ _ (R.keep q hq).1, fun j z => by
    by_cases k : j = i
    · subst k
      rw [onn_self] at z
      have q1 := (R.keep q hq).1
      rw [← Option.some.inj z, hp] at q1
      cases q1
    · rw [onn_ne k] at z; exact (R.keep q hq).2 j z⟩
  pin := fun q hq => ((R.pin q hq).more hp own_onn).mono (Stp.of e)
/-- the def's own list is from now on read alone -/
theorem Rel.freeze (R : Rel K A Ow σ H ρ) {i : Nat} {cs : List D} (h : ρ[i]? = some (.ol cs)) : Rel K A (off Ow i) σ H (ρ.set i (.sh (.list cs))) := by
  obtain ⟨a, xs, h1, h2, h3, h4, h5⟩ := R.sl i _ h
  have hi : ∀ ds, ρ[i]? ≠ some (.io ds) := fun ds z => by rw [h] at z; cases z
  have q := R.put (i := i) (x := some (.ref a)) (s := .sh (.list cs)) hi ⟨rfl, _, rfl, .lst (.inl ⟨fun z => ?_, .inl h3⟩) (h4.less own_off)⟩
  · have hl : i < σ.length := by
      rw [R.len]
      exact (List.getElem?_eq_some_iff.mp h).1
    have es : σ.set i (some (.ref a)) = σ := by
      rw [List.getElem?_eq_some_iff] at h2
      obtain ⟨_, h2⟩ := h2
      rw [← h2]
      exact List.set_getElem_self hl
    rw [es] at q
    exact q
  · rcases z with z | ⟨j, z⟩
    · rcases R.nofo i a h1 with q | q
      · exact h5 a q
      · exact q z
    · exact (off_some z).1 (R.uniq j i a (off_some z).2 h1)
end

/-! ### judgements: a PE whose reading speaks of data -/
abbrev DE := Env → (D → Env → Prop) → Prop
abbrev DT := Env → (Bool → Env → Prop) → Prop
abbrev DA := Env → (List D → Env → Prop) → Prop
abbrev DF := Env → (List D → Env → Prop) → Prop
structure DEnds where
  nx : Env → Prop
  rt : D → Env → Prop
  bk : Env → Prop := fun _ => False
  ct : Env → Prop := fun _ => False
  rf : List D → Env → Prop := fun _ _ => False
abbrev DS := DEnds → Env → Prop
/-- p belongs to others -/
def Act.fo (A : Act) (p : Addr) : Act := { A with FO := fun b => A.FO b ∨ b = p }
/-- p is new: it was not there at the entry, nobody holds it -/
structure Nw (A : Act) (Ow : Nat → Option Addr) (p : Addr) : Prop where
  h0 : A.H0 p = none
  no : ¬ own A.FO Ow p
  kp : ∀ q ∈ A.keep, q.1 ≠ p
def lam (K : PySem.W.Frag) (te : DE) : TE := fun σ H Q => ∃ A Ow ρ R, Rel K A Ow σ H ρ ∧ te ρ R ∧ ∀ v H' d ρ', Stp (own A.FO Ow) H H' → Rel K A Ow σ H' ρ' → Rp K (own A.FO Ow) H' v d → R d ρ' → Q v H'
def lamT (K : PySem.W.Frag) (tt : DT) : TT := fun σ H Q => ∃ A Ow ρ R, Rel K A Ow σ H ρ ∧ tt ρ R ∧ ∀ b H' ρ', Stp (own A.FO Ow) H H' → Rel K A Ow σ H' ρ' → R b ρ' → Q b H'
def lamA (K : PySem.W.Frag) (ta : DA) : TA := fun σ H Q => ∃ A Ow ρ R, Rel K A Ow σ H ρ ∧ ta ρ R ∧ ∀ vs H' ds ρ', Stp (own A.FO Ow) H H' → Rel K A Ow σ H' ρ' → RpA K (own A.FO Ow) H' vs ds → R ds ρ' → Q vs H'
/-- a new list -/
def lamF (K : PySem.W.Frag) (tf : DF) : TE := fun σ H Q => ∃ A Ow ρ R, Rel K A Ow σ H ρ ∧ tf ρ R ∧ ∀ p H' xs cs ρ', Stp (own A.FO Ow) H H' → Nw A Ow p → H' p = some (.lst xs) → Rel K (A.fo p) Ow σ H' ρ' → RpA K (own (A.fo p).FO Ow) H' xs cs → R cs ρ' → Q (.ref p) H'
def lamS (K : PySem.W.Frag) (ts : DS) : TS := fun D σ H => ∃ A Ow ρ DD, Rel K A Ow σ H ρ ∧ ts DD ρ ∧ (∀ Ow' σ' H' ρ', Rel K A Ow' σ' H' ρ' → DD.nx ρ' → D.nx σ' H') ∧ (∀ Ow' σ' H' ρ', Rel K A Ow' σ' H' ρ' → DD.bk ρ' → D.bk σ' H') ∧
  (∀ Ow' σ' H' ρ', Rel K A Ow' σ' H' ρ' → DD.ct ρ' → D.ct σ' H') ∧ ((∀ Ow' σ' H' ρ' v d, Rel K A Ow' σ' H' ρ' → Rp K (own A.FO Ow') H' v d → DD.rt d ρ' → D.rt v H') ∧
  ∀ Ow' σ' H' ρ' p xs cs, Nw A Ow' p → H' p = some (.lst xs) → Rel K (A.fo p) Ow' σ' H' ρ' → RpA K (own (A.fo p).FO Ow') H' xs cs → DD.rf cs ρ' → D.rt (.ref p) H')
def QE (X : Cx) (e : Expr) (te : DE) : Prop := PE X e (lam X.K te)
def QT (X : Cx) (e : Expr) (tt : DT) : Prop := PT X e (lamT X.K tt)
def QW (X : Cx) (e : Expr) (tt : DT) : Prop := PW X e (lamT X.K tt)
def QA (X : Cx) (es : List Expr) (ta : DA) : Prop := PA X es (lamA X.K ta)
def QF (X : Cx) (e : Expr) (tf : DF) : Prop := PE X e (lamF X.K tf)
def QS (X : Cx) (st : Stmt) (ts : DS) : Prop := PS X st (lamS X.K ts)
def QSs (X : Cx) (st : List Stmt) (ts : DS) : Prop := PSs X st (lamS X.K ts)
section
variable {X : Cx} {e : Expr}
theorem pe_less {t t' : TE} (h : PE X e t) (k : ∀ σ H Q, t' σ H Q → t σ H Q) : PE X e t' := ⟨fun pins s σ H Q I q => h.run pins s σ H Q I (k σ H Q q)⟩
theorem pt_less {t t' : TT} (h : PT X e t) (k : ∀ σ H Q, t' σ H Q → t σ H Q) : PT X e t' := ⟨fun pins s σ H Q I q => h.run pins s σ H Q I (k σ H Q q)⟩
theorem pw_less {t t' : TT} (h : PW X e t) (k : ∀ σ H Q, t' σ H Q → t σ H Q) : PW X e t' := ⟨fun wh pins s σ H Q I q => h.run wh pins s σ H Q I (k σ H Q q)⟩
theorem pa_less {es : List Expr} {t t' : TA} (h : PA X es t) (k : ∀ σ H Q, t' σ H Q → t σ H Q) : PA X es t' := ⟨fun pos pins s σ H Q I q => h.run pos pins s σ H Q I (k σ H Q q)⟩
theorem ps_less {st : Stmt} {t t' : TS} (h : PS X st t) (k : ∀ D σ H, t' D σ H → t D σ H) : PS X st t' := ⟨fun pins s σ H D I q => h.run pins s σ H D I (k D σ H q)⟩
theorem pss_less {st : List Stmt} {t t' : TS} (h : PSs X st t) (k : ∀ D σ H, t' D σ H → t D σ H) : PSs X st t' := ⟨fun pins s σ H D I q => h.run pins s σ H D I (k D σ H q)⟩
end

/-! ### the primitive steps of the state -/
section
variable {K : PySem.W.Frag} {A : Act} {Ow : Nat → Option Addr} {σ : L2.St} {H H' : Hp} {ρ : Env}
theorem own_fo {p : Addr} : ∀ b, own (A.fo p).FO Ow b → own A.FO Ow b ∨ b = p := fun b z => by
  rcases z with (z | z) | z
  · exact .inl (.inl z)
  · exact .inr z
  · exact .inl (.inr z)
theorem own_fo' {p : Addr} : ∀ b, own A.FO Ow b → own (A.fo p).FO Ow b := fun b z => by
  rcases z with z | z
  · exact .inl (.inl z)
  · exact .inr z
/-- a new object p; p is to be nobody's -/
theorem Rel.alloc (R : Rel K A Ow σ H ρ) {p : Addr} (hp : H p = none) (e : Same H H') (ht : ∃ o, H' p = some o) : Rel K (A.fo p) Ow σ H' ρ where
  len := R.len
  sl := fun i s h => by
    have q := R.sl i s h
    cases s with
    | no => exact q
    | sh d =>
      obtain ⟨h1, v, h2, h3⟩ := q
      exact ⟨h1, v, h2, (h3.more hp own_fo).mono (Stp.of e)⟩
    | ol ds =>
      obtain ⟨a, xs, h1, h2, h3, h4, h5⟩ := q
      exact ⟨a, xs, h1, h2, e _ _ h3, (h4.more hp own_fo).mono (Stp.of e), h5⟩
    | io ds =>
      obtain ⟨a, xs, h1, h2, h3, h4, h5⟩ := q
      exact ⟨a, xs, h1, h2, e _ _ h3, (h4.more hp own_fo).mono (Stp.of e), h5⟩
  out := R.out
  uniq := R.uniq
  kept := fun b o n h => e b o (R.kept b o n h)
  fo := fun b h => by
    rcases h with h | h
    · obtain ⟨o, q⟩ := R.fo b h
      exact ⟨o, e b o q⟩
    · subst h; exact ht
  new := R.new
  nofo := fun i a h => by
    rcases R.nofo i a h with q | q
    · exact .inl q
    · refine .inr fun z => ?_
      rcases z with z | z
      · exact q z
      · subst z
        obtain ⟨_, k, _⟩ := R.at h
        rw [hp] at k; cases k
  io := R.io
  one := R.one
  keep := fun p h => ⟨e _ _ (R.keep p h).1, (R.keep p h).2⟩
  pin := fun q h => ((R.pin q h).more hp own_fo).mono (Stp.of e)
theorem Rel.unfo {p : Addr} (R : Rel K (A.fo p) Ow σ H ρ) : Rel K A Ow σ H ρ where
  len := R.len
  sl := fun i s h => (R.sl i s h).less own_fo'
  out := R.out
  uniq := R.uniq
  kept := R.kept
  fo := fun b h => R.fo b (.inl h)
  new := R.new
  nofo := fun i a h => (R.nofo i a h).imp id fun q z => q (.inl z)
  io := R.io
  one := R.one
  keep := R.keep
  pin := fun q h => (R.pin q h).less own_fo'
/-- a new list that nobody holds goes into the slot i -/
theorem Rel.take {p : Addr} (R : Rel K (A.fo p) Ow σ H ρ) {i : Nat} {xs : List V} {cs : List D} (hi : ∀ ds, ρ[i]? ≠ some (.io ds)) (hl : i < ρ.length) (np : Nw A Ow p) (ha : H p = some (.lst xs)) (hc : RpA K (own (A.fo p).FO Ow) H xs cs) :
    Rel K A (onn Ow i p) (σ.set i (some (.ref p))) H (ρ.set i (.ol cs)) := by
  have lessO : ∀ b, own A.FO (onn Ow i p) b → own (A.fo p).FO Ow b := fun b z => by
    rcases own_onn b z with z | z
    · exact own_fo' b z
    · exact .inl (.inr z)
  have hp := np.no
  have hn := np.h0
  have np' : ∀ j, Ow j ≠ some p := fun j z => hp (.inr ⟨j, z⟩)
  have hio : ∀ b, (i, b) ∉ A.io := fun b hb => by
    obtain ⟨ds, q⟩ := R.io _ hb
    exact hi ds q
  refine ⟨by rw [List.length_set, List.length_set]; exact R.len, fun j t hj => ?_, fun j hj => ?_, fun j k a h1 h2 => ?_, R.kept, fun b h => R.fo b (.inl h), fun j a h => ?_, fun j a h => ?_, fun q hq => ?_, R.one, fun q hq => ⟨(R.keep q hq).1, fun j z => ?_⟩, fun q hq => (R.pin q hq).less lessO⟩
  · by_cases hij : i = j
    · subst hij
      rw [List.getElem?_set_self hl] at hj
      cases hj
      rw [List.getElem?_set_self (by rw [R.len]; exact hl), onn_self]
      exact ⟨p, xs, rfl, rfl, ha, hc.less lessO, hio⟩
    · rw [List.getElem?_set_ne hij] at hj
      rw [List.getElem?_set_ne hij, onn_ne (Ne.symm hij)]
      exact (R.sl j t hj).less lessO
  · rw [List.length_set] at hj
    rw [onn_ne (by omega)]
    exact R.out j hj
  · by_cases z1 : j = i
    · by_cases z2 : k = i
      · rw [z1, z2]
      · rw [z1, onn_self] at h1
        cases h1
        rw [onn_ne z2] at h2
        exact (np' k h2).elim
    · by_cases z2 : k = i
      · rw [z2, onn_self] at h2
        cases h2
        rw [onn_ne z1] at h1
        exact (np' j h1).elim
      · rw [onn_ne z1] at h1
        rw [onn_ne z2] at h2
        exact R.uniq j k a h1 h2
  · by_cases z : j = i
    · subst z; rw [onn_self] at h; cases h; exact .inl hn
    · rw [onn_ne z] at h; exact R.new j a h
  · by_cases z : j = i
    · subst z; rw [onn_self] at h; cases h
      exact .inr fun q => hp (.inl q)
    · rw [onn_ne z] at h
      exact (R.nofo j a h).imp id fun q z => q (.inl z)
  · obtain ⟨es, q'⟩ := R.io q hq
    by_cases z : i = q.1
    · rw [← z] at q'; exact absurd q' (hi es)
    · exact ⟨es, by rw [List.getElem?_set_ne z]; exact q'⟩
  · by_cases k : j = i
    · subst k
      rw [onn_self] at z
      exact np.kp q hq (Option.some.inj z).symm
    · rw [onn_ne k] at z; exact (R.keep q hq).2 j z

theorem Rel.nw (R : Rel K A Ow σ H ρ) {p : Addr} (hp : H p = none) : Nw A Ow p where
  h0 := by
    cases q : A.H0 p with
    | none => rfl
    | some o =>
      by_cases h : ∃ i, (i, p) ∈ A.io
      · obtain ⟨i, h⟩ := h
        obtain ⟨ds, e⟩ := R.io _ h
        obtain ⟨a, xs, h1, h2, h3, h4, h5⟩ := R.sl i _ e
        have z := R.one i a p h5 h
        rw [z, hp] at h3
        cases h3
      · have z := R.kept p o (fun i hi => h ⟨i, hi⟩) q
        rw [hp] at z
        cases z
  no := R.fresh hp
  kp := fun q hq z => by
    have k := (R.keep q hq).1
    rw [z, hp] at k
    cases k
theorem Rel.pins (R : Rel K A Ow σ H ρ) {P : List (List V × List D)} (h : ∀ p ∈ P, RpA K (own A.FO Ow) H p.1 p.2) : Rel K { A with pin := P ++ A.pin } Ow σ H ρ :=
  ⟨R.len, R.sl, R.out, R.uniq, R.kept, R.fo, R.new, R.nofo, R.io, R.one, R.keep, fun p hp => (List.mem_append.mp hp).elim (h p) (R.pin p)⟩
theorem Rel.unpin {P : List (List V × List D)} (R : Rel K { A with pin := P ++ A.pin } Ow σ H ρ) : Rel K A Ow σ H ρ :=
  ⟨R.len, R.sl, R.out, R.uniq, R.kept, R.fo, R.new, R.nofo, R.io, R.one, R.keep, fun p hp => R.pin p (List.mem_append_right _ hp)⟩
theorem Rel.nil (R : Rel K A Ow σ H ρ) : Rel K { A with pin := [] ++ A.pin } Ow σ H ρ := R.pins fun _ z => nomatch z
/-- what is new is data as well -/
theorem Nw.rp {p : Addr} {xs : List V} {cs : List D} (n : Nw A Ow p) (h : H p = some (.lst xs)) (hc : RpA K (own (A.fo p).FO Ow) H xs cs) : Rp K (own A.FO Ow) H (.ref p) (.list cs) :=
  .lst (.inl ⟨n.no, .inl h⟩) (hc.less own_fo')
theorem Same.new {p : Addr} {o : HO} (h : H p = none) : Same H (upd H p o) := fun b u e => by
  rw [upd_ne (ne_of_none e h)]
  exact e
end

/-! ### expressions -/
section
variable {X : Cx} {e : Expr} {pos : Pos}
def dVar (i : Nat) : DE := fun ρ Q => match ρ[i]? with
  | some (.sh d) => Q d ρ
  | _ => False
theorem qe_var (i : Nat) {x : Str} (hN : X.N[i]? = some x := by rfl) (hv : Vis X.env.scope x := by first | exact Or.inl rfl | exact Or.inr (Or.inl rfl) | exact Or.inr (Or.inr rfl)) (hd : (x == ("__debug__" : Str)) = false := by decide)
    (hcd : (x == ("__classdict__" : Str)) = false := by decide) : QE X (.Name x pos) (dVar i) := pe_less (pv i hN hv hd hcd) fun σ H Q ⟨A, Ow, ρ, R, rel, h, k⟩ => by
  unfold dVar at h
  split at h
  · rename_i d hs
    obtain ⟨_, v, h1, h2⟩ := rel.sl i _ hs
    exact ⟨v, h1, k v H d ρ Stp.refl rel h2 h⟩
  · exact h.elim
def dC (d : D) : DE := fun ρ Q => Q d ρ
theorem qe_cst {v : V} {d : D} (h : PE X e (tC v)) (r : ∀ K O H, Rp K O H v d) : QE X e (dC d) := pe_less h fun σ H Q ⟨A, Ow, ρ, R, rel, h, k⟩ => k v H d ρ Stp.refl rel (r _ _ _) h
theorem qe_int {i j} : QE X (.Constant (.int i) j pos) (dC (.int i)) := qe_cst pe_int fun _ _ _ => .int i
theorem qe_bl {b j} : QE X (.Constant (.bool b) j pos) (dC (.bool b)) := qe_cst pe_bl fun _ _ _ => .bl b
theorem qe_non {j} : QE X (.Constant .none j pos) (dC .none) := qe_cst pe_non fun _ _ _ => .non
theorem qe_str {x j} : QE X (.Constant (.str x) j pos) (dC (.str x)) := qe_cst pe_str fun _ _ _ => .str x
/-- operations on values: r on values, rd on data -/
def Lift2 (K : PySem.W.Frag) (r : R2) (rd : D → D → (D → Prop) → Prop) : Prop := ∀ (O : Addr → Prop) (H : Hp) (x y : V) (d e : D) (R : D → Prop) (Q : VK), (∀ a, O a → ∃ o, H a = some o) → Rp K O H x d → Rp K O H y e → rd d e R → (∀ v H' z, Same H H' → Rp K O H' v z → R z → Q v H') → r x y H Q
def Lift1 (K : PySem.W.Frag) (r : V → Hp → VK → Prop) (rd : D → (D → Prop) → Prop) : Prop := ∀ (O : Addr → Prop) (H : Hp) (x : V) (d : D) (R : D → Prop) (Q : VK), (∀ a, O a → ∃ o, H a = some o) → Rp K O H x d → rd d R → (∀ v H' z, Same H H' → Rp K O H' v z → R z → Q v H') → r x H Q
def LiftC (K : PySem.W.Frag) (r : List V → Hp → VK → Prop) (rd : List D → (D → Prop) → Prop) : Prop := ∀ (O : Addr → Prop) (H : Hp) (xs : List V) (ds : List D) (R : D → Prop) (Q : VK), (∀ a, O a → ∃ o, H a = some o) → RpA K O H xs ds → rd ds R → (∀ v H' z, Same H H' → Rp K O H' v z → R z → Q v H') → r xs H Q
def dOp (rd : D → D → (D → Prop) → Prop) (ta tb : DE) : DE := fun ρ Q => ta ρ fun d ρ1 => tb ρ1 fun e ρ2 => rd d e fun z => Q z ρ2
theorem lam_op {r : R2} {rd : D → D → (D → Prop) → Prop} {ta tb : DE} {K : PySem.W.Frag} (hr : Lift2 K r rd) (σ : L2.St) (H : Hp) (Q : VK) : lam K (dOp rd ta tb) σ H Q → tOp r (lam K ta) (lam K tb) σ H Q := fun ⟨A, Ow, ρ, R, rel, h, k⟩ =>
  ⟨A, Ow, ρ, _, rel, h, fun x H1 d ρ1 e1 rel1 rp1 h1 => ⟨A, Ow, ρ1, _, rel1, h1, fun y H2 e ρ2 e2 rel2 rp2 h2 =>
    hr (own A.FO Ow) H2 x y d e _ Q (fun a ha => rel2.tracked ha) (rp1.mono e2) rp2 h2 fun v H3 z e3 rp3 q3 => k v H3 z ρ2 ((e1.trans e2).trans (Stp.of e3)) (rel2.ext e3) rp3 q3⟩⟩
theorem qe_op {op : Operator} {r : R2} {rd : D → D → (D → Prop) → Prop} {a b : Expr} {ta tb : DE} (ho : OpR X (binaryOp op) r) (hr : Lift2 X.K r rd) (ha : QE X a ta) (hb : QE X b tb) : QE X (.BinOp a op b pos) (dOp rd ta tb) := pe_less (pe_op ho ha hb) (lam_op hr)
theorem qe_cmpR {op : CmpOp} {r : R2} {rd : D → D → (D → Prop) → Prop} {a b : Expr} {ta tb : DE} (ho : OpR X (compareOp op) r) (hr : Lift2 X.K r rd) (ha : QE X a ta) (hb : QE X b tb) (hm : behindInMarks op b = false) : QE X (.Compare a [op] [b] pos) (dOp rd ta tb) := pe_less (pe_cmpR ho ha hb hm) (lam_op hr)
def dTest (te : DE) : DT := fun ρ Q => te ρ fun d ρ' => ∃ b, d = .bool b ∧ Q b ρ'
theorem rp_bool {K : PySem.W.Frag} {O : Addr → Prop} {H : Hp} {v : V} {b : Bool} (h : Rp K O H v (.bool b)) : v = .bl b := by cases h; rfl
theorem rp_int {K : PySem.W.Frag} {O : Addr → Prop} {H : Hp} {v : V} {i : Int} (h : Rp K O H v (.int i)) : v = .int i := by cases h; rfl
theorem rp_str {K : PySem.W.Frag} {O : Addr → Prop} {H : Hp} {v : V} {x : Str} (h : Rp K O H v (.str x)) : v = .str x := by cases h; rfl
theorem rp_non {K : PySem.W.Frag} {O : Addr → Prop} {H : Hp} {v : V} (h : Rp K O H v .none) : v = .non := by cases h; rfl
theorem lam_test {te : DE} {K : PySem.W.Frag} (σ : L2.St) (H : Hp) (Q : Bool → Hp → Prop) : lamT K (dTest te) σ H Q → (lam K te) σ H fun x H' => ∃ k, x = .bl k ∧ Q k H' := fun ⟨A, Ow, ρ, R, rel, h, k⟩ =>
  ⟨A, Ow, ρ, _, rel, h, fun v H' d ρ' e' rel' rp' ⟨b, hb, h'⟩ => ⟨b, rp_bool (hb ▸ rp'), k b H' ρ' e' rel' h'⟩⟩
theorem qt_cmpR {op : CmpOp} {r : R2} {rd : D → D → (D → Prop) → Prop} {a b : Expr} {ta tb : DE} (ho : OpR X (compareOp op) r) (hr : Lift2 X.K r rd) (ha : QE X a ta) (hb : QE X b tb) (hm : behindInMarks op b = false) : QT X (.Compare a [op] [b] pos) (dTest (dOp rd ta tb)) :=
  pt_less (pt_cmpR ho ha hb hm) fun σ H Q h => by
    obtain ⟨A, Ow, ρ, R, rel, h, k⟩ := lam_test σ H Q h
    exact lam_op hr σ H _ ⟨A, Ow, ρ, R, rel, h, k⟩
theorem qt_val {te : DE} (h : QE X e te) (he : ∀ whole, isTrue e X.env whole = (do let v ← whole; standAt e.pos; holding [v] (truthy v)) := by intro _; rfl) : QT X e (dTest te) := pt_less (pt_val h he) lam_test
theorem qe_un {op : UnaryOp} {a : Expr} {ta : DE} {r : V → Hp → VK → Prop} {rd : D → (D → Prop) → Prop} (ho : UnR X (unaryOp op) r) (hr : Lift1 X.K r rd) (ha : QE X a ta) : QE X (.UnaryOp op a pos) (fun ρ Q => ta ρ fun d ρ1 => rd d fun z => Q z ρ1) :=
  pe_less (pe_un ho ha) fun σ H Q ⟨A, Ow, ρ, R, rel, h, k⟩ => ⟨A, Ow, ρ, _, rel, h, fun x H1 d ρ1 e1 rel1 rp1 h1 =>
    hr (own A.FO Ow) H1 x d _ Q (fun a ha => rel1.tracked ha) rp1 h1 fun v H3 z e3 rp3 q3 => k v H3 z ρ1 (e1.trans (Stp.of e3)) (rel1.ext e3) rp3 q3⟩
/-! and, or, not, if -/
def dAnd (t u : DT) : DT := fun ρ Q => t ρ fun c ρ1 => (c = true → u ρ1 Q) ∧ (c = false → Q false ρ1)
def dOr (t u : DT) : DT := fun ρ Q => t ρ fun c ρ1 => (c = true → Q true ρ1) ∧ (c = false → u ρ1 Q)
def dNot (t : DT) : DT := fun ρ Q => t ρ fun c ρ1 => Q (!c) ρ1
variable {a b : Expr} {rest : List Expr} {t u : DT} {ta tb : DE}
theorem qw_and1 (ha : QT X a t) : QW X (.BoolOp .And [a] pos) t := pw_and1 ha
theorem qw_or1 (ha : QT X a t) : QW X (.BoolOp .Or [a] pos) t := pw_or1 ha
theorem qw_and (ha : QT X a t) (hb : QW X (.BoolOp .And (b :: rest) pos) u) : QW X (.BoolOp .And (a :: b :: rest) pos) (dAnd t u) := pw_less (pw_and ha hb) fun σ H Q ⟨A, Ow, ρ, R, rel, h, k⟩ =>
  ⟨A, Ow, ρ, _, rel, h, fun c H1 ρ1 e1 rel1 ⟨h1, h2⟩ => by
    cases c with
    | true => exact (if_pos rfl).mpr ⟨A, Ow, ρ1, R, rel1, h1 rfl, fun b H2 ρ2 e2 rel2 h2 => k b H2 ρ2 (e1.trans e2) rel2 h2⟩
    | false => exact (if_neg Bool.false_ne_true).mpr (k false H1 ρ1 e1 rel1 (h2 rfl))⟩
theorem qw_or (ha : QT X a t) (hb : QW X (.BoolOp .Or (b :: rest) pos) u) : QW X (.BoolOp .Or (a :: b :: rest) pos) (dOr t u) := pw_less (pw_or ha hb) fun σ H Q ⟨A, Ow, ρ, R, rel, h, k⟩ =>
  ⟨A, Ow, ρ, _, rel, h, fun c H1 ρ1 e1 rel1 ⟨h1, h2⟩ => by
    cases c with
    | true => exact (if_pos rfl).mpr (k true H1 ρ1 e1 rel1 (h1 rfl))
    | false => exact (if_neg Bool.false_ne_true).mpr ⟨A, Ow, ρ1, R, rel1, h2 rfl, fun b H2 ρ2 e2 rel2 h2 => k b H2 ρ2 (e1.trans e2) rel2 h2⟩⟩
theorem qt_bool (h : QW X e t) : QT X e t := PW.pt h
theorem qt_not (ha : QT X a t) : QT X (.UnaryOp .Not a pos) (dNot t) := pt_less (pt_not ha) fun σ H Q ⟨A, Ow, ρ, R, rel, h, k⟩ =>
  ⟨A, Ow, ρ, _, rel, h, fun c H1 ρ1 e1 rel1 h1 => k (!c) H1 ρ1 e1 rel1 h1⟩
/-- as values (bools) -/
def dAndV (ta tb : DE) : DE := fun ρ Q => ta ρ fun d ρ1 => ∃ c, d = .bool c ∧ (c = true → tb ρ1 Q) ∧ (c = false → Q (.bool false) ρ1)
def dOrV (ta tb : DE) : DE := fun ρ Q => ta ρ fun d ρ1 => ∃ c, d = .bool c ∧ (c = true → Q (.bool true) ρ1) ∧ (c = false → tb ρ1 Q)
def dNotV (ta : DE) : DE := fun ρ Q => ta ρ fun d ρ1 => ∃ c, d = .bool c ∧ Q (.bool !c) ρ1
theorem qe_one {op} (h : QE X a ta) : QE X (.BoolOp op [a] pos) ta := pe_one h
theorem qe_and (ha : QE X a ta) (hb : QE X (.BoolOp .And (b :: rest) pos) tb) : QE X (.BoolOp .And (a :: b :: rest) pos) (dAndV ta tb) := pe_less (pe_and ha hb) fun σ H Q ⟨A, Ow, ρ, R, rel, h, k⟩ =>
  ⟨A, Ow, ρ, _, rel, h, fun x H1 d ρ1 e1 rel1 rp1 ⟨c, hc, h1, h2⟩ => ⟨c, rp_bool (hc ▸ rp1), by
    cases c with
    | true => exact (if_pos rfl).mpr ⟨A, Ow, ρ1, R, rel1, h1 rfl, fun v H2 z ρ2 e2 rel2 rp2 h2 => k v H2 z ρ2 (e1.trans e2) rel2 rp2 h2⟩
    | false => exact (if_neg Bool.false_ne_true).mpr (k _ H1 _ ρ1 e1 rel1 (.bl false) (h2 rfl))⟩⟩
theorem qe_or (ha : QE X a ta) (hb : QE X (.BoolOp .Or (b :: rest) pos) tb) : QE X (.BoolOp .Or (a :: b :: rest) pos) (dOrV ta tb) := pe_less (pe_or ha hb) fun σ H Q ⟨A, Ow, ρ, R, rel, h, k⟩ =>
  ⟨A, Ow, ρ, _, rel, h, fun x H1 d ρ1 e1 rel1 rp1 ⟨c, hc, h1, h2⟩ => ⟨c, rp_bool (hc ▸ rp1), by
    cases c with
    | true => exact (if_pos rfl).mpr (k _ H1 _ ρ1 e1 rel1 (.bl true) (h1 rfl))
    | false => exact (if_neg Bool.false_ne_true).mpr ⟨A, Ow, ρ1, R, rel1, h2 rfl, fun v H2 z ρ2 e2 rel2 rp2 h2 => k v H2 z ρ2 (e1.trans e2) rel2 rp2 h2⟩⟩⟩
theorem qe_not (ha : QE X a ta) : QE X (.UnaryOp .Not a pos) (dNotV ta) := pe_less (pe_not ha) fun σ H Q ⟨A, Ow, ρ, R, rel, h, k⟩ =>
  ⟨A, Ow, ρ, _, rel, h, fun x H1 d ρ1 e1 rel1 rp1 ⟨c, hc, h1⟩ => ⟨c, rp_bool (hc ▸ rp1), k _ H1 _ ρ1 e1 rel1 (.bl _) h1⟩⟩
def dIf (t : DT) (ta tb : DE) : DE := fun ρ Q => t ρ fun c ρ1 => (c = true → ta ρ1 Q) ∧ (c = false → tb ρ1 Q)
theorem qe_if {c : Expr} (hc : QT X c t) (ha : QE X a ta) (hb : QE X b tb) : QE X (.IfExp c a b pos) (dIf t ta tb) := pe_less (pe_ifExp hc ha hb) fun σ H Q ⟨A, Ow, ρ, R, rel, h, k⟩ =>
  ⟨A, Ow, ρ, _, rel, h, fun c H1 ρ1 e1 rel1 ⟨h1, h2⟩ => by
    cases c with
    | true => exact (if_pos rfl).mpr ⟨A, Ow, ρ1, R, rel1, h1 rfl, fun v H2 z ρ2 e2 rel2 rp2 h2 => k v H2 z ρ2 (e1.trans e2) rel2 rp2 h2⟩
    | false => exact (if_neg Bool.false_ne_true).mpr ⟨A, Ow, ρ1, R, rel1, h2 rfl, fun v H2 z ρ2 e2 rel2 rp2 h2 => k v H2 z ρ2 (e1.trans e2) rel2 rp2 h2⟩⟩
/-! lists of arguments, tuples, lists -/
def dNil : DA := fun ρ Q => Q [] ρ
def dCons (ta : DE) (tr : DA) : DA := fun ρ Q => ta ρ fun d ρ1 => tr ρ1 fun ds ρ2 => Q (d :: ds) ρ2
theorem qa_nil : QA X [] dNil := pa_less pa_nil fun σ H Q ⟨A, Ow, ρ, R, rel, h, k⟩ => k [] H [] ρ Stp.refl rel .nil h
theorem qa_cons {es : List Expr} {tr : DA} (ha : QE X a ta) (hr : QA X es tr) (hs : starEach (a :: es) X.env = (false, eval a X.env) :: starEach es X.env := by rfl) : QA X (a :: es) (dCons ta tr) := pa_less (pa_cons ha hr hs) fun σ H Q ⟨A, Ow, ρ, R, rel, h, k⟩ =>
  ⟨A, Ow, ρ, _, rel, h, fun x H1 d ρ1 e1 rel1 rp1 h1 => ⟨A, Ow, ρ1, _, rel1, h1, fun xs H2 ds ρ2 e2 rel2 rp2 h2 => k _ H2 _ ρ2 (e1.trans e2) rel2 (.cons (rp1.mono e2) rp2) h2⟩⟩
def dTup (ta : DA) : DE := fun ρ Q => ta ρ fun ds ρ1 => ds.length ≤ sizeLine ∧ Q (.tuple ds) ρ1
theorem qe_tup {es : List Expr} {x1} {ta : DA} (h : QA X es ta) : QE X (.Tuple es x1 pos) (dTup ta) := pe_less (pe_tup h) fun σ H Q ⟨A, Ow, ρ, R, rel, h, k⟩ =>
  ⟨A, Ow, ρ, _, rel, h, fun xs H1 ds ρ1 e1 rel1 rp1 ⟨h1, h2⟩ => ⟨by rw [rp1.len]; exact h1, fun p hp =>
    k _ _ _ ρ1 (e1.trans (Stp.of (Same.new hp))) (rel1.ext (Same.new hp)) (.tup (.inl ⟨rel1.fresh hp, .inl upd_same⟩) (rp1.mono (Stp.of (Same.new hp)))) h2⟩⟩
def dLst (ta : DA) : DF := fun ρ Q => ta ρ fun ds ρ1 => ds.length ≤ sizeLine ∧ Q ds ρ1
theorem qf_lst {es : List Expr} {ta : DA} (h : QA X es ta) : QF X (.List es pos) (dLst ta) := pe_less (pe_lst h) fun σ H Q ⟨A, Ow, ρ, R, rel, h, k⟩ =>
  ⟨A, Ow, ρ, _, rel, h, fun xs H1 ds ρ1 e1 rel1 rp1 ⟨h1, h2⟩ => ⟨by rw [rp1.len]; exact h1, fun p hp =>
    k p _ xs ds ρ1 (e1.trans (Stp.of (Same.new hp))) (rel1.nw hp) upd_same (rel1.alloc hp (Same.new hp) ⟨_, upd_same⟩) ((rp1.more hp own_fo).mono (Stp.of (Same.new hp))) h2⟩⟩
/-- a new list as a value -/
def dFr (tf : DF) : DE := fun ρ Q => tf ρ fun ds ρ1 => Q (.list ds) ρ1
theorem qe_fr {tf : DF} (h : QF X e tf) : QE X e (dFr tf) := pe_less h fun σ H Q ⟨A, Ow, ρ, R, rel, h, k⟩ =>
  ⟨A, Ow, ρ, _, rel, h, fun p H1 xs cs ρ1 e1 n hp rel1 rp1 h1 => k _ H1 _ ρ1 e1 rel1.unfo (n.rp hp rp1) h1⟩
/-! calls of what is known -/
def dCB (rd : List D → (D → Prop) → Prop) (ta : DA) : DE := fun ρ Q => ta ρ fun ds ρ1 => rd ds fun z => Q z ρ1
theorem lam_cb {r : List V → Hp → VK → Prop} {rd : List D → (D → Prop) → Prop} {ta : DA} {K : PySem.W.Frag} (hr : LiftC K r rd) (σ : L2.St) (H : Hp) (Q : VK) : lam K (dCB rd ta) σ H Q → tCB r (lamA K ta) σ H Q := fun ⟨A, Ow, ρ, R, rel, h, k⟩ =>
  ⟨A, Ow, ρ, _, rel, h, fun xs H1 ds ρ1 e1 rel1 rp1 h1 => hr (own A.FO Ow) H1 xs ds _ Q (fun a ha => rel1.tracked ha) rp1 h1 fun v H3 z e3 rp3 q3 => k v H3 z ρ1 (e1.trans (Stp.of e3)) (rel1.ext e3) rp3 q3⟩
theorem qe_callB {id : String} {r : List V → Hp → VK → Prop} {rd : List D → (D → Prop) → Prop} {x : Str} {es : List Expr} {ta : DA} {p : Pos} (hc : CallR X (.builtin id) r) (hr : LiftC X.K r rd) (hg : Gl X x) (hm : X.mg x = none) (hv : bootBuiltins x = some (.builtin id)) (ha : QA X (e :: es) ta) (hn : x ≠ "__name__" := by decide) (hdb : (x == ("__debug__" : Str)) = false := by decide)
    (he : starEach (e :: es) X.env = (false, eval e X.env) :: starEach es X.env := by rfl) (hpl : (backTo pos (starEach es X.env)).any (·.1) = false := by rfl) : QE X (.Call (.Name x p) (e :: es) [] pos) (dCB rd ta) := pe_less (pe_callB hc hg hm hv ha hn hdb he hpl) (lam_cb hr)
theorem qe_callTy {T : String} {r : List V → Hp → VK → Prop} {rd : List D → (D → Prop) → Prop} {x : Str} {es : List Expr} {ta : DA} {p : Pos} (hc : CallR X (.type T) r) (hr : LiftC X.K r rd) (hg : Gl X x) (hm : X.mg x = none) (hv : bootBuiltins x = some (.type T)) (ha : QA X (e :: es) ta) (hn : x ≠ "__name__" := by decide) (hdb : (x == ("__debug__" : Str)) = false := by decide)
    (he : starEach (e :: es) X.env = (false, eval e X.env) :: starEach es X.env := by rfl) (hpl : (backTo pos (starEach es X.env)).any (·.1) = false := by rfl) : QE X (.Call (.Name x p) (e :: es) [] pos) (dCB rd ta) := pe_less (pe_callTy hc hg hm hv ha hn hdb he hpl) (lam_cb hr)
/-! subscripts -/
def dIxR (d e : D) (R : D → Prop) : Prop := match d, e with
  | .list xs, .int i => ∃ z, atI xs i = some z ∧ R z
  | .tuple xs, .int i => ∃ z, atI xs i = some z ∧ R z
  | .str z, .int i => z.length ≤ sizeLine ∧ ∃ c, atI z.cps.toList i = some c ∧ R (.str ⟨#[c]⟩)
  | _, _ => False
theorem atI_len {α β : Type} {xs : List α} {ys : List β} {i : Int} {y : β} (h : xs.length = ys.length) (hy : atI ys i = some y) : ∃ j : Nat, ixN ys.length i = some j ∧ ys[j]? = some y ∧ atI xs i = xs[j]? := by
  unfold atI at hy
  cases q : ixN ys.length i with
  | none => rw [q] at hy; cases hy
  | some j =>
    rw [q] at hy
    refine ⟨j, rfl, hy, ?_⟩
    unfold atI
    rw [h, q]
    rfl
theorem RpA.at {K : PySem.W.Frag} {O : Addr → Prop} {H : Hp} {xs : List V} {ds : List D} {i : Int} {d : D} (r : RpA K O H xs ds) (h : atI ds i = some d) : ∃ v, atI xs i = some v ∧ Rp K O H v d := by
  obtain ⟨j, h1, h2, h3⟩ := atI_len r.len h
  obtain ⟨v, h4, h5⟩ := r.get h2
  exact ⟨v, by rw [h3]; exact h4, h5⟩
theorem lift_ix {K : PySem.W.Frag} : Lift2 K (rIx K) dIxR := fun O H x y d e R Q _ hx hy h k => by
  cases hx with
  | lst hs ha =>
    cases hy with
    | int i =>
      obtain ⟨z, h1, h2⟩ := h
      obtain ⟨v, h3, h4⟩ := ha.at h1
      exact .inl ⟨_, _, i, v, rfl, rfl, hs.sq, h3, k v H z (Same.refl H) h4 h2⟩
    | _ => exact h.elim
  | tup hs ha =>
    cases hy with
    | int i =>
      obtain ⟨z, h1, h2⟩ := h
      obtain ⟨v, h3, h4⟩ := ha.at h1
      exact .inr (.inl ⟨_, _, i, v, rfl, rfl, hs.sq, h3, k v H z (Same.refl H) h4 h2⟩)
    | _ => exact h.elim
  | str z =>
    cases hy with
    | int i =>
      obtain ⟨h0, c, h1, h2⟩ := h
      exact .inr (.inr ⟨z, i, c, rfl, rfl, h0, h1, k _ H _ (Same.refl H) (.str _) h2⟩)
    | _ => exact h.elim
  | _ => cases hy <;> exact h.elim
theorem qe_ix (ha : QE X a ta) (hb : QE X b tb) (hs : PlainIx b := by exact fun _ _ => rfl) : QE X (.Subscript a b pos) (dOp dIxR ta tb) := pe_less (pe_ix ix_seq ha hb hs) (lam_op lift_ix)
/-! lists of the def's own -/
def ownedAt (ρ : Env) (i : Nat) : Option (List D) := match ρ[i]? with
  | some (.ol cs) => some cs
  | some (.io cs) => some cs
  | _ => none
def putOwned (ρ : Env) (i : Nat) (cs : List D) : Env := match ρ[i]? with
  | some (.ol _) => ρ.set i (.ol cs)
  | some (.io _) => ρ.set i (.io cs)
  | _ => ρ
theorem Rel.owned {K : PySem.W.Frag} {A : Act} {Ow : Nat → Option Addr} {σ : L2.St} {H : Hp} {ρ : Env} {i : Nat} {cs : List D} (R : Rel K A Ow σ H ρ) (h : ownedAt ρ i = some cs) : ∃ a xs, Ow i = some a ∧ σ[i]? = some (some (.ref a)) ∧ H a = some (.lst xs) ∧ RpA K (own A.FO Ow) H xs cs ∧
    ∀ H' xs' cs', Stp (fun b => b = a) H H' → H' a = some (.lst xs') → RpA K (own A.FO Ow) H' xs' cs' → Rel K A Ow σ H' (putOwned ρ i cs') := by
  unfold ownedAt at h
  split at h
  · rename_i ds hs
    cases h
    obtain ⟨a, xs, h1, h2, h3, h4, _⟩ := R.sl i _ hs
    refine ⟨a, xs, h1, h2, h3, h4, fun H' xs' cs' e ha hc => ?_⟩
    unfold putOwned
    rw [hs]
    exact (R.mut h1 e ha hc).1 hs
  · rename_i ds hs
    cases h
    obtain ⟨a, xs, h1, h2, h3, h4, _⟩ := R.sl i _ hs
    refine ⟨a, xs, h1, h2, h3, h4, fun H' xs' cs' e ha hc => ?_⟩
    unfold putOwned
    rw [hs]
    exact (R.mut h1 e ha hc).2 hs
  · cases h
theorem Stp.upd {p : Addr} {H : Hp} {o : HO} : Stp (fun b => b = p) H (L2.upd H p o) := fun b u n h => by
  rw [upd_ne n]
  exact h
theorem stp_own {A : Act} {Ow : Nat → Option Addr} {i : Nat} {a : Addr} {H H' : Hp} (h : Ow i = some a) (e : Stp (fun b => b = a) H H') : Stp (own A.FO Ow) H H' := e.weak fun b z => by subst z; exact .inr ⟨i, h⟩
/-- x[i], x a list of its own -/
def dIxO (i : Nat) (tb : DE) : DE := fun ρ Q => (ownedAt ρ i).isSome = true ∧ tb ρ fun e ρ1 => ∃ cs k z, ownedAt ρ1 i = some cs ∧ e = .int k ∧ atI cs k = some z ∧ Q z ρ1
theorem qe_ixO (i : Nat) {x : Str} {p : Pos} (hb : QE X b tb) (hN : X.N[i]? = some x := by rfl) (hv : Vis X.env.scope x := by first | exact Or.inl rfl | exact Or.inr (Or.inl rfl) | exact Or.inr (Or.inr rfl)) (hd : (x == ("__debug__" : Str)) = false := by decide)
    (hcd : (x == ("__classdict__" : Str)) = false := by decide) (hs : PlainIx b := by exact fun _ _ => rfl) : QE X (.Subscript (.Name x p) b pos) (dIxO i tb) := by
  refine pe_less (pe_ix ix_seq (pv i hN hv hd hcd) hb hs) fun σ H Q ⟨A, Ow, ρ, R, rel, ⟨h0, h⟩, k⟩ => ?_
  obtain ⟨cs0, e0⟩ := Option.isSome_iff_exists.mp h0
  obtain ⟨a, xs, h1, h2, h3, h4, _⟩ := rel.owned e0
  refine ⟨.ref a, h2, A, Ow, ρ, _, rel, h, fun y H2 e ρ2 e2 rel2 rp2 ⟨cs, j, z, g1, g2, g3, g4⟩ => ?_⟩
  subst g2
  cases rp2
  obtain ⟨a', xs', k1, k2, k3, k4, _⟩ := rel2.owned g1
  rw [h1] at k1
  cases k1
  obtain ⟨v, q1, q2⟩ := k4.at g3
  exact .inl ⟨a, xs', j, v, rfl, rfl, SqL.of k3, q1, k v H2 z ρ2 e2 rel2 q2 g4⟩
/-! calls of the program's own defs -/
/-- from data to data -/
def spD (K : PySem.W.Frag) (P : List D → (D → Prop) → Prop) : Sp := fun vs H Q _ => ∃ (O : Addr → Prop) (ds : List D) (R : D → Prop), RpA K O H vs ds ∧ (∀ a, O a → ∃ o, H a = some o) ∧ P ds R ∧ ∀ v H' d, Same H H' → Rp K O H' v d → R d → Q v H'
/-- .. that returns a new list -/
def spF (K : PySem.W.Frag) (P : List D → (List D → Prop) → Prop) : Sp := fun vs H Q _ => ∃ (O : Addr → Prop) (ds : List D) (R : List D → Prop), RpA K O H vs ds ∧ (∀ a, O a → ∃ o, H a = some o) ∧ P ds R ∧
  ∀ p H' xs cs, Same H H' → H p = none → H' p = some (.lst xs) → RpA K (fun b => O b ∨ b = p) H' xs cs → R cs → Q (.ref p) H'
/-- .. that changes the list that is its first argument -/
def spI (K : PySem.W.Frag) (P : List D → List D → (D → List D → Prop) → Prop) : Sp := fun vs H Q _ => ∃ (O : Addr → Prop) (a : Addr) (xs : List V) (cs : List D) (vs' : List V) (ds : List D) (R : D → List D → Prop), vs = .ref a :: vs' ∧ O a ∧ H a = some (.lst xs) ∧ RpA K O H xs cs ∧ RpA K O H vs' ds ∧
  (∀ a, O a → ∃ o, H a = some o) ∧ P cs ds R ∧ ∀ v H' xs' cs' d, Stp (fun b => b = a) H H' → H' a = some (.lst xs') → RpA K O H' xs' cs' → Rp K O H' v d → R d cs' → Q v H'
/-- .. and returns a new list -/
def spJ (K : PySem.W.Frag) (P : List D → List D → (List D → List D → Prop) → Prop) : Sp := fun vs H Q _ => ∃ (O : Addr → Prop) (a : Addr) (xs : List V) (cs : List D) (vs' : List V) (ds : List D) (R : List D → List D → Prop), vs = .ref a :: vs' ∧ O a ∧ H a = some (.lst xs) ∧ RpA K O H xs cs ∧ RpA K O H vs' ds ∧
  (∀ a, O a → ∃ o, H a = some o) ∧ P cs ds R ∧ ∀ p H' ys es xs' cs', Stp (fun b => b = a) H H' → H p = none → H' p = some (.lst ys) → RpA K (fun b => O b ∨ b = p) H' ys es → H' a = some (.lst xs') → RpA K (fun b => O b ∨ b = p) H' xs' cs' → R es cs' → Q (.ref p) H'
/-- a def that may be called -/
structure Cal (P : Program) (w : World) (K : PySem.W.Frag) (mg : Str → Option Value) (base : Heap) (x : Str) (k : Nat) (sp : Sp) : Prop where
  ex : ∃ (f : Addr) (fd : FuncData) (ps : List Str), mg x = some (.ref f) ∧ PySem.W.keepIn K (.ref f) = true ∧ Binds K fd ps [] ∧ FnOk P w K mg base CX0 k f fd ps sp
theorem pe_cal {x : Str} {k : Nat} {sp : Sp} {es : List Expr} {t : TA} {p : Pos} (C : Cal X.prog X.w X.K X.mg X.base x k sp) (hr : Room k X.A) (hg : Gl X x) (ha : PA X (e :: es) t) (hdb : (x == ("__debug__" : Str)) = false := by decide)
    (he : starEach (e :: es) X.env = (false, eval e X.env) :: starEach es X.env := by rfl) (hpl : (backTo pos (starEach es X.env)).any (·.1) = false := by rfl) : PE X (.Call (.Name x p) (e :: es) [] pos) (fun σ H Q => t σ H fun vs H1 => sp vs H1 Q E0) := by
  obtain ⟨f, fd, ps, h1, h2, h3, h4⟩ := C.ex
  refine pe_less (pe_call (dvs := []) h4 hr hg h1 h2 h3 .nil pass0 ha hdb he hpl) fun σ H Q h => ?_
  show t σ H fun vs H1 => sp (vs ++ []) H1 Q E0
  have e : (fun vs H1 => sp (vs ++ []) H1 Q E0) = (fun vs H1 => sp vs H1 Q E0) := by
    funext vs H1
    rw [List.append_nil]
  rw [e]
  exact h
def dCall (P : List D → (D → Prop) → Prop) (ta : DA) : DE := fun ρ Q => ta ρ fun ds ρ1 => P ds fun z => Q z ρ1
theorem qe_call {x : Str} {k : Nat} {P : List D → (D → Prop) → Prop} {es : List Expr} {ta : DA} {p : Pos} (C : Cal X.prog X.w X.K X.mg X.base x k (spD X.K P)) (hr : Room k X.A) (hg : Gl X x) (ha : QA X (e :: es) ta) (hdb : (x == ("__debug__" : Str)) = false := by decide)
    (he : starEach (e :: es) X.env = (false, eval e X.env) :: starEach es X.env := by rfl) (hpl : (backTo pos (starEach es X.env)).any (·.1) = false := by rfl) : QE X (.Call (.Name x p) (e :: es) [] pos) (dCall P ta) :=
  pe_less (pe_cal C hr hg ha hdb he hpl) fun σ H Q ⟨A, Ow, ρ, R, rel, h, k⟩ => ⟨A, Ow, ρ, _, rel, h, fun vs H1 ds ρ1 e1 rel1 rp1 h1 =>
    ⟨own A.FO Ow, ds, _, rp1, fun a ha => rel1.tracked ha, h1, fun v H' d e2 rp2 h2 => k v H' d ρ1 (e1.trans (Stp.of e2)) (rel1.ext e2) rp2 h2⟩⟩
def dCallF (P : List D → (List D → Prop) → Prop) (ta : DA) : DF := fun ρ Q => ta ρ fun ds ρ1 => P ds fun z => Q z ρ1
theorem own_or {A : Act} {Ow : Nat → Option Addr} {p : Addr} : ∀ b, own (A.fo p).FO Ow b → (own A.FO Ow b ∨ b = p) := own_fo
theorem own_or' {A : Act} {Ow : Nat → Option Addr} {p : Addr} : ∀ b, (own A.FO Ow b ∨ b = p) → own (A.fo p).FO Ow b := fun b z => by
  rcases z with (z | z) | z
  · exact .inl (.inl z)
  · exact .inr z
  · exact .inl (.inr z)
theorem qf_call {x : Str} {k : Nat} {P : List D → (List D → Prop) → Prop} {es : List Expr} {ta : DA} {p : Pos} (C : Cal X.prog X.w X.K X.mg X.base x k (spF X.K P)) (hr : Room k X.A) (hg : Gl X x) (ha : QA X (e :: es) ta) (hdb : (x == ("__debug__" : Str)) = false := by decide)
    (he : starEach (e :: es) X.env = (false, eval e X.env) :: starEach es X.env := by rfl) (hpl : (backTo pos (starEach es X.env)).any (·.1) = false := by rfl) : QF X (.Call (.Name x p) (e :: es) [] pos) (dCallF P ta) :=
  pe_less (pe_cal C hr hg ha hdb he hpl) fun σ H Q ⟨A, Ow, ρ, R, rel, h, k⟩ => ⟨A, Ow, ρ, _, rel, h, fun vs H1 ds ρ1 e1 rel1 rp1 h1 =>
    ⟨own A.FO Ow, ds, _, rp1, fun a ha => rel1.tracked ha, h1, fun p H' xs cs e2 hp h3 rp2 h2 => k p H' xs cs ρ1 (e1.trans (Stp.of e2)) (rel1.nw hp) h3 (rel1.alloc hp e2 ⟨_, h3⟩) (rp2.less own_or) h2⟩⟩
/-- f(x, ..), x a list of its own that f changes -/
def dCallI (P : List D → List D → (D → List D → Prop) → Prop) (i : Nat) (ta : DA) : DE := fun ρ Q => (ownedAt ρ i).isSome = true ∧ ta ρ fun ds ρ1 => ∃ cs, ownedAt ρ1 i = some cs ∧ P cs ds fun z cs' => Q z (putOwned ρ1 i cs')
theorem pa_consV (i : Nat) {x : Str} {p : Pos} {es : List Expr} {tr : TA} (hr : PA X es tr) (hN : X.N[i]? = some x) (hv : Vis X.env.scope x) (hd : (x == ("__debug__" : Str)) = false) (hcd : (x == ("__classdict__" : Str)) = false) (hs : starEach (.Name x p :: es) X.env = (false, eval (.Name x p) X.env) :: starEach es X.env) :
    PA X (.Name x p :: es) (tCons (tVar i) tr) := pa_cons (pv i hN hv hd hcd) hr hs
theorem qe_callI (i : Nat) {x y : Str} {k : Nat} {P : List D → List D → (D → List D → Prop) → Prop} {es : List Expr} {ta : DA} {p py : Pos} (C : Cal X.prog X.w X.K X.mg X.base x k (spI X.K P)) (hr : Room k X.A) (hg : Gl X x) (ha : QA X es ta)
    (hN : X.N[i]? = some y := by rfl) (hv : Vis X.env.scope y := by first | exact Or.inl rfl | exact Or.inr (Or.inl rfl) | exact Or.inr (Or.inr rfl)) (hd : (y == ("__debug__" : Str)) = false := by decide) (hcd : (y == ("__classdict__" : Str)) = false := by decide)
    (hdb : (x == ("__debug__" : Str)) = false := by decide) (he : starEach (.Name y py :: es) X.env = (false, eval (.Name y py) X.env) :: starEach es X.env := by rfl) (hpl : (backTo pos (starEach es X.env)).any (·.1) = false := by rfl) : QE X (.Call (.Name x p) (.Name y py :: es) [] pos) (dCallI P i ta) := by
  refine pe_less (pe_cal C hr hg (pa_consV i ha hN hv hd hcd he) hdb he hpl) fun σ H Q ⟨A, Ow, ρ, R, rel, ⟨h0, h⟩, k⟩ => ?_
  obtain ⟨cs0, e0⟩ := Option.isSome_iff_exists.mp h0
  obtain ⟨a, xs, h1, h2, h3, h4, _⟩ := rel.owned e0
  refine ⟨.ref a, h2, A, Ow, ρ, _, rel, h, fun vs H1 ds ρ1 e1 rel1 rp1 ⟨cs, g1, g2⟩ => ?_⟩
  obtain ⟨a', xs', k1, k2, k3, k4, k5⟩ := rel1.owned g1
  rw [h1] at k1
  cases k1
  exact ⟨own A.FO Ow, a, xs', cs, vs, ds, _, rfl, .inr ⟨i, h1⟩, k3, k4, rp1, fun a ha => rel1.tracked ha, g2, fun v H' ys cs' d e2 ha hc rp2 h2 =>
    k v H' d _ (e1.trans (stp_own h1 e2)) (k5 H' ys cs' e2 ha hc) rp2 h2⟩
end

/-! ### statements -/
section
variable {X : Cx} {e : Expr} {st : Stmt} {rest : List Stmt} {pos : Pos} {te : DE} {tf : DF} {t u : DS}
def dNext : DS := fun D ρ => D.nx ρ
def dSeq (t u : DS) : DS := fun D ρ => t { D with nx := u D } ρ
theorem qss_nil : QSs X [] dNext := pss_less pss_nil fun D σ H ⟨A, Ow, ρ, DD, rel, h, n, _⟩ => n _ _ _ _ rel h
theorem lam_seq {K : PySem.W.Frag} (D : Ends) (σ : L2.St) (H : Hp) : lamS K (dSeq t u) D σ H → tSeq (lamS K t) (lamS K u) D σ H := fun ⟨A, Ow, ρ, DD, rel, h, n, b, c, r⟩ =>
  ⟨A, Ow, ρ, _, rel, h, fun Ow' σ' H' ρ' rel' h' => ⟨A, Ow', ρ', DD, rel', h', n, b, c, r⟩, b, c, r⟩
theorem qss_cons (h1 : QS X st t) (h2 : QSs X rest u) : QSs X (st :: rest) (dSeq t u) := pss_less (pss_cons h1 h2) lam_seq
theorem qss_one (h1 : QS X st t) : QSs X [st] t := pss_one h1
/-- from here on the list in the slot i is read alone -/
def dFz (i : Nat) (t : DS) : DS := fun D ρ => match ρ[i]? with
  | some (.ol cs) => t D (ρ.set i (.sh (.list cs)))
  | _ => False
theorem qss_fz (i : Nat) (h : QSs X rest t) : QSs X rest (dFz i t) := pss_less h fun D σ H ⟨A, Ow, ρ, DD, rel, h, n, b, c, r⟩ => by
  unfold dFz at h
  split at h
  · rename_i cs hs
    exact ⟨A, off Ow i, _, DD, rel.freeze hs, h, n, b, c, r⟩
  · exact h.elim
/-- is not a list of the caller's -/
def noIo (ρ : Env) (i : Nat) : Prop := match ρ[i]? with
  | some (.io _) => False
  | none => False
  | _ => True
theorem noIo.ne {ρ : Env} {i : Nat} (h : noIo ρ i) : ∀ ds, ρ[i]? ≠ some (.io ds) := fun ds q => by
  unfold noIo at h
  rw [q] at h
  exact h
theorem noIo.lt {ρ : Env} {i : Nat} (h : noIo ρ i) : i < ρ.length := by
  by_cases q : i < ρ.length
  · exact q
  · unfold noIo at h
    rw [List.getElem?_eq_none (by omega)] at h
    exact h.elim
/-- targets -/
abbrev DG := D → Env → (Env → Prop) → Prop
abbrev DGs := List D → Env → (Env → Prop) → Prop
def lamG (K : PySem.W.Frag) (g : DG) : TG := fun v σ H Q => ∃ A Ow ρ R d, Rel K A Ow σ H ρ ∧ Rp K (own A.FO Ow) H v d ∧ g d ρ R ∧ ∀ Ow' σ' H' ρ', Rel K A Ow' σ' H' ρ' → (∀ w z, Rp K (own A.FO Ow) H w z → Rp K (own A.FO Ow') H' w z) → R ρ' → Q σ' H'
def lamGs (K : PySem.W.Frag) (g : DGs) : TGs := fun vs σ H Q => ∃ A Ow ρ R ds, Rel K A Ow σ H ρ ∧ RpA K (own A.FO Ow) H vs ds ∧ g ds ρ R ∧ ∀ Ow' σ' H' ρ', Rel K A Ow' σ' H' ρ' → (∀ w z, Rp K (own A.FO Ow) H w z → Rp K (own A.FO Ow') H' w z) → R ρ' → Q σ' H'
def QG (X : Cx) (tg : Expr) (g : DG) : Prop := PG X tg (lamG X.K g)
def QGs (X : Cx) (tg : List Expr) (g : DGs) : Prop := PGs X tg (lamGs X.K g)
theorem pg_less {tg : Expr} {t t' : TG} (h : PG X tg t) (k : ∀ v σ H Q, t' v σ H Q → t v σ H Q) : PG X tg t' := ⟨fun pins s σ H v u Q I r q => h.run pins s σ H v u Q I r (k v σ H Q q)⟩
theorem pgs_less {tg : List Expr} {t t' : TGs} (h : PGs X tg t) (k : ∀ v σ H Q, t' v σ H Q → t v σ H Q) : PGs X tg t' := ⟨fun pins s σ H v u Q I r q => h.run pins s σ H v u Q I r (k v σ H Q q)⟩
def gN (i : Nat) : DG := fun d ρ Q => noIo ρ i ∧ Q (ρ.set i (.sh d))
theorem qg_name (i : Nat) {x : Str} {p : Pos} (hN : X.N.Nodup) (hi : X.N[i]? = some x := by rfl) (hx : Loc X.env.scope x := by first | exact Or.inl rfl | exact Or.inr rfl) (hf : X.fn x = true ∨ X.env.scope.names.lookup x = some .local := by first | exact .inl rfl | exact .inr rfl) : QG X (.Name x p) (gN i) :=
  pg_less (pg_name (i := i) hN hi hx hf) fun v σ H Q ⟨A, Ow, ρ, R, d, rel, rp, ⟨h0, h⟩, k⟩ => k (off Ow i) _ H _ (rel.put (s := .sh d) h0.ne ⟨rfl, v, rfl, rp.less own_off⟩) (fun w z q => q.less own_off) h
def gs0 : DGs := fun ds ρ Q => ds = [] ∧ Q ρ
def gsC (g : DG) (r : DGs) : DGs := fun ds ρ Q => match ds with
  | d :: es => g d ρ fun ρ1 => r es ρ1 Q
  | [] => False
theorem qgs_nil : QGs X [] gs0 := pgs_less pgs_nil fun vs σ H Q ⟨A, Ow, ρ, R, ds, rel, rp, ⟨h0, h⟩, k⟩ => by
  subst h0
  cases rp
  exact ⟨rfl, k _ _ _ _ rel (fun _ _ q => q) h⟩
theorem qgs_cons {tg : Expr} {es : List Expr} {g : DG} {r : DGs} (h1 : QG X tg g) (h2 : QGs X es r) (hs : (assignEach (tg :: es) X.env).map (·.2) = assign tg X.env :: (assignEach es X.env).map (·.2) := by rfl) : QGs X (tg :: es) (gsC g r) :=
  pgs_less (pgs_cons h1 h2 hs) fun vs σ H Q ⟨A, Ow, ρ, R, ds, rel, rp, h, k⟩ => by
    cases rp with
    | nil => exact h.elim
    | cons r1 r2 =>
      exact ⟨_, _, rfl, A, Ow, ρ, _, _, rel, r1, h, fun Ow1 σ1 H1 ρ1 rel1 m1 h1 => ⟨A, Ow1, ρ1, _, _, rel1, r2.map1 m1, h1, fun Ow2 σ2 H2 ρ2 rel2 m2 h2 => k Ow2 σ2 H2 ρ2 rel2 (fun w z q => m2 w z (m1 w z q)) h2⟩⟩
def gT (g : DGs) (n : Nat) : DG := fun d ρ Q => match d with
  | .tuple ds => ds.length = n ∧ g ds ρ Q
  | _ => False
theorem lam_gT {K : PySem.W.Frag} {g : DGs} {n : Nat} (v : V) (σ : L2.St) (H : Hp) (Q : L2.St → Hp → Prop) : lamG K (gT g n) v σ H Q → gTup K n (lamGs K g) v σ H Q := fun ⟨A, Ow, ρ, R, d, rel, rp, h, k⟩ => by
  cases rp with
  | tup hs ha =>
    obtain ⟨h1, h2⟩ := h
    exact ⟨_, _, rfl, hs.sq, by rw [ha.len]; exact h1, A, Ow, ρ, _, _, rel, ha, h2, k⟩
  | _ => exact h.elim
theorem qg_tup {es : List Expr} {k : Nat} {g : DGs} {n : Nat} {p : Pos} (hc : X.calm = true) (h : QGs X es g) (hn : (assignEach es X.env).length = n := by rfl) (hst : (assignEach es X.env).findIdx? (·.1) = none := by rfl) : QG X (.Tuple es k p) (gT g n) := pg_less (pg_tup hc h hn hst) lam_gT
def dAsg (te : DE) (g : DG) : DS := fun D ρ => te ρ fun d ρ1 => g d ρ1 D.nx
theorem lam_asg {K : PySem.W.Frag} {te : DE} {g : DG} (D : Ends) (σ : L2.St) (H : Hp) : lamS K (dAsg te g) D σ H → tAsg (lam K te) (lamG K g) D σ H := fun ⟨A, Ow, ρ, DD, rel, h, n, b, c, r⟩ =>
  ⟨A, Ow, ρ, _, rel, h, fun v H' d ρ' e' rel' rp' h' => ⟨A, Ow, ρ', _, d, rel', rp', h', fun Ow' σ' H' ρ' rel' _ h' => n Ow' σ' H' ρ' rel' h'⟩⟩
theorem qs_asg {tg : Expr} {g : DG} (he : QE X e te) (hg : QG X tg g) (hs : swapsWithSole [tg] e pos.line X.env = pure false := by rfl) (hw : swappedStores [tg] e X.env = pure none := by rfl) (h1 : (assignEach [tg] X.env).map (·.2) = [assign tg X.env] := by rfl) : QS X (.Assign [tg] e pos) (dAsg te g) :=
  ps_less (ps_asg he hg hs hw h1) lam_asg
theorem qs_set (i : Nat) {x : Str} {p : Pos} (hN : X.N.Nodup) (he : QE X e te) (hi : X.N[i]? = some x := by rfl) (hx : Loc X.env.scope x := by first | exact Or.inl rfl | exact Or.inr rfl) (hs : swapsWith e (some (.Name x p)) pos.line X.env = pure false := by rfl) (hf : X.fn x = true ∨ X.env.scope.names.lookup x = some .local := by first | exact .inl rfl | exact .inr rfl) : QS X (.Assign [.Name x p] e pos) (dAsg te (gN i)) :=
  ps_less (ps_set (i := i) hN hi hx he hs hf) fun D σ H ⟨A, Ow, ρ, DD, rel, h, n, b, c, r⟩ => ⟨A, Ow, ρ, _, rel, h, fun v H' d ρ' e' rel' rp' ⟨h0, h'⟩ => n (off Ow i) _ H' _ (rel'.put (s := .sh d) h0.ne ⟨rfl, v, rfl, rp'.less own_off⟩) h'⟩
/-- x = a new list, from now on of its own -/
def dOwn (tf : DF) (i : Nat) : DS := fun D ρ => tf ρ fun cs ρ1 => noIo ρ1 i ∧ D.nx (ρ1.set i (.ol cs))
theorem qs_own (i : Nat) {x : Str} {p : Pos} (hN : X.N.Nodup) (he : QF X e tf) (hi : X.N[i]? = some x := by rfl) (hx : Loc X.env.scope x := by first | exact Or.inl rfl | exact Or.inr rfl) (hs : swapsWith e (some (.Name x p)) pos.line X.env = pure false := by rfl) (hf : X.fn x = true ∨ X.env.scope.names.lookup x = some .local := by first | exact .inl rfl | exact .inr rfl) : QS X (.Assign [.Name x p] e pos) (dOwn tf i) :=
  ps_less (ps_set (i := i) hN hi hx he hs hf) fun D σ H ⟨A, Ow, ρ, DD, rel, h, n, b, c, r⟩ => ⟨A, Ow, ρ, _, rel, h, fun p H' xs cs ρ' e' nw hp rel' rp' ⟨h0, h'⟩ => n (onn Ow i p) _ H' _ (rel'.take h0.ne h0.lt nw hp rp') h'⟩
def dRet (te : DE) : DS := fun D ρ => te ρ D.rt
theorem qs_ret (he : QE X e te) : QS X (.Return (some e) pos) (dRet te) := ps_less (ps_ret he) fun D σ H ⟨A, Ow, ρ, DD, rel, h, n, b, c, r⟩ => ⟨A, Ow, ρ, _, rel, h, fun v H' d ρ' e' rel' rp' h' => r.1 Ow σ H' ρ' v d rel' rp' h'⟩
/-- a new list is returned -/
def dRetF (tf : DF) : DS := fun D ρ => tf ρ D.rf
theorem qs_retF (he : QF X e tf) : QS X (.Return (some e) pos) (dRetF tf) := ps_less (ps_ret he) fun D σ H ⟨A, Ow, ρ, DD, rel, h, n, b, c, r⟩ => ⟨A, Ow, ρ, _, rel, h, fun p H' xs cs ρ' e' nw hp rel' rp' h' => r.2 Ow σ H' ρ' p xs cs nw hp rel' rp' h'⟩
/-- the def's own list is returned -/
def dRetO (i : Nat) : DS := fun D ρ => ∃ cs, ρ[i]? = some (.ol cs) ∧ D.rf cs (ρ.set i .no)
theorem Rel.give {K : PySem.W.Frag} {A : Act} {Ow : Nat → Option Addr} {σ : L2.St} {H : Hp} {ρ : Env} (R : Rel K A Ow σ H ρ) {i : Nat} {cs : List D} (h : ρ[i]? = some (.ol cs)) : ∃ p xs, σ[i]? = some (some (.ref p)) ∧ Nw A (off Ow i) p ∧ H p = some (.lst xs) ∧ Rel K (A.fo p) (off Ow i) σ H (ρ.set i .no) ∧ RpA K (own (A.fo p).FO (off Ow i)) H xs cs := by
  obtain ⟨a, xs, h1, h2, h3, h4, h5⟩ := R.sl i _ h
  have hi : ∀ ds, ρ[i]? ≠ some (.io ds) := fun ds z => by rw [h] at z; cases z
  have lessO : ∀ b, own (A.fo a).FO (off Ow i) b → own A.FO Ow b := fun b z => by
    rcases z with (z | z) | ⟨j, z⟩
    · exact .inl z
    · subst z; exact .inr ⟨i, h1⟩
    · exact .inr ⟨j, (off_some z).2⟩
  have nfo : ¬ A.FO a := by
    rcases R.nofo i a h1 with q | q
    · exact absurd q (h5 a)
    · exact q
  have q := R.put (i := i) (x := some (.ref a)) (s := .no) hi rfl
  have hl : i < σ.length := by
    rw [R.len]
    exact (List.getElem?_eq_some_iff.mp h).1
  have es : σ.set i (some (.ref a)) = σ := by
    obtain ⟨_, h2'⟩ := List.getElem?_eq_some_iff.mp h2
    rw [← h2']
    exact List.set_getElem_self hl
  rw [es] at q
  refine ⟨a, xs, h2, ⟨?_, fun z => ?_, fun p hp z => (R.keep p hp).2 i (by rw [z]; exact h1)⟩, h3, ⟨q.len, fun j s hj => ?_, q.out, q.uniq, q.kept, fun b hb => ?_, q.new, fun j b hb => ?_, q.io, q.one, q.keep, fun p hp => (R.pin p hp).less lessO⟩, h4.less lessO⟩
  · rcases R.new i a h1 with z | z
    · exact z
    · exact absurd z (h5 a)
  · rcases z with z | ⟨j, z⟩
    · exact nfo z
    · exact (off_some z).1 (R.uniq j i a (off_some z).2 h1)
  · by_cases z : i = j
    · subst z
      rw [List.getElem?_set_self (by rw [← R.len]; exact hl)] at hj
      cases hj
      exact off_self
    · rw [List.getElem?_set_ne z] at hj
      rw [off_ne (Ne.symm z)]
      exact (R.sl j s hj).less lessO
  · rcases hb with hb | hb
    · exact R.fo b hb
    · subst hb; exact ⟨_, h3⟩
  · obtain ⟨hj, hb'⟩ := off_some hb
    rcases R.nofo j b hb' with z | z
    · exact .inl z
    · refine .inr fun y => ?_
      rcases y with y | y
      · exact z y
      · subst y; exact hj (R.uniq j i b hb' h1)
theorem qs_retO (i : Nat) {x : Str} {p : Pos} (hN : X.N[i]? = some x := by rfl) (hv : Vis X.env.scope x := by first | exact Or.inl rfl | exact Or.inr (Or.inl rfl) | exact Or.inr (Or.inr rfl)) (hd : (x == ("__debug__" : Str)) = false := by decide) (hcd : (x == ("__classdict__" : Str)) = false := by decide) : QS X (.Return (some (.Name x p)) pos) (dRetO i) :=
  ps_less (ps_ret (pv i hN hv hd hcd)) fun D σ H ⟨A, Ow, ρ, DD, rel, ⟨cs, h0, h⟩, n, b, c, r⟩ => by
    obtain ⟨p, xs, h1, nw, h2, rel2, rp2⟩ := rel.give h0
    exact ⟨_, h1, r.2 _ σ H _ p xs cs nw h2 rel2 rp2 h⟩
def dRetN : DS := fun D ρ => D.rt .none ρ
theorem qs_retN : QS X (.Return none pos) dRetN := ps_less ps_retN fun D σ H ⟨A, Ow, ρ, DD, rel, h, n, b, c, r⟩ => r.1 Ow σ H ρ _ _ rel .non h
def dDrop (te : DE) : DS := fun D ρ => te ρ fun _ ρ1 => D.nx ρ1
theorem qs_expr (he : QE X e te) (hs : swapsWith e none pos.line X.env = pure false := by rfl) : QS X (.Expr e pos) (dDrop te) := ps_less (ps_expr he hs) fun D σ H ⟨A, Ow, ρ, DD, rel, h, n, b, c, r⟩ => ⟨A, Ow, ρ, _, rel, h, fun v H' d ρ' e' rel' rp' h' => n Ow σ H' ρ' rel' h'⟩
def dIfS (c : DT) (t u : DS) : DS := fun D ρ => c ρ fun b ρ1 => (b = true → t D ρ1) ∧ (b = false → u D ρ1)
theorem qs_if {c : Expr} {tc : DT} {p q : List Stmt} (hc : QT X c tc) (hp : QSs X p t) (hq : QSs X q u) : QS X (.If c p q pos) (dIfS tc t u) := ps_less (ps_if hc hp hq) fun D σ H ⟨A, Ow, ρ, DD, rel, h, n, b, c, r⟩ =>
  ⟨A, Ow, ρ, _, rel, h, fun k H1 ρ1 e1 rel1 ⟨h1, h2⟩ => by
    cases k with
    | true => exact (if_pos rfl).mpr ⟨A, Ow, ρ1, DD, rel1, h1 rfl, n, b, c, r⟩
    | false => exact (if_neg Bool.false_ne_true).mpr ⟨A, Ow, ρ1, DD, rel1, h2 rfl, n, b, c, r⟩⟩
def dBreak : DS := fun D ρ => D.bk ρ
def dCont : DS := fun D ρ => D.ct ρ
theorem qs_break : QS X (.Break pos) dBreak := ps_less ps_break fun D σ H ⟨A, Ow, ρ, DD, rel, h, n, b, c, r⟩ => b _ _ _ _ rel h
theorem qs_continue : QS X (.Continue pos) dCont := ps_less ps_continue fun D σ H ⟨A, Ow, ρ, DD, rel, h, n, b, c, r⟩ => c _ _ _ _ rel h
theorem qs_pass : QS X (.Pass pos) dNext := ps_less ps_pass fun D σ H ⟨A, Ow, ρ, DD, rel, h, n, b, c, r⟩ => n _ _ _ _ rel h
/-- a, b = x, y -/
def dPar (i j : Nat) (ta : DA) : DS := fun D ρ => ta ρ fun ds ρ1 => match ds with
  | [d, e] => noIo ρ1 i ∧ noIo ρ1 j ∧ D.nx ((ρ1.set i (.sh d)).set j (.sh e))
  | _ => False
theorem noIo.set {ρ : Env} {i j : Nat} {d : D} (h : noIo ρ j) : noIo (ρ.set i (.sh d)) j := by
  have hl := h.lt
  unfold noIo
  by_cases z : i = j
  · subst z
    rw [List.getElem?_set_self hl]
    trivial
  · rw [List.getElem?_set_ne z]
    exact h
theorem qs_par (i j : Nat) {x y : Str} {a b : Expr} {ta : DA} {px py pt : Pos} {kt k2 pt2} (hc : X.calm = true) (hN : X.N.Nodup) (hij : i ≠ j) (ha : QA X [a, b] ta) (hi : X.N[i]? = some x := by rfl) (hj : X.N[j]? = some y := by rfl) (hx : X.env.scope.names.lookup x = some .local := by rfl) (hy : X.env.scope.names.lookup y = some .local := by rfl)
    (hw : swappedStores [.Tuple [.Name x px, .Name y py] kt pt] (.Tuple [a, b] k2 pt2) X.env = pure (some [x, y]) := by rfl) (hs : swapsWithSole [.Tuple [.Name x px, .Name y py] kt pt] (.Tuple [a, b] k2 pt2) pos.line X.env = pure false := by rfl) :
    QS X (.Assign [.Tuple [.Name x px, .Name y py] kt pt] (.Tuple [a, b] k2 pt2) pos) (dPar i j ta) := ps_less (ps_par hc hN hi hj hij hx hy ha hw hs) fun D σ H ⟨A, Ow, ρ, DD, rel, h, n, b, c, r⟩ => ⟨A, Ow, ρ, _, rel, h, fun vs H' ds ρ' e' rel' rp' h' => by
  match ds, rp', h' with
  | [d, e], .cons (v := v) r1 (.cons (v := w) r2 .nil), ⟨h1, h2, h3⟩ =>
    have q1 := rel'.put (s := .sh d) h1.ne ⟨rfl, v, rfl, r1.less own_off⟩
    have q2 := q1.put (s := .sh e) h2.set.ne ⟨rfl, w, rfl, (r2.less own_off).less own_off⟩
    exact ⟨v, w, rfl, n _ _ _ _ q2 h3⟩⟩
/-- x op= e, of ints -/
def dAug (i : Nat) (te : DE) (f : Int → Int → Int) : DS := fun D ρ => ∃ a, ρ[i]? = some (.sh (.int a)) ∧ te ρ fun d ρ1 => ∃ b, d = .int b ∧ noIo ρ1 i ∧ D.nx (ρ1.set i (.sh (.int (f a b))))
theorem qs_aug (i : Nat) {x : Str} {op : Operator} {f : Int → Int → Int} {p : Pos} (hN : X.N.Nodup) (ho : PIp X op (ipI f)) (he : QE X e te) (hi : X.N[i]? = some x := by rfl) (hx : Loc X.env.scope x := by first | exact Or.inl rfl | exact Or.inr rfl) (hf : X.fn x = true ∨ X.env.scope.names.lookup x = some .local := by first | exact .inl rfl | exact .inr rfl) : QS X (.AugAssign (.Name x p) op e pos) (dAug i te f) :=
  ps_less (ps_aug (i := i) hN hi hx he ho hf) fun D σ H ⟨A, Ow, ρ, DD, rel, ⟨a, h0, h⟩, n, b, c, r⟩ => by
    obtain ⟨_, v, h1, h2⟩ := rel.sl i _ h0
    cases h2
    exact ⟨_, h1, A, Ow, ρ, _, rel, h, fun w H' d ρ' e' rel' rp' ⟨b, hb, h3, h4⟩ => by
      subst hb
      cases rp'
      exact ⟨a, b, rfl, rfl, n _ _ _ _ (rel'.put (s := .sh (.int (f a b))) h3.ne ⟨rfl, _, rfl, .int _⟩) h4⟩⟩
/-! changes of lists -/
/-- x.append(e) -/
def dApp (i : Nat) (te : DE) : DS := fun D ρ => (ownedAt ρ i).isSome = true ∧ te ρ fun d ρ1 => ∃ cs, ownedAt ρ1 i = some cs ∧ cs.length < sizeLine ∧ D.nx (putOwned ρ1 i (cs ++ [d]))
theorem qs_app (i : Nat) {x : Str} {p apos cpos : Pos} (he : QE X e te) (hN : X.N[i]? = some x := by rfl) (hv : Vis X.env.scope x := by first | exact Or.inl rfl | exact Or.inr (Or.inl rfl) | exact Or.inr (Or.inr rfl)) (hd : (x == ("__debug__" : Str)) = false := by decide) (hcd : (x == ("__classdict__" : Str)) = false := by decide)
    (hbase : attributeBase (.Name x p) "append" X.env (eval (.Name x p) X.env) = eval (.Name x p) X.env := by rfl)
    (hfew : ((backTo cpos (starEach [e] X.env)).all (fun x => !x.1) && (backToKw cpos (keywordEach [] X.env)).all (fun x => x.1.isSome) && decide ([e].length + ([] : List Keyword).length + (if ([] : List Keyword).isEmpty then 0 else 1) < 30)) = true := by rfl)
    (hline : (apos.endLine == cpos.line) = true := by rfl) (hs : starEach [e] X.env = (false, eval e X.env) :: starEach [] X.env := by rfl) (hplain : (backTo cpos (starEach [] X.env)).any (·.1) = false := by rfl) (hsw : swapsWith (.Call (.Attribute (.Name x p) "append" apos) [e] [] cpos) none pos.line X.env = pure false := by rfl) :
    QS X (.Expr (.Call (.Attribute (.Name x p) "append" apos) [e] [] cpos) pos) (dApp i te) := by
  refine ps_less (ps_expr (pe_bm PySem.F.plainAttrs_list PySem.F.slot_list_append PySem.F.type_list_append mt_append (pv i hN hv hd hcd) (pa_cons he pa_nil hs) hbase hfew hline hs hplain) hsw) fun D σ H ⟨A, Ow, ρ, DD, rel, ⟨h0, h⟩, n, b, c, r⟩ => ?_
  obtain ⟨cs0, e0⟩ := Option.isSome_iff_exists.mp h0
  obtain ⟨a, xs, h1, h2, h3, h4, _⟩ := rel.owned e0
  refine ⟨.ref a, h2, .inl ⟨rfl, _, SqL.of h3⟩, A, Ow, ρ, _, rel, h, fun v H1 d ρ1 e1 rel1 rp1 ⟨cs, g1, g2, g3⟩ => ?_⟩
  obtain ⟨a', xs', k1, k2, k3, k4, k5⟩ := rel1.owned g1
  rw [h1] at k1
  cases k1
  exact ⟨a, xs', v, rfl, rfl, k3, by rw [k4.len]; exact g2, n _ _ _ _ (k5 _ _ _ Stp.upd upd_same ((k4.append (.one rp1)).mono (stp_own h1 Stp.upd))) g3⟩
/-- x.extend(a new list) -/
def dExt (i : Nat) (tf : DF) : DS := fun D ρ => (ownedAt ρ i).isSome = true ∧ tf ρ fun ds ρ1 => ∃ cs, ownedAt ρ1 i = some cs ∧ cs.length + ds.length ≤ sizeLine ∧ D.nx (putOwned ρ1 i (cs ++ ds))
theorem qs_ext (i : Nat) {x : Str} {p apos cpos : Pos} (he : QF X e tf) (hN : X.N[i]? = some x := by rfl) (hv : Vis X.env.scope x := by first | exact Or.inl rfl | exact Or.inr (Or.inl rfl) | exact Or.inr (Or.inr rfl)) (hd : (x == ("__debug__" : Str)) = false := by decide) (hcd : (x == ("__classdict__" : Str)) = false := by decide)
    (hbase : attributeBase (.Name x p) "extend" X.env (eval (.Name x p) X.env) = eval (.Name x p) X.env := by rfl)
    (hfew : ((backTo cpos (starEach [e] X.env)).all (fun x => !x.1) && (backToKw cpos (keywordEach [] X.env)).all (fun x => x.1.isSome) && decide ([e].length + ([] : List Keyword).length + (if ([] : List Keyword).isEmpty then 0 else 1) < 30)) = true := by rfl)
    (hline : (apos.endLine == cpos.line) = true := by rfl) (hs : starEach [e] X.env = (false, eval e X.env) :: starEach [] X.env := by rfl) (hplain : (backTo cpos (starEach [] X.env)).any (·.1) = false := by rfl) (hsw : swapsWith (.Call (.Attribute (.Name x p) "extend" apos) [e] [] cpos) none pos.line X.env = pure false := by rfl) :
    QS X (.Expr (.Call (.Attribute (.Name x p) "extend" apos) [e] [] cpos) pos) (dExt i tf) := by
  refine ps_less (ps_expr (pe_bm PySem.F.plainAttrs_list PySem.F.slot_list_extend PySem.F.type_list_extend mt_extend (pv i hN hv hd hcd) (pa_cons he pa_nil hs) hbase hfew hline hs hplain) hsw) fun D σ H ⟨A, Ow, ρ, DD, rel, ⟨h0, h⟩, n, b, c, r⟩ => ?_
  obtain ⟨cs0, e0⟩ := Option.isSome_iff_exists.mp h0
  obtain ⟨a, xs, h1, h2, h3, h4, _⟩ := rel.owned e0
  refine ⟨.ref a, h2, .inl ⟨rfl, _, SqL.of h3⟩, A, Ow, ρ, _, rel, h, fun q H1 zs ds ρ1 e1 nw hq rel1 rp1 ⟨cs, g1, g2, g3⟩ => ?_⟩
  have rel2 := rel1.unfo
  obtain ⟨a', xs', k1, k2, k3, k4, k5⟩ := rel2.owned g1
  rw [h1] at k1
  cases k1
  exact ⟨a, q, xs', zs, rfl, rfl, k3, hq, by rw [k4.len, rp1.len]; exact g2, n _ _ _ _ (k5 _ _ _ Stp.upd upd_same ((k4.append (rp1.less own_fo')).mono (stp_own h1 Stp.upd))) g3⟩
/-- x[i] = e -/
def dSetI (i : Nat) (te tb : DE) : DS := fun D ρ => te ρ fun d ρ1 => (ownedAt ρ1 i).isSome = true ∧ tb ρ1 fun k ρ2 => ∃ cs n j, ownedAt ρ2 i = some cs ∧ k = .int n ∧ ixN cs.length n = some j ∧ D.nx (putOwned ρ2 i (cs.set j d))
theorem qs_setI (i : Nat) {x : Str} {b : Expr} {tb : DE} {p spos : Pos} (he : QE X e te) (hb : QE X b tb) (hN : X.N[i]? = some x := by rfl) (hv : Vis X.env.scope x := by first | exact Or.inl rfl | exact Or.inr (Or.inl rfl) | exact Or.inr (Or.inr rfl)) (hd : (x == ("__debug__" : Str)) = false := by decide) (hcd : (x == ("__classdict__" : Str)) = false := by decide)
    (ha : ∀ v, assign (.Subscript (.Name x p) b spos) X.env v = (do
      let ov ← holding [v] (eval (.Name x p) X.env)
      let iv ← holding [v, ov] (eval b X.env)
      standAt spos
      holding [v, ov, iv] (setItem ov iv v)
      release [v, ov, iv] []) := by intro _; rfl)
    (hs : swapsWithSole [.Subscript (.Name x p) b spos] e pos.line X.env = pure false := by rfl) (hw : swappedStores [.Subscript (.Name x p) b spos] e X.env = pure none := by rfl) (h1 : (assignEach [.Subscript (.Name x p) b spos] X.env).map (·.2) = [assign (.Subscript (.Name x p) b spos) X.env] := by rfl) :
    QS X (.Assign [.Subscript (.Name x p) b spos] e pos) (dSetI i te tb) := by
  refine ps_less (ps_asg he (pg_sub (pv i hN hv hd hcd) hb set_list ha) hs hw h1) fun D σ H ⟨A, Ow, ρ, DD, rel, h, n, b, c, r⟩ => ?_
  refine ⟨A, Ow, ρ, _, rel, h, fun v H1 d ρ1 e1 rel1 rp1 ⟨h0, h'⟩ => ?_⟩
  obtain ⟨cs0, e0⟩ := Option.isSome_iff_exists.mp h0
  obtain ⟨a, xs, h1, h2, h3, h4, _⟩ := rel1.owned e0
  refine ⟨.ref a, h2, A, Ow, ρ1, _, rel1, h', fun w H2 k ρ2 e2 rel2 rp2 ⟨cs, m, j, g1, g2, g3, g4⟩ => ?_⟩
  subst g2
  cases rp2
  obtain ⟨a', xs', k1, k2, k3, k4, k5⟩ := rel2.owned g1
  rw [h1] at k1
  cases k1
  exact ⟨a, xs', m, j, rfl, rfl, k3, by rw [k4.len]; exact g3, n _ _ _ _ (k5 _ _ _ Stp.upd upd_same ((RpA.set (rp1.mono e2) j k4).mono (stp_own h1 Stp.upd))) g4⟩
/-! ### while, for -/
def dWhile (c : DT) (tb : DS) : DS := fun D ρ => ∃ W : Nat → Env → Prop, (∃ m, W m ρ) ∧ ∀ m ρ, W m ρ → c ρ fun b ρ1 => (b = true → ∃ N : Env → Prop, (∀ ρ', N ρ' → ∃ m', m' < m ∧ W m' ρ') ∧ tb { D with nx := N, ct := N, bk := D.nx } ρ1) ∧ (b = false → D.nx ρ1)
theorem qs_while {c : Expr} {body : List Stmt} {tc : DT} {tb : DS} (hp : PassesOwn (model X.prog X.w) X.A X.env X.xe) (hc : QT X c tc) (hb : QSs X body tb) : QS X (.While c body [] pos) (dWhile tc tb) := ps_less (ps_while hp hc hb) fun D σ H ⟨A, Ow, ρ, DD, rel, ⟨W, ⟨m0, w0⟩, turn⟩, n, b, c, r⟩ =>
  ⟨fun m σ H => ∃ Ow ρ, Rel X.K A Ow σ H ρ ∧ W m ρ, ⟨m0, Ow, ρ, rel, w0⟩, fun m σ1 H1 ⟨Ow1, ρ1, rel1, w1⟩ => ⟨A, Ow1, ρ1, _, rel1, turn m ρ1 w1, fun k H2 ρ2 e2 rel2 ⟨h1, h2⟩ => by
    cases k with
    | true =>
      obtain ⟨N, hN, h3⟩ := h1 rfl
      have key : ∀ Ow' σ' H' ρ', Rel X.K A Ow' σ' H' ρ' → N ρ' → ∃ Ow ρ, Rel X.K A Ow σ' H' ρ ∧ N ρ := fun Ow' σ' H' ρ' rel' h' => ⟨Ow', ρ', rel', h'⟩
      refine (if_pos rfl).mpr ⟨fun σ H => ∃ Ow ρ, Rel X.K A Ow σ H ρ ∧ N ρ, fun σ' H' ⟨Ow', ρ', rel', h'⟩ => ?_, A, Ow1, ρ2, _, rel2, h3, key, fun Ow' σ' H' ρ' rel' h' => n Ow' σ' H' ρ' rel' h', key, r⟩
      obtain ⟨m', hm, hw⟩ := hN ρ' h'
      exact ⟨m', hm, Ow', ρ', rel', hw⟩
    | false => exact (if_neg Bool.false_ne_true).mpr (n Ow1 σ1 H2 ρ2 rel2 (h2 rfl))⟩⟩
/-- J walks the data ds, while the pins P stand -/
def WalkOk (K : PySem.W.Frag) (J : It) (P : List (List V × List D)) (ds : List D) : Prop := ∀ (O : Addr → Prop) (H : Hp), (∀ p ∈ P, RpA K O H p.1 p.2) → ∀ i, (ds.length ≤ i → J.stop i H) ∧ (i < ds.length → J.go i H ∧ ∀ x H', J.yld i H x H' → ∃ d, ds[i]? = some d ∧ Same H H' ∧ Rp K O H' x d)
abbrev DI := Env → (List D → Env → Prop) → Prop
def lamI (K : PySem.W.Frag) (ti : DI) : TI := fun σ H Q => ∃ A Ow ρ R, Rel K A Ow σ H ρ ∧ ti ρ R ∧ ∀ J P H' ds ρ', Stp (own A.FO Ow) H H' → Rel K { A with pin := P ++ A.pin } Ow σ H' ρ' → WalkOk K J P ds → R ds ρ' → Q J H'
def QI (X : Cx) (tg iter : Expr) (ti : DI) : Prop := PI X tg iter (lamI X.K ti)
theorem pi_less {tg it : Expr} {t t' : TI} (h : PI X tg it t) (k : ∀ σ H Q, t' σ H Q → t σ H Q) : PI X tg it t' := ⟨fun pins s σ H R I q => h.run pins s σ H R I (k σ H R q)⟩
def dFor (ti : DI) (g : DG) (tb : DS) : DS := fun D ρ => ti ρ fun ds ρ1 => ∃ J : Nat → Env → Prop, J 0 ρ1 ∧ (∀ i d ρ, ds[i]? = some d → J i ρ → g d ρ fun ρ2 => tb { D with nx := J (i + 1), ct := J (i + 1), bk := D.nx } ρ2) ∧ ∀ ρ, J ds.length ρ → D.nx ρ
theorem qs_for {tg iter : Expr} {body : List Stmt} {ti : DI} {g : DG} {tb : DS} (hp : PassesOwn (model X.prog X.w) X.A X.env X.xe) (hc : X.calm = true) (hi : QI X tg iter ti) (hg : QG X tg g) (hb : QSs X body tb) (hs : ∀ x, foldedSetIterable iter X.env x = pure x := by intro _; rfl) : QS X (.For tg iter body [] pos) (dFor ti g tb) :=
  ps_less (ps_for hp hc hi hg hb hs) fun D σ H ⟨A, Ow, ρ, DD, rel, h, n, b, c, r⟩ => ⟨A, Ow, ρ, _, rel, h, fun J P H1 ds ρ1 e1 rel1 wk ⟨V, v0, turn, fin⟩ => by
  refine ⟨fun i m σ H => m = ds.length - i ∧ i ≤ ds.length ∧ ∃ Ow ρ, Rel X.K { A with pin := P ++ A.pin } Ow σ H ρ ∧ V i ρ, ⟨_, rfl, Nat.zero_le _, Ow, ρ1, rel1, v0⟩, ?_⟩
  rintro i m σ2 H2 ⟨hm, hi, Ow2, ρ2, rel2, v2⟩
  have w := wk (own A.FO Ow2) H2 (fun p hp => rel2.pin p (List.mem_append_left _ hp)) i
  by_cases hlt : i < ds.length
  · obtain ⟨g1, g2⟩ := w.2 hlt
    refine .inr ⟨g1, fun σ H => ∃ Ow ρ, Rel X.K { A with pin := P ++ A.pin } Ow σ H ρ ∧ V (i + 1) ρ, fun σ' H' ⟨Ow', ρ', rel', v'⟩ => ⟨_, by omega, rfl, hlt, Ow', ρ', rel', v'⟩, fun x H3 y => ?_⟩
    obtain ⟨d, hd, sm, rp⟩ := g2 x H3 y
    have rel3 := rel2.ext sm
    refine ⟨_, Ow2, ρ2, _, d, rel3, rp, turn i d ρ2 hd v2, fun Ow4 σ4 H4 ρ4 rel4 _ h4 => ?_⟩
    exact ⟨_, Ow4, ρ4, _, rel4, h4, fun Ow' σ' H' ρ' rel' h' => ⟨Ow', ρ', rel', h'⟩, fun Ow' σ' H' ρ' rel' h' => n Ow' σ' H' ρ' rel'.unpin h', fun Ow' σ' H' ρ' rel' h' => ⟨Ow', ρ', rel', h'⟩, fun Ow' σ' H' ρ' v d rel' rp' h' => r.1 Ow' σ' H' ρ' v d rel'.unpin rp' h', fun Ow' σ' H' ρ' p xs cs nw hp rel' rp' h' => r.2 Ow' σ' H' ρ' p xs cs ⟨nw.h0, nw.no, nw.kp⟩ hp (rel'.unpin (A := A.fo p)) rp' h'⟩
  · have e : i = ds.length := by omega
    subst e
    exact .inl ⟨w.1 (Nat.le_refl _), n Ow2 σ2 H2 ρ2 rel2.unpin (fin ρ2 v2)⟩⟩
/-- over a list, a tuple that stands -/
def iSeq (te : DE) : DI := fun ρ Q => te ρ fun d ρ1 => match d with
  | .list ds => Q ds ρ1
  | _ => False
def iSeqT (te : DE) : DI := fun ρ Q => te ρ fun d ρ1 => match d with
  | .tuple ds => Q ds ρ1
  | _ => False
theorem walk_list {K : PySem.W.Frag} {a : Addr} {ds : List D} : WalkOk K (Itl K a) [([.ref a], [.list ds])] ds := fun O H hp i => by
  have h := hp _ List.mem_cons_self
  cases h with
  | cons h _ =>
    cases h with
    | lst hs ha =>
      refine ⟨fun hi => ⟨_, hs.sq, by rw [ha.len]; exact hi⟩, fun hi => ?_⟩
      obtain ⟨v, h1, h2⟩ := ha.get (List.getElem?_eq_getElem hi)
      refine ⟨⟨_, v, hs.sq, h1⟩, fun x H' y => ?_⟩
      obtain ⟨rfl, y2⟩ := y
      have e := (y2 _ hs.sq).symm.trans h1
      cases e
      exact ⟨_, List.getElem?_eq_getElem hi, Same.refl _, h2⟩
theorem walk_tup {K : PySem.W.Frag} {a : Addr} {ds : List D} : WalkOk K (Itt K a) [([.ref a], [.tuple ds])] ds := fun O H hp i => by
  have h := hp _ List.mem_cons_self
  cases h with
  | cons h _ =>
    cases h with
    | tup hs ha =>
      refine ⟨fun hi => ⟨_, hs.sq, by rw [ha.len]; exact hi⟩, fun hi => ?_⟩
      obtain ⟨v, h1, h2⟩ := ha.get (List.getElem?_eq_getElem hi)
      refine ⟨⟨_, v, hs.sq, h1⟩, fun x H' y => ?_⟩
      obtain ⟨rfl, y2⟩ := y
      have e := (y2 _ hs.sq).symm.trans h1
      cases e
      exact ⟨_, List.getElem?_eq_getElem hi, Same.refl _, h2⟩
theorem qi_list {tg : Expr} (he : QE X e te) : QI X tg e (iSeq te) := pi_less (pi_list he) fun σ H Q ⟨A, Ow, ρ, R, rel, h, k⟩ => ⟨A, Ow, ρ, _, rel, h, fun v H1 d ρ1 e1 rel1 rp1 h1 => by
  cases rp1 with
  | lst hs ha => exact ⟨_, rfl, ⟨_, hs.sq⟩, k _ [([.ref _], [.list _])] H1 _ ρ1 e1 (rel1.pins fun p hp => by
      cases List.mem_singleton.mp hp
      exact .one (.lst hs ha)) walk_list h1⟩
  | _ => exact h1.elim⟩
theorem qi_tup {tg : Expr} (he : QE X e te) : QI X tg e (iSeqT te) := pi_less (pi_tup he) fun σ H Q ⟨A, Ow, ρ, R, rel, h, k⟩ => ⟨A, Ow, ρ, _, rel, h, fun v H1 d ρ1 e1 rel1 rp1 h1 => by
  cases rp1 with
  | tup hs ha => exact ⟨_, rfl, ⟨_, hs.sq⟩, k _ [([.ref _], [.tuple _])] H1 _ ρ1 e1 (rel1.pins fun p hp => by
      cases List.mem_singleton.mp hp
      exact .one (.tup hs ha)) walk_tup h1⟩
  | _ => exact h1.elim⟩
def rgD (lo : Int) (n : Nat) : List D := (List.range n).map fun (k : Nat) => PyData.int (lo + (k : Int))
theorem rgD_len {lo : Int} {n : Nat} : (rgD lo n).length = n := by simp [rgD]
theorem rgD_get {lo : Int} {n i : Nat} (h : i < n) : (rgD lo n)[i]? = some (.int (lo + (i : Int))) := by simp [rgD, h]
theorem rgD_at {lo : Int} {n i : Nat} {d : D} (h : (rgD lo n)[i]? = some d) : i < n ∧ d = .int (lo + (i : Int)) := by
  have hi : i < n := by
    have := (List.getElem?_eq_some_iff.mp h).1
    rw [rgD_len] at this
    exact this
  rw [rgD_get hi] at h
  exact ⟨hi, (Option.some.inj h).symm⟩
theorem walk_range {K : PySem.W.Frag} {lo : Int} {n : Nat} : WalkOk K (Itr lo n) [] (rgD lo n) := fun O H hp i => by
  rw [rgD_len]
  refine ⟨fun hi => hi, fun hi => ⟨hi, fun x H' y => ?_⟩⟩
  obtain ⟨rfl, rfl⟩ := y
  exact ⟨_, rgD_get hi, Same.refl _, .int _⟩
def iRng1 (ta : DA) : DI := fun ρ Q => ta ρ fun ds ρ1 => ∃ j : Int, ds = [.int j] ∧ -(2 ^ 62) ≤ j ∧ j < 2 ^ 62 ∧ Q (rgD 0 j.toNat) ρ1
def iRng2 (ta : DA) : DI := fun ρ Q => ta ρ fun ds ρ1 => ∃ i j : Int, ds = [.int i, .int j] ∧ (-(2 ^ 62) ≤ i ∧ i < 2 ^ 62 ∧ -(2 ^ 62) ≤ j ∧ j < 2 ^ 62) ∧ Q (rgD i (j - i).toNat) ρ1
theorem qi_range1 {tg a : Expr} {ta : DA} {p : Pos} (hg : Gl X "range") (hm : X.mg "range" = none) (ha : QA X [a] ta) (hs : starEach [a] X.env = [(false, eval a X.env)] := by rfl) : QI X tg (.Call (.Name "range" p) [a] [] pos) (iRng1 ta) :=
  pi_less (pi_range1 hg hm ha hs) fun σ H Q ⟨A, Ow, ρ, R, rel, h, k⟩ => ⟨A, Ow, ρ, _, rel, h, fun vs H1 ds ρ1 e1 rel1 rp1 ⟨j, h0, h1, h2, h3⟩ => by
  subst h0
  match vs, rp1 with
  | _, .cons (.int _) .nil => exact ⟨j, rfl, h1, h2, k _ [] H1 _ ρ1 e1 rel1.nil walk_range h3⟩⟩
theorem qi_range2 {tg a b : Expr} {ta : DA} {p : Pos} (hg : Gl X "range") (hm : X.mg "range" = none) (ha : QA X [a, b] ta) (hs : starEach [a, b] X.env = [(false, eval a X.env), (false, eval b X.env)] := by rfl) (hs2 : starEach [b] X.env = [(false, eval b X.env)] := by rfl) : QI X tg (.Call (.Name "range" p) [a, b] [] pos) (iRng2 ta) :=
  pi_less (pi_range2 hg hm ha hs hs2) fun σ H Q ⟨A, Ow, ρ, R, rel, h, k⟩ => ⟨A, Ow, ρ, _, rel, h, fun vs H1 ds ρ1 e1 rel1 rp1 ⟨i, j, h0, h1, h3⟩ => by
  subst h0
  match vs, rp1 with
  | _, .cons (.int _) (.cons (.int _) .nil) => exact ⟨i, j, rfl, h1, k _ [] H1 _ ρ1 e1 rel1.nil walk_range h3⟩⟩
/-! ### list comprehensions -/
theorem Rel.keeps {K : PySem.W.Frag} {A : Act} {Ow : Nat → Option Addr} {σ : L2.St} {H : Hp} {ρ : Env} (R : Rel K A Ow σ H ρ) {k : List (Addr × HO)} (h : ∀ p ∈ k, H p.1 = some p.2 ∧ ∀ i, Ow i ≠ some p.1) : Rel K { A with keep := k ++ A.keep } Ow σ H ρ :=
  ⟨R.len, R.sl, R.out, R.uniq, R.kept, R.fo, R.new, R.nofo, R.io, R.one, fun p hp => (List.mem_append.mp hp).elim (h p) (R.keep p), R.pin⟩
theorem Rel.unkeep {K : PySem.W.Frag} {A : Act} {Ow : Nat → Option Addr} {σ : L2.St} {H : Hp} {ρ : Env} {k : List (Addr × HO)} (R : Rel K { A with keep := k ++ A.keep } Ow σ H ρ) : Rel K A Ow σ H ρ :=
  ⟨R.len, R.sl, R.out, R.uniq, R.kept, R.fo, R.new, R.nofo, R.io, R.one, fun p hp => R.keep p (List.mem_append_right _ hp), R.pin⟩
/-- what belongs to others is changed -/
theorem Rel.updFo {K : PySem.W.Frag} {A : Act} {Ow : Nat → Option Addr} {σ : L2.St} {H : Hp} {ρ : Env} {p : Addr} (R : Rel K (A.fo p) Ow σ H ρ) (np : Nw A Ow p) (o : HO) : Rel K (A.fo p) Ow σ (L2.upd H p o) ρ := by
  have e : Stp (own (A.fo p).FO Ow) H (L2.upd H p o) := Stp.upd.weak fun b z => .inl (.inr z)
  have nOw : ∀ i, Ow i ≠ some p := fun i z => np.no (.inr ⟨i, z⟩)
  refine ⟨R.len, fun i s h => (R.sl i s h).mono e fun a ha xs q => ?_, R.out, R.uniq, fun b u n q => ?_, fun b h => ?_, R.new, R.nofo, R.io, R.one, fun q hq => ⟨?_, (R.keep q hq).2⟩, fun q hq => (R.pin q hq).mono e⟩
  · rw [upd_ne (fun z => nOw i (by rw [ha, z]))]
    exact q
  · have hb : b ≠ p := fun z => by
      rw [z] at q
      have z0 : A.H0 p = some u := q
      rw [np.h0] at z0
      cases z0
    rw [upd_ne hb]
    exact R.kept b u n q
  · by_cases z : b = p
    · exact ⟨o, by rw [z]; exact upd_same⟩
    · obtain ⟨u, q⟩ := R.fo b h
      exact ⟨u, by rw [upd_ne z]; exact q⟩
  · rw [upd_ne (np.kp q hq)]
    exact (R.keep q hq).1
/-- a slot that holds nothing known -/
theorem Rel.clear {K : PySem.W.Frag} {A : Act} {Ow : Nat → Option Addr} {σ : L2.St} {H : Hp} {ρ : Env} (R : Rel K A Ow σ H ρ) {i : Nat} {x : Option V} (h : ρ[i]? = some .no) : Rel K A Ow (σ.set i x) H ρ := by
  refine ⟨by rw [List.length_set]; exact R.len, fun j s hj => ?_, R.out, R.uniq, R.kept, R.fo, R.new, R.nofo, R.io, R.one, R.keep, R.pin⟩
  by_cases z : i = j
  · subst z
    rw [h] at hj
    cases hj
    exact R.sl i _ h
  · rw [List.getElem?_set_ne z]
    exact R.sl j s hj
theorem off_id {Ow : Nat → Option Addr} {i : Nat} (h : Ow i = none) : off Ow i = Ow := by
  funext j
  unfold off
  by_cases z : j = i
  · rw [if_pos z, z, h]
  · rw [if_neg z]
def QTs (X : Cx) (ifs : List Expr) (tt : DT) : Prop := PTs X ifs (lamT X.K tt)
def dYes : DT := fun ρ Q => Q true ρ
theorem pts_less {ifs : List Expr} {t t' : TT} (h : PTs X ifs t) (k : ∀ σ H Q, t' σ H Q → t σ H Q) : PTs X ifs t' := ⟨fun pins s σ H Q I q => h.run pins s σ H Q I (k σ H Q q)⟩
theorem qts_nil : QTs X [] dYes := pts_less pts_nil fun σ H Q ⟨A, Ow, ρ, R, rel, h, k⟩ => k true H ρ Stp.refl rel h
theorem qts_one {c : Expr} {tt : DT} (h : QT X c tt) : QTs X [c] tt := pts_one h
/-- the comprehension's own slots -/
def clr (ρ : Env) : List Nat → Env
  | [] => ρ
  | v :: vs => (clr ρ vs).set v .no
def shAt (ρ : Env) (v : Nat) : Prop := match ρ[v]? with
  | some (.sh _) => True
  | some .no => True
  | _ => False
theorem shAt.ne {ρ : Env} {v : Nat} (h : shAt ρ v) : ∀ ds, ρ[v]? ≠ some (.io ds) := fun ds q => by
  unfold shAt at h
  rw [q] at h
  exact h
theorem shAt.set {ρ : Env} {v u : Nat} (h : shAt ρ v) : shAt (ρ.set u .no) v := by
  unfold shAt at h ⊢
  by_cases z : u = v
  · subst z
    by_cases hl : u < ρ.length
    · rw [List.getElem?_set_self hl]
      trivial
    · rw [List.getElem?_eq_none (by omega)] at h
      exact h.elim
  · rw [List.getElem?_set_ne z]
    exact h
theorem shAt.clr {ρ : Env} {v : Nat} (h : shAt ρ v) : ∀ vs, shAt (clr ρ vs) v
  | [] => h
  | u :: us => (h.clr us).set
theorem Rel.noOw {K : PySem.W.Frag} {A : Act} {Ow : Nat → Option Addr} {σ : L2.St} {H : Hp} {ρ : Env} (R : Rel K A Ow σ H ρ) {v : Nat} (h : shAt ρ v) : Ow v = none := by
  unfold shAt at h
  split at h
  · rename_i d q
    exact (R.sl v _ q).1
  · rename_i q
    exact R.sl v _ q
  · exact h.elim
theorem Rel.wiped {K : PySem.W.Frag} {A : Act} {Ow : Nat → Option Addr} {σ : L2.St} {H : Hp} {ρ : Env} (R : Rel K A Ow σ H ρ) : ∀ vs : List Nat, (∀ v ∈ vs, shAt ρ v) → Rel K A Ow (wipe σ vs) H (clr ρ vs)
  | [], _ => R
  | v :: vs, h => by
    have r := R.wiped vs fun u hu => h u (List.mem_cons_of_mem _ hu)
    have hv : shAt (clr ρ vs) v := (h v List.mem_cons_self).clr vs
    have q := r.put (i := v) (x := none) (s := .no) hv.ne rfl
    rw [off_id (r.noOw hv)] at q
    exact q
/-- a comprehension's target -/
def LcT (K : PySem.W.Frag) (g : DG) (G : TG) (vs : List Nat) : Prop := ∀ (A : Act) (Ow : Nat → Option Addr) (σ : L2.St) (H : Hp) (ρ : Env) (R : Env → Prop) (v : V) (d : D) (Q : L2.St → Hp → Prop), Rel K A Ow (wipe σ vs) H ρ → Rp K (own A.FO Ow) H v d → g d ρ R →
  (∀ σ' ρ', Rel K A Ow σ' H ρ' → wipe σ' vs = wipe σ vs → R ρ' → Q σ' H) → G v (wipe σ vs) H Q
def gL (i : Nat) : DG := fun d ρ Q => shAt ρ i ∧ Q (ρ.set i (.sh d))
theorem lct_name {K : PySem.W.Frag} (i : Nat) : LcT K (gL i) (gName i) [i] := fun A Ow σ H ρ R v d Q rel rp ⟨h0, h⟩ k => by
  have q := rel.put (i := i) (x := some v) (s := .sh d) h0.ne ⟨rfl, v, rfl, rp.less own_off⟩
  rw [off_id (rel.noOw h0)] at q
  refine k _ _ q ?_ h
  show (((σ.set i none).set i (some v)).set i none) = σ.set i none
  rw [List.set_set, List.set_set]
def gL2 (i j : Nat) : DG := fun d ρ Q => ∃ a b, d = .tuple [a, b] ∧ shAt ρ i ∧ shAt ρ j ∧ Q ((ρ.set i (.sh a)).set j (.sh b))
theorem shAt.setS {ρ : Env} {v u : Nat} {d : D} (h : shAt ρ v) : shAt (ρ.set u (.sh d)) v := by
  unfold shAt at h ⊢
  by_cases z : u = v
  · subst z
    by_cases hl : u < ρ.length
    · rw [List.getElem?_set_self hl]
      trivial
    · rw [List.getElem?_eq_none (by omega)] at h
      exact h.elim
  · rw [List.getElem?_set_ne z]
    exact h
theorem set_two {i j : Nat} (hij : i ≠ j) (l : L2.St) (x y : Option V) : (((((l.set j none).set i none).set i x).set j y).set j none).set i none = (l.set j none).set i none := by
  apply List.ext_getElem?
  intro k
  by_cases h1 : k = i
  · subst h1
    by_cases hl : k < l.length
    · rw [List.getElem?_set_self (by simpa using hl), List.getElem?_set_self (by simpa using hl)]
    · rw [List.getElem?_eq_none (by simpa using hl), List.getElem?_eq_none (by simpa using hl)]
  · rw [List.getElem?_set_ne (Ne.symm h1), List.getElem?_set_ne (Ne.symm h1)]
    by_cases h2 : k = j
    · subst h2
      by_cases hl : k < l.length
      · rw [List.getElem?_set_self (by simpa using hl), List.getElem?_set_self (by simpa using hl)]
      · rw [List.getElem?_eq_none (by simpa using hl), List.getElem?_eq_none (by simpa using hl)]
    · rw [List.getElem?_set_ne (Ne.symm h2), List.getElem?_set_ne (Ne.symm h2), List.getElem?_set_ne (Ne.symm h1), List.getElem?_set_ne (Ne.symm h1)]
theorem lct_two {K : PySem.W.Frag} {i j : Nat} (hij : i ≠ j) : LcT K (gL2 i j) (gTup K 2 (gCons (gName i) (gCons (gName j) gNil))) [i, j] := fun A Ow σ H ρ R v d Q rel rp h k => by
  obtain ⟨a, b, rfl, h1, h2, h3⟩ := h
  cases rp with
  | tup hs ha =>
    cases ha with
    | cons r1 ha =>
      cases ha with
      | cons r2 ha =>
        cases ha with
        | nil =>
          have q1 := rel.put (i := i) (x := some _) (s := .sh a) h1.ne ⟨rfl, _, rfl, r1.less own_off⟩
          rw [off_id (rel.noOw h1)] at q1
          have h2' : shAt (ρ.set i (.sh a)) j := h2.setS
          have q2 := q1.put (i := j) (x := some _) (s := .sh b) h2'.ne ⟨rfl, _, rfl, r2.less own_off⟩
          rw [off_id (q1.noOw h2')] at q2
          refine ⟨_, _, rfl, hs.sq, rfl, _, _, rfl, _, _, rfl, rfl, k _ _ q2 ?_ h3⟩
          show ((((((σ.set j none).set i none).set i (some _)).set j (some _)).set j none).set i none) = ((σ.set j none).set i none)
          exact set_two hij σ _ _
/-- [te for g in ti if tt]; vs: its own slots -/
def dLc (ti : DI) (g : DG) (tt : DT) (te : DE) (vs : List Nat) : DF := fun ρ Q => ti ρ fun ds ρ1 => (∀ v ∈ vs, shAt ρ1 v) ∧ ∃ J : Nat → List D → Env → Prop, J 0 [] (clr ρ1 vs) ∧
  (∀ k acc d ρ2, ds[k]? = some d → J k acc ρ2 → g d ρ2 fun ρ3 => tt ρ3 fun b ρ4 => (b = true → te ρ4 fun z ρ5 => acc.length < sizeLine ∧ (∀ v ∈ vs, shAt ρ5 v) ∧ J (k + 1) (acc ++ [z]) (clr ρ5 vs)) ∧ (b = false → (∀ v ∈ vs, shAt ρ4 v) ∧ J (k + 1) acc (clr ρ4 vs))) ∧
  ∀ acc ρ2, J ds.length acc ρ2 → Q acc ρ2
def noAt (ρ : Env) (v : Nat) : Prop := ∀ s, ρ[v]? = some s → s = .no
theorem clr_noAt {ρ : Env} : ∀ {vs : List Nat} {v : Nat}, v ∈ vs → noAt (clr ρ vs) v
  | u :: us, v, h => fun s hs => by
    have hs' : ((clr ρ us).set u .no)[v]? = some s := hs
    by_cases z : u = v
    · subst z
      by_cases hl : u < (clr ρ us).length
      · rw [List.getElem?_set_self hl] at hs'
        exact (Option.some.inj hs').symm
      · rw [List.getElem?_eq_none (by rw [List.length_set]; omega)] at hs'
        cases hs'
    · rw [List.getElem?_set_ne z] at hs'
      rcases List.mem_cons.mp h with q | q
      · exact absurd q.symm z
      · exact clr_noAt q s hs'
theorem wipe_get {σ : L2.St} {j : Nat} : ∀ {vs : List Nat}, j ∉ vs → (wipe σ vs)[j]? = σ[j]?
  | [], _ => rfl
  | v :: vs, h => by
    show ((wipe σ vs).set v none)[j]? = σ[j]?
    rw [List.getElem?_set_ne (fun z => h (by rw [z]; exact List.mem_cons_self))]
    exact wipe_get fun q => h (List.mem_cons_of_mem _ q)
theorem Rel.unwipe {K : PySem.W.Frag} {A : Act} {Ow : Nat → Option Addr} {σ : L2.St} {H : Hp} {ρ : Env} {vs : List Nat} (R : Rel K A Ow (wipe σ vs) H ρ) (h : ∀ v ∈ vs, noAt ρ v) : Rel K A Ow σ H ρ := by
  refine ⟨by rw [← wipe_length σ vs]; exact R.len, fun j s hj => ?_, R.out, R.uniq, R.kept, R.fo, R.new, R.nofo, R.io, R.one, R.keep, R.pin⟩
  by_cases z : j ∈ vs
  · have e := h j z s hj
    subst e
    exact R.sl j _ hj
  · rw [← wipe_get z]
    exact R.sl j s hj
theorem lam_lc {K : PySem.W.Frag} {ti : DI} {g : DG} {G : TG} {tt : DT} {te : DE} {vs : List Nat} (hG : LcT K g G vs) (σ : L2.St) (H : Hp) (Q : VK) : lamF K (dLc ti g tt te vs) σ H Q → tLc (lamI K ti) G (lamT K tt) (lam K te) vs σ H Q := fun ⟨A, Ow, ρ, R, rel, h, fin⟩ =>
  ⟨A, Ow, ρ, _, rel, h, fun J P H1 ds ρ1 e1 rel1 wk ⟨hv, V, v0, turn, last⟩ Dl hD => by
  have nw : Nw A Ow Dl := rel1.unpin.nw hD
  have nwP : Nw { A with pin := P ++ A.pin } Ow Dl := ⟨nw.h0, nw.no, nw.kp⟩
  have relD : Rel K ((({ A with pin := P ++ A.pin } : Act)).fo Dl) Ow (wipe σ vs) (L2.upd H1 Dl (.lst [])) (clr ρ1 vs) := (rel1.alloc hD (Same.new hD) ⟨_, upd_same⟩).wiped vs hv
  refine ⟨fun i m H => m = ds.length - i ∧ i ≤ ds.length ∧ ∃ acc xs ρ, H Dl = some (.lst xs) ∧ (∀ v ∈ vs, noAt ρ v) ∧ Rel K ((({ A with pin := P ++ A.pin } : Act)).fo Dl) Ow (wipe σ vs) H ρ ∧ RpA K (own (A.fo Dl).FO Ow) H xs acc ∧ V i acc ρ ∧ Stp (own (A.fo Dl).FO Ow) H1 H, ⟨_, rfl, Nat.zero_le _, [], [], _, upd_same, fun v hv => clr_noAt hv, relD, .nil, v0, Stp.upd.weak fun b z => .inl (.inr z)⟩, ?_⟩
  rintro i m H2 ⟨hm, hi, acc, xs, ρ2, hD2, no2, rel2, rp2, v2, st2⟩
  have w := wk (own (A.fo Dl).FO Ow) H2 (fun p hp => rel2.pin p (List.mem_append_left _ hp)) i
  by_cases hlt : i < ds.length
  · obtain ⟨g1, g2⟩ := w.2 hlt
    refine .inr ⟨g1, fun H => ∃ acc xs ρ, H Dl = some (.lst xs) ∧ (∀ v ∈ vs, noAt ρ v) ∧ Rel K ((({ A with pin := P ++ A.pin } : Act)).fo Dl) Ow (wipe σ vs) H ρ ∧ RpA K (own (A.fo Dl).FO Ow) H xs acc ∧ V (i + 1) acc ρ ∧ Stp (own (A.fo Dl).FO Ow) H1 H, fun H' q => ⟨_, by omega, rfl, hlt, q⟩, fun x H3 y => ?_⟩
    obtain ⟨d, hd, sm, rpx⟩ := g2 x H3 y
    -- the state of the turn: the list so far is kept, its items are pinned
    have k3 : H3 Dl = some (.lst xs) := sm _ _ hD2
    have rel3 := ((rel2.ext sm).pins (P := [(xs, acc)]) fun p hp => by
      cases List.mem_singleton.mp hp
      exact rp2.mono (Stp.of sm)).keeps (k := [(Dl, .lst xs)]) fun p hp => by
        cases List.mem_singleton.mp hp
        exact ⟨k3, fun j z => nw.no (.inr ⟨j, z⟩)⟩
    refine hG _ Ow σ H3 ρ2 _ x d _ rel3 rpx (turn i acc d ρ2 hd v2) fun σ4 ρ4 rel4 wq h4 => ⟨wq, ?_⟩
    refine ⟨_, Ow, ρ4, _, rel4, h4, fun b H5 ρ5 e5 rel5 ⟨h5, h6⟩ => ?_⟩
    have back : ∀ {H : Hp} {ρ : Env}, (∀ v ∈ vs, shAt ρ v) → Rel K ({ (({ A with pin := P ++ A.pin } : Act)).fo Dl with pin := [(xs, acc)] ++ (P ++ A.pin), keep := [(Dl, .lst xs)] ++ A.keep } : Act) Ow σ4 H ρ → Rel K ((({ A with pin := P ++ A.pin } : Act)).fo Dl) Ow (wipe σ vs) H (clr ρ vs) ∧ H Dl = some (.lst xs) ∧ RpA K (own (A.fo Dl).FO Ow) H xs acc := fun {H ρ} hs r => by
      refine ⟨?_, (r.keep _ List.mem_cons_self).1, r.pin _ List.mem_cons_self⟩
      have q := (r.unkeep.unpin (A := (({ A with pin := P ++ A.pin } : Act)).fo Dl)).wiped vs hs
      rw [wq] at q
      exact q
    cases b with
    | true =>
      refine (if_pos rfl).mpr ⟨_, Ow, ρ5, _, rel5, h5 rfl, fun y H6 z ρ6 e6 rel6 rp6 ⟨q1, q2, q3⟩ => ?_⟩
      obtain ⟨b1, b2, b3⟩ := back q2 rel6
      have up := b1.updFo nwP (.lst (xs ++ [y]))
      refine ⟨xs, b2, by rw [rp2.len]; exact q1, _, _, _, upd_same, fun v hv => clr_noAt hv, up, (b3.append (.one rp6)).mono (Stp.upd.weak fun b z => .inl (.inr z)), q3, ?_⟩
      exact ((st2.trans (Stp.of sm)).trans (e5.trans e6)).trans (Stp.upd.weak fun b z => .inl (.inr z))
    | false =>
      obtain ⟨q1, q2⟩ := h6 rfl
      obtain ⟨b1, b2, b3⟩ := back q1 rel5
      exact (if_neg Bool.false_ne_true).mpr ⟨acc, xs, _, b2, fun v hv => clr_noAt hv, b1, b3, q2, (st2.trans (Stp.of sm)).trans e5⟩
  · have e : i = ds.length := by omega
    subst e
    refine .inl ⟨w.1 (Nat.le_refl _), fin Dl H2 xs acc ρ2 ?_ nw hD2 ?_ rp2 (last acc ρ2 v2)⟩
    · refine e1.trans fun b o n h => ?_
      refine st2 b o (fun z => ?_) h
      rcases own_fo b z with z | z
      · exact n z
      · rw [z, hD] at h
        cases h
    · exact (rel2.unpin (A := A.fo Dl)).unwipe no2⟩
theorem qf_lc1 (i : Nat) {elt iter : Expr} {x : Str} {p : Pos} {ifs : List Expr} {scope : Scope} {ti : DI} {tt : DT} {te : DE} (hc : X.calm = true) (hN : X.N.Nodup) (hi : QI X (.Name x p) iter ti) (ok : BlkOk X.N X.env.scope scope [(x, i)])
    (hg : ∀ (s : Shared) (H : Hp) (C : Addr) (cl : List (Str × Addr)) (fp : List Addr), PG (X.blk s H scope (compEnvC scope cl C X.env) fp) (.Name x p) (gName i)) (ht : ∀ (s : Shared) (H : Hp) (C : Addr) (cl : List (Str × Addr)) (fp : List Addr), QTs (X.blk s H scope (compEnvC scope cl C X.env) fp) ifs tt)
    (he : ∀ (s : Shared) (H : Hp) (C : Addr) (cl : List (Str × Addr)) (fp : List Addr), QE (X.blk s H scope (compEnvC scope cl C X.env) fp) elt te) (hs : ∀ x, foldedSetIterable iter X.env x = pure x := by intro _; rfl) : QF X (.ListComp elt [⟨.Name x p, iter, ifs, 0⟩] scope pos) (dLc ti (gL i) tt te [i]) :=
  pe_less (pe_lc (own := [(x, i)]) (tt := lamT X.K tt) (te := lam X.K te) hc hN hi ok hg ht he hs) (lam_lc (lct_name i))
end

/-! ### defs -/
def startD (N : List Str) (ds : List D) : Env := ds.map .sh ++ List.replicate (N.length - ds.length) .no
/-- the state at a def's entry -/
theorem rel_start {K : PySem.W.Frag} {N : List Str} {O : Addr → Prop} {H : Hp} {vs : List V} {ds : List D} (r : RpA K O H vs ds) (ht : ∀ a, O a → ∃ o, H a = some o) : Rel K ⟨H, O, [], [], []⟩ (fun _ => none) (L2.start N vs) H (startD N ds) := by
  have e := r.len
  refine ⟨by unfold L2.start startD; simp [e], fun i s h => ?_, fun _ _ => rfl, fun i j a h => (nomatch h), fun b o _ h => h, ht, fun i a h => (nomatch h), fun i a h => (nomatch h), fun p hp => (nomatch hp), fun i a b h => (nomatch h), fun p hp => (nomatch hp), fun p hp => (nomatch hp)⟩
  unfold startD at h
  unfold L2.start
  by_cases hi : i < ds.length
  · rw [List.getElem?_append_left (by rw [List.length_map]; exact hi), List.getElem?_map, List.getElem?_eq_getElem hi] at h
    cases h
    obtain ⟨v, h1, h2⟩ := r.get (List.getElem?_eq_getElem hi)
    refine ⟨rfl, v, ?_, h2.less fun b z => ?_⟩
    · rw [List.getElem?_append_left (by rw [List.length_map, e]; exact hi), List.getElem?_map, h1]
      rfl
    · rcases z with z | ⟨j, z⟩
      · exact z
      · cases z
  · rw [List.getElem?_append_right (by rw [List.length_map]; omega)] at h
    have q := List.getElem?_eq_some_iff.mp h
    obtain ⟨_, q⟩ := q
    rw [List.getElem_replicate] at q
    subst q
    exact rfl
section
variable {P : Program} {w : World} {K : PySem.W.Frag} {mg : Str → Option Value} {base : Heap}
/-- the context of a def's body -/
abbrev ctx (P : Program) (w : World) (K : PySem.W.Frag) (mg : Str → Option Value) (base : Heap) (N : List Str) (qual : Str) (st : Stmt) (f : Addr) (cdv : Value) (A : Around) (outer : List PySem.Env) (s : Shared) (H : Hp) (E : XK) : Cx := (cxOf CX0 P w K mg base N qual (defScope st) f cdv A outer s H E).nox
/-- what a def's reading is: its body as a term of rules, for every context -/
def Body (P : Program) (w : World) (K : PySem.W.Frag) (mg : Str → Option Value) (base : Heap) (N : List Str) (qual : Str) (st : Stmt) (k : Nat) (G : DS → Prop) : Prop :=
  ∀ (f : Addr) (cdv : Value) (A : Around) (outer : List PySem.Env) (s : Shared) (H : Hp) (E : XK), Room k (ctx P w K mg base N qual st f cdv A outer s H E).A → ∃ ts, QSs (ctx P w K mg base N qual st f cdv A outer s H E) (defBody st) ts ∧ G ts
/-- a def's body from data to data -/
theorem fn_D {x qual : Str} {st : Stmt} {f : Addr} {fd : FuncData} {N ps : List Str} {k : Nat} {p : List D → (D → Prop) → Prop} (F : Fun K x qual st f fd) (S : FnScope N ps (defScope st)) (len : ∀ ds R, p ds R → ds.length = ps.length)
    (hbody : Body P w K mg base N qual st k fun ts => ∀ ds R, p ds R → ts { nx := fun _ => R .none, rt := fun d _ => R d } (startD N ds)) : FnOk P w K mg base CX0 (k + 1) f fd ps (spD K p) := by
  refine F.ok S (fun vs H Q E h => ?_) (fun cdv A outer s H vs Q E hr h => ?_)
  · obtain ⟨O, ds, R, h1, _, h2, _⟩ := h
    rw [h1.len]
    exact len ds R h2
  · obtain ⟨O, ds, R, h1, h2, h3, h4⟩ := h
    obtain ⟨ts, hq, hs⟩ := hbody f cdv A outer s H E hr
    refine ⟨_, hq, _, _, _, _, rel_start h1 h2, hs ds R h3, fun Ow' σ' H' ρ' rel' h' => ?_, fun _ _ _ _ _ z => z.elim, fun _ _ _ _ _ z => z.elim, fun Ow' σ' H' ρ' v d rel' rp' h' => ?_, fun _ _ _ _ _ _ _ _ _ _ _ z => z.elim⟩
    · exact h4 .non H' .none (fun b o q => rel'.kept b o (fun i z => nomatch z) q) .non h'
    · exact h4 v H' d (fun b o q => rel'.kept b o (fun i z => nomatch z) q) (rp'.less fun b z => .inl z) h'
theorem fn_F {x qual : Str} {st : Stmt} {f : Addr} {fd : FuncData} {N ps : List Str} {k : Nat} {p : List D → (List D → Prop) → Prop} (F : Fun K x qual st f fd) (S : FnScope N ps (defScope st)) (len : ∀ ds R, p ds R → ds.length = ps.length)
    (hbody : Body P w K mg base N qual st k fun ts => ∀ ds R, p ds R → ts { nx := fun _ => False, rt := fun _ _ => False, rf := fun cs _ => R cs } (startD N ds)) : FnOk P w K mg base CX0 (k + 1) f fd ps (spF K p) := by
  refine F.ok S (fun vs H Q E h => ?_) (fun cdv A outer s H vs Q E hr h => ?_)
  · obtain ⟨O, ds, R, h1, _, h2, _⟩ := h
    rw [h1.len]
    exact len ds R h2
  · obtain ⟨O, ds, R, h1, h2, h3, h4⟩ := h
    obtain ⟨ts, hq, hs⟩ := hbody f cdv A outer s H E hr
    refine ⟨_, hq, _, _, _, _, rel_start h1 h2, hs ds R h3, fun _ _ _ _ _ z => z.elim, fun _ _ _ _ _ z => z.elim, fun _ _ _ _ _ z => z.elim, fun _ _ _ _ _ _ _ _ z => z.elim, fun Ow' σ' H' ρ' q xs cs nw hp rel' rp' h' => ?_⟩
    exact h4 q H' xs cs (fun b o z => rel'.kept b o (fun i z => nomatch z) z) nw.h0 hp (rp'.less fun b z => .inl z) h'
def startI (N : List Str) (cs ds : List D) : Env := .io cs :: (ds.map .sh ++ List.replicate (N.length - (ds.length + 1)) .no)
theorem rel_startI {N : List Str} {O : Addr → Prop} {H : Hp} {a : Addr} {xs vs : List V} {cs ds : List D} (hO : O a) (ha : H a = some (.lst xs)) (hc : RpA K O H xs cs) (r : RpA K O H vs ds) (ht : ∀ a, O a → ∃ o, H a = some o) (hN : N ≠ []) :
    Rel K ⟨H, O, [(0, a)], [], []⟩ (fun i => if i = 0 then some a else none) (L2.start N (.ref a :: vs)) H (startI N cs ds) := by
  have e := r.len
  have lessO : ∀ b, own O (fun i => if i = 0 then some a else none) b → O b := fun b z => by
    rcases z with z | ⟨j, z⟩
    · exact z
    · by_cases q : j = 0
      · simp only [q, if_true] at z
        cases z; exact hO
      · simp only [q, if_false] at z
        cases z
  refine ⟨by unfold L2.start startI; simp [e], fun i s h => ?_, fun i hi => ?_, fun i j b h1 h2 => ?_, fun b o _ h => h, ht, fun i b h => ?_, fun i b h => ?_, fun p hp => ?_, fun i b c h1 h2 => ?_, fun p hp => (nomatch hp), fun p hp => (nomatch hp)⟩
  · unfold startI at h
    unfold L2.start
    cases i with
    | zero =>
      simp only [List.getElem?_cons_zero] at h
      cases h
      exact ⟨a, xs, rfl, rfl, ha, hc.less lessO, List.mem_singleton.mpr rfl⟩
    | succ i =>
      simp only [List.getElem?_cons_succ, List.map_cons, List.cons_append] at h ⊢
      have ez : (if i + 1 = 0 then some a else none) = (none : Option Addr) := by simp
      rw [ez]
      by_cases hi : i < ds.length
      · rw [List.getElem?_append_left (by rw [List.length_map]; exact hi), List.getElem?_map, List.getElem?_eq_getElem hi] at h
        cases h
        obtain ⟨v, h1, h2⟩ := r.get (List.getElem?_eq_getElem hi)
        refine ⟨rfl, v, ?_, h2.less lessO⟩
        rw [List.getElem?_append_left (by rw [List.length_map, e]; exact hi), List.getElem?_map, h1]
        rfl
      · rw [List.getElem?_append_right (by rw [List.length_map]; omega)] at h
        obtain ⟨_, q⟩ := List.getElem?_eq_some_iff.mp h
        rw [List.getElem_replicate] at q
        subst q
        exact rfl
  · have : i ≠ 0 := by
      unfold startI at hi
      simp at hi
      omega
    simp [this]
  · by_cases q : i = 0
    · by_cases q2 : j = 0
      · rw [q, q2]
      · simp [q2] at h2
    · simp [q] at h1
  · by_cases q : i = 0
    · simp [q] at h
      subst h
      exact .inr (by rw [q]; exact List.mem_singleton.mpr rfl)
    · simp [q] at h
  · by_cases q : i = 0
    · simp [q] at h
      subst h
      exact .inl (by rw [q]; exact List.mem_singleton.mpr rfl)
    · simp [q] at h
  · cases List.mem_singleton.mp hp
    exact ⟨cs, rfl⟩
  · cases List.mem_singleton.mp h1
    cases List.mem_singleton.mp h2
    rfl
theorem Rel.endI {A : Act} {O : Addr → Prop} {H0 : Hp} {a : Addr} {Ow : Nat → Option Addr} {σ : L2.St} {H : Hp} {ρ : Env} {cs : List D} (hA : A.io = [(0, a)]) (R : Rel K A Ow σ H ρ) (h : ρ[0]? = some (.io cs)) : ∃ xs, H a = some (.lst xs) ∧ RpA K (own A.FO Ow) H xs cs := by
  obtain ⟨b, xs, h1, h2, h3, h4, h5⟩ := R.sl 0 _ h
  rw [hA] at h5
  cases List.mem_singleton.mp h5
  exact ⟨xs, h3, h4⟩
theorem not_io {a b : Addr} (h : b ≠ a) : ∀ i : Nat, (i, b) ∉ [((0 : Nat), a)] := fun i z => by
  cases List.mem_singleton.mp z
  exact h rfl
theorem fn_I {x qual : Str} {st : Stmt} {f : Addr} {fd : FuncData} {N ps : List Str} {k : Nat} {p : List D → List D → (D → List D → Prop) → Prop} (F : Fun K x qual st f fd) (S : FnScope N ps (defScope st)) (hN : N ≠ []) (len : ∀ cs ds R, p cs ds R → ds.length + 1 = ps.length)
    (hbody : Body P w K mg base N qual st k fun ts => ∀ cs ds R, p cs ds R → ts { nx := fun ρ => ∃ cs', ρ[0]? = some (.io cs') ∧ R .none cs', rt := fun d ρ => ∃ cs', ρ[0]? = some (.io cs') ∧ R d cs' } (startI N cs ds)) : FnOk P w K mg base CX0 (k + 1) f fd ps (spI K p) := by
  refine F.ok S (fun vs H Q E h => ?_) (fun cdv A outer s H vs Q E hr h => ?_)
  · obtain ⟨O, a, xs, cs, vs', ds, R, rfl, _, _, _, h1, _, h2, _⟩ := h
    rw [List.length_cons, h1.len]
    exact len cs ds R h2
  · obtain ⟨O, a, xs, cs, vs', ds, R, rfl, hO, ha, hc, h1, h2, h3, h4⟩ := h
    obtain ⟨ts, hq, hs⟩ := hbody f cdv A outer s H E hr
    refine ⟨_, hq, _, _, _, _, rel_startI hO ha hc h1 h2 hN, hs cs ds R h3, fun Ow' σ' H' ρ' rel' ⟨cs', g1, g2⟩ => ?_, fun _ _ _ _ _ z => z.elim, fun _ _ _ _ _ z => z.elim, fun Ow' σ' H' ρ' v d rel' rp' ⟨cs', g1, g2⟩ => ?_, fun _ _ _ _ _ _ _ _ _ _ _ z => z.elim⟩
    · obtain ⟨xs', k1, k2⟩ := rel'.endI (O := O) (H0 := H) rfl g1
      exact h4 .non H' xs' cs' .none (fun b o n q => rel'.kept b o (not_io n) q) k1 (k2.less fun b z => .inl z) .non g2
    · obtain ⟨xs', k1, k2⟩ := rel'.endI (O := O) (H0 := H) rfl g1
      exact h4 v H' xs' cs' d (fun b o n q => rel'.kept b o (not_io n) q) k1 (k2.less fun b z => .inl z) (rp'.less fun b z => .inl z) g2
end
/-! ### operations -/
section
variable {K : PySem.W.Frag}
def dI (C : Int → Int → Prop) (g : Int → Int → D) (d e : D) (R : D → Prop) : Prop := match d, e with
  | .int i, .int j => C i j ∧ R (g i j)
  | _, _ => False
def dI0 (g : Int → Int → D) (d e : D) (R : D → Prop) : Prop := match d, e with
  | .int i, .int j => R (g i j)
  | _, _ => False
theorem lift_I {C : Int → Int → Prop} {g : Int → Int → V} {g' : Int → Int → D} (hg : ∀ O H i j, Rp K O H (g i j) (g' i j)) : Lift2 K (rI C g) (dI C g') := fun O H x y d e R Q _ hx hy h k => by
  cases hx with
  | int i =>
    cases hy with
    | int j => exact ⟨i, j, rfl, rfl, h.1, k _ _ _ (Same.refl H) (hg O H i j) h.2⟩
    | _ => exact h.elim
  | _ => cases hy <;> exact h.elim
theorem lift_I0 {g : Int → Int → V} {g' : Int → Int → D} (hg : ∀ O H i j, Rp K O H (g i j) (g' i j)) : Lift2 K (rI0 g) (dI0 g') := fun O H x y d e R Q _ hx hy h k => by
  cases hx with
  | int i =>
    cases hy with
    | int j => exact ⟨i, j, rfl, rfl, k _ _ _ (Same.refl H) (hg O H i j) h⟩
    | _ => exact h.elim
  | _ => cases hy <;> exact h.elim
theorem Lift2.or {r r' : R2} {rd rd' : D → D → (D → Prop) → Prop} (h : Lift2 K r rd) (h' : Lift2 K r' rd') : Lift2 K (fun x y H Q => r x y H Q ∨ r' x y H Q) (fun d e R => rd d e R ∨ rd' d e R) := fun O H x y d e R Q ho hx hy q k => by
  rcases q with q | q
  · exact .inl (h O H x y d e R Q ho hx hy q k)
  · exact .inr (h' O H x y d e R Q ho hx hy q k)
theorem Lift2.less {r : R2} {rd rd' : D → D → (D → Prop) → Prop} (h : Lift2 K r rd) (s : ∀ d e R, rd' d e R → rd d e R) : Lift2 K r rd' := fun O H x y d e R Q ho hx hy q k => h O H x y d e R Q ho hx hy (s d e R q) k
def dStrCat (d e : D) (R : D → Prop) : Prop := match d, e with
  | .str i, .str j => i.length + j.length ≤ sizeLine ∧ R (.str (i ++ j))
  | _, _ => False
theorem lift_strCat : Lift2 K (fun x y H Q => ∃ i j, x = .str i ∧ y = .str j ∧ i.length + j.length ≤ sizeLine ∧ Q (.str (i ++ j)) H) dStrCat := fun O H x y d e R Q _ hx hy h k => by
  cases hx with
  | str i =>
    cases hy with
    | str j => exact ⟨i, j, rfl, rfl, h.1, k _ _ _ (Same.refl H) (.str _) h.2⟩
    | _ => exact h.elim
  | _ => cases hy <;> exact h.elim
def dAdd (d e : D) (R : D → Prop) : Prop := match d, e with
  | .int i, .int j => R (.int (i + j))
  | .str i, .str j => i.length + j.length ≤ sizeLine ∧ R (.str (i ++ j))
  | _, _ => False
theorem lift_add : Lift2 K (fun x y H Q => rI0 (fun i j => .int (i + j)) x y H Q ∨ ∃ i j, x = .str i ∧ y = .str j ∧ i.length + j.length ≤ sizeLine ∧ Q (.str (i ++ j)) H) dAdd :=
  ((lift_I0 fun _ _ _ _ => .int _).or lift_strCat).less (rd' := dAdd) fun d e R h => by
    cases d <;> cases e <;> first | exact .inl h | exact .inr h | exact h.elim
abbrev dSub := dI0 fun i j => .int (i - j)
def CMulA (i j : Int) : Prop := CMul i j ∨ CMulX i j
theorem op_mulA {X : Cx} : OpR X (binaryOp .Mult) (rI CMulA fun i j => .int (i * j)) := opI fun _ _ _ _ _ _ _ hc q => PyProof.Rows.mul_int q (hc.elim (fun h => h.ok) fun h => h.ok)
def CDivG (i j : Int) : Prop := j ≠ 0 ∧ Builtin.divisionGoesByPylong i j = false
theorem op_fdivG {X : Cx} : OpR X (binaryOp .FloorDiv) (rI CDivG fun i j => .int (i.fdiv j)) := opI fun _ _ _ _ _ _ _ hc q => PyProof.Rows.floordiv_int hc.1 q (.inl hc.2)
abbrev dMul := dI CMulA fun i j => .int (i * j)
abbrev dFdv := dI CDivG fun i j => .int (i.fdiv j)
abbrev dMod := dI (fun _ j => j ≠ 0) fun i j => .int (i.fmod j)
abbrev dPow := dI CPow fun i j => .int (i ^ j.toNat)
/-! equality -/
def rEqA (K : PySem.W.Frag) : R2 := fun x y H Q => rEq x y H Q ∨ rEqD K x y H Q
def rNeA (K : PySem.W.Frag) : R2 := fun x y H Q => rNe x y H Q ∨ rNeD K x y H Q
def dEqB (d e : D) (R : Bool → Prop) : Prop := match d, e with
  | .int i, .int j => R (i == j)
  | .str i, .str j => R (i == j)
  | .bool i, .bool j => R (i == j)
  | d, e => SeqAt.shaped d = true ∧ SeqAt.shaped e = true ∧ R (PyData.eqv d e)
def dEq (d e : D) (R : D → Prop) : Prop := dEqB d e fun b => R (.bool b)
def dNe (d e : D) (R : D → Prop) : Prop := dEqB d e fun b => R (.bool !b)
theorem rEq_int {i j : Int} {H : Hp} {Q : VK} (h : Q (.bl (i == j)) H) : rEq (.int i) (.int j) H Q := ⟨rfl, by rw [dec_int]; exact h⟩
theorem rEq_str {i j : Str} {H : Hp} {Q : VK} (h : Q (.bl (i == j)) H) : rEq (.str i) (.str j) H Q := ⟨rfl, by rw [dec_str]; exact h⟩
theorem rEq_bl {i j : Bool} {H : Hp} {Q : VK} (h : Q (.bl (i == j)) H) : rEq (.bl i) (.bl j) H Q := ⟨rfl, by rw [dec_bl]; exact h⟩
theorem rNe_int {i j : Int} {H : Hp} {Q : VK} (h : Q (.bl (!(i == j))) H) : rNe (.int i) (.int j) H Q := ⟨rfl, by rw [dec_int]; exact h⟩
theorem rNe_str {i j : Str} {H : Hp} {Q : VK} (h : Q (.bl (!(i == j))) H) : rNe (.str i) (.str j) H Q := ⟨rfl, by rw [dec_str]; exact h⟩
theorem rNe_bl {i j : Bool} {H : Hp} {Q : VK} (h : Q (.bl (!(i == j))) H) : rNe (.bl i) (.bl j) H Q := ⟨rfl, by rw [dec_bl]; exact h⟩
theorem lift_eq : Lift2 K (rEqA K) dEq := fun O H x y d e R Q _ hx hy h k => by
  have dp1 := hx.dp
  have dp2 := hy.dp
  cases hx with
  | int i =>
    cases hy with
    | int j => exact .inl (rEq_int (k _ _ _ (Same.refl H) (.bl _) h))
    | _ => exact .inr ⟨_, _, dp1, dp2, h.1, h.2.1, k _ _ _ (Same.refl H) (.bl _) h.2.2⟩
  | str i =>
    cases hy with
    | str j => exact .inl (rEq_str (k _ _ _ (Same.refl H) (.bl _) h))
    | _ => exact .inr ⟨_, _, dp1, dp2, h.1, h.2.1, k _ _ _ (Same.refl H) (.bl _) h.2.2⟩
  | bl i =>
    cases hy with
    | bl j => exact .inl (rEq_bl (k _ _ _ (Same.refl H) (.bl _) h))
    | _ => exact .inr ⟨_, _, dp1, dp2, h.1, h.2.1, k _ _ _ (Same.refl H) (.bl _) h.2.2⟩
  | _ => cases hy <;> exact .inr ⟨_, _, dp1, dp2, h.1, h.2.1, k _ _ _ (Same.refl H) (.bl _) h.2.2⟩
theorem lift_ne : Lift2 K (rNeA K) dNe := fun O H x y d e R Q _ hx hy h k => by
  have dp1 := hx.dp
  have dp2 := hy.dp
  cases hx with
  | int i =>
    cases hy with
    | int j => exact .inl (rNe_int (k _ _ _ (Same.refl H) (.bl _) h))
    | _ => exact .inr ⟨_, _, dp1, dp2, h.1, h.2.1, k _ _ _ (Same.refl H) (.bl _) h.2.2⟩
  | str i =>
    cases hy with
    | str j => exact .inl (rNe_str (k _ _ _ (Same.refl H) (.bl _) h))
    | _ => exact .inr ⟨_, _, dp1, dp2, h.1, h.2.1, k _ _ _ (Same.refl H) (.bl _) h.2.2⟩
  | bl i =>
    cases hy with
    | bl j => exact .inl (rNe_bl (k _ _ _ (Same.refl H) (.bl _) h))
    | _ => exact .inr ⟨_, _, dp1, dp2, h.1, h.2.1, k _ _ _ (Same.refl H) (.bl _) h.2.2⟩
  | _ => cases hy <;> exact .inr ⟨_, _, dp1, dp2, h.1, h.2.1, k _ _ _ (Same.refl H) (.bl _) h.2.2⟩
/-! order -/
def rCmD (K : PySem.W.Frag) (f : D → D → Bool) : R2 := fun x y H Q => ∃ d e, Dp K H x d ∧ Dp K H y e ∧ PySem.W.alike d e = true ∧ d ≠ .none ∧ d.depth ≤ 64 ∧ Q (.bl (f d e)) H
def dCmB (g : Int → Int → Bool) (f : D → D → Bool) (d e : D) (R : D → Prop) : Prop := match d, e with
  | .int i, .int j => R (.bool (g i j))
  | d, e => PySem.W.alike d e = true ∧ d ≠ .none ∧ d.depth ≤ 64 ∧ R (.bool (f d e))
theorem lift_cm {g : Int → Int → Bool} {f : D → D → Bool} : Lift2 K (fun x y H Q => rI0 (fun i j => .bl (g i j)) x y H Q ∨ rCmD K f x y H Q) (dCmB g f) := fun O H x y d e R Q _ hx hy h k => by
  have dp1 := hx.dp
  have dp2 := hy.dp
  cases hx with
  | int i =>
    cases hy with
    | int j => exact .inl ⟨i, j, rfl, rfl, k _ _ _ (Same.refl H) (.bl _) h⟩
    | _ => exact .inr ⟨_, _, dp1, dp2, h.1, h.2.1, h.2.2.1, k _ _ _ (Same.refl H) (.bl _) h.2.2.2⟩
  | _ => cases hy <;> exact .inr ⟨_, _, dp1, dp2, h.1, h.2.1, h.2.2.1, k _ _ _ (Same.refl H) (.bl _) h.2.2.2⟩
variable {X : Cx}
theorem op_ltD (hu : X.A.units + 64 < cLine) : OpR X (compareOp .Lt) (rCmD X.K fun d e => PySem.W.dataLt d e) := by
  intro pins s σ H x y v u Q I rx ry h
  obtain ⟨d, e, hd, he, ha, hn, hdp, q⟩ := h
  obtain ⟨as, r1⟩ := Dp.reads I d x v hd rx
  obtain ⟨bs, r2⟩ := Dp.reads I e y u he ry
  have hm : min d.depth e.depth ≤ d.depth := Nat.min_le_left _ _
  exact PySem.W.lt_data r1 r2 ha hn (by omega) ⟨.bl _, H, I, rfl, q⟩
theorem op_gtD (hu : X.A.units + 64 < cLine) : OpR X (compareOp .Gt) (rCmD X.K fun d e => PySem.W.dataLt e d) := by
  intro pins s σ H x y v u Q I rx ry h
  obtain ⟨d, e, hd, he, ha, hn, hdp, q⟩ := h
  obtain ⟨as, r1⟩ := Dp.reads I d x v hd rx
  obtain ⟨bs, r2⟩ := Dp.reads I e y u he ry
  have hm : min d.depth e.depth ≤ d.depth := Nat.min_le_left _ _
  exact PySem.W.gt_data r1 r2 ha hn (by omega) ⟨.bl _, H, I, rfl, q⟩
theorem op_leD (hu : X.A.units + 64 < cLine) : OpR X (compareOp .LtE) (rCmD X.K fun d e => !PySem.W.dataLt e d) := by
  intro pins s σ H x y v u Q I rx ry h
  obtain ⟨d, e, hd, he, ha, hn, hdp, q⟩ := h
  obtain ⟨as, r1⟩ := Dp.reads I d x v hd rx
  obtain ⟨bs, r2⟩ := Dp.reads I e y u he ry
  have hm : min d.depth e.depth ≤ d.depth := Nat.min_le_left _ _
  exact PySem.W.le_data r1 r2 ha hn (by omega) ⟨.bl _, H, I, rfl, q⟩
theorem op_geD (hu : X.A.units + 64 < cLine) : OpR X (compareOp .GtE) (rCmD X.K fun d e => !PySem.W.dataLt d e) := by
  intro pins s σ H x y v u Q I rx ry h
  obtain ⟨d, e, hd, he, ha, hn, hdp, q⟩ := h
  obtain ⟨as, r1⟩ := Dp.reads I d x v hd rx
  obtain ⟨bs, r2⟩ := Dp.reads I e y u he ry
  have hm : min d.depth e.depth ≤ d.depth := Nat.min_le_left _ _
  exact PySem.W.ge_data r1 r2 ha hn (by omega) ⟨.bl _, H, I, rfl, q⟩
abbrev dLt := dCmB (fun i j => decide (i < j)) fun d e => PySem.W.dataLt d e
abbrev dGt := dCmB (fun i j => decide (j < i)) fun d e => PySem.W.dataLt e d
abbrev dLe := dCmB (fun i j => decide (i ≤ j)) fun d e => !PySem.W.dataLt e d
abbrev dGe := dCmB (fun i j => decide (j ≤ i)) fun d e => !PySem.W.dataLt d e
/-! in -/
def dIn (neg : Bool) (d e : D) (R : D → Prop) : Prop := match e with
  | .list ds => SeqAt.shaped d = true ∧ SeqAt.shaped (.list ds) = true ∧ R (.bool (if neg then !(ds.any fun z => PyData.eqv z d) else ds.any fun z => PyData.eqv z d))
  | _ => False
theorem lift_in : Lift2 K (rInD K) (dIn false) := fun O H x y d e R Q _ hx hy h k => by
  have dp1 := hx.dp
  have dp2 := hy.dp
  cases hy with
  | lst _ _ => exact ⟨d, _, dp1, dp2, h.1, h.2.1, k _ _ _ (Same.refl H) (.bl _) h.2.2⟩
  | _ => exact h.elim
theorem lift_notin : Lift2 K (rNotInD K) (dIn true) := fun O H x y d e R Q _ hx hy h k => by
  have dp1 := hx.dp
  have dp2 := hy.dp
  cases hy with
  | lst _ _ => exact ⟨d, _, dp1, dp2, h.1, h.2.1, k _ _ _ (Same.refl H) (.bl _) h.2.2⟩
  | _ => exact h.elim
/-! the rules -/
variable {pos : Pos} {a b : Expr} {ta tb : DE}
theorem q_add (ha : QE X a ta) (hb : QE X b tb) : QE X (.BinOp a .Add b pos) (dOp dAdd ta tb) := qe_op (op_add.or op_add_str) lift_add ha hb
theorem q_sub (ha : QE X a ta) (hb : QE X b tb) : QE X (.BinOp a .Sub b pos) (dOp dSub ta tb) := qe_op op_sub (lift_I0 fun _ _ _ _ => .int _) ha hb
theorem q_mul (ha : QE X a ta) (hb : QE X b tb) : QE X (.BinOp a .Mult b pos) (dOp dMul ta tb) := qe_op op_mulA (lift_I fun _ _ _ _ => .int _) ha hb
theorem q_fdv (ha : QE X a ta) (hb : QE X b tb) : QE X (.BinOp a .FloorDiv b pos) (dOp dFdv ta tb) := qe_op op_fdivG (lift_I fun _ _ _ _ => .int _) ha hb
theorem q_mod (ha : QE X a ta) (hb : QE X b tb) : QE X (.BinOp a .Mod b pos) (dOp dMod ta tb) := qe_op op_modN (lift_I fun _ _ _ _ => .int _) ha hb
theorem q_pow (ha : QE X a ta) (hb : QE X b tb) : QE X (.BinOp a .Pow b pos) (dOp dPow ta tb) := qe_op op_pow (lift_I fun _ _ _ _ => .int _) ha hb
def dNeg (d : D) (R : D → Prop) : Prop := match d with
  | .int i => R (.int (-i))
  | _ => False
theorem lift_neg : Lift1 K (rU fun i => .int (-i)) dNeg := fun O H x d R Q _ hx h k => by
  cases hx with
  | int i => exact ⟨i, rfl, k _ _ _ (Same.refl H) (.int _) h⟩
  | _ => exact h.elim
theorem q_neg (ha : QE X a ta) : QE X (.UnaryOp .USub a pos) (fun ρ Q => ta ρ fun d ρ1 => dNeg d fun z => Q z ρ1) := qe_un un_neg lift_neg ha
theorem q_eq (hu : X.A.units + 64 < cLine) (ha : QE X a ta) (hb : QE X b tb) : QE X (.Compare a [.Eq] [b] pos) (dOp dEq ta tb) := qe_cmpR (op_eq.or (op_eqD hu)) lift_eq ha hb (nomark _)
theorem q_ne (hu : X.A.units + 64 < cLine) (ha : QE X a ta) (hb : QE X b tb) : QE X (.Compare a [.NotEq] [b] pos) (dOp dNe ta tb) := qe_cmpR (op_ne.or (op_neD hu)) lift_ne ha hb (nomark _)
theorem q_lt (hu : X.A.units + 64 < cLine) (ha : QE X a ta) (hb : QE X b tb) : QE X (.Compare a [.Lt] [b] pos) (dOp dLt ta tb) := qe_cmpR (op_lt.or (op_ltD hu)) lift_cm ha hb (nomark _)
theorem q_gt (hu : X.A.units + 64 < cLine) (ha : QE X a ta) (hb : QE X b tb) : QE X (.Compare a [.Gt] [b] pos) (dOp dGt ta tb) := qe_cmpR (op_gt.or (op_gtD hu)) lift_cm ha hb (nomark _)
theorem q_le (hu : X.A.units + 64 < cLine) (ha : QE X a ta) (hb : QE X b tb) : QE X (.Compare a [.LtE] [b] pos) (dOp dLe ta tb) := qe_cmpR (op_le.or (op_leD hu)) lift_cm ha hb (nomark _)
theorem q_ge (hu : X.A.units + 64 < cLine) (ha : QE X a ta) (hb : QE X b tb) : QE X (.Compare a [.GtE] [b] pos) (dOp dGe ta tb) := qe_cmpR (op_ge.or (op_geD hu)) lift_cm ha hb (nomark _)
theorem t_eq (hu : X.A.units + 64 < cLine) (ha : QE X a ta) (hb : QE X b tb) : QT X (.Compare a [.Eq] [b] pos) (dTest (dOp dEq ta tb)) := qt_cmpR (op_eq.or (op_eqD hu)) lift_eq ha hb (nomark _)
theorem t_ne (hu : X.A.units + 64 < cLine) (ha : QE X a ta) (hb : QE X b tb) : QT X (.Compare a [.NotEq] [b] pos) (dTest (dOp dNe ta tb)) := qt_cmpR (op_ne.or (op_neD hu)) lift_ne ha hb (nomark _)
theorem t_lt (hu : X.A.units + 64 < cLine) (ha : QE X a ta) (hb : QE X b tb) : QT X (.Compare a [.Lt] [b] pos) (dTest (dOp dLt ta tb)) := qt_cmpR (op_lt.or (op_ltD hu)) lift_cm ha hb (nomark _)
theorem t_gt (hu : X.A.units + 64 < cLine) (ha : QE X a ta) (hb : QE X b tb) : QT X (.Compare a [.Gt] [b] pos) (dTest (dOp dGt ta tb)) := qt_cmpR (op_gt.or (op_gtD hu)) lift_cm ha hb (nomark _)
theorem t_le (hu : X.A.units + 64 < cLine) (ha : QE X a ta) (hb : QE X b tb) : QT X (.Compare a [.LtE] [b] pos) (dTest (dOp dLe ta tb)) := qt_cmpR (op_le.or (op_leD hu)) lift_cm ha hb (nomark _)
theorem t_ge (hu : X.A.units + 64 < cLine) (ha : QE X a ta) (hb : QE X b tb) : QT X (.Compare a [.GtE] [b] pos) (dTest (dOp dGe ta tb)) := qt_cmpR (op_ge.or (op_geD hu)) lift_cm ha hb (nomark _)
theorem q_in (hu : X.A.units + 65 < cLine) (ha : QE X a ta) (hb : QE X b tb) (hm : behindInMarks .In b = false := by with_unfolding_all rfl) : QE X (.Compare a [.In] [b] pos) (dOp (dIn false) ta tb) := qe_cmpR (op_inD hu) lift_in ha hb hm
theorem t_in (hu : X.A.units + 65 < cLine) (ha : QE X a ta) (hb : QE X b tb) (hm : behindInMarks .In b = false := by with_unfolding_all rfl) : QT X (.Compare a [.In] [b] pos) (dTest (dOp (dIn false) ta tb)) := qt_cmpR (op_inD hu) lift_in ha hb hm
theorem q_notin (hu : X.A.units + 65 < cLine) (ha : QE X a ta) (hb : QE X b tb) (hm : behindInMarks .NotIn b = false := by with_unfolding_all rfl) : QE X (.Compare a [.NotIn] [b] pos) (dOp (dIn true) ta tb) := qe_cmpR (op_notInD hu) lift_notin ha hb hm
theorem t_notin (hu : X.A.units + 65 < cLine) (ha : QE X a ta) (hb : QE X b tb) (hm : behindInMarks .NotIn b = false := by with_unfolding_all rfl) : QT X (.Compare a [.NotIn] [b] pos) (dTest (dOp (dIn true) ta tb)) := qt_cmpR (op_notInD hu) lift_notin ha hb hm
/-! built-ins -/
def dC1 (g : Int → D) (ds : List D) (R : D → Prop) : Prop := match ds with
  | [.int i] => R (g i)
  | _ => False
def dC2 (g : Int → Int → D) (ds : List D) (R : D → Prop) : Prop := match ds with
  | [.int i, .int j] => R (g i j)
  | _ => False
theorem lift_C1 {g : Int → V} {g' : Int → D} (hg : ∀ O H i, Rp K O H (g i) (g' i)) : LiftC K (fun xs H Q => ∃ i, xs = [.int i] ∧ Q (g i) H) (dC1 g') := fun O H xs ds R Q _ hx h k => by
  unfold dC1 at h
  split at h
  · match xs, hx with
    | _, .cons (.int i) .nil => exact ⟨i, rfl, k _ _ _ (Same.refl H) (hg _ _ _) h⟩
  · exact h.elim
theorem lift_C2 {g : Int → Int → V} {g' : Int → Int → D} (hg : ∀ O H i j, Rp K O H (g i j) (g' i j)) : LiftC K (fun xs H Q => ∃ i j, xs = [.int i, .int j] ∧ Q (g i j) H) (dC2 g') := fun O H xs ds R Q _ hx h k => by
  unfold dC2 at h
  split at h
  · match xs, hx with
    | _, .cons (.int i) (.cons (.int j) .nil) => exact ⟨i, j, rfl, k _ _ _ (Same.refl H) (hg _ _ _ _) h⟩
  · exact h.elim
abbrev dAbs := dC1 fun i => .int (if i < 0 then -i else i)
abbrev dMax2 := dC2 fun i j => .int (if j > i then j else i)
abbrev dMin2 := dC2 fun i j => .int (if j < i then j else i)
def dInt (ds : List D) (R : D → Prop) : Prop := match ds with
  | [.int i] => R (.int i)
  | [.bool k] => R (.int (if k then 1 else 0))
  | _ => False
theorem lift_int : LiftC K (fun xs H Q => (∃ i, xs = [.int i] ∧ Q (.int i) H) ∨ ∃ k, xs = [.bl k] ∧ Q (.int (if k then 1 else 0)) H) dInt := fun O H xs ds R Q _ hx h k => by
  unfold dInt at h
  split at h
  · match xs, hx with
    | _, .cons (.int i) .nil => exact .inl ⟨i, rfl, k _ _ _ (Same.refl H) (.int _) h⟩
  · match xs, hx with
    | _, .cons (.bl i) .nil => exact .inr ⟨i, rfl, k _ _ _ (Same.refl H) (.int _) h⟩
  · exact h.elim
def dLen (ds : List D) (R : D → Prop) : Prop := match ds with
  | [.list xs] => R (.int xs.length)
  | [.tuple xs] => R (.int xs.length)
  | [.str z] => z.length ≤ sizeLine ∧ R (.int z.length)
  | _ => False
theorem lift_len : LiftC K (fun xs H Q => ∃ x n, xs = [x] ∧ LenV K x H n ∧ Q (.int n) H) dLen := fun O H xs ds R Q _ hx h k => by
  unfold dLen at h
  split at h
  · match xs, hx with
    | _, .cons (.lst hs ha) .nil => exact ⟨_, _, rfl, .inl ⟨_, hs.sq, ha.len.symm⟩, k _ _ _ (Same.refl H) (.int _) h⟩
  · match xs, hx with
    | _, .cons (.tup hs ha) .nil => exact ⟨_, _, rfl, .inr ⟨_, hs.sq, ha.len.symm⟩, k _ _ _ (Same.refl H) (.int _) h⟩
  · match xs, hx with
    | _, .cons (.str z) .nil => exact ⟨_, _, rfl, ⟨h.1, rfl⟩, k _ _ _ (Same.refl H) (.int _) h.2⟩
  · exact h.elim
variable {e : Expr} {p : Pos}
theorem q_abs {ta : DA} (hg : Gl X "abs") (hm : X.mg "abs" = none) (ha : QA X [e] ta) (he : starEach [e] X.env = (false, eval e X.env) :: starEach [] X.env := by rfl) : QE X (.Call (.Name "abs" p) [e] [] pos) (dCB dAbs ta) := qe_callB call_abs (lift_C1 fun _ _ _ => .int _) hg hm (by rfl) ha (by decide) (by decide) he
theorem q_max {e2 : Expr} {ta : DA} (hc : X.calm = true) (hg : Gl X "max") (hm : X.mg "max" = none) (ha : QA X [e, e2] ta) (he : starEach [e, e2] X.env = (false, eval e X.env) :: starEach [e2] X.env := by rfl) (hpl : (backTo pos (starEach [e2] X.env)).any (·.1) = false := by rfl) :
    QE X (.Call (.Name "max" p) [e, e2] [] pos) (dCB dMax2 ta) := qe_callB (call_max2 hc) (lift_C2 fun _ _ _ _ => .int _) hg hm (by rfl) ha (by decide) (by decide) he hpl
theorem q_min {e2 : Expr} {ta : DA} (hc : X.calm = true) (hg : Gl X "min") (hm : X.mg "min" = none) (ha : QA X [e, e2] ta) (he : starEach [e, e2] X.env = (false, eval e X.env) :: starEach [e2] X.env := by rfl) (hpl : (backTo pos (starEach [e2] X.env)).any (·.1) = false := by rfl) :
    QE X (.Call (.Name "min" p) [e, e2] [] pos) (dCB dMin2 ta) := qe_callB (call_min2 hc) (lift_C2 fun _ _ _ _ => .int _) hg hm (by rfl) ha (by decide) (by decide) he hpl
theorem q_int {ta : DA} (hg : Gl X "int") (hm : X.mg "int" = none) (ha : QA X [e] ta) (he : starEach [e] X.env = (false, eval e X.env) :: starEach [] X.env := by rfl) : QE X (.Call (.Name "int" p) [e] [] pos) (dCB dInt ta) := qe_callTy call_int1 lift_int hg hm (by rfl) ha (by decide) (by decide) he
theorem q_len {ta : DA} (hg : Gl X "len") (hm : X.mg "len" = none) (ha : QA X [e] ta) (he : starEach [e] X.env = (false, eval e X.env) :: starEach [] X.env := by rfl) : QE X (.Call (.Name "len" p) [e] [] pos) (dCB dLen ta) := qe_callB call_len lift_len hg hm (by rfl) ha (by decide) (by decide) he
/-- len(x), x a list of its own -/
def dLenO (i : Nat) : DE := fun ρ Q => ∃ cs, ownedAt ρ i = some cs ∧ Q (.int cs.length) ρ
theorem q_lenO (i : Nat) {x : Str} {px : Pos} (hg : Gl X "len") (hm : X.mg "len" = none) (hN : X.N[i]? = some x := by rfl) (hv : Vis X.env.scope x := by first | exact Or.inl rfl | exact Or.inr (Or.inl rfl) | exact Or.inr (Or.inr rfl)) (hd : (x == ("__debug__" : Str)) = false := by decide)
    (hcd : (x == ("__classdict__" : Str)) = false := by decide) (he : starEach [.Name x px] X.env = (false, eval (.Name x px) X.env) :: starEach [] X.env := by rfl) : QE X (.Call (.Name "len" p) [.Name x px] [] pos) (dLenO i) := by
  refine pe_less (pe_callB call_len hg hm (by rfl) (pa_consV i pa_nil hN hv hd hcd he) (by decide) (by decide) he) fun σ H Q ⟨A, Ow, ρ, R, rel, ⟨cs, h0, h⟩, k⟩ => ?_
  obtain ⟨a, xs, h1, h2, h3, h4, _⟩ := rel.owned h0
  exact ⟨.ref a, h2, .ref a, _, rfl, .inl ⟨xs, SqL.of h3, h4.len.symm⟩, k _ H _ ρ Stp.refl rel (.int _) h⟩
/-! isinstance -/
def tyD : D → String
  | .none => "NoneType"
  | .bool _ => "bool"
  | .int _ => "int"
  | .str _ => "str"
  | .list _ => "list"
  | .tuple _ => "tuple"
  | .dict _ => "dict"
theorem tyx_of {O : Addr → Prop} {H : Hp} {v : V} {d : D} (h : Rp K O H v d) : TyX K H v (.type (tyD d)) := by
  cases h with
  | non => exact .base .non
  | bl b => exact .base (.bl b)
  | int i => exact .base (.int i)
  | str x => exact .base (.str x)
  | lst hs _ =>
    rcases hs with ⟨_, h | ⟨o, h⟩⟩ | ⟨o, its, n, h, hc, _⟩
    · exact .base (.lst h)
    · exact .base (.frz h)
    · exact .kList h hc
  | tup hs _ =>
    rcases hs with ⟨_, h | ⟨o, h⟩⟩ | ⟨o, its, n, h, hc, _⟩
    · exact .base (.tup h)
    · exact .fTuple h
    · exact .kTuple h hc
def dIsi (T : String) (te : DE) : DE := fun ρ Q => te ρ fun d ρ1 => ∃ b, kitB (tyD d) T = some b ∧ Q (.bool b) ρ1
theorem q_isi {T : String} {x : Str} {te : DE} {px : Pos} (hg : Gl X "isinstance") (hm : X.mg "isinstance" = none) (hgT : Gl X x) (hmT : X.mg x = none) (he : QE X e te) (hvT : bootBuiltins x = some (.type T) := by rfl) (hnT : x ≠ "__name__" := by decide) (hdT : (x == ("__debug__" : Str)) = false := by decide)
    (h1 : starEach [e, .Name x px] X.env = (false, eval e X.env) :: starEach [.Name x px] X.env := by rfl) (h2 : starEach [.Name x px] X.env = (false, eval (.Name x px) X.env) :: starEach [] X.env := by rfl) (hpl : (backTo pos (starEach [.Name x px] X.env)).any (·.1) = false := by rfl) :
    QE X (.Call (.Name "isinstance" p) [e, .Name x px] [] pos) (dIsi T te) :=
  pe_less (pe_callB call_isi hg hm (by rfl) (pa_cons he (pa_cons (pe_bltn (v := .ty T) hgT hmT hvT rfl hnT hdT) pa_nil h2) h1) (by decide) (by decide) h1 hpl) fun σ H Q ⟨A, Ow, ρ, R, rel, h, k⟩ =>
    ⟨A, Ow, ρ, _, rel, h, fun v H1 d ρ1 e1 rel1 rp1 ⟨b, hb, h1⟩ => ⟨v, .ty T, .type (tyD d), .type T, b, rfl, .ty T, tyx_of rp1, kit_ty hb, k _ H1 _ ρ1 e1 rel1 (.bl b) h1⟩⟩
/-! list(range(..)) -/
def dLRg2 (ta tb : DE) : DF := fun ρ Q => ta ρ fun d ρ1 => tb ρ1 fun e ρ2 => ∃ i j : Int, d = .int i ∧ e = .int j ∧ RgOk i j ∧ Q (rgD i (j - i).toNat) ρ2
theorem rpa_rg {O : Addr → Prop} {H : Hp} {lo : Int} {n : Nat} : RpA K O H ((List.range n).map fun i => V.int (lo + (i : Nat))) (rgD lo n) := by
  have e : ∀ l : List Nat, RpA K O H (l.map fun i => V.int (lo + (i : Nat))) (l.map fun (k : Nat) => PyData.int (lo + (k : Int))) := fun l => by
    induction l with
    | nil => exact .nil
    | cons a l ih => exact .cons (.int _) ih
  exact e _
theorem f_lrg2 {pr : Pos} (hc : X.calm = true) (hg : Gl X "list") (hm : X.mg "list" = none) (hgr : Gl X "range") (hmr : X.mg "range" = none) (ha : QE X a ta) (hb : QE X b tb) (na : starEach [a, b] X.env = (false, eval a X.env) :: starEach [b] X.env := by rfl)
    (nb : starEach [b] X.env = (false, eval b X.env) :: starEach [] X.env := by rfl) (hp : (backTo pr (starEach [b] X.env)).any (·.1) = false := by rfl) {p2 : Pos} (nc : starEach [.Call (.Name "range" p2) [a, b] [] pr] X.env = (false, eval (.Call (.Name "range" p2) [a, b] [] pr) X.env) :: starEach [] X.env := by rfl) :
    QF X (.Call (.Name "list" p) [.Call (.Name "range" p2) [a, b] [] pr] [] pos) (dLRg2 ta tb) :=
  pe_less (pe_listRg hc hg hm (prg_2 hgr hmr ha hb na nb hp) nc) fun σ H Q ⟨A, Ow, ρ, R, rel, h, k⟩ =>
    ⟨A, Ow, ρ, _, rel, h, fun x H1 d ρ1 e1 rel1 rp1 h1 => ⟨A, Ow, ρ1, _, rel1, h1, fun y H2 e ρ2 e2 rel2 rp2 ⟨i, j, hi, hj, ok, h2⟩ => by
      subst hi hj
      cases rp1
      cases rp2
      refine ⟨i, j, rfl, rfl, ok, fun q hq => ?_⟩
      exact k q _ _ _ ρ2 ((e1.trans e2).trans (Stp.of (Same.new hq))) (rel2.nw hq) upd_same (rel2.alloc hq (Same.new hq) ⟨_, upd_same⟩) rpa_rg h2⟩⟩
/-! xs.index(y) -/
def idxD (ds : List D) (y : D) : Option Nat := ds.findIdx? fun z => PyData.eqv z y
def dIdx (to te : DE) : DE := fun ρ Q => to ρ fun d ρ1 => ∃ ds, d = .list ds ∧ te ρ1 fun y ρ2 => ∃ j, SeqAt.shaped (.list ds) = true ∧ SeqAt.shaped y = true ∧ idxD ds y = some j ∧ Q (.int (j : Nat)) ρ2
theorem idx_spec {ds : List D} {y : D} {j : Nat} (h : idxD ds y = some j) : ∃ z, ds[j]? = some z ∧ PyData.eqv z y = true ∧ ∀ (m : Nat) (z' : D), m < j → ds[m]? = some z' → PyData.eqv z' y = false := by
  obtain ⟨hj, h1, h2⟩ := List.findIdx?_eq_some_iff_getElem.mp h
  refine ⟨ds[j], List.getElem?_eq_getElem hj, h1, fun m z' hm hz => ?_⟩
  have h3 := h2 m hm
  have h4 : m < ds.length := by omega
  rw [List.getElem?_eq_getElem h4] at hz
  cases hz
  simpa using h3
theorem q_index {o : Expr} {to te : DE} {apos cpos : Pos} (hu : X.A.units + 65 < cLine) (ho : QE X o to) (he : QE X e te) (hbase : attributeBase o "index" X.env (eval o X.env) = eval o X.env := by rfl)
    (hfew : ((backTo cpos (starEach [e] X.env)).all (fun x => !x.1) && (backToKw cpos (keywordEach [] X.env)).all (fun x => x.1.isSome) && decide (([e] : List Expr).length + ([] : List Keyword).length + (if ([] : List Keyword).isEmpty then 0 else 1) < 30)) = true := by rfl)
    (hline : (apos.endLine == cpos.line) = true := by rfl) (hs : starEach [e] X.env = (false, eval e X.env) :: starEach [] X.env := by rfl) (hplain : (backTo cpos (starEach [] X.env)).any (·.1) = false := by rfl) :
    QE X (.Call (.Attribute o "index" apos) [e] [] cpos) (dIdx to te) :=
  pe_less (pe_bm PySem.F.plainAttrs_list PySem.F.slot_list_index PySem.F.type_list_index (mt_indexD hu) ho (pa_cons he pa_nil hs) hbase hfew hline hs hplain) fun σ H Q ⟨A, Ow, ρ, R, rel, h, k⟩ =>
    ⟨A, Ow, ρ, _, rel, h, fun x H1 d ρ1 e1 rel1 rp1 ⟨ds, hd, h1⟩ => by
      subst hd
      have rp0 := rp1
      cases rp1 with
      | @lst a xs _ hs ha =>
      refine ⟨.inl ⟨rfl, xs, hs.sq⟩, A, Ow, ρ1, _, rel1, h1, fun y H2 z ρ2 e2 rel2 rp2 ⟨j, s1, s2, hj, h2⟩ => ?_⟩
      obtain ⟨w, g1, g2, g3⟩ := idx_spec hj
      exact ⟨a, y, z, ds, j, w, rfl, rfl, (rp0.mono e2).dp, rp2.dp, s1, s2, g1, g2, g3, k _ H2 _ ρ2 (e1.trans e2) rel2 (.int _) h2⟩⟩
end


/-! ### the law -/

def top (i : Nat) : Stmt := PySem.Challenge.pw_drawntrue_k01_row_of_fractions.main.body.getD i (.Pass ⟨0, 0, 0, 0⟩)
abbrev st_common_divisor : Stmt := top 1
abbrev N_common_divisor : List Str := ["one", "two"]
theorem sc_common_divisor : FnScope N_common_divisor ["one", "two"] (defScope st_common_divisor) := ⟨rfl, rfl, rfl, by decide +kernel, rfl, by decide +kernel, by decide +kernel⟩
abbrev st_size_of : Stmt := top 2
abbrev N_size_of : List Str := ["one"]
theorem sc_size_of : FnScope N_size_of ["one"] (defScope st_size_of) := ⟨rfl, rfl, rfl, by decide +kernel, rfl, by decide +kernel, by decide +kernel⟩
abbrev st_of_size : Stmt := top 3
abbrev N_of_size : List Str := ["size", "found", "denominator", "tops", "top"]
theorem sc_of_size : FnScope N_of_size ["size"] (defScope st_of_size) := ⟨rfl, rfl, rfl, by decide +kernel, rfl, by decide +kernel, by decide +kernel⟩
abbrev st_place_of : Stmt := top 4
abbrev N_place_of : List Str := ["one", "size", "before", "smaller"]
theorem sc_place_of : FnScope N_place_of ["one"] (defScope st_place_of) := ⟨rfl, rfl, rfl, by decide +kernel, rfl, by decide +kernel, by decide +kernel⟩
abbrev st_ratio_at : Stmt := top 5
abbrev N_ratio_at : List Str := ["place", "size", "row"]
theorem sc_ratio_at : FnScope N_ratio_at ["place"] (defScope st_ratio_at) := ⟨rfl, rfl, rfl, by decide +kernel, rfl, by decide +kernel, by decide +kernel⟩
abbrev st__law_cell : Stmt := top 7
abbrev N__law_cell : List Str := ["script", "k", "cell"]
theorem sc__law_cell : FnScope N__law_cell ["script", "k"] (defScope st__law_cell) := ⟨rfl, rfl, rfl, by decide +kernel, rfl, by decide +kernel, by decide +kernel⟩
abbrev st__law_take : Stmt := top 8
abbrev N__law_take : List Str := ["state", "m", "x"]
theorem sc__law_take : FnScope N__law_take ["state", "m"] (defScope st__law_take) := ⟨rfl, rfl, rfl, by decide +kernel, rfl, by decide +kernel, by decide +kernel⟩
abbrev st__law_big : Stmt := top 9
abbrev N__law_big : List Str := ["script", "at", "count", "found", "k"]
theorem sc__law_big : FnScope N__law_big ["script", "at", "count"] (defScope st__law_big) := ⟨rfl, rfl, rfl, by decide +kernel, rfl, by decide +kernel, by decide +kernel⟩
abbrev st__law_divisor : Stmt := top 10
abbrev N__law_divisor : List Str := ["one", "two", "turn"]
theorem sc__law_divisor : FnScope N__law_divisor ["one", "two"] (defScope st__law_divisor) := ⟨rfl, rfl, rfl, by decide +kernel, rfl, by decide +kernel, by decide +kernel⟩
abbrev st__law_ratio : Stmt := top 11
abbrev N__law_ratio : List Str := ["p", "q", "divisor"]
theorem sc__law_ratio : FnScope N__law_ratio ["p", "q"] (defScope st__law_ratio) := ⟨rfl, rfl, rfl, by decide +kernel, rfl, by decide +kernel, by decide +kernel⟩
abbrev st__law_is_ratio : Stmt := top 12
abbrev N__law_is_ratio : List Str := ["pair", "x"]
theorem sc__law_is_ratio : FnScope N__law_is_ratio ["pair"] (defScope st__law_is_ratio) := ⟨rfl, rfl, rfl, by decide +kernel, rfl, by decide +kernel, by decide +kernel⟩
abbrev st__law_key : Stmt := top 13
abbrev N__law_key : List Str := ["one", "size"]
theorem sc__law_key : FnScope N__law_key ["one"] (defScope st__law_key) := ⟨rfl, rfl, rfl, by decide +kernel, rfl, by decide +kernel, by decide +kernel⟩
abbrev st_law : Stmt := top 14
abbrev N_law : List Str := ["script", "state", "turn", "place", "one", "two", "size", "other", "spot", "due", "k"]
theorem sc_law : FnScope N_law ["script"] (defScope st_law) := ⟨rfl, rfl, rfl, by decide +kernel, rfl, by decide +kernel, by decide +kernel⟩


def enc (z : Int × Int) : D := .tuple [.int z.1, .int z.2]
theorem sl0 : 0 ≤ sizeLine := by decide
theorem sl1 : 1 ≤ sizeLine := by decide
theorem sl2 : 2 ≤ sizeLine := by decide
theorem sl3 : 3 ≤ sizeLine := by decide
theorem sl4 : 4 ≤ sizeLine := by decide
theorem sl15 : 15 ≤ sizeLine := by decide
def nio (s : Sl) : Prop := noIo [s] 0
theorem abs_nat (a : Int) : (if a < 0 then -a else a) = (a.natAbs : Int) := by split <;> omega
theorem fmod_nat (x y : Nat) : Int.fmod (x : Int) (y : Int) = ((x % y : Nat) : Int) := by
  rw [Int.fmod_eq_emod_of_nonneg _ (Int.natCast_nonneg y)]
  exact (Int.natCast_emod x y).symm
def p_common_divisor (ds : List D) (R : D → Prop) : Prop := ∃ a b : Int, ds = [.int a, .int b] ∧ R (.int (Int.gcd a b))
theorem len_common_divisor : ∀ ds R, p_common_divisor ds R → ds.length = (["one", "two"] : List Str).length := fun ds R ⟨_, _, h, _⟩ => by rw [h]; rfl

theorem body_common_divisor {P : Program} {w : World} {K : PySem.W.Frag} {mg : Str → Option Value} {base : Heap} (z_abs : mg "abs" = none) :
  Body P w K mg base N_common_divisor "common_divisor" st_common_divisor 0 fun ts => ∀ ds R, p_common_divisor ds R → ts { nx := fun _ => R .none, rt := fun d _ => R d } (startD N_common_divisor ds) := fun f cdv A outer s H E hr => by
  refine ⟨_, (qss_cons (qs_par 0 1 (by rfl) sc_common_divisor.nd (by decide) (qa_cons (q_abs (by rfl) z_abs (qa_cons (qe_var 0) qa_nil)) (qa_cons (q_abs (by rfl) z_abs (qa_cons (qe_var 1) qa_nil)) qa_nil)))
 (qss_cons (qs_while PassesOwn.never (t_ne hr.units (qe_var 1) qe_int)
 (qss_one (qs_par 0 1 (by rfl) sc_common_divisor.nd (by decide) (qa_cons (qe_var 1) (qa_cons (q_mod (qe_var 0) (qe_var 1)) qa_nil)))))
 (qss_one (qs_ret (qe_var 0))))), ?_⟩
  intro ds R h
  obtain ⟨a, b, rfl, h⟩ := h
  refine ⟨trivial, trivial, fun m ρ => ∃ x y : Nat, ρ = [.sh (.int x), .sh (.int y)] ∧ m = y ∧ Nat.gcd x y = Int.gcd a b, ⟨_, a.natAbs, b.natAbs, ?_, rfl, rfl⟩, ?_⟩
  · show [Sl.sh (.int (if a < 0 then -a else a)), Sl.sh (.int (if b < 0 then -b else b))] = _
    rw [abs_nat, abs_nat]
  · rintro m ρ ⟨x, y, rfl, rfl, hg⟩
    refine ⟨_, rfl, fun hb => ⟨fun ρ' => ρ' = [.sh (.int m), .sh (.int ((x % m : Nat)))], ?_, ?_⟩, fun hb => ?_⟩
    · rintro _ rfl
      have hy : 0 < m := by
        have : (m : Int) ≠ 0 := by simpa using hb
        omega
      exact ⟨x % m, Nat.mod_lt _ hy, m, x % m, rfl, rfl, by rw [← hg, Nat.gcd_comm x m, Nat.gcd_rec m x, Nat.gcd_comm]⟩
    · have hy : (m : Int) ≠ 0 := by simpa using hb
      refine ⟨hy, trivial, trivial, ?_⟩
      show [Sl.sh (.int m), Sl.sh (.int (Int.fmod x m))] = _
      rw [fmod_nat]
    · have hy : m = 0 := by
        have : (m : Int) = 0 := by simpa using hb
        omega
      subst hy
      rw [Nat.gcd_zero_right] at hg
      show R (.int x)
      rw [hg]
      exact h
theorem ok_common_divisor {P : Program} {w : World} {K : PySem.W.Frag} {mg : Str → Option Value} {base : Heap} {f : Addr} {fd : FuncData} (F : Fun K "common_divisor" "common_divisor" st_common_divisor f fd) (z_abs : mg "abs" = none) :
  FnOk P w K mg base CX0 1 f fd ["one", "two"] (spD K p_common_divisor) := fn_D F sc_common_divisor len_common_divisor (body_common_divisor z_abs)

def szI (a b : Int) : Int := if b > (a.natAbs : Int) then b else (a.natAbs : Int)
def p_size_of (ds : List D) (R : D → Prop) : Prop := ∃ a b : Int, ds = [enc (a, b)] ∧ R (.int (szI a b))
theorem len_size_of : ∀ ds R, p_size_of ds R → ds.length = (["one"] : List Str).length := fun ds R ⟨_, _, h, _⟩ => by rw [h]; rfl

theorem body_size_of {P : Program} {w : World} {K : PySem.W.Frag} {mg : Str → Option Value} {base : Heap} (z_max : mg "max" = none) (z_abs : mg "abs" = none) :
  Body P w K mg base N_size_of "size_of" st_size_of 0 fun ts => ∀ ds R, p_size_of ds R → ts { nx := fun _ => R .none, rt := fun d _ => R d } (startD N_size_of ds) := fun f cdv A outer s H E hr => by
  refine ⟨_, (qss_one (qs_ret (q_max (by rfl) (by rfl) z_max (qa_cons (q_abs (by rfl) z_abs (qa_cons (qe_ix (qe_var 0) qe_int) qa_nil)) (qa_cons (qe_ix (qe_var 0) qe_int) qa_nil))))), ?_⟩
  intro ds R h
  obtain ⟨a, b, rfl, h⟩ := h
  refine ⟨.int a, rfl, .int b, rfl, ?_⟩
  show R (.int (if b > (if a < 0 then -a else a) then b else (if a < 0 then -a else a)))
  rw [abs_nat]
  exact h
theorem ok_size_of {P : Program} {w : World} {K : PySem.W.Frag} {mg : Str → Option Value} {base : Heap} {f : Addr} {fd : FuncData} (F : Fun K "size_of" "size_of" st_size_of f fd) (z_max : mg "max" = none) (z_abs : mg "abs" = none) :
  FnOk P w K mg base CX0 1 f fd ["one"] (spD K p_size_of) := fn_D F sc_size_of len_size_of (body_size_of z_max z_abs)

def ofTops (n d : Nat) : List Int := if d < n then [(n : Int)] else (List.range (n - 1)).map fun (k : Nat) => 1 + (k : Int)
def ofCell (d : Nat) (t : Int) : List (Int × Int) := if Int.gcd t d = 1 then [(t, (d : Int)), (-t, (d : Int))] else []
def ofRow (n d : Nat) : List (Int × Int) := (ofTops n d).flatMap (ofCell d)
def ofPre (n i : Nat) : List (Int × Int) := (List.range i).flatMap fun k => ofRow n (k + 1)
def ofSize (n : Nat) : List (Int × Int) := if n = 1 then [(0, 1), (1, 1), (-1, 1)] else ofPre n n
theorem ofCell_len (d : Nat) (t : Int) : (ofCell d t).length ≤ 2 := by unfold ofCell; split <;> simp
theorem flat_len {α β : Type} (f : α → List β) (c : Nat) (hf : ∀ x, (f x).length ≤ c) : ∀ l : List α, (l.flatMap f).length ≤ c * l.length
  | [] => Nat.le_refl _
  | x :: l => by
    have h1 := flat_len f c hf l
    have h2 := hf x
    rw [List.flatMap_cons, List.length_append, List.length_cons, Nat.mul_add, Nat.mul_one]
    omega
theorem ofTops_len (n d : Nat) : (ofTops n d).length ≤ n + 1 := by
  unfold ofTops
  split
  · simp
  · simp
    omega
theorem ofRow_len (n d : Nat) : (ofRow n d).length ≤ 2 * (n + 1) := Nat.le_trans (flat_len _ 2 (ofCell_len d) _) (Nat.mul_le_mul_left 2 (ofTops_len n d))
theorem ofPre_len (n i : Nat) : (ofPre n i).length ≤ 2 * (n + 1) * i := by
  have h := flat_len (fun k => ofRow n (k + 1)) (2 * (n + 1)) (fun k => ofRow_len n (k + 1)) (List.range i)
  rw [List.length_range] at h
  exact h
theorem ofPre_succ (n i : Nat) : ofPre n (i + 1) = ofPre n i ++ ofRow n (i + 1) := by
  unfold ofPre
  rw [List.range_succ, List.flatMap_append, List.flatMap_singleton]
theorem take_flat {α β : Type} (f : α → List β) {l : List α} {j : Nat} {x : α} (h : l[j]? = some x) : (l.take (j + 1)).flatMap f = (l.take j).flatMap f ++ f x := by
  obtain ⟨hj, e⟩ := List.getElem?_eq_some_iff.mp h
  rw [List.take_succ, h]
  simp
theorem map_int_at {l : List Int} {j : Nat} {d : D} (h : (l.map PyData.int)[j]? = some d) : ∃ t, l[j]? = some t ∧ d = .int t := by
  rw [List.getElem?_map] at h
  cases e : l[j]? with
  | none => rw [e] at h; cases h
  | some t => rw [e] at h; exact ⟨t, rfl, (Option.some.inj h).symm⟩
def p_of_size (ds : List D) (R : D → Prop) : Prop := ∃ n : Nat, ds = [.int n] ∧ 1 ≤ n ∧ n ≤ 100 ∧ R (.list ((ofSize n).map enc))
theorem len_of_size : ∀ ds R, p_of_size ds R → ds.length = (["size"] : List Str).length := fun ds R ⟨_, h, _⟩ => by rw [h]; rfl
theorem flat_pre_len {n i j : Nat} (h2 : n ≤ 100) (hi : i ≤ n) : (((ofPre n i ++ ((ofTops n (i + 1)).take j).flatMap (ofCell (i + 1))).map enc).length) + 2 ≤ sizeLine := by
  have a1 := ofPre_len n i
  have a2 := flat_len (ofCell (i + 1)) 2 (ofCell_len _) ((ofTops n (i + 1)).take j)
  have a3 := ofTops_len n (i + 1)
  have a4 : ((ofTops n (i + 1)).take j).length ≤ (ofTops n (i + 1)).length := by rw [List.length_take]; exact Nat.min_le_right _ _
  have a5 : 2 * (n + 1) * i ≤ 2 * 101 * 100 := Nat.mul_le_mul (by omega) (by omega)
  have a6 : (30000 : Nat) ≤ sizeLine := by decide
  rw [List.length_map, List.length_append]
  omega

theorem body_of_size {P : Program} {w : World} {K : PySem.W.Frag} {mg : Str → Option Value} {base : Heap} (z_range : mg "range" = none) (z_list : mg "list" = none) (C_common_divisor : Cal P w K mg base "common_divisor" 1 (spD K p_common_divisor)) :
  Body P w K mg base N_of_size "of_size" st_of_size 1 fun ts => ∀ ds R, p_of_size ds R → ts { nx := fun _ => R .none, rt := fun d _ => R d } (startD N_of_size ds) := fun f cdv A outer s H E hr => by
  refine ⟨_, (qss_cons (qs_own 1 sc_of_size.nd (qf_lst qa_nil))
 (qss_cons (qs_if (t_eq hr.units (qe_var 0) qe_int)
 (qss_one (qs_ret (qe_fr (qf_lst (qa_cons (qe_tup (qa_cons qe_int (qa_cons qe_int qa_nil))) (qa_cons (qe_tup (qa_cons qe_int (qa_cons qe_int qa_nil))) (qa_cons (qe_tup (qa_cons (q_neg qe_int) (qa_cons qe_int qa_nil))) qa_nil)))))))
 qss_nil)
 (qss_cons (qs_for PassesOwn.never (by rfl) (qi_range2 (by rfl) z_range (qa_cons qe_int (qa_cons (q_add (qe_var 0) qe_int) qa_nil))) (qg_name 2 sc_of_size.nd)
 (qss_cons (qs_set 3 sc_of_size.nd (qe_if (t_lt hr.units (qe_var 2) (qe_var 0)) (qe_fr (qf_lst (qa_cons (qe_var 0) qa_nil))) (qe_fr (f_lrg2 (by rfl) (by rfl) z_list (by rfl) z_range qe_int (qe_var 0)))))
 (qss_one (qs_for PassesOwn.never (by rfl) (qi_list (qe_var 3)) (qg_name 4 sc_of_size.nd)
 (qss_one (qs_if (t_eq hr.units (qe_call C_common_divisor (hr.mono (by decide)) (by rfl) (qa_cons (qe_var 4) (qa_cons (qe_var 2) qa_nil))) qe_int)
 (qss_one (qs_ext 1 (qf_lst (qa_cons (qe_tup (qa_cons (qe_var 4) (qa_cons (qe_var 2) qa_nil))) (qa_cons (qe_tup (qa_cons (q_neg (qe_var 4)) (qa_cons (qe_var 2) qa_nil))) qa_nil)))))
 qss_nil))))))
 (qss_fz 1 (qss_one (qs_ret (qe_var 1))))))), ?_⟩
  intro ds R h
  obtain ⟨n, rfl, h1, h2, h⟩ := h
  refine ⟨by decide, trivial, _, rfl, fun hb => ?_, fun hb => ?_⟩
  · have hn : n = 1 := by
      have hb' : ((n : Int) == 1) = true := hb
      have := eq_of_beq hb'
      omega
    subst hn
    exact ⟨by decide, by decide, by decide, by decide, h⟩
  · have hn : n ≠ 1 := fun z => by
      have hb' : ((n : Int) == 1) = false := hb
      rw [z] at hb'
      exact absurd hb' (by decide)
    have hs : ofSize n = ofPre n n := by unfold ofSize; rw [if_neg hn]
    have hl : ((n : Int) + 1 - 1).toNat = n := by omega
    refine ⟨1, (n : Int) + 1, rfl, ⟨by decide, by decide, by omega, by omega⟩, fun i ρ => i ≤ n ∧ ∃ s2 s3 s4 : Sl, ρ = [.sh (.int n), .ol ((ofPre n i).map enc), s2, s3, s4] ∧ nio s2 ∧ nio s3 ∧ nio s4, ⟨Nat.zero_le _, .no, .no, .no, rfl, trivial, trivial, trivial⟩, ?_, ?_⟩
    · rintro i d ρ hi ⟨_, s2, s3, s4, rfl, k2, k3, k4⟩
      obtain ⟨hi', rfl⟩ := rgD_at hi
      rw [hl] at hi'
      refine ⟨k2, _, rfl, fun hb => ⟨sl1, k3, ?_⟩, fun hb => ⟨1, n, rfl, rfl, ⟨by decide, by decide, by omega, by omega, by omega⟩, k3, ?_⟩⟩
      · have hlt : i + 1 < n := by
          have hb' : decide (1 + (i : Int) < (n : Int)) = true := hb
          have := of_decide_eq_true hb'
          omega
        have hT : ([PyData.int (n : Int)] : List D) = (ofTops n (i + 1)).map PyData.int := by unfold ofTops; rw [if_pos hlt]; rfl
        refine ⟨fun j ρ => ∃ s4 : Sl, ρ = [.sh (.int n), .ol ((ofPre n i ++ ((ofTops n (i + 1)).take j).flatMap (ofCell (i + 1))).map enc), .sh (.int (1 + (i : Int))), .sh (.list ([.int (n : Int)])), s4] ∧ nio s4, ⟨s4, by simp, k4⟩, ?_, ?_⟩
        · rintro j d ρ hj ⟨t4, rfl, q4⟩
          have hj' : ([.int (n : Int)] : List D)[j]? = some d := hj
          rw [hT] at hj'
          obtain ⟨t, ht, rfl⟩ := map_int_at hj'
          have hd : (1 + (i : Int)) = ((i + 1 : Nat) : Int) := by omega
          refine ⟨q4, t, 1 + (i : Int), rfl, _, rfl, fun hb => ?_, fun hb => ?_⟩
          · have hg : Int.gcd t ((i + 1 : Nat) : Int) = 1 := by
              rw [← hd]
              have hb' : (((Int.gcd t (1 + (i : Int)) : Nat) : Int) == 1) = true := hb
              have := eq_of_beq hb'
              omega
            refine ⟨rfl, sl2, sl2, sl2, _, rfl, flat_pre_len h2 (by omega), ?_⟩
            refine ⟨.sh (.int t), ?_, trivial⟩
            rw [take_flat _ ht, ← List.append_assoc, List.map_append (l₂ := ofCell (i + 1) t)]
            have e : ofCell (i + 1) t = [(t, ((i + 1 : Nat) : Int)), (-t, ((i + 1 : Nat) : Int))] := by unfold ofCell; rw [if_pos hg]
            rw [e, ← hd]
            rfl
          · have hg : ¬ Int.gcd t ((i + 1 : Nat) : Int) = 1 := by
              rw [← hd]
              have hb' : (((Int.gcd t (1 + (i : Int)) : Nat) : Int) == 1) = false := hb
              intro z
              rw [z] at hb'
              exact absurd hb' (by decide)
            refine ⟨.sh (.int t), ?_, trivial⟩
            rw [take_flat _ ht]
            have e : ofCell (i + 1) t = [] := by unfold ofCell; rw [if_neg hg]
            rw [e, List.append_nil]
            rfl
        · rintro ρ ⟨t4, rfl, q4⟩
          refine ⟨hi', .sh (.int (1 + (i : Int))), .sh (.list ([.int (n : Int)])), t4, ?_, trivial, trivial, q4⟩
          have el : ([.int (n : Int)] : List D).length = (ofTops n (i + 1)).length := by rw [hT, List.length_map]
          have e2 : ofPre n i ++ List.flatMap (ofCell (i + 1)) (List.take ([.int (n : Int)] : List D).length (ofTops n (i + 1))) = ofPre n (i + 1) := by rw [el, List.take_length, ofPre_succ]; rfl
          exact congrArg (fun z => [Sl.sh (.int (n : Int)), .ol (z.map enc), .sh (.int (1 + (i : Int))), .sh (.list ([.int (n : Int)])), t4]) e2
      · have hlt : ¬ i + 1 < n := by
          have hb' : decide (1 + (i : Int) < (n : Int)) = false := hb
          have := of_decide_eq_false hb'
          omega
        have hT : rgD 1 ((n : Int) - 1).toNat = (ofTops n (i + 1)).map PyData.int := by
          unfold ofTops rgD
          rw [if_neg hlt, List.map_map]
          have e : ((n : Int) - 1).toNat = n - 1 := by omega
          rw [e]
          rfl
        refine ⟨fun j ρ => ∃ s4 : Sl, ρ = [.sh (.int n), .ol ((ofPre n i ++ ((ofTops n (i + 1)).take j).flatMap (ofCell (i + 1))).map enc), .sh (.int (1 + (i : Int))), .sh (.list (rgD 1 ((n : Int) - 1).toNat)), s4] ∧ nio s4, ⟨s4, by simp, k4⟩, ?_, ?_⟩
        · rintro j d ρ hj ⟨t4, rfl, q4⟩
          have hj' : (rgD 1 ((n : Int) - 1).toNat : List D)[j]? = some d := hj
          rw [hT] at hj'
          obtain ⟨t, ht, rfl⟩ := map_int_at hj'
          have hd : (1 + (i : Int)) = ((i + 1 : Nat) : Int) := by omega
          refine ⟨q4, t, 1 + (i : Int), rfl, _, rfl, fun hb => ?_, fun hb => ?_⟩
          · have hg : Int.gcd t ((i + 1 : Nat) : Int) = 1 := by
              rw [← hd]
              have hb' : (((Int.gcd t (1 + (i : Int)) : Nat) : Int) == 1) = true := hb
              have := eq_of_beq hb'
              omega
            refine ⟨rfl, sl2, sl2, sl2, _, rfl, flat_pre_len h2 (by omega), ?_⟩
            refine ⟨.sh (.int t), ?_, trivial⟩
            rw [take_flat _ ht, ← List.append_assoc, List.map_append (l₂ := ofCell (i + 1) t)]
            have e : ofCell (i + 1) t = [(t, ((i + 1 : Nat) : Int)), (-t, ((i + 1 : Nat) : Int))] := by unfold ofCell; rw [if_pos hg]
            rw [e, ← hd]
            rfl
          · have hg : ¬ Int.gcd t ((i + 1 : Nat) : Int) = 1 := by
              rw [← hd]
              have hb' : (((Int.gcd t (1 + (i : Int)) : Nat) : Int) == 1) = false := hb
              intro z
              rw [z] at hb'
              exact absurd hb' (by decide)
            refine ⟨.sh (.int t), ?_, trivial⟩
            rw [take_flat _ ht]
            have e : ofCell (i + 1) t = [] := by unfold ofCell; rw [if_neg hg]
            rw [e, List.append_nil]
            rfl
        · rintro ρ ⟨t4, rfl, q4⟩
          refine ⟨hi', .sh (.int (1 + (i : Int))), .sh (.list (rgD 1 ((n : Int) - 1).toNat)), t4, ?_, trivial, trivial, q4⟩
          have el : (rgD 1 ((n : Int) - 1).toNat : List D).length = (ofTops n (i + 1)).length := by rw [hT, List.length_map]
          have e2 : ofPre n i ++ List.flatMap (ofCell (i + 1)) (List.take (rgD 1 ((n : Int) - 1).toNat : List D).length (ofTops n (i + 1))) = ofPre n (i + 1) := by rw [el, List.take_length, ofPre_succ]; rfl
          exact congrArg (fun z => [Sl.sh (.int (n : Int)), .ol (z.map enc), .sh (.int (1 + (i : Int))), .sh (.list (rgD 1 ((n : Int) - 1).toNat)), t4]) e2
    · rintro ρ ⟨_, s2, s3, s4, rfl, k2, k3, k4⟩
      have hl2 : (rgD 1 ((n : Int) + 1 - 1).toNat).length = n := by rw [rgD_len, hl]
      show R (.list ((ofPre n (rgD 1 ((n : Int) + 1 - 1).toNat).length).map enc))
      rw [hl2, ← hs]
      exact h
theorem ok_of_size {P : Program} {w : World} {K : PySem.W.Frag} {mg : Str → Option Value} {base : Heap} {f : Addr} {fd : FuncData} (F : Fun K "of_size" "of_size" st_of_size f fd) (z_range : mg "range" = none) (z_list : mg "list" = none) (C_common_divisor : Cal P w K mg base "common_divisor" 1 (spD K p_common_divisor)) :
  FnOk P w K mg base CX0 2 f fd ["size"] (spD K p_of_size) := fn_D F sc_of_size len_of_size (body_of_size z_range z_list C_common_divisor)

theorem shaped_enc (z : Int × Int) : SeqAt.shaped (enc z) = true := rfl
theorem shaped_encs (l : List (Int × Int)) : SeqAt.shaped (.list (l.map enc)) = true := by
  have h1 : ∀ l : List (Int × Int), PyData.canLayAll0 (l.map enc) = true := fun l => by
    induction l with
    | nil => rfl
    | cons z l ih => exact ih
  have h2 : ∀ l : List (Int × Int), PyData.depthAll (l.map enc) ≤ 1 := fun l => by
    induction l with
    | nil => decide
    | cons z l ih =>
      show max (PyData.depth (enc z)) (PyData.depthAll (l.map enc)) ≤ 1
      exact Nat.max_le.mpr ⟨by show max 0 (max 0 0) + 1 ≤ 1; decide, ih⟩
  have h3 := h2 l
  unfold SeqAt.shaped
  rw [Bool.and_eq_true]
  exact ⟨h1 l, decide_eq_true (by show PyData.depthAll (l.map enc) + 1 ≤ 64; omega)⟩
theorem atI_nat {α : Type} (xs : List α) (k : Nat) : atI xs (k : Int) = xs[k]? := by
  unfold atI ixN
  by_cases h : k < xs.length
  · have h1 : (0 : Int) ≤ (k : Int) := by omega
    simp [h1, h]
  · have e : xs[k]? = none := List.getElem?_eq_none (by omega)
    rw [e]
    have h1 : (0 : Int) ≤ (k : Int) := by omega
    simp [h1, h]
def bef (i : Nat) : Nat := ((List.range i).map fun k => (ofSize (k + 1)).length).sum
theorem bef_succ (i : Nat) : bef (i + 1) = bef i + (ofSize (i + 1)).length := by
  unfold bef
  rw [List.range_succ, List.map_append, List.sum_append]
  simp
def p_place_of (ds : List D) (R : D → Prop) : Prop := ∃ (a b : Int) (n j : Nat), ds = [enc (a, b)] ∧ szI a b = n ∧ 1 ≤ n ∧ n ≤ 100 ∧ idxD ((ofSize n).map enc) (enc (a, b)) = some j ∧ R (.int ((bef (n - 1) + j : Nat)))
theorem len_place_of : ∀ ds R, p_place_of ds R → ds.length = (["one"] : List Str).length := fun ds R ⟨_, _, _, _, h, _⟩ => by rw [h]; rfl
theorem int1 {i n : Int} (h : i = n) : ([PyData.int i] : List D) = [.int n] := by rw [h]

theorem body_place_of {P : Program} {w : World} {K : PySem.W.Frag} {mg : Str → Option Value} {base : Heap} (z_range : mg "range" = none) (z_len : mg "len" = none) (C_size_of : Cal P w K mg base "size_of" 1 (spD K p_size_of)) (C_of_size : Cal P w K mg base "of_size" 2 (spD K p_of_size)) :
  Body P w K mg base N_place_of "place_of" st_place_of 2 fun ts => ∀ ds R, p_place_of ds R → ts { nx := fun _ => R .none, rt := fun d _ => R d } (startD N_place_of ds) := fun f cdv A outer s H E hr => by
  refine ⟨_, (qss_cons (qs_set 1 sc_place_of.nd (qe_call C_size_of (hr.mono (by decide)) (by rfl) (qa_cons (qe_var 0) qa_nil)))
 (qss_cons (qs_set 2 sc_place_of.nd qe_int)
 (qss_cons (qs_for PassesOwn.never (by rfl) (qi_range2 (by rfl) z_range (qa_cons qe_int (qa_cons (qe_var 1) qa_nil))) (qg_name 3 sc_place_of.nd)
 (qss_one (qs_aug 2 sc_place_of.nd ip_add (q_len (by rfl) z_len (qa_cons (qe_call C_of_size (hr.mono (by decide)) (by rfl) (qa_cons (qe_var 3) qa_nil)) qa_nil)))))
 (qss_one (qs_ret (q_add (qe_var 2) (q_index (by have := hr.un; omega) (qe_call C_of_size (hr.mono (by decide)) (by rfl) (qa_cons (qe_var 1) qa_nil)) (qe_var 0)))))))), ?_⟩
  intro ds R h
  obtain ⟨a, b, n, j, rfl, hn, h1, h2, hj, h⟩ := h
  have hl : (szI a b - 1).toNat = n - 1 := by omega
  refine ⟨a, b, rfl, trivial, trivial, 1, szI a b, rfl, ⟨by decide, by decide, by omega, by omega⟩, fun i ρ => i ≤ n - 1 ∧ ∃ s3 : Sl, ρ = [.sh (enc (a, b)), .sh (.int (szI a b)), .sh (.int (bef i : Nat)), s3] ∧ nio s3, ⟨Nat.zero_le _, .no, rfl, trivial⟩, ?_, ?_⟩
  · rintro i d ρ hi ⟨_, s3, rfl, k3⟩
    obtain ⟨hi', rfl⟩ := rgD_at hi
    rw [hl] at hi'
    refine ⟨k3, _, rfl, i + 1, int1 (by omega), by omega, by omega, _, rfl, trivial, by omega, .sh (.int (1 + (i : Int))), ?_, trivial⟩
    show [Sl.sh (enc (a, b)), .sh (.int (szI a b)), .sh (.int (((bef i : Nat) : Int) + ((((ofSize (i + 1)).map enc).length : Nat) : Int))), .sh (.int (1 + (i : Int)))] = _
    rw [List.length_map, bef_succ, Int.natCast_add]
  · rintro ρ ⟨_, s3, rfl, k3⟩
    refine ⟨n, int1 hn, h1, h2, _, rfl, j, shaped_encs _, shaped_enc _, hj, ?_⟩
    show R (.int (((bef (rgD 1 (szI a b - 1).toNat).length : Nat) : Int) + ((j : Nat) : Int)))
    rw [rgD_len, hl, ← Int.natCast_add]
    exact h
theorem ok_place_of {P : Program} {w : World} {K : PySem.W.Frag} {mg : Str → Option Value} {base : Heap} {f : Addr} {fd : FuncData} (F : Fun K "place_of" "place_of" st_place_of f fd) (z_range : mg "range" = none) (z_len : mg "len" = none) (C_size_of : Cal P w K mg base "size_of" 1 (spD K p_size_of)) (C_of_size : Cal P w K mg base "of_size" 2 (spD K p_of_size)) :
  FnOk P w K mg base CX0 3 f fd ["one"] (spD K p_place_of) := fn_D F sc_place_of len_place_of (body_place_of z_range z_len C_size_of C_of_size)

def ratF : Nat → Nat → Nat → Option (Int × Int)
  | 0, _, _ => none
  | f + 1, s, p => if (ofSize s).length ≤ p then ratF f (s + 1) (p - (ofSize s).length) else (ofSize s)[p]?
def p_ratio_at (ds : List D) (R : D → Prop) : Prop := ∃ (k fuel : Nat) (z : Int × Int), ds = [.int k] ∧ ratF fuel 1 k = some z ∧ fuel ≤ 99 ∧ R (enc z)
theorem len_ratio_at : ∀ ds R, p_ratio_at ds R → ds.length = (["place"] : List Str).length := fun ds R ⟨_, _, _, h, _⟩ => by rw [h]; rfl

theorem body_ratio_at {P : Program} {w : World} {K : PySem.W.Frag} {mg : Str → Option Value} {base : Heap} (z_len : mg "len" = none) (C_of_size : Cal P w K mg base "of_size" 2 (spD K p_of_size)) :
  Body P w K mg base N_ratio_at "ratio_at" st_ratio_at 2 fun ts => ∀ ds R, p_ratio_at ds R → ts { nx := fun _ => R .none, rt := fun d _ => R d } (startD N_ratio_at ds) := fun f cdv A outer s H E hr => by
  refine ⟨_, (qss_cons (qs_set 1 sc_ratio_at.nd qe_int)
 (qss_cons (qs_set 2 sc_ratio_at.nd (qe_call C_of_size (hr.mono (by decide)) (by rfl) (qa_cons (qe_var 1) qa_nil)))
 (qss_cons (qs_while PassesOwn.never (t_ge hr.units (qe_var 0) (q_len (by rfl) z_len (qa_cons (qe_var 2) qa_nil)))
 (qss_cons (qs_aug 0 sc_ratio_at.nd ip_sub (q_len (by rfl) z_len (qa_cons (qe_var 2) qa_nil)))
 (qss_cons (qs_aug 1 sc_ratio_at.nd ip_add qe_int)
 (qss_one (qs_set 2 sc_ratio_at.nd (qe_call C_of_size (hr.mono (by decide)) (by rfl) (qa_cons (qe_var 1) qa_nil)))))))
 (qss_one (qs_ret (qe_ix (qe_var 2) (qe_var 0))))))), ?_⟩
  intro ds R h
  obtain ⟨k, fuel, z, rfl, hz, hf, h⟩ := h
  refine ⟨trivial, 1, rfl, by decide, by decide, trivial, fun m ρ => ∃ s p : Nat, ρ = [.sh (.int p), .sh (.int s), .sh (.list ((ofSize s).map enc))] ∧ ratF m s p = some z ∧ 1 ≤ s ∧ s + m ≤ 100, ⟨fuel, 1, k, rfl, hz, by decide, by omega⟩, ?_⟩
  rintro m ρ ⟨s, p, rfl, hr', h1, h2⟩
  cases m with
  | zero => cases hr'
  | succ m =>
  refine ⟨_, rfl, fun hb => ⟨fun ρ' => ρ' = [.sh (.int ((p - (ofSize s).length : Nat))), .sh (.int ((s + 1 : Nat))), .sh (.list ((ofSize (s + 1)).map enc))], ?_, ?_⟩, fun hb => ?_⟩
  · rintro _ rfl
    have hb' : decide (((((ofSize s).map enc).length : Nat) : Int) ≤ (p : Int)) = true := hb
    have hle := of_decide_eq_true hb'
    rw [List.length_map] at hle
    unfold ratF at hr'
    rw [if_pos (by omega)] at hr'
    exact ⟨m, Nat.lt_succ_self m, s + 1, _, rfl, hr', by omega, by omega⟩
  · have hb' : decide (((((ofSize s).map enc).length : Nat) : Int) ≤ (p : Int)) = true := hb
    have hle := of_decide_eq_true hb'
    rw [List.length_map] at hle
    refine ⟨_, rfl, _, rfl, trivial, _, rfl, _, rfl, trivial, s + 1, int1 (show (s : Int) + 1 = ((s + 1 : Nat) : Int) by omega), by omega, by omega, trivial, ?_⟩
    show [Sl.sh (.int ((p : Int) - ((((ofSize s).map enc).length : Nat) : Int))), .sh (.int ((s : Int) + 1)), .sh (.list ((ofSize (s + 1)).map enc))] = _
    rw [List.length_map, show (p : Int) - (((ofSize s).length : Nat) : Int) = ((p - (ofSize s).length : Nat) : Int) by omega]
    rfl
  · have hb' : decide (((((ofSize s).map enc).length : Nat) : Int) ≤ (p : Int)) = false := hb
    have hle := of_decide_eq_false hb'
    rw [List.length_map] at hle
    unfold ratF at hr'
    rw [if_neg (by omega)] at hr'
    refine ⟨enc z, ?_, h⟩
    rw [atI_nat, List.getElem?_map, hr']
    rfl
theorem ok_ratio_at {P : Program} {w : World} {K : PySem.W.Frag} {mg : Str → Option Value} {base : Heap} {f : Addr} {fd : FuncData} (F : Fun K "ratio_at" "ratio_at" st_ratio_at f fd) (z_len : mg "len" = none) (C_of_size : Cal P w K mg base "of_size" 2 (spD K p_of_size)) :
  FnOk P w K mg base CX0 3 f fd ["place"] (spD K p_ratio_at) := fn_D F sc_ratio_at len_ratio_at (body_ratio_at z_len C_of_size)

theorem cmL {i j : Int} (h1 : -(2 ^ 64) < i) (h2 : i < 2 ^ 64) : CMulA i j := .inl (.inl ⟨h1, h2⟩)
theorem cmR {i j : Int} (h1 : -(2 ^ 64) < j) (h2 : j < 2 ^ 64) : CMulA i j := .inl (.inr ⟨h1, h2⟩)
theorem cdS {i j : Int} (h1 : 0 < j) (h2 : j < 1073741824) : CDivG i j := ⟨by omega, PyProof.noPylong_small (by omega)⟩
def p__law_cell (ds : List D) (R : D → Prop) : Prop := ∃ (ns : List Int) (k : Nat), ds = [.list (ns.map .int), .int k] ∧ k ≤ 1000 ∧ ∀ c : Int, 0 ≤ c → R (.int c)
theorem len__law_cell : ∀ ds R, p__law_cell ds R → ds.length = (["script", "k"] : List Str).length := fun ds R ⟨_, _, h, _⟩ => by rw [h]; rfl

theorem body__law_cell {P : Program} {w : World} {K : PySem.W.Frag} {mg : Str → Option Value} {base : Heap} (z_len : mg "len" = none) (z_int : mg "int" = none) :
  Body P w K mg base N__law_cell "_law_cell" st__law_cell 0 fun ts => ∀ ds R, p__law_cell ds R → ts { nx := fun _ => R .none, rt := fun d _ => R d } (startD N__law_cell ds) := fun f cdv A outer s H E hr => by
  refine ⟨_, (qss_cons (qs_if (qt_bool (qw_and (t_lt hr.units (qe_var 1) (q_len (by rfl) z_len (qa_cons (qe_var 0) qa_nil))) (qw_and1 (t_ge hr.units (qe_ix (qe_var 0) (qe_var 1)) (q_pow qe_int qe_int)))))
 (qss_one (qs_ret (qe_ix (qe_var 0) (qe_var 1))))
 qss_nil)
 (qss_cons (qs_set 2 sc__law_cell.nd (q_add (q_mul qe_int (qe_var 1)) qe_int))
 (qss_cons (qs_if (t_gt hr.units (q_len (by rfl) z_len (qa_cons (qe_var 0) qa_nil)) qe_int)
 (qss_one (qs_set 2 sc__law_cell.nd (q_add (qe_var 2) (q_mul qe_int (qe_ix (qe_var 0) (q_mod (q_int (by rfl) z_int (qa_cons (qe_var 1) qa_nil)) (q_len (by rfl) z_len (qa_cons (qe_var 0) qa_nil))))))))
 qss_nil)
 (qss_cons (qs_set 2 sc__law_cell.nd (q_mod (q_int (by rfl) z_int (qa_cons (q_add (q_mul (qe_var 2) qe_int) (q_mul qe_int (qe_var 1))) qa_nil)) qe_int))
 (qss_one (qs_ret (q_mod (q_int (by rfl) z_int (qa_cons (q_add (q_mul (qe_var 2) qe_int) (q_mul qe_int (q_fdv (qe_var 2) qe_int))) qa_nil)) qe_int))))))), ?_⟩
  intro ds R h
  obtain ⟨ns, k, rfl, hk, h⟩ := h
  refine ⟨_, rfl, fun hb => ?_, fun hb => ⟨(fun z => nomatch z), fun _ => ?_⟩⟩
  · have hb' : decide ((k : Int) < (((ns.map PyData.int).length : Nat) : Int)) = true := hb
    have hlt := of_decide_eq_true hb'
    rw [List.length_map] at hlt
    have hk1 : k < ns.length := by omega
    have e : atI (ns.map PyData.int) (k : Int) = some (.int ns[k]) := by
      rw [atI_nat, List.getElem?_map, List.getElem?_eq_getElem hk1]
      rfl
    refine ⟨.int ns[k], e, ⟨by decide, by decide, by decide⟩, _, rfl, fun hv => ⟨.int ns[k], e, ?_⟩, fun hv => ?_⟩
    · have hv' : decide ((10 : Int) ^ (9 : Int).toNat ≤ ns[k]) = true := hv
      have hv2 := of_decide_eq_true hv'
      have e9 : (10 : Int) ^ (9 : Int).toNat = 1000000000 := by decide
      rw [e9] at hv2
      exact h _ (by omega)
    · refine ⟨cmL (by decide) (by decide), trivial, _, rfl, fun hg => ?_, fun hg => ?_⟩
      · have hl : 0 < ns.length := by
          have hg' : decide ((0 : Int) < (((ns.map PyData.int).length : Nat) : Int)) = true := hg
          have := of_decide_eq_true hg'
          rw [List.length_map] at this
          omega
        have hk : k % ns.length < ns.length := Nat.mod_lt _ hl
        have hl2 : (((ns.map PyData.int).length : Nat) : Int) ≠ 0 := by rw [List.length_map]; omega
        refine ⟨hl2, .int ns[k % ns.length], ?_, cmL (by decide) (by decide), trivial, cmR (by decide) (by decide), cmL (by decide) (by decide), (show (2147483647 : Int) ≠ 0 by decide), trivial, cmR (by decide) (by decide), cdS (by decide) (by decide), cmL (by decide) (by decide), (show (2147483629 : Int) ≠ 0 by decide), ?_⟩
        · rw [List.length_map, fmod_nat, atI_nat, List.getElem?_map, List.getElem?_eq_getElem hk]
          rfl
        · exact h _ (Int.fmod_nonneg_of_pos _ (by decide))
      · refine ⟨cmR (by decide) (by decide), cmL (by decide) (by decide), (show (2147483647 : Int) ≠ 0 by decide), trivial, cmR (by decide) (by decide), cdS (by decide) (by decide), cmL (by decide) (by decide), (show (2147483629 : Int) ≠ 0 by decide), ?_⟩
        exact h _ (Int.fmod_nonneg_of_pos _ (by decide))
  · refine ⟨cmL (by decide) (by decide), trivial, _, rfl, fun hg => ?_, fun hg => ?_⟩
    · have hl : 0 < ns.length := by
        have hg' : decide ((0 : Int) < (((ns.map PyData.int).length : Nat) : Int)) = true := hg
        have := of_decide_eq_true hg'
        rw [List.length_map] at this
        omega
      have hk : k % ns.length < ns.length := Nat.mod_lt _ hl
      have hl2 : (((ns.map PyData.int).length : Nat) : Int) ≠ 0 := by rw [List.length_map]; omega
      refine ⟨hl2, .int ns[k % ns.length], ?_, cmL (by decide) (by decide), trivial, cmR (by decide) (by decide), cmL (by decide) (by decide), (show (2147483647 : Int) ≠ 0 by decide), trivial, cmR (by decide) (by decide), cdS (by decide) (by decide), cmL (by decide) (by decide), (show (2147483629 : Int) ≠ 0 by decide), ?_⟩
      · rw [List.length_map, fmod_nat, atI_nat, List.getElem?_map, List.getElem?_eq_getElem hk]
        rfl
      · exact h _ (Int.fmod_nonneg_of_pos _ (by decide))
    · refine ⟨cmR (by decide) (by decide), cmL (by decide) (by decide), (show (2147483647 : Int) ≠ 0 by decide), trivial, cmR (by decide) (by decide), cdS (by decide) (by decide), cmL (by decide) (by decide), (show (2147483629 : Int) ≠ 0 by decide), ?_⟩
      exact h _ (Int.fmod_nonneg_of_pos _ (by decide))
theorem ok__law_cell {P : Program} {w : World} {K : PySem.W.Frag} {mg : Str → Option Value} {base : Heap} {f : Addr} {fd : FuncData} (F : Fun K "_law_cell" "_law_cell" st__law_cell f fd) (z_len : mg "len" = none) (z_int : mg "int" = none) :
  FnOk P w K mg base CX0 1 f fd ["script", "k"] (spD K p__law_cell) := fn_D F sc__law_cell len__law_cell (body__law_cell z_len z_int)

def p__law_take (cs ds : List D) (R : D → List D → Prop) : Prop := ∃ c m : Int, cs = [.int c] ∧ ds = [.int m] ∧ 0 < m ∧ m < 1073741824 ∧ 0 ≤ c ∧ ∀ x c' : Int, 0 ≤ x → x < m → 0 ≤ c' → R (.int x) [.int c']
theorem len__law_take : ∀ cs ds R, p__law_take cs ds R → ds.length + 1 = (["state", "m"] : List Str).length := fun cs ds R ⟨_, _, _, h, _⟩ => by rw [h]; rfl

theorem body__law_take {P : Program} {w : World} {K : PySem.W.Frag} {mg : Str → Option Value} {base : Heap} (z_int : mg "int" = none) :
  Body P w K mg base N__law_take "_law_take" st__law_take 0 fun ts => ∀ cs ds R, p__law_take cs ds R → ts { nx := fun ρ => ∃ cs', ρ[0]? = some (.io cs') ∧ R .none cs', rt := fun d ρ => ∃ cs', ρ[0]? = some (.io cs') ∧ R d cs' } (startI N__law_take cs ds) := fun f cdv A outer s H E hr => by
  refine ⟨_, (qss_cons (qs_set 2 sc__law_take.nd (q_mod (q_int (by rfl) z_int (qa_cons (qe_ixO 0 qe_int) qa_nil)) (qe_var 1)))
 (qss_cons (qs_setI 0 (q_int (by rfl) z_int (qa_cons (q_fdv (qe_ixO 0 qe_int) (qe_var 1)) qa_nil)) qe_int)
 (qss_one (qs_ret (qe_var 2))))), ?_⟩
  intro cs ds R h
  obtain ⟨c, m, rfl, rfl, h0, h1, hc, h⟩ := h
  refine ⟨rfl, _, 0, _, rfl, rfl, rfl, by omega, trivial, rfl, _, 0, _, rfl, rfl, rfl, cdS h0 h1, rfl, _, 0, 0, rfl, rfl, rfl, _, rfl, ?_⟩
  exact h _ _ (Int.fmod_nonneg_of_pos _ h0) (Int.fmod_lt_of_pos _ h0) (by
    rw [Int.fdiv_eq_ediv_of_nonneg _ (by omega)]
    exact Int.ediv_nonneg hc (by omega))
theorem ok__law_take {P : Program} {w : World} {K : PySem.W.Frag} {mg : Str → Option Value} {base : Heap} {f : Addr} {fd : FuncData} (F : Fun K "_law_take" "_law_take" st__law_take f fd) (z_int : mg "int" = none) :
  FnOk P w K mg base CX0 1 f fd ["state", "m"] (spI K p__law_take) := fn_I F sc__law_take (by decide) len__law_take (body__law_take z_int)

def p__law_big (ds : List D) (R : List D → Prop) : Prop := ∃ (ns : List Int) (a n : Nat), ds = [.list (ns.map .int), .int a, .int n] ∧ a + n ≤ 1000 ∧ ∀ c : Int, 0 ≤ c → R [.int c]
theorem len__law_big : ∀ ds R, p__law_big ds R → ds.length = (["script", "at", "count"] : List Str).length := fun ds R ⟨_, _, _, h, _⟩ => by rw [h]; rfl

theorem body__law_big {P : Program} {w : World} {K : PySem.W.Frag} {mg : Str → Option Value} {base : Heap} (z_range : mg "range" = none) (C__law_cell : Cal P w K mg base "_law_cell" 1 (spD K p__law_cell)) :
  Body P w K mg base N__law_big "_law_big" st__law_big 1 fun ts => ∀ ds R, p__law_big ds R → ts { nx := fun _ => False, rt := fun _ _ => False, rf := fun cs _ => R cs } (startD N__law_big ds) := fun f cdv A outer s H E hr => by
  refine ⟨_, (qss_cons (qs_set 3 sc__law_big.nd qe_int)
 (qss_cons (qs_for PassesOwn.never (by rfl) (qi_range1 (by rfl) z_range (qa_cons (qe_var 2) qa_nil)) (qg_name 4 sc__law_big.nd)
 (qss_one (qs_set 3 sc__law_big.nd (q_add (q_mul (qe_var 3) qe_int) (qe_call C__law_cell (hr.mono (by decide)) (by rfl) (qa_cons (qe_var 0) (qa_cons (q_add (qe_var 1) (qe_var 4)) qa_nil)))))))
 (qss_one (qs_retF (qf_lst (qa_cons (qe_var 3) qa_nil)))))), ?_⟩
  intro ds R h
  obtain ⟨ns, a, n, rfl, hn, h⟩ := h
  refine ⟨trivial, (n : Int), rfl, by omega, by omega, fun i ρ => ∃ (c : Int) (s4 : Sl), ρ = [.sh (.list (ns.map .int)), .sh (.int a), .sh (.int n), .sh (.int c), s4] ∧ 0 ≤ c ∧ nio s4, ⟨0, .no, rfl, by decide, trivial⟩, ?_, ?_⟩
  · rintro i d ρ hi ⟨c, s4, rfl, hc, k4⟩
    obtain ⟨hi', rfl⟩ := rgD_at hi
    refine ⟨k4, cmR (by decide) (by decide), ns, a + i, ?_, by omega, fun c' hc' => ⟨trivial, c * 2147483648 + c', .sh (.int (0 + (i : Int))), rfl, by omega, trivial⟩⟩
    show ([PyData.list (ns.map .int), .int ((a : Int) + (0 + (i : Int)))] : List D) = _
    rw [show (a : Int) + (0 + (i : Int)) = ((a + i : Nat) : Int) by omega]
  · rintro ρ ⟨c, s4, rfl, hc, k4⟩
    exact ⟨sl1, h c hc⟩
theorem ok__law_big {P : Program} {w : World} {K : PySem.W.Frag} {mg : Str → Option Value} {base : Heap} {f : Addr} {fd : FuncData} (F : Fun K "_law_big" "_law_big" st__law_big f fd) (z_range : mg "range" = none) (C__law_cell : Cal P w K mg base "_law_cell" 1 (spD K p__law_cell)) :
  FnOk P w K mg base CX0 2 f fd ["script", "at", "count"] (spF K p__law_big) := fn_F F sc__law_big len__law_big (body__law_big z_range C__law_cell)

theorem euclid_next {x y L i : Nat} (hy : y ≠ 0) (h0 : i = 0 → x * y < 2 ^ L) (h1 : 1 ≤ i → y ≤ x ∧ x * y * 2 ^ (i - 1) < 2 ^ L) : x % y ≤ y ∧ y * (x % y) * 2 ^ i < 2 ^ L := by
  have hm : x % y < y := Nat.mod_lt _ (by omega)
  refine ⟨by omega, ?_⟩
  cases i with
  | zero =>
    have h := h0 rfl
    have h2 : x % y ≤ x := Nat.mod_le _ _
    have h3 : y * (x % y) ≤ y * x := Nat.mul_le_mul_left _ h2
    rw [Nat.pow_zero, Nat.mul_one]
    rw [Nat.mul_comm y x] at h3
    omega
  | succ i =>
    obtain ⟨h2, h3⟩ := h1 (by omega)
    have e : i + 1 - 1 = i := by omega
    rw [e] at h3
    have h4 : x % y * 2 ≤ x := by
      have h5 := Nat.div_add_mod x y
      have h6 : 1 ≤ x / y := (Nat.one_le_div_iff (by omega)).mpr h2
      have h7 : y * 1 ≤ y * (x / y) := Nat.mul_le_mul_left _ h6
      omega
    have h5 : y * (x % y) * 2 ^ (i + 1) = y * (x % y * 2) * 2 ^ i := by
      rw [Nat.pow_succ, ← Nat.mul_assoc y, Nat.mul_assoc (y * (x % y)), Nat.mul_comm (2 ^ i) 2, ← Nat.mul_assoc]
    have h6 : y * (x % y * 2) * 2 ^ i ≤ x * y * 2 ^ i := Nat.mul_le_mul_right _ (by rw [Nat.mul_comm x y]; exact Nat.mul_le_mul_left _ h4)
    omega
def p__law_divisor (ds : List D) (R : D → Prop) : Prop := ∃ a b : Int, ds = [.int a, .int b] ∧ (∃ L, L ≤ 19000 ∧ a.natAbs * b.natAbs < 2 ^ L) ∧ R (.int (Int.gcd a b))
theorem len__law_divisor : ∀ ds R, p__law_divisor ds R → ds.length = (["one", "two"] : List Str).length := fun ds R ⟨_, _, h, _⟩ => by rw [h]; rfl
theorem gcd_step (x y : Nat) : Nat.gcd y (x % y) = Nat.gcd x y := by rw [Nat.gcd_comm x y, Nat.gcd_rec y x, Nat.gcd_comm]

theorem body__law_divisor {P : Program} {w : World} {K : PySem.W.Frag} {mg : Str → Option Value} {base : Heap} (z_abs : mg "abs" = none) (z_range : mg "range" = none) (z_int : mg "int" = none) :
  Body P w K mg base N__law_divisor "_law_divisor" st__law_divisor 0 fun ts => ∀ ds R, p__law_divisor ds R → ts { nx := fun _ => R .none, rt := fun d _ => R d } (startD N__law_divisor ds) := fun f cdv A outer s H E hr => by
  refine ⟨_, (qss_cons (qs_set 0 sc__law_divisor.nd (q_abs (by rfl) z_abs (qa_cons (qe_var 0) qa_nil)))
 (qss_cons (qs_set 1 sc__law_divisor.nd (q_abs (by rfl) z_abs (qa_cons (qe_var 1) qa_nil)))
 (qss_cons (qs_for PassesOwn.never (by rfl) (qi_range1 (by rfl) z_range (qa_cons qe_int qa_nil)) (qg_name 2 sc__law_divisor.nd)
 (qss_cons (qs_if (t_eq hr.units (qe_var 1) qe_int)
 (qss_one qs_break)
 qss_nil)
 (qss_one (qs_par 0 1 (by rfl) sc__law_divisor.nd (by decide) (qa_cons (qe_var 1) (qa_cons (q_mod (q_int (by rfl) z_int (qa_cons (qe_var 0) qa_nil)) (qe_var 1)) qa_nil))))))
 (qss_one (qs_ret (qe_var 0)))))), ?_⟩
  intro ds R h
  obtain ⟨a, b, rfl, ⟨L, hL, hab⟩, h⟩ := h
  refine ⟨trivial, trivial, 20000, rfl, by decide, by decide, fun i ρ => i ≤ 20000 ∧ ∃ (x y : Nat) (s2 : Sl), ρ = [.sh (.int x), .sh (.int y), s2] ∧ nio s2 ∧ Nat.gcd x y = Int.gcd a b ∧ (i = 0 → x * y < 2 ^ L) ∧ (1 ≤ i → y ≤ x ∧ x * y * 2 ^ (i - 1) < 2 ^ L), ⟨by decide, a.natAbs, b.natAbs, .no, ?_, trivial, rfl, fun _ => hab, fun z => absurd z (by decide)⟩, ?_, ?_⟩
  · show [Sl.sh (.int (if a < 0 then -a else a)), Sl.sh (.int (if b < 0 then -b else b)), Sl.no] = _
    rw [abs_nat, abs_nat]
  · rintro i d ρ hi ⟨_, x, y, s2, rfl, k2, hg, h0, h1⟩
    obtain ⟨hi', rfl⟩ := rgD_at hi
    have hi20 : i < 20000 := hi'
    refine ⟨k2, _, rfl, fun hb => ?_, fun hb => ?_⟩
    · have hb' : ((y : Int) == 0) = true := hb
      have hy : y = 0 := by
        have := eq_of_beq hb'
        omega
      subst hy
      rw [Nat.gcd_zero_right] at hg
      show R (.int x)
      rw [hg]
      exact h
    · have hb' : ((y : Int) == 0) = false := hb
      have hy : y ≠ 0 := fun z => by
        rw [z] at hb'
        exact absurd hb' (by decide)
      have hyI : (y : Int) ≠ 0 := by omega
      refine ⟨hyI, trivial, trivial, by omega, y, x % y, .sh (.int (0 + (i : Int))), ?_, trivial, by rw [gcd_step]; exact hg, fun z => absurd z (by omega), fun _ => euclid_next hy h0 h1⟩
      show [Sl.sh (.int y), Sl.sh (.int (Int.fmod x y)), Sl.sh (.int (0 + (i : Int)))] = _
      rw [fmod_nat]
  · rintro ρ ⟨_, x, y, s2, rfl, k2, hg, h0, h1⟩
    have e : (rgD 0 (20000 : Int).toNat).length = 20000 := by rw [rgD_len]; rfl
    rw [e] at h1
    obtain ⟨h2, h3⟩ := h1 (by decide)
    have hy : y = 0 := by
      rcases Nat.eq_zero_or_pos y with z | z
      · exact z
      · exfalso
        have h4 : 1 * 2 ^ L ≤ x * y * 2 ^ (20000 - 1) := Nat.mul_le_mul (Nat.mul_pos (by omega) z) (Nat.pow_le_pow_right (by decide) (by omega))
        rw [Nat.one_mul] at h4
        omega
    subst hy
    rw [Nat.gcd_zero_right] at hg
    show R (.int x)
    rw [hg]
    exact h
theorem ok__law_divisor {P : Program} {w : World} {K : PySem.W.Frag} {mg : Str → Option Value} {base : Heap} {f : Addr} {fd : FuncData} (F : Fun K "_law_divisor" "_law_divisor" st__law_divisor f fd) (z_abs : mg "abs" = none) (z_range : mg "range" = none) (z_int : mg "int" = none) :
  FnOk P w K mg base CX0 1 f fd ["one", "two"] (spD K p__law_divisor) := fn_D F sc__law_divisor len__law_divisor (body__law_divisor z_abs z_range z_int)

def p__law_ratio (ds : List D) (R : D → Prop) : Prop := ∃ a b : Int, ds = [.int a, .int b] ∧ 0 < b ∧ b < 1073741824 ∧ (∃ L, L ≤ 19000 ∧ a.natAbs * b.natAbs < 2 ^ L) ∧ R (enc (a.fdiv (Int.gcd a b), b.fdiv (Int.gcd a b)))
theorem len__law_ratio : ∀ ds R, p__law_ratio ds R → ds.length = (["p", "q"] : List Str).length := fun ds R ⟨_, _, h, _⟩ => by rw [h]; rfl
theorem gcd_small {a b : Int} (h0 : 0 < b) : (0 : Int) < (Int.gcd a b : Nat) ∧ ((Int.gcd a b : Nat) : Int) ≤ b := by
  have h1 : Int.gcd a b ∣ b.natAbs := Int.gcd_dvd_natAbs_right a b
  have h2 := Nat.le_of_dvd (by omega) h1
  have h3 : 0 < Int.gcd a b := Int.gcd_pos_of_ne_zero_right a (by omega)
  omega

theorem body__law_ratio {P : Program} {w : World} {K : PySem.W.Frag} {mg : Str → Option Value} {base : Heap} (z_int : mg "int" = none) (C__law_divisor : Cal P w K mg base "_law_divisor" 1 (spD K p__law_divisor)) :
  Body P w K mg base N__law_ratio "_law_ratio" st__law_ratio 1 fun ts => ∀ ds R, p__law_ratio ds R → ts { nx := fun _ => R .none, rt := fun d _ => R d } (startD N__law_ratio ds) := fun f cdv A outer s H E hr => by
  refine ⟨_, (qss_cons (qs_set 2 sc__law_ratio.nd (qe_call C__law_divisor (hr.mono (by decide)) (by rfl) (qa_cons (qe_var 0) (qa_cons (qe_var 1) qa_nil))))
 (qss_cons (qs_if (t_lt hr.units (qe_var 1) qe_int)
 (qss_one (qs_set 2 sc__law_ratio.nd (q_neg (qe_var 2))))
 qss_nil)
 (qss_one (qs_ret (qe_tup (qa_cons (q_int (by rfl) z_int (qa_cons (q_fdv (qe_var 0) (qe_var 2)) qa_nil)) (qa_cons (q_int (by rfl) z_int (qa_cons (q_fdv (qe_var 1) (qe_var 2)) qa_nil)) qa_nil))))))), ?_⟩
  intro ds R h
  obtain ⟨a, b, rfl, h0, h1, hL, h⟩ := h
  obtain ⟨g1, g2⟩ := gcd_small (a := a) h0
  refine ⟨a, b, rfl, hL, trivial, _, rfl, fun hb => ?_, fun hb => ?_⟩
  · have hb' : decide (b < (0 : Int)) = true := hb
    have := of_decide_eq_true hb'
    omega
  · exact ⟨cdS g1 (by omega), cdS g1 (by omega), sl2, h⟩
theorem ok__law_ratio {P : Program} {w : World} {K : PySem.W.Frag} {mg : Str → Option Value} {base : Heap} {f : Addr} {fd : FuncData} (F : Fun K "_law_ratio" "_law_ratio" st__law_ratio f fd) (z_int : mg "int" = none) (C__law_divisor : Cal P w K mg base "_law_divisor" 1 (spD K p__law_divisor)) :
  FnOk P w K mg base CX0 2 f fd ["p", "q"] (spD K p__law_ratio) := fn_D F sc__law_ratio len__law_ratio (body__law_ratio z_int C__law_divisor)

def p__law_is_ratio (ds : List D) (R : D → Prop) : Prop := ∃ a b : Int, ds = [enc (a, b)] ∧ 0 < b ∧ (∃ L, L ≤ 19000 ∧ a.natAbs * b.natAbs < 2 ^ L) ∧ Int.gcd a b = 1 ∧ R (.bool true)
theorem len__law_is_ratio : ∀ ds R, p__law_is_ratio ds R → ds.length = (["pair"] : List Str).length := fun ds R ⟨_, _, h, _⟩ => by rw [h]; rfl
theorem kit1 : kitB "tuple" "tuple" = some true := by decide +kernel
theorem kit2 : kitB "int" "int" = some true := by decide +kernel
theorem kit3 : kitB "int" "bool" = some false := by decide +kernel

theorem body__law_is_ratio {P : Program} {w : World} {K : PySem.W.Frag} {mg : Str → Option Value} {base : Heap} (z_isinstance : mg "isinstance" = none) (z_tuple : mg "tuple" = none) (z_len : mg "len" = none) (z_int : mg "int" = none) (z_bool : mg "bool" = none) (C__law_divisor : Cal P w K mg base "_law_divisor" 1 (spD K p__law_divisor)) :
  Body P w K mg base N__law_is_ratio "_law_is_ratio" st__law_is_ratio 1 fun ts => ∀ ds R, p__law_is_ratio ds R → ts { nx := fun _ => R .none, rt := fun d _ => R d } (startD N__law_is_ratio ds) := fun f cdv A outer s H E hr => by
  refine ⟨_, (qss_cons (qs_if (qt_bool (qw_or (qt_not (qt_val (q_isi (by rfl) z_isinstance (by rfl) z_tuple (qe_var 0)))) (qw_or (t_ne hr.units (q_len (by rfl) z_len (qa_cons (qe_var 0) qa_nil)) qe_int) (qw_or1 (t_in (by have := hr.un; omega) qe_bl (qe_fr (qf_lc1 1 (by rfl) sc__law_is_ratio.nd (qi_tup (qe_var 0)) (blkOk_by (own := [("x", 1)]) (N := N__law_is_ratio) (sc := defScope st__law_is_ratio) (by decide +kernel)) (fun _ _ _ _ _ => pg_name (i := 1) sc__law_is_ratio.nd rfl (Or.inl rfl)) (fun _ _ _ _ _ => qts_nil) (fun _ _ _ _ _ => (qe_and (q_isi (by rfl) z_isinstance (by rfl) z_int (qe_var 1)) (qe_one (qe_not (q_isi (by rfl) z_isinstance (by rfl) z_bool (qe_var 1)))))))))))))
 (qss_one (qs_ret qe_bl))
 qss_nil)
 (qss_one (qs_ret (qe_and (q_gt hr.units (qe_ix (qe_var 0) qe_int) qe_int) (qe_one (q_eq hr.units (qe_call C__law_divisor (hr.mono (by decide)) (by rfl) (qa_cons (qe_ix (qe_var 0) qe_int) (qa_cons (qe_ix (qe_var 0) qe_int) qa_nil))) qe_int)))))), ?_⟩
  intro ds R h
  obtain ⟨a, b, rfl, h0, hL, hg, h⟩ := h
  refine ⟨true, kit1, true, rfl, (fun z => nomatch z), fun _ => ⟨_, rfl, (fun z => nomatch z), fun _ => ?_⟩⟩
  refine ⟨fun v hv => by rw [List.mem_singleton.mp hv]; trivial, fun k acc ρ => ρ = [.sh (enc (a, b)), .no] ∧ acc = List.replicate k (.bool true) ∧ k ≤ 2, ⟨rfl, rfl, by decide⟩, ?_, ?_⟩
  · rintro k acc d ρ hk ⟨rfl, rfl, _⟩
    have hd : ∃ i : Int, d = .int i ∧ k < 2 := by
      match k, hk with
      | 0, hk => exact ⟨a, (Option.some.inj hk).symm, by decide⟩
      | 1, hk => exact ⟨b, (Option.some.inj hk).symm, by decide⟩
      | k + 2, hk => cases hk
    obtain ⟨i, rfl, hk2⟩ := hd
    refine ⟨trivial, fun _ => ⟨true, kit2, true, rfl, fun _ => ⟨false, kit3, false, rfl, ?_, fun v hv => by rw [List.mem_singleton.mp hv]; trivial, rfl, ?_, by omega⟩, (fun z => nomatch z)⟩, (fun z => nomatch z)⟩
    · rw [List.length_replicate]
      exact Nat.lt_of_lt_of_le hk2 sl2
    · exact List.replicate_succ'.symm
  · rintro acc ρ ⟨rfl, rfl, _⟩
    refine ⟨rfl, rfl, _, rfl, (fun z => nomatch z), fun _ => ?_⟩
    refine ⟨.int b, rfl, decide ((0 : Int) < b), rfl, fun _ => ?_, fun z => absurd h0 (of_decide_eq_false z)⟩
    refine ⟨.int a, rfl, .int b, rfl, a, b, rfl, hL, ?_⟩
    show R (.bool (((Int.gcd a b : Nat) : Int) == 1))
    rw [hg]
    exact h
theorem ok__law_is_ratio {P : Program} {w : World} {K : PySem.W.Frag} {mg : Str → Option Value} {base : Heap} {f : Addr} {fd : FuncData} (F : Fun K "_law_is_ratio" "_law_is_ratio" st__law_is_ratio f fd) (z_isinstance : mg "isinstance" = none) (z_tuple : mg "tuple" = none) (z_len : mg "len" = none) (z_int : mg "int" = none) (z_bool : mg "bool" = none) (C__law_divisor : Cal P w K mg base "_law_divisor" 1 (spD K p__law_divisor)) :
  FnOk P w K mg base CX0 2 f fd ["pair"] (spD K p__law_is_ratio) := fn_D F sc__law_is_ratio len__law_is_ratio (body__law_is_ratio z_isinstance z_tuple z_len z_int z_bool C__law_divisor)

def keyL (z : Int × Int) : List Int := if z.1 = 0 ∧ z.2 = 1 then [1, 0, 0, 0] else [szI z.1 z.2, z.2, z.1.natAbs, if z.1 < 0 then 1 else 0]
def keyD (z : Int × Int) : D := .tuple ((keyL z).map .int)
def p__law_key (ds : List D) (R : D → Prop) : Prop := ∃ z, ds = [enc z] ∧ R (keyD z)
theorem len__law_key : ∀ ds R, p__law_key ds R → ds.length = (["one"] : List Str).length := fun ds R ⟨_, h, _⟩ => by rw [h]; rfl
theorem eqv_zero (a b : Int) : PyData.eqv (enc (a, b)) (.tuple [.int 0, .int 1]) = decide (a = 0 ∧ b = 1) := by
  show (a == 0 && (b == 1 && true)) = _
  rw [Bool.and_true, Bool.eq_iff_iff]
  simp

theorem body__law_key {P : Program} {w : World} {K : PySem.W.Frag} {mg : Str → Option Value} {base : Heap} (z_max : mg "max" = none) (z_abs : mg "abs" = none) (z_int : mg "int" = none) :
  Body P w K mg base N__law_key "_law_key" st__law_key 0 fun ts => ∀ ds R, p__law_key ds R → ts { nx := fun _ => R .none, rt := fun d _ => R d } (startD N__law_key ds) := fun f cdv A outer s H E hr => by
  refine ⟨_, (qss_cons (qs_set 1 sc__law_key.nd (q_max (by rfl) (by rfl) z_max (qa_cons (q_abs (by rfl) z_abs (qa_cons (qe_ix (qe_var 0) qe_int) qa_nil)) (qa_cons (qe_ix (qe_var 0) qe_int) qa_nil))))
 (qss_cons (qs_if (t_eq hr.units (qe_var 0) (qe_tup (qa_cons qe_int (qa_cons qe_int qa_nil))))
 (qss_one (qs_ret (qe_tup (qa_cons qe_int (qa_cons qe_int (qa_cons qe_int (qa_cons qe_int qa_nil)))))))
 qss_nil)
 (qss_one (qs_ret (qe_tup (qa_cons (qe_var 1) (qa_cons (qe_ix (qe_var 0) qe_int) (qa_cons (q_abs (by rfl) z_abs (qa_cons (qe_ix (qe_var 0) qe_int) qa_nil)) (qa_cons (q_int (by rfl) z_int (qa_cons (q_lt hr.units (qe_ix (qe_var 0) qe_int) qe_int) qa_nil)) qa_nil))))))))), ?_⟩
  intro ds R h
  obtain ⟨⟨a, b⟩, rfl, h⟩ := h
  refine ⟨.int a, rfl, .int b, rfl, trivial, sl2, rfl, rfl, _, rfl, fun hb => ?_, fun hb => ?_⟩
  · have hb' : PyData.eqv (enc (a, b)) (.tuple [.int 0, .int 1]) = true := hb
    rw [eqv_zero] at hb'
    have hz := of_decide_eq_true hb'
    refine ⟨sl4, ?_⟩
    have e : keyD (a, b) = .tuple [.int 1, .int 0, .int 0, .int 0] := by unfold keyD keyL; rw [if_pos hz]; rfl
    rw [e] at h
    exact h
  · have hb' : PyData.eqv (enc (a, b)) (.tuple [.int 0, .int 1]) = false := hb
    rw [eqv_zero] at hb'
    have hz := of_decide_eq_false hb'
    refine ⟨.int b, rfl, .int a, rfl, .int a, rfl, sl4, ?_⟩
    have e : keyD (a, b) = .tuple [.int (szI a b), .int b, .int a.natAbs, .int (if a < 0 then 1 else 0)] := by unfold keyD keyL; rw [if_neg hz]; rfl
    rw [e] at h
    show R (.tuple [.int (if b > (if a < 0 then -a else a) then b else (if a < 0 then -a else a)), .int b, .int (if a < 0 then -a else a), .int (if decide (a < 0) = true then 1 else 0)])
    rw [abs_nat]
    unfold szI at h
    have e2 : (if decide (a < 0) = true then (1 : Int) else 0) = if a < 0 then 1 else 0 := by
      by_cases z : a < 0
      · rw [if_pos z, if_pos (decide_eq_true z)]
      · rw [if_neg z, if_neg (by rw [decide_eq_false z]; decide)]
    rw [e2]
    exact h
theorem ok__law_key {P : Program} {w : World} {K : PySem.W.Frag} {mg : Str → Option Value} {base : Heap} {f : Addr} {fd : FuncData} (F : Fun K "_law_key" "_law_key" st__law_key f fd) (z_max : mg "max" = none) (z_abs : mg "abs" = none) (z_int : mg "int" = none) :
  FnOk P w K mg base CX0 1 f fd ["one"] (spD K p__law_key) := fn_D F sc__law_key len__law_key (body__law_key z_max z_abs z_int)

/-! the plain law -/
theorem lex_int {a b : Int} {r t : List (Int ⊕ List Nat)} : PyProof.Rows.lexLt PyProof.Rows.itemOrd ((Sum.inl a : Int ⊕ List Nat) :: r) ((Sum.inl b : Int ⊕ List Nat) :: t) = (decide (a < b) || (decide (a = b) && PyProof.Rows.lexLt PyProof.Rows.itemOrd r t)) := by
  by_cases h : a = b
  · subst h
    rw [show PyProof.Rows.lexLt PyProof.Rows.itemOrd ((Sum.inl a : Int ⊕ List Nat) :: r) ((Sum.inl a : Int ⊕ List Nat) :: t) = PyProof.Rows.lexLt PyProof.Rows.itemOrd r t from PyProof.Rows.lex_self (O := PyProof.Rows.itemOrd) _ _ _]
    simp
  · rw [show PyProof.Rows.lexLt PyProof.Rows.itemOrd ((Sum.inl a : Int ⊕ List Nat) :: r) ((Sum.inl b : Int ⊕ List Nat) :: t) = PyProof.Rows.itemOrd.blt (Sum.inl a : Int ⊕ List Nat) (Sum.inl b : Int ⊕ List Nat) from PyProof.Rows.lex_diff (O := PyProof.Rows.itemOrd) (fun z => h (Sum.inl.inj z))]
    show decide (a < b) = _
    simp [h]
theorem lt4 (a b c d a' b' c' d' : Int) : PySem.W.dataLt (.tuple [.int a, .int b, .int c, .int d]) (.tuple [.int a', .int b', .int c', .int d']) = decide (a < a' ∨ (a = a' ∧ (b < b' ∨ (b = b' ∧ (c < c' ∨ (c = c' ∧ d < d')))))) := by
  show PyProof.Rows.lexLt PyProof.Rows.itemOrd ([Sum.inl 1, Sum.inl a, Sum.inl 1, Sum.inl b, Sum.inl 1, Sum.inl c, Sum.inl 1, Sum.inl d, Sum.inl 0] : List (Int ⊕ List Nat)) ([Sum.inl 1, Sum.inl a', Sum.inl 1, Sum.inl b', Sum.inl 1, Sum.inl c', Sum.inl 1, Sum.inl d', Sum.inl 0] : List (Int ⊕ List Nat)) = _
  rw [lex_int, lex_int, lex_int, lex_int, lex_int, lex_int, lex_int, lex_int, lex_int]
  have e : PyProof.Rows.lexLt PyProof.Rows.itemOrd ([] : List (Int ⊕ List Nat)) ([] : List (Int ⊕ List Nat)) = false := rfl
  rw [e]
  simp
def kN (z : Int × Int) : Int := if z.1 = 0 ∧ z.2 = 1 then 1000000000 else ((szI z.1 z.2 * 1000 + z.2) * 1000 + z.1.natAbs) * 1000 + (if z.1 < 0 then 1 else 0)
theorem key_lt {z w : Int × Int} (hz : 0 < z.2 ∧ szI z.1 z.2 ≤ 100) (hw : 0 < w.2 ∧ szI w.1 w.2 ≤ 100) : PySem.W.dataLt (keyD z) (keyD w) = decide (kN z < kN w) := by
  obtain ⟨a, b⟩ := z
  obtain ⟨c, d⟩ := w
  have m1 : b ≤ szI a b ∧ (a.natAbs : Int) ≤ szI a b := by unfold szI; split <;> omega
  have m2 : d ≤ szI c d ∧ (c.natAbs : Int) ≤ szI c d := by unfold szI; split <;> omega
  simp only at hz hw
  unfold keyD keyL kN
  simp only
  generalize szI a b = s1 at *
  generalize szI c d = s2 at *
  have q1 : (if a < 0 then (1 : Int) else 0) = 0 ∨ (if a < 0 then (1 : Int) else 0) = 1 := by split <;> simp
  have q2 : (if c < 0 then (1 : Int) else 0) = 0 ∨ (if c < 0 then (1 : Int) else 0) = 1 := by split <;> simp
  generalize (if a < 0 then (1 : Int) else 0) = e1 at *
  generalize (if c < 0 then (1 : Int) else 0) = e2 at *
  by_cases h1 : a = 0 ∧ b = 1
  · rw [if_pos h1, if_pos h1]
    by_cases h2 : c = 0 ∧ d = 1
    · rw [if_pos h2, if_pos h2, List.map_cons, List.map_cons, List.map_cons, List.map_cons, List.map_nil, lt4]
      rfl
    · rw [if_neg h2, if_neg h2, List.map_cons, List.map_cons, List.map_cons, List.map_cons, List.map_cons, List.map_cons, List.map_cons, List.map_cons, List.map_nil, lt4]
      exact decide_eq_decide.mpr (by omega)
  · rw [if_neg h1, if_neg h1]
    by_cases h2 : c = 0 ∧ d = 1
    · rw [if_pos h2, if_pos h2, List.map_cons, List.map_cons, List.map_cons, List.map_cons, List.map_cons, List.map_cons, List.map_cons, List.map_cons, List.map_nil, lt4]
      exact decide_eq_decide.mpr (by omega)
    · rw [if_neg h2, if_neg h2, List.map_cons, List.map_cons, List.map_cons, List.map_cons, List.map_cons, List.map_cons, List.map_cons, List.map_cons, List.map_nil, lt4]
      exact decide_eq_decide.mpr (by omega)
def at_ (p : Nat) : Int × Int := (ratF 45 1 p).getD (0, 0)
def okP (p : Nat) : Bool := match ratF 45 1 p with
  | some z => decide (0 < z.2) && (Int.gcd z.1 z.2 == 1) && decide (1 ≤ szI z.1 z.2) && decide (szI z.1 z.2 ≤ 100) && (match idxD ((ofSize (szI z.1 z.2).toNat).map enc) (enc z) with
    | some j => bef ((szI z.1 z.2).toNat - 1) + j == p
    | none => false)
  | none => false
theorem okP_all : (List.range 511).all okP = true := by decide +kernel
structure Good (p : Nat) (z : Int × Int) : Prop where
  rat : ratF 45 1 p = some z
  pos : 0 < z.2
  gcd : Int.gcd z.1 z.2 = 1
  sz : szI z.1 z.2 ≤ 100
  pl : ∃ n j : Nat, szI z.1 z.2 = n ∧ 1 ≤ n ∧ n ≤ 100 ∧ idxD ((ofSize n).map enc) (enc z) = some j ∧ bef (n - 1) + j = p
theorem good (p : Nat) (hp : p < 511) : Good p (at_ p) := by
  have h : okP p = true := List.all_eq_true.mp okP_all p (List.mem_range.mpr hp)
  unfold okP at h
  cases e : ratF 45 1 p with
  | none => rw [e] at h; cases h
  | some z =>
  rw [e] at h
  have ez : at_ p = z := by unfold at_; rw [e]; rfl
  rw [ez]
  simp only [Bool.and_eq_true, decide_eq_true_eq, beq_iff_eq] at h
  obtain ⟨⟨⟨⟨h1, h2⟩, h3⟩, h4⟩, h5⟩ := h
  refine ⟨e, h1, h2, h4, (szI z.1 z.2).toNat, ?_⟩
  cases ej : idxD ((ofSize (szI z.1 z.2).toNat).map enc) (enc z) with
  | none => rw [ej] at h5; cases h5
  | some j =>
  rw [ej] at h5
  exact ⟨j, by omega, by omega, by omega, rfl, eq_of_beq h5⟩
theorem code_step : (List.range 510).all (fun p => decide (kN (at_ p) < kN (at_ (p + 1)))) = true := by decide +kernel
theorem code_mono : ∀ (j i : Nat), i < j → j < 511 → kN (at_ i) < kN (at_ j)
  | 0, i, h, _ => by omega
  | j + 1, i, h, hj => by
    have h1 : kN (at_ j) < kN (at_ (j + 1)) := of_decide_eq_true (List.all_eq_true.mp code_step j (List.mem_range.mpr (by omega)))
    by_cases e : i = j
    · rw [e]; exact h1
    · exact Int.lt_trans (code_mono j i (by omega) (by omega)) h1
theorem code_lt {i j : Nat} (hi : i < 511) (hj : j < 511) : decide (kN (at_ i) < kN (at_ j)) = decide ((i : Int) < (j : Int)) := by
  apply decide_eq_decide.mpr
  rcases Nat.lt_trichotomy i j with h | h | h
  · have := code_mono j i h hj
    omega
  · subst h
    omega
  · have := code_mono i j h hi
    omega
theorem key_at {i j : Nat} (hi : i < 511) (hj : j < 511) : PySem.W.dataLt (keyD (at_ i)) (keyD (at_ j)) = decide ((i : Int) < (j : Int)) := by
  rw [key_lt ⟨(good i hi).pos, (good i hi).sz⟩ ⟨(good j hj).pos, (good j hj).sz⟩]
  exact code_lt hi hj
def okQ (a b : Nat) : Bool := let z : Int × Int := ((a : Int) - 20, (b : Int) + 1); if Int.gcd z.1 z.2 = 1 then (match idxD ((ofSize (szI z.1 z.2).toNat).map enc) (enc z) with
  | some j => let p := bef ((szI z.1 z.2).toNat - 1) + j; decide (p < 511) && (ratF 45 1 p == some z)
  | none => false) else true
theorem okQ_all : (List.range 41).all (fun a => (List.range 20).all fun b => okQ a b) = true := by decide +kernel
theorem spot_of {x y : Int} (h1 : -20 ≤ x) (h2 : x ≤ 20) (h3 : 1 ≤ y) (h4 : y ≤ 20) (hg : Int.gcd x y = 1) : ∃ p : Nat, p < 511 ∧ at_ p = (x, y) := by
  have h : okQ (x + 20).toNat (y - 1).toNat = true := List.all_eq_true.mp (List.all_eq_true.mp okQ_all _ (List.mem_range.mpr (by omega))) _ (List.mem_range.mpr (by omega))
  unfold okQ at h
  have ea : (((x + 20).toNat : Nat) : Int) - 20 = x := by omega
  have eb : (((y - 1).toNat : Nat) : Int) + 1 = y := by omega
  simp only [ea, eb] at h
  rw [if_pos hg] at h
  cases ej : idxD ((ofSize (szI x y).toNat).map enc) (enc (x, y)) with
  | none => rw [ej] at h; cases h
  | some j =>
  rw [ej] at h
  simp only [Bool.and_eq_true, decide_eq_true_eq, beq_iff_eq] at h
  exact ⟨_, h.1, by unfold at_; rw [h.2]; rfl⟩
theorem keyD_form (z : Int × Int) : ∃ a b c d : Int, keyD z = .tuple [.int a, .int b, .int c, .int d] := by
  unfold keyD keyL
  by_cases h : z.1 = 0 ∧ z.2 = 1
  · rw [if_pos h]
    exact ⟨_, _, _, _, rfl⟩
  · rw [if_neg h]
    exact ⟨_, _, _, _, rfl⟩
theorem alike_key (z w : Int × Int) : PySem.W.alike (keyD z) (keyD w) = true := by
  obtain ⟨_, _, _, _, e1⟩ := keyD_form z
  obtain ⟨_, _, _, _, e2⟩ := keyD_form w
  rw [e1, e2]
  rfl
theorem depth_key (z : Int × Int) : PyData.depth (keyD z) ≤ 64 := by
  obtain ⟨_, _, _, _, e1⟩ := keyD_form z
  rw [e1]
  show max 0 (max 0 (max 0 (max 0 0))) + 1 ≤ 64
  decide
theorem bound_sz {a b : Int} (h0 : 0 < b) (h : szI a b ≤ 100) : ∃ L, L ≤ 19000 ∧ a.natAbs * b.natAbs < 2 ^ L := by
  have m1 : b ≤ szI a b ∧ (a.natAbs : Int) ≤ szI a b := by unfold szI; split <;> omega
  have h1 : a.natAbs ≤ 100 := by omega
  have h2 : b.natAbs ≤ 100 := by omega
  exact ⟨14, by decide, Nat.lt_of_le_of_lt (Nat.mul_le_mul h1 h2) (by decide)⟩
theorem eqv_enc (z : Int × Int) : PyData.eqv (enc z) (enc z) = true := by
  show (z.1 == z.1 && (z.2 == z.2 && true)) = true
  simp
theorem ratio_facts {t d : Int} (h1 : -20 ≤ t) (h2 : t ≤ 20) (h3 : 1 ≤ d) (h4 : d ≤ 20) : -20 ≤ t.fdiv (Int.gcd t d) ∧ t.fdiv (Int.gcd t d) ≤ 20 ∧ 1 ≤ d.fdiv (Int.gcd t d) ∧ d.fdiv (Int.gcd t d) ≤ 20 ∧ Int.gcd (t.fdiv (Int.gcd t d)) (d.fdiv (Int.gcd t d)) = 1 := by
  have h : (List.range 41).all (fun a => (List.range 20).all fun b => decide (-20 ≤ ((a : Int) - 20).fdiv (Int.gcd ((a : Int) - 20) ((b : Int) + 1)) ∧ ((a : Int) - 20).fdiv (Int.gcd ((a : Int) - 20) ((b : Int) + 1)) ≤ 20 ∧ 1 ≤ ((b : Int) + 1).fdiv (Int.gcd ((a : Int) - 20) ((b : Int) + 1)) ∧ ((b : Int) + 1).fdiv (Int.gcd ((a : Int) - 20) ((b : Int) + 1)) ≤ 20 ∧ Int.gcd (((a : Int) - 20).fdiv (Int.gcd ((a : Int) - 20) ((b : Int) + 1))) (((b : Int) + 1).fdiv (Int.gcd ((a : Int) - 20) ((b : Int) + 1))) = 1)) = true := by decide +kernel
  have q := of_decide_eq_true (List.all_eq_true.mp (List.all_eq_true.mp h (t + 20).toNat (List.mem_range.mpr (by omega))) (d - 1).toNat (List.mem_range.mpr (by omega)))
  have ea : (((t + 20).toNat : Nat) : Int) - 20 = t := by omega
  have eb : (((d - 1).toNat : Nat) : Int) + 1 = d := by omega
  rw [ea, eb] at q
  exact q
def dueL : List (Int × Int) := [(0, 1), (1, 1), (-1, 1), (2, 1), (-2, 1), (1, 2), (-1, 2), (3, 1), (-3, 1), (3, 2), (-3, 2), (1, 3), (-1, 3), (2, 3), (-2, 3)]
theorem due_at {k : Nat} (h : k < 15) : dueL[k]? = some (at_ k) := by
  have q : (List.range 15).all (fun k => dueL[k]? == some (at_ k)) = true := by decide +kernel
  exact eq_of_beq (List.all_eq_true.mp q k (List.mem_range.mpr h))
def p_law (ds : List D) (R : D → Prop) : Prop := ∃ ns : List Int, ds = [.list (ns.map .int)] ∧ R (.bool true)
theorem len_law : ∀ ds R, p_law ds R → ds.length = (["script"] : List Str).length := fun ds R ⟨_, h, _⟩ => by rw [h]; rfl
theorem ne_self {x : Int} (h : (!(x == x)) = true) : False := by simp at h
theorem ne_of {x y : Int} (e : x = y) (h : (!(x == y)) = true) : False := by simp [e] at h

theorem body_law {P : Program} {w : World} {K : PySem.W.Frag} {mg : Str → Option Value} {base : Heap} (z_range : mg "range" = none) (z_isinstance : mg "isinstance" = none) (z_bool : mg "bool" = none) (z_int : mg "int" = none) (z_max : mg "max" = none) (z_abs : mg "abs" = none) (C__law_big : Cal P w K mg base "_law_big" 2 (spF K p__law_big)) (C__law_take : Cal P w K mg base "_law_take" 1 (spI K p__law_take)) (C_ratio_at : Cal P w K mg base "ratio_at" 3 (spD K p_ratio_at)) (C__law_ratio : Cal P w K mg base "_law_ratio" 2 (spD K p__law_ratio)) (C_place_of : Cal P w K mg base "place_of" 3 (spD K p_place_of)) (C__law_key : Cal P w K mg base "_law_key" 1 (spD K p__law_key)) (C__law_is_ratio : Cal P w K mg base "_law_is_ratio" 2 (spD K p__law_is_ratio)) (C_size_of : Cal P w K mg base "size_of" 1 (spD K p_size_of)) :
  Body P w K mg base N_law "law" st_law 3 fun ts => ∀ ds R, p_law ds R → ts { nx := fun _ => R .none, rt := fun d _ => R d } (startD N_law ds) := fun f cdv A outer s H E hr => by
  refine ⟨_, (qss_cons (qs_own 1 sc_law.nd (qf_call C__law_big (hr.mono (by decide)) (by rfl) (qa_cons (qe_var 0) (qa_cons qe_int (qa_cons qe_int qa_nil)))))
 (qss_cons (qs_for PassesOwn.never (by rfl) (qi_range1 (by rfl) z_range (qa_cons qe_int qa_nil)) (qg_name 2 sc_law.nd)
 (qss_cons (qs_set 3 sc_law.nd (qe_callI 1 C__law_take (hr.mono (by decide)) (by rfl) (qa_cons qe_int qa_nil)))
 (qss_cons (qs_set 4 sc_law.nd (qe_call C_ratio_at (hr.mono (by decide)) (by rfl) (qa_cons (qe_var 3) qa_nil)))
 (qss_cons (qs_set 5 sc_law.nd (qe_call C_ratio_at (hr.mono (by decide)) (by rfl) (qa_cons (q_add (qe_var 3) qe_int) qa_nil)))
 (qss_cons (qs_if (qt_bool (qw_or (qt_not (qt_val (qe_call C__law_is_ratio (hr.mono (by decide)) (by rfl) (qa_cons (qe_var 4) qa_nil)))) (qw_or (qt_not (qt_val (qe_call C__law_is_ratio (hr.mono (by decide)) (by rfl) (qa_cons (qe_var 5) qa_nil)))) (qw_or (t_ne hr.units (qe_call C_place_of (hr.mono (by decide)) (by rfl) (qa_cons (qe_var 4) qa_nil)) (qe_var 3)) (qw_or1 (t_ne hr.units (qe_call C_place_of (hr.mono (by decide)) (by rfl) (qa_cons (qe_var 5) qa_nil)) (q_add (qe_var 3) qe_int)))))))
 (qss_one (qs_ret qe_bl))
 qss_nil)
 (qss_cons (qs_if (t_ge hr.units (qe_call C__law_key (hr.mono (by decide)) (by rfl) (qa_cons (qe_var 4) qa_nil)) (qe_call C__law_key (hr.mono (by decide)) (by rfl) (qa_cons (qe_var 5) qa_nil)))
 (qss_one (qs_ret qe_bl))
 qss_nil)
 (qss_cons (qs_set 6 sc_law.nd (q_add qe_int (qe_callI 1 C__law_take (hr.mono (by decide)) (by rfl) (qa_cons qe_int qa_nil))))
 (qss_cons (qs_set 7 sc_law.nd (qe_call C__law_ratio (hr.mono (by decide)) (by rfl) (qa_cons (q_sub (qe_callI 1 C__law_take (hr.mono (by decide)) (by rfl) (qa_cons (q_add (q_mul qe_int (qe_var 6)) qe_int) qa_nil)) (qe_var 6)) (qa_cons (q_add qe_int (qe_callI 1 C__law_take (hr.mono (by decide)) (by rfl) (qa_cons (qe_var 6) qa_nil))) qa_nil))))
 (qss_cons (qs_set 8 sc_law.nd (qe_call C_place_of (hr.mono (by decide)) (by rfl) (qa_cons (qe_var 7) qa_nil)))
 (qss_cons (qs_if (qt_bool (qw_or (qt_val (q_isi (by rfl) z_isinstance (by rfl) z_bool (qe_var 8))) (qw_or (qt_not (qt_val (q_isi (by rfl) z_isinstance (by rfl) z_int (qe_var 8)))) (qw_or (t_lt hr.units (qe_var 8) qe_int) (qw_or1 (t_ne hr.units (qe_call C_ratio_at (hr.mono (by decide)) (by rfl) (qa_cons (qe_var 8) qa_nil)) (qe_var 7)))))))
 (qss_one (qs_ret qe_bl))
 qss_nil)
 (qss_one (qs_if (qt_bool (qw_or (t_ne hr.units (q_lt hr.units (qe_var 8) (qe_var 3)) (q_lt hr.units (qe_call C__law_key (hr.mono (by decide)) (by rfl) (qa_cons (qe_var 7) qa_nil)) (qe_call C__law_key (hr.mono (by decide)) (by rfl) (qa_cons (qe_var 4) qa_nil)))) (qw_or (qt_val (q_isi (by rfl) z_isinstance (by rfl) z_bool (qe_call C_size_of (hr.mono (by decide)) (by rfl) (qa_cons (qe_var 7) qa_nil)))) (qw_or1 (t_ne hr.units (qe_call C_size_of (hr.mono (by decide)) (by rfl) (qa_cons (qe_var 7) qa_nil)) (q_max (by rfl) (by rfl) z_max (qa_cons (q_abs (by rfl) z_abs (qa_cons (qe_ix (qe_var 7) qe_int) qa_nil)) (qa_cons (qe_ix (qe_var 7) qe_int) qa_nil))))))))
 (qss_one (qs_ret qe_bl))
 qss_nil))))))))))))
 (qss_cons (qs_set 9 sc_law.nd (qe_fr (qf_lst (qa_cons (qe_tup (qa_cons qe_int (qa_cons qe_int qa_nil))) (qa_cons (qe_tup (qa_cons qe_int (qa_cons qe_int qa_nil))) (qa_cons (qe_tup (qa_cons (q_neg qe_int) (qa_cons qe_int qa_nil))) (qa_cons (qe_tup (qa_cons qe_int (qa_cons qe_int qa_nil))) (qa_cons (qe_tup (qa_cons (q_neg qe_int) (qa_cons qe_int qa_nil))) (qa_cons (qe_tup (qa_cons qe_int (qa_cons qe_int qa_nil))) (qa_cons (qe_tup (qa_cons (q_neg qe_int) (qa_cons qe_int qa_nil))) (qa_cons (qe_tup (qa_cons qe_int (qa_cons qe_int qa_nil))) (qa_cons (qe_tup (qa_cons (q_neg qe_int) (qa_cons qe_int qa_nil))) (qa_cons (qe_tup (qa_cons qe_int (qa_cons qe_int qa_nil))) (qa_cons (qe_tup (qa_cons (q_neg qe_int) (qa_cons qe_int qa_nil))) (qa_cons (qe_tup (qa_cons qe_int (qa_cons qe_int qa_nil))) (qa_cons (qe_tup (qa_cons (q_neg qe_int) (qa_cons qe_int qa_nil))) (qa_cons (qe_tup (qa_cons qe_int (qa_cons qe_int qa_nil))) (qa_cons (qe_tup (qa_cons (q_neg qe_int) (qa_cons qe_int qa_nil))) qa_nil))))))))))))))))))
 (qss_one (qs_ret (q_eq hr.units (qe_fr (qf_lc1 10 (by rfl) sc_law.nd (qi_range1 (by rfl) z_range (qa_cons qe_int qa_nil)) (blkOk_by (own := [("k", 10)]) (N := N_law) (sc := defScope st_law) (by decide +kernel)) (fun _ _ _ _ _ => pg_name (i := 10) sc_law.nd rfl (Or.inl rfl)) (fun _ _ _ _ _ => qts_nil) (fun _ _ _ _ _ => (qe_call C_ratio_at (hr.mono (by decide)) (by rfl) (qa_cons (qe_var 10) qa_nil))))) (qe_var 9))))))), ?_⟩
  intro ds R h
  obtain ⟨ns, rfl, h⟩ := h
  refine ⟨ns, 0, 16, rfl, by decide, fun c0 hc0 => ⟨trivial, 8, rfl, by decide, by decide, ?_⟩⟩
  refine ⟨fun i ρ => ∃ (c : Int) (s2 s3 s4 s5 s6 s7 s8 : Sl), ρ = [.sh (.list (ns.map .int)), .ol [.int c], s2, s3, s4, s5, s6, s7, s8, .no, .no] ∧ 0 ≤ c ∧ nio s2 ∧ nio s3 ∧ nio s4 ∧ nio s5 ∧ nio s6 ∧ nio s7 ∧ nio s8, ⟨c0, .no, .no, .no, .no, .no, .no, .no, rfl, hc0, trivial, trivial, trivial, trivial, trivial, trivial, trivial⟩, ?_, ?_⟩
  · rintro i d ρ hi ⟨c, s2, s3, s4, s5, s6, s7, s8, rfl, hc, k2, k3, k4, k5, k6, k7, k8⟩
    obtain ⟨hi', rfl⟩ := rgD_at hi
    -- place
    refine ⟨k2, rfl, _, rfl, c, 401, rfl, rfl, by decide, by decide, hc, fun x c1 hx0 hx1 hc1 => ⟨k3, ?_⟩⟩
    obtain ⟨p, rfl⟩ := Int.eq_ofNat_of_zero_le hx0
    have hp : p < 401 := by omega
    have G1 := good p (by omega)
    have G2 := good (p + 1) (by omega)
    have hkey := key_at (i := p) (j := p + 1) (by omega) (by omega)
    refine ⟨p, 45, at_ p, rfl, G1.rat, by decide, k4, p + 1, 45, at_ (p + 1), int1 (show (p : Int) + 1 = ((p + 1 : Nat) : Int) by omega), G2.rat, by decide, k5, ?_⟩
    refine ⟨(at_ p).1, (at_ p).2, rfl, G1.pos, bound_sz G1.pos G1.sz, G1.gcd, true, rfl, (fun z => nomatch z), fun _ => ?_⟩
    refine ⟨(at_ (p + 1)).1, (at_ (p + 1)).2, rfl, G2.pos, bound_sz G2.pos G2.sz, G2.gcd, true, rfl, (fun z => nomatch z), fun _ => ?_⟩
    obtain ⟨n1, j1, a1, a2, a3, a4, a5⟩ := G1.pl
    obtain ⟨n2, j2, b1, b2, b3, b4, b5⟩ := G2.pl
    refine ⟨(at_ p).1, (at_ p).2, n1, j1, rfl, a1, a2, a3, a4, _, rfl, fun hb => (ne_of (by omega) hb).elim, fun _ => ?_⟩
    refine ⟨(at_ (p + 1)).1, (at_ (p + 1)).2, n2, j2, rfl, b1, b2, b3, b4, _, rfl, fun hb => (ne_of (show ((bef (n2 - 1) + j2 : Nat) : Int) = (p : Int) + 1 by omega) hb).elim, fun _ => ?_⟩
    -- the keys
    refine ⟨at_ p, rfl, at_ (p + 1), rfl, alike_key _ _, (fun z => nomatch z), depth_key _, _, rfl, fun hb => ?_, fun _ => ?_⟩
    · have hb' : (!PySem.W.dataLt (keyD (at_ p)) (keyD (at_ (p + 1)))) = true := hb
      rw [hkey, decide_eq_true (by omega)] at hb'
      cases hb'
    -- size
    refine ⟨rfl, _, rfl, c1, 20, rfl, rfl, by decide, by decide, hc1, fun x2 c2 hy0 hy1 hc2 => ⟨k6, ?_⟩⟩
    refine ⟨rfl, cmL (by decide) (by decide), _, rfl, c2, _, rfl, rfl, (show (0 : Int) < 2 * (1 + x2) + 1 by omega), (show 2 * (1 + x2) + 1 < (1073741824 : Int) by omega), hc2, fun x3 c3 hz0 hz1 hc3 => ?_⟩
    have hz1' : x3 < 2 * (1 + x2) + 1 := hz1
    refine ⟨rfl, _, rfl, c3, _, rfl, rfl, (show (0 : Int) < 1 + x2 by omega), (show 1 + x2 < (1073741824 : Int) by omega), hc3, fun x4 c4 hw0 hw1 hc4 => ?_⟩
    have hw1' : x4 < 1 + x2 := hw1
    have hbd : ∃ L, L ≤ 19000 ∧ (x3 - (1 + x2)).natAbs * (1 + x4).natAbs < 2 ^ L := by
      have h1 : (x3 - (1 + x2)).natAbs ≤ 20 := by omega
      have h2 : (1 + x4).natAbs ≤ 20 := by omega
      exact ⟨14, by decide, Nat.lt_of_le_of_lt (Nat.mul_le_mul h1 h2) (by decide)⟩
    refine ⟨x3 - (1 + x2), 1 + x4, rfl, by omega, by omega, hbd, k7, ?_⟩
    obtain ⟨f1, f2, f3, f4, f5⟩ := ratio_facts (t := x3 - (1 + x2)) (d := 1 + x4) (by omega) (by omega) (by omega) (by omega)
    obtain ⟨q, hq, eo⟩ := spot_of f1 f2 f3 f4 f5
    rw [← eo]
    have G3 := good q hq
    have hkey2 := key_at (i := q) (j := p) hq (by omega)
    obtain ⟨n3, j3, d1, d2, d3, d4, d5⟩ := G3.pl
    refine ⟨(at_ q).1, (at_ q).2, n3, j3, rfl, d1, d2, d3, d4, k8, ?_⟩
    rw [d5]
    refine ⟨false, kit3, false, rfl, (fun z => nomatch z), fun _ => ⟨true, kit2, true, rfl, (fun z => nomatch z), fun _ => ⟨_, rfl, fun hb => ?_, fun _ => ?_⟩⟩⟩
    · have hb' : decide ((q : Int) < 0) = true := hb
      have := of_decide_eq_true hb'
      omega
    refine ⟨q, 45, at_ q, rfl, G3.rat, by decide, shaped_enc _, shaped_enc _, _, rfl, fun hb => ?_, fun _ => ?_⟩
    · have hb' : (!PyData.eqv (enc (at_ q)) (enc (at_ q))) = true := hb
      rw [eqv_enc] at hb'
      cases hb'
    refine ⟨at_ q, rfl, at_ p, rfl, alike_key _ _, (fun z => nomatch z), depth_key _, _, rfl, fun hb => ?_, fun _ => ?_⟩
    · have hb' : (!(decide ((q : Int) < (p : Int)) == PySem.W.dataLt (keyD (at_ q)) (keyD (at_ p)))) = true := hb
      rw [hkey2] at hb'
      simp at hb'
    refine ⟨(at_ q).1, (at_ q).2, rfl, false, kit3, false, rfl, (fun z => nomatch z), fun _ => ?_⟩
    refine ⟨(at_ q).1, (at_ q).2, rfl, .int (at_ q).1, rfl, .int (at_ q).2, rfl, _, rfl, fun hb => ?_, fun _ => ?_⟩
    · have hb' : (!(szI (at_ q).1 (at_ q).2 == (if (at_ q).2 > (if (at_ q).1 < 0 then -(at_ q).1 else (at_ q).1) then (at_ q).2 else (if (at_ q).1 < 0 then -(at_ q).1 else (at_ q).1)))) = true := hb
      rw [abs_nat] at hb'
      unfold szI at hb'
      simp at hb'
    exact ⟨c4, .sh (.int (0 + (i : Int))), .sh (.int p), .sh (enc (at_ p)), .sh (enc (at_ (p + 1))), .sh (.int (1 + x2)), .sh (enc (at_ q)), .sh (.int q), rfl, hc4, trivial, trivial, trivial, trivial, trivial, trivial, trivial⟩
  · rintro ρ ⟨c, s2, s3, s4, s5, s6, s7, s8, rfl, hc, k2, k3, k4, k5, k6, k7, k8⟩
    refine ⟨sl2, sl2, sl2, sl2, sl2, sl2, sl2, sl2, sl2, sl2, sl2, sl2, sl2, sl2, sl2, sl15, trivial, ?_⟩
    refine ⟨15, rfl, by decide, by decide, fun v hv => by rw [List.mem_singleton.mp hv]; trivial, fun k acc ρ => ρ = [.sh (.list (ns.map .int)), .ol [.int c], s2, s3, s4, s5, s6, s7, s8, .sh (.list (dueL.map enc)), .no] ∧ acc = (dueL.take k).map enc, ⟨rfl, rfl⟩, ?_, ?_⟩
    · rintro k acc d ρ hk ⟨rfl, rfl⟩
      obtain ⟨hk', rfl⟩ := rgD_at hk
      have hk15 : k < 15 := hk'
      refine ⟨trivial, fun _ => ⟨k, 45, at_ k, int1 (by omega), (good k (by omega)).rat, by decide, ?_, fun v hv => by rw [List.mem_singleton.mp hv]; trivial, rfl, ?_⟩, (fun z => nomatch z)⟩
      · rw [List.length_map, List.length_take]
        exact Nat.lt_of_le_of_lt (Nat.min_le_left _ _) (Nat.lt_of_lt_of_le hk15 sl15)
      · rw [List.take_succ, due_at hk15, List.map_append]
        rfl
    · rintro acc ρ ⟨rfl, rfl⟩
      refine ⟨shaped_encs _, shaped_encs _, ?_⟩
      have e : PyData.eqv (.list ((dueL.take (rgD 0 (15 : Int).toNat).length).map enc)) (.list (dueL.map enc)) = true := by decide +kernel
      show R (.bool (PyData.eqv (.list ((dueL.take (rgD 0 (15 : Int).toNat).length).map enc)) (.list (dueL.map enc))))
      rw [e]
      exact h
theorem ok_law {P : Program} {w : World} {K : PySem.W.Frag} {mg : Str → Option Value} {base : Heap} {f : Addr} {fd : FuncData} (F : Fun K "law" "law" st_law f fd) (z_range : mg "range" = none) (z_isinstance : mg "isinstance" = none) (z_bool : mg "bool" = none) (z_int : mg "int" = none) (z_max : mg "max" = none) (z_abs : mg "abs" = none) (C__law_big : Cal P w K mg base "_law_big" 2 (spF K p__law_big)) (C__law_take : Cal P w K mg base "_law_take" 1 (spI K p__law_take)) (C_ratio_at : Cal P w K mg base "ratio_at" 3 (spD K p_ratio_at)) (C__law_ratio : Cal P w K mg base "_law_ratio" 2 (spD K p__law_ratio)) (C_place_of : Cal P w K mg base "place_of" 3 (spD K p_place_of)) (C__law_key : Cal P w K mg base "_law_key" 1 (spD K p__law_key)) (C__law_is_ratio : Cal P w K mg base "_law_is_ratio" 2 (spD K p__law_is_ratio)) (C_size_of : Cal P w K mg base "size_of" 1 (spD K p_size_of)) :
  FnOk P w K mg base CX0 4 f fd ["script"] (spD K p_law) := fn_D F sc_law len_law (body_law z_range z_isinstance z_bool z_int z_max z_abs C__law_big C__law_take C_ratio_at C__law_ratio C_place_of C__law_key C__law_is_ratio C_size_of)
theorem all_mk {l : PySem.W.OpenLaw} {w : World} {K : PySem.W.Frag} {h : Heap} {mg : Str → Option Value} {fa f0 f1 f2 f3 f4 f5 f6 f7 f8 f9 f10 f11 f12 : Addr} (X : K.In h) (G : h.Ns mainGlobals mg) (hfa : mg "law" = some (.ref fa))
  {od0 od1 od2 od3 od4 od5 od6 od7 od8 od9 od10 od11 od12 an0 an1 an2 an3 an4 an5 an6 an7 an8 an9 an10 an11 an12 : Option Addr} {sl0 sl1 sl2 sl3 sl4 sl5 sl6 sl7 sl8 sl9 sl10 sl11 sl12 : Array (Option Value)} {oc0 oc1 oc2 oc3 oc4 oc5 oc6 oc7 oc8 oc9 oc10 oc11 oc12 kV0 kV1 kV2 kV3 kV4 kV5 kV6 kV7 kV8 kV9 kV10 kV11 kV12 dc0 dc1 dc2 dc3 dc4 dc5 dc6 dc7 dc8 dc9 dc10 dc11 dc12 pm0 pm1 pm2 pm3 pm4 pm5 pm6 pm7 pm8 pm9 pm10 pm11 pm12 cd0 cd1 cd2 cd3 cd4 cd5 cd6 cd7 cd8 cd9 cd10 cd11 cd12 ct0 ct1 ct2 ct3 ct4 ct5 ct6 ct7 ct8 ct9 ct10 ct11 ct12 : Value}
  (a0 : PySem.W.nsIn K mainGlobals "common_divisor" = some (some (.ref f0))) (l0 : K.lookup f0 = some ⟨oc0, od0, .func (PySem.W.fnOf "common_divisor" "common_divisor" (defArgs st_common_divisor) (defBody st_common_divisor) (defScope st_common_divisor) .none kV0 dc0 pm0 an0 cd0 ct0), sl0⟩) (c0 : PySem.W.codeIn K cd0 "common_divisor" = true) (k0 : PySem.W.keepIn K (.ref f0) = true)
  (a1 : PySem.W.nsIn K mainGlobals "size_of" = some (some (.ref f1))) (l1 : K.lookup f1 = some ⟨oc1, od1, .func (PySem.W.fnOf "size_of" "size_of" (defArgs st_size_of) (defBody st_size_of) (defScope st_size_of) .none kV1 dc1 pm1 an1 cd1 ct1), sl1⟩) (c1 : PySem.W.codeIn K cd1 "size_of" = true) (k1 : PySem.W.keepIn K (.ref f1) = true)
  (a2 : PySem.W.nsIn K mainGlobals "of_size" = some (some (.ref f2))) (l2 : K.lookup f2 = some ⟨oc2, od2, .func (PySem.W.fnOf "of_size" "of_size" (defArgs st_of_size) (defBody st_of_size) (defScope st_of_size) .none kV2 dc2 pm2 an2 cd2 ct2), sl2⟩) (c2 : PySem.W.codeIn K cd2 "of_size" = true) (k2 : PySem.W.keepIn K (.ref f2) = true)
  (a3 : PySem.W.nsIn K mainGlobals "place_of" = some (some (.ref f3))) (l3 : K.lookup f3 = some ⟨oc3, od3, .func (PySem.W.fnOf "place_of" "place_of" (defArgs st_place_of) (defBody st_place_of) (defScope st_place_of) .none kV3 dc3 pm3 an3 cd3 ct3), sl3⟩) (c3 : PySem.W.codeIn K cd3 "place_of" = true) (k3 : PySem.W.keepIn K (.ref f3) = true)
  (a4 : PySem.W.nsIn K mainGlobals "ratio_at" = some (some (.ref f4))) (l4 : K.lookup f4 = some ⟨oc4, od4, .func (PySem.W.fnOf "ratio_at" "ratio_at" (defArgs st_ratio_at) (defBody st_ratio_at) (defScope st_ratio_at) .none kV4 dc4 pm4 an4 cd4 ct4), sl4⟩) (c4 : PySem.W.codeIn K cd4 "ratio_at" = true) (k4 : PySem.W.keepIn K (.ref f4) = true)
  (a5 : PySem.W.nsIn K mainGlobals "_law_cell" = some (some (.ref f5))) (l5 : K.lookup f5 = some ⟨oc5, od5, .func (PySem.W.fnOf "_law_cell" "_law_cell" (defArgs st__law_cell) (defBody st__law_cell) (defScope st__law_cell) .none kV5 dc5 pm5 an5 cd5 ct5), sl5⟩) (c5 : PySem.W.codeIn K cd5 "_law_cell" = true) (k5 : PySem.W.keepIn K (.ref f5) = true)
  (a6 : PySem.W.nsIn K mainGlobals "_law_take" = some (some (.ref f6))) (l6 : K.lookup f6 = some ⟨oc6, od6, .func (PySem.W.fnOf "_law_take" "_law_take" (defArgs st__law_take) (defBody st__law_take) (defScope st__law_take) .none kV6 dc6 pm6 an6 cd6 ct6), sl6⟩) (c6 : PySem.W.codeIn K cd6 "_law_take" = true) (k6 : PySem.W.keepIn K (.ref f6) = true)
  (a7 : PySem.W.nsIn K mainGlobals "_law_big" = some (some (.ref f7))) (l7 : K.lookup f7 = some ⟨oc7, od7, .func (PySem.W.fnOf "_law_big" "_law_big" (defArgs st__law_big) (defBody st__law_big) (defScope st__law_big) .none kV7 dc7 pm7 an7 cd7 ct7), sl7⟩) (c7 : PySem.W.codeIn K cd7 "_law_big" = true) (k7 : PySem.W.keepIn K (.ref f7) = true)
  (a8 : PySem.W.nsIn K mainGlobals "_law_divisor" = some (some (.ref f8))) (l8 : K.lookup f8 = some ⟨oc8, od8, .func (PySem.W.fnOf "_law_divisor" "_law_divisor" (defArgs st__law_divisor) (defBody st__law_divisor) (defScope st__law_divisor) .none kV8 dc8 pm8 an8 cd8 ct8), sl8⟩) (c8 : PySem.W.codeIn K cd8 "_law_divisor" = true) (k8 : PySem.W.keepIn K (.ref f8) = true)
  (a9 : PySem.W.nsIn K mainGlobals "_law_ratio" = some (some (.ref f9))) (l9 : K.lookup f9 = some ⟨oc9, od9, .func (PySem.W.fnOf "_law_ratio" "_law_ratio" (defArgs st__law_ratio) (defBody st__law_ratio) (defScope st__law_ratio) .none kV9 dc9 pm9 an9 cd9 ct9), sl9⟩) (c9 : PySem.W.codeIn K cd9 "_law_ratio" = true) (k9 : PySem.W.keepIn K (.ref f9) = true)
  (a10 : PySem.W.nsIn K mainGlobals "_law_is_ratio" = some (some (.ref f10))) (l10 : K.lookup f10 = some ⟨oc10, od10, .func (PySem.W.fnOf "_law_is_ratio" "_law_is_ratio" (defArgs st__law_is_ratio) (defBody st__law_is_ratio) (defScope st__law_is_ratio) .none kV10 dc10 pm10 an10 cd10 ct10), sl10⟩) (c10 : PySem.W.codeIn K cd10 "_law_is_ratio" = true) (k10 : PySem.W.keepIn K (.ref f10) = true)
  (a11 : PySem.W.nsIn K mainGlobals "_law_key" = some (some (.ref f11))) (l11 : K.lookup f11 = some ⟨oc11, od11, .func (PySem.W.fnOf "_law_key" "_law_key" (defArgs st__law_key) (defBody st__law_key) (defScope st__law_key) .none kV11 dc11 pm11 an11 cd11 ct11), sl11⟩) (c11 : PySem.W.codeIn K cd11 "_law_key" = true) (k11 : PySem.W.keepIn K (.ref f11) = true)
  (a12 : PySem.W.nsIn K mainGlobals "law" = some (some (.ref f12))) (l12 : K.lookup f12 = some ⟨oc12, od12, .func (PySem.W.fnOf "law" "law" (defArgs st_law) (defBody st_law) (defScope st_law) .none kV12 dc12 pm12 an12 cd12 ct12), sl12⟩) (c12 : PySem.W.codeIn K cd12 "law" = true) (k12 : PySem.W.keepIn K (.ref f12) = true)
  (y_abs : PySem.W.nsIn K mainGlobals "abs" = some none)
  (y_max : PySem.W.nsIn K mainGlobals "max" = some none)
  (y_range : PySem.W.nsIn K mainGlobals "range" = some none)
  (y_list : PySem.W.nsIn K mainGlobals "list" = some none)
  (y_len : PySem.W.nsIn K mainGlobals "len" = some none)
  (y_int : PySem.W.nsIn K mainGlobals "int" = some none)
  (y_isinstance : PySem.W.nsIn K mainGlobals "isinstance" = some none)
  (y_tuple : PySem.W.nsIn K mainGlobals "tuple" = some none)
  (y_bool : PySem.W.nsIn K mainGlobals "bool" = some none)
  : ∃ fd : FuncData, (∀ (s : Shared) (v : Value), BindsTo s fd ⟨[v], []⟩ [("script", v)]) ∧ ∀ base : Heap, K.In base → base.Ns mainGlobals mg → FnOk l.prog w K mg base CX0 4 fa fd ["script"] (spD K p_law) := by
  have e := hfa.symm.trans (PySem.W.mg_of X G a12)
  cases e
  have F0 := fun_mk (st := st_common_divisor) l0 c0 k0
  have b0 := F0.binds (ps := ["one", "two"]) fun _ _ _ _ _ _ us hl => match us, hl with | [_, _], _ => rfl
  have F1 := fun_mk (st := st_size_of) l1 c1 k1
  have b1 := F1.binds (ps := ["one"]) fun _ _ _ _ _ _ us hl => match us, hl with | [_], _ => rfl
  have F2 := fun_mk (st := st_of_size) l2 c2 k2
  have b2 := F2.binds (ps := ["size"]) fun _ _ _ _ _ _ us hl => match us, hl with | [_], _ => rfl
  have F3 := fun_mk (st := st_place_of) l3 c3 k3
  have b3 := F3.binds (ps := ["one"]) fun _ _ _ _ _ _ us hl => match us, hl with | [_], _ => rfl
  have F4 := fun_mk (st := st_ratio_at) l4 c4 k4
  have b4 := F4.binds (ps := ["place"]) fun _ _ _ _ _ _ us hl => match us, hl with | [_], _ => rfl
  have F5 := fun_mk (st := st__law_cell) l5 c5 k5
  have b5 := F5.binds (ps := ["script", "k"]) fun _ _ _ _ _ _ us hl => match us, hl with | [_, _], _ => rfl
  have F6 := fun_mk (st := st__law_take) l6 c6 k6
  have b6 := F6.binds (ps := ["state", "m"]) fun _ _ _ _ _ _ us hl => match us, hl with | [_, _], _ => rfl
  have F7 := fun_mk (st := st__law_big) l7 c7 k7
  have b7 := F7.binds (ps := ["script", "at", "count"]) fun _ _ _ _ _ _ us hl => match us, hl with | [_, _, _], _ => rfl
  have F8 := fun_mk (st := st__law_divisor) l8 c8 k8
  have b8 := F8.binds (ps := ["one", "two"]) fun _ _ _ _ _ _ us hl => match us, hl with | [_, _], _ => rfl
  have F9 := fun_mk (st := st__law_ratio) l9 c9 k9
  have b9 := F9.binds (ps := ["p", "q"]) fun _ _ _ _ _ _ us hl => match us, hl with | [_, _], _ => rfl
  have F10 := fun_mk (st := st__law_is_ratio) l10 c10 k10
  have b10 := F10.binds (ps := ["pair"]) fun _ _ _ _ _ _ us hl => match us, hl with | [_], _ => rfl
  have F11 := fun_mk (st := st__law_key) l11 c11 k11
  have b11 := F11.binds (ps := ["one"]) fun _ _ _ _ _ _ us hl => match us, hl with | [_], _ => rfl
  have F12 := fun_mk (st := st_law) l12 c12 k12
  have z_abs : mg "abs" = none := PySem.W.mg_none_of X G y_abs
  have z_max : mg "max" = none := PySem.W.mg_none_of X G y_max
  have z_range : mg "range" = none := PySem.W.mg_none_of X G y_range
  have z_list : mg "list" = none := PySem.W.mg_none_of X G y_list
  have z_len : mg "len" = none := PySem.W.mg_none_of X G y_len
  have z_int : mg "int" = none := PySem.W.mg_none_of X G y_int
  have z_isinstance : mg "isinstance" = none := PySem.W.mg_none_of X G y_isinstance
  have z_tuple : mg "tuple" = none := PySem.W.mg_none_of X G y_tuple
  have z_bool : mg "bool" = none := PySem.W.mg_none_of X G y_bool
  refine ⟨PySem.W.fnOf "law" "law" (defArgs st_law) (defBody st_law) (defScope st_law) .none kV12 dc12 pm12 an12 cd12 ct12, fun s v => .of_eq rfl, fun base _ _ => ?_⟩
  have C_common_divisor : Cal l.prog w K mg base "common_divisor" 1 (spD K p_common_divisor) := ⟨⟨_, _, ["one", "two"], PySem.W.mg_of X G a0, k0, b0, ok_common_divisor F0 z_abs⟩⟩
  have C_size_of : Cal l.prog w K mg base "size_of" 1 (spD K p_size_of) := ⟨⟨_, _, ["one"], PySem.W.mg_of X G a1, k1, b1, ok_size_of F1 z_max z_abs⟩⟩
  have C__law_cell : Cal l.prog w K mg base "_law_cell" 1 (spD K p__law_cell) := ⟨⟨_, _, ["script", "k"], PySem.W.mg_of X G a5, k5, b5, ok__law_cell F5 z_len z_int⟩⟩
  have C__law_take : Cal l.prog w K mg base "_law_take" 1 (spI K p__law_take) := ⟨⟨_, _, ["state", "m"], PySem.W.mg_of X G a6, k6, b6, ok__law_take F6 z_int⟩⟩
  have C__law_divisor : Cal l.prog w K mg base "_law_divisor" 1 (spD K p__law_divisor) := ⟨⟨_, _, ["one", "two"], PySem.W.mg_of X G a8, k8, b8, ok__law_divisor F8 z_abs z_range z_int⟩⟩
  have C__law_key : Cal l.prog w K mg base "_law_key" 1 (spD K p__law_key) := ⟨⟨_, _, ["one"], PySem.W.mg_of X G a11, k11, b11, ok__law_key F11 z_max z_abs z_int⟩⟩
  have C_of_size : Cal l.prog w K mg base "of_size" 2 (spD K p_of_size) := ⟨⟨_, _, ["size"], PySem.W.mg_of X G a2, k2, b2, ok_of_size F2 z_range z_list C_common_divisor⟩⟩
  have C__law_big : Cal l.prog w K mg base "_law_big" 2 (spF K p__law_big) := ⟨⟨_, _, ["script", "at", "count"], PySem.W.mg_of X G a7, k7, b7, ok__law_big F7 z_range C__law_cell⟩⟩
  have C__law_ratio : Cal l.prog w K mg base "_law_ratio" 2 (spD K p__law_ratio) := ⟨⟨_, _, ["p", "q"], PySem.W.mg_of X G a9, k9, b9, ok__law_ratio F9 z_int C__law_divisor⟩⟩
  have C__law_is_ratio : Cal l.prog w K mg base "_law_is_ratio" 2 (spD K p__law_is_ratio) := ⟨⟨_, _, ["pair"], PySem.W.mg_of X G a10, k10, b10, ok__law_is_ratio F10 z_isinstance z_tuple z_len z_int z_bool C__law_divisor⟩⟩
  have C_place_of : Cal l.prog w K mg base "place_of" 3 (spD K p_place_of) := ⟨⟨_, _, ["one"], PySem.W.mg_of X G a3, k3, b3, ok_place_of F3 z_range z_len C_size_of C_of_size⟩⟩
  have C_ratio_at : Cal l.prog w K mg base "ratio_at" 3 (spD K p_ratio_at) := ⟨⟨_, _, ["place"], PySem.W.mg_of X G a4, k4, b4, ok_ratio_at F4 z_len C_of_size⟩⟩
  exact ok_law F12 z_range z_isinstance z_bool z_int z_max z_abs C__law_big C__law_take C_ratio_at C__law_ratio C_place_of C__law_key C__law_is_ratio C_size_of
theorem walk {l : PySem.W.OpenLaw} {q : Program} {loose : List Str} {XP : (Str → Option Value) → Heap → Prop} {YP : World → Heap → Prop} {d : DefRec} {K : Params → PySem.W.Frag} (hn : l.most = some 63) (hdf : d.params.defaults = [])
    (hY : ∀ (w : World) (h : Heap), YP w h → (K w.params).In h)
    (F : ∀ (w : World) (mg : Str → Option Value) (fa : Addr) (h : Heap), (K w.params).In h → h.Ns mainGlobals mg → mg d.name = some (.ref fa) →
      ∃ fd : FuncData, (∀ (s : Shared) (u : Value), BindsTo s fd ⟨[u], []⟩ [("script", u)]) ∧ ∀ base : Heap, (K w.params).In base → base.Ns mainGlobals mg → FnOk l.prog w (K w.params) mg base CX0 4 fa fd ["script"] (spD (K w.params) p_law)) :
    PySem.W.WalkO q loose XP YP l.row.toRowW d [] (fun f vs => PySem.call f vs) :=
  L2.walk_of (n := 63) (k := 4) (x := "script") (CX := fun _ => CX0) (sp := fun w => spD (K w.params) p_law) hn (by decide) hdf ⟨rfl, by decide, by decide⟩ hY F
    (fun w H a ns hl _ hS => ⟨fun _ => False, [.list (ns.map .int)], fun d => d = .bool true, .cons (.lst (hS.elim (fun h => .inl ⟨fun z => z, h⟩) fun h => .inr h) RpA.ints) .nil, fun _ z => z.elim, ⟨ns, rfl, rfl⟩, fun v H' d _ rp e => by
      subst e
      exact rp_bool rp⟩) fun _ _ _ _ _ z => z
end DL

open PySem PySem.W PyProof.Rows in
set_option maxRecDepth 100000 in
set_option maxHeartbeats 0 in
theorem PySem.Challenge.cw_drawntrue_k01_row_of_fractions_holds : PySem.Challenge.rw_drawntrue_k01_row_of_fractions.Holds := by
  w_on; o_law; k_head; (case hw => w_witness2)
  k_fill
  refine DL.walk (l := PySem.Challenge.rw_drawntrue_k01_row_of_fractions) rfl rfl (fun w h Y => PySem.W.kIn_of Y) ?F
  case F =>
    intro w mg fa h KX G hmg
    refine' DL.all_mk KX G hmg ?a0 ?l0 ?c0 ?k0 ?a1 ?l1 ?c1 ?k1 ?a2 ?l2 ?c2 ?k2 ?a3 ?l3 ?c3 ?k3 ?a4 ?l4 ?c4 ?k4 ?a5 ?l5 ?c5 ?k5 ?a6 ?l6 ?c6 ?k6 ?a7 ?l7 ?c7 ?k7 ?a8 ?l8 ?c8 ?k8 ?a9 ?l9 ?c9 ?k9 ?a10 ?l10 ?c10 ?k10 ?a11 ?l11 ?c11 ?k11 ?a12 ?l12 ?c12 ?k12 ?y_abs ?y_max ?y_range ?y_list ?y_len ?y_int ?y_isinstance ?y_tuple ?y_bool
    (case a0 => k_is)
    (case l0 => k_is)
    (case c0 => k_is)
    (case k0 => k_is)
    (case a1 => k_is)
    (case l1 => k_is)
    (case c1 => k_is)
    (case k1 => k_is)
    (case a2 => k_is)
    (case l2 => k_is)
    (case c2 => k_is)
    (case k2 => k_is)
    (case a3 => k_is)
    (case l3 => k_is)
    (case c3 => k_is)
    (case k3 => k_is)
    (case a4 => k_is)
    (case l4 => k_is)
    (case c4 => k_is)
    (case k4 => k_is)
    (case a5 => k_is)
    (case l5 => k_is)
    (case c5 => k_is)
    (case k5 => k_is)
    (case a6 => k_is)
    (case l6 => k_is)
    (case c6 => k_is)
    (case k6 => k_is)
    (case a7 => k_is)
    (case l7 => k_is)
    (case c7 => k_is)
    (case k7 => k_is)
    (case a8 => k_is)
    (case l8 => k_is)
    (case c8 => k_is)
    (case k8 => k_is)
    (case a9 => k_is)
    (case l9 => k_is)
    (case c9 => k_is)
    (case k9 => k_is)
    (case a10 => k_is)
    (case l10 => k_is)
    (case c10 => k_is)
    (case k10 => k_is)
    (case a11 => k_is)
    (case l11 => k_is)
    (case c11 => k_is)
    (case k11 => k_is)
    (case a12 => k_is)
    (case l12 => k_is)
    (case c12 => k_is)
    (case k12 => k_is)
    (case y_abs => k_is)
    (case y_max => k_is)
    (case y_range => k_is)
    (case y_list => k_is)
    (case y_len => k_is)
    (case y_int => k_is)
    (case y_isinstance => k_is)
    (case y_tuple => k_is)
    (case y_bool => k_is)
#print axioms PySem.Challenge.cw_drawntrue_k01_row_of_fractions_holds
