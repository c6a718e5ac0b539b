import PyProof.Rows.All
import KE.FramesApart
import HandS.SortKw
import HandS.More
import HandS.SuiteRaise
import HandS.HotCalls
import HandS.Hot
import HandS.ExcCtx
import HandS.WordsExc
import HandS.ExcIs
import HandS.Codes
import Wide.All
import OpenK.AllK
import Wide.FinOn
import HandS.ForMost
import HandS.Flow
import HandS.Wide
import HandS.WideBits
import HandS.Deep
import HandS.IsInst
import HandS.TupAny
import HandS.Conv
import HandS.Evl
import KE.DataCmp
import KE.SortData
import KE.SortKeyHeap
import HandS.Dict
import HandS.DictTup
import KE.KeyNested
import KE.KDictKeyed
import KE.KDictWalk
import KE.KDictCopyH
import KE.KDictOf
import HandS.TupLen
import KE.KDictPairs
import KE.KDictDisplayH
import HandS.Style

import PySem.Challenge.RW_drawntrue_k03_letters_and_values

set_option maxHeartbeats 8000000
set_option pp.maxSteps 600

set_option Elab.async false
set_option linter.all false
set_option maxRecDepth 100000
/-! ND: dicts whose keys are nested tuples, as tracked objects: the object tells its own entries alone; what the keys' addresses hold is told beside it (Dp). -/
namespace ND
open PySem PySem.Spec PyProof.Rows L2
/-- data as a key -/
def keyOf : PyData → NestedKey
  | .int i => .num i
  | .bool b => .num (if b = true then 1 else 0)
  | .str x => .text x
  | .tuple xs => .tup (xs.map keyOf)
  | _ => .none
/-- one entry: its key's data, the key's address, the value -/
abbrev Ent := PyData × Addr × V
def rawOf (us : List Value) (es : List Ent) : List (NestedKey × Addr × Value) := (es.zip us).map fun p => (keyOf p.1.1, p.1.2.1, p.2)
/-- at d: a dict with these entries; of the object alone -/
def ndO (P : Program) (w : World) (d : Addr) (es : List Ent) : HO := .ext fun h => ∃ (o : Obj) (en : Array DictEntry) (ep : Nat) (us : List Value), h.get? d = some o ∧ o.ExactDict ∧ o.data = .dict en ep ∧ Vals (es.map (·.2.2)) us ∧
  en.toList = (rawOf us es).map (entryOfKey (nestedKind P w)) ∧ ((rawOf us es).map (·.1)).Nodup ∧ (d == sysModules) = false ∧ es.length ≤ sizeLine
mutual
def isKey : PyData → Bool
  | .none => true
  | .bool _ => true
  | .int _ => true
  | .str _ => true
  | .tuple xs => isKeys xs
  | _ => false
def isKeys : List PyData → Bool
  | [] => true
  | x :: xs => isKey x && isKeys xs
end
mutual
theorem nested_of {h : Heap} : ∀ {v : Value} {d : PyData} {as : List Addr}, Reads h v d as → isKey d = true → NestedIs h (keyOf d) v
  | _, _, _, .none, _ => by unfold keyOf; exact .none
  | _, _, _, .bool b, _ => by unfold keyOf; exact .bool rfl
  | _, _, _, .int i t, _ => by unfold keyOf; exact .int i t
  | _, _, _, .str x t, _ => by unfold keyOf; exact .text x t
  | _, _, _, .list _ _ _ _, q => by unfold isKey at q; cases q
  | _, _, _, .tuple h1 h2 h3 r, q => by
    unfold isKey at q
    unfold keyOf
    exact .tup h1 h2 h3 (nested_all r q)
  | _, _, _, .dict _ _ _ _ _, q => by unfold isKey at q; cases q
theorem nested_all {h : Heap} : ∀ {vs : List Value} {ds : List PyData} {as : List Addr}, ReadsAll h vs ds as → isKeys ds = true → NestedAll h (ds.map keyOf) vs
  | _, _, _, .nil, _ => .nil
  | _, _, _, .cons r rs, q => by
    unfold isKeys at q
    rw [Bool.and_eq_true] at q
    exact .cons (nested_of r q.1) (nested_all rs q.2)
end
mutual
theorem keyOf_inj : ∀ {d e : PyData}, isKey d = true → isKey e = true → keyOf d = keyOf e → PyData.eqv d e = true
  | .none, e, _, q, h => by cases e <;> simp [keyOf, isKey] at h q ⊢ <;> rfl
  | .bool b, e, _, q, h => by
    cases e with
    | bool c => cases b <;> cases c <;> simp [keyOf] at h ⊢ <;> rfl
    | int i =>
      have h' : (if b = true then (1 : Int) else 0) = i := by simpa [keyOf] using h
      show ((if b then (1 : Int) else 0) == i) = true
      cases b <;> simp_all
    | _ => simp [keyOf, isKey] at h q
  | .int i, e, _, q, h => by
    cases e with
    | bool c =>
      have h' : i = (if c = true then (1 : Int) else 0) := by simpa [keyOf] using h
      show (i == (if c then (1 : Int) else 0)) = true
      cases c <;> simp_all
    | int j =>
      have h' : i = j := by simpa [keyOf] using h
      show (i == j) = true
      simp [h']
    | _ => simp [keyOf, isKey] at h q
  | .str x, e, _, q, h => by
    cases e with
    | str y =>
      have h' : x = y := by simpa [keyOf] using h
      show (x == y) = true
      simp [h']
    | _ => simp [keyOf, isKey] at h q
  | .list _, _, p, _, _ => by unfold isKey at p; cases p
  | .dict _, _, p, _, _ => by unfold isKey at p; cases p
  | .tuple xs, e, p, q, h => by
    cases e with
    | tuple ys =>
      have h' : xs.map keyOf = ys.map keyOf := by simpa [keyOf] using h
      show PyData.eqvAll xs ys = true
      unfold isKey at p q
      exact keysOf_inj p q h'
    | _ => simp [keyOf, isKey] at h q
theorem keysOf_inj : ∀ {xs ys : List PyData}, isKeys xs = true → isKeys ys = true → xs.map keyOf = ys.map keyOf → PyData.eqvAll xs ys = true
  | [], [], _, _, _ => rfl
  | x :: xs, y :: ys, p, q, h => by
    unfold isKeys at p q
    rw [Bool.and_eq_true] at p q
    rw [List.map_cons, List.map_cons] at h
    have h1 := List.cons.inj h
    show (PyData.eqv x y && PyData.eqvAll xs ys) = true
    rw [keyOf_inj p.1 q.1 h1.1, keysOf_inj p.2 q.2 h1.2]
    rfl
  | [], y :: ys, _, _, h => by cases h
  | x :: xs, [], _, _, h => by cases h
end
section
variable {X : Cx} {pins : List (Addr × Obj)} {σ : L2.St} {H : Hp} {s : Shared}
/-- a tracked key -/
theorem key_is (I : Inv X pins σ H s) {b : Addr} {d : PyData} (hd : Dp X.K H (.ref b) d) (hk : isKey d = true) (h8 : (keyOf d).depth ≤ 8) : (nestedKind X.prog X.w).is s.heap (keyOf d) b := by
  obtain ⟨as, r⟩ := Dp.reads I d (.ref b) (.ref b) hd rfl
  exact ⟨nested_of r hk, h8⟩
/-- the keys' addresses hold the keys -/
def KeysAt (K : PySem.W.Frag) (H : Hp) (es : List Ent) : Prop := ∀ e ∈ es, Dp K H (.ref e.2.1) e.1 ∧ isKey e.1 = true ∧ (keyOf e.1).depth ≤ 8
theorem raw_mem {us : List Value} {es : List Ent} {x : NestedKey × Addr × Value} (h : x ∈ rawOf us es) : ∃ e ∈ es, x.1 = keyOf e.1 ∧ x.2.1 = e.2.1 := by
  unfold rawOf at h
  obtain ⟨p, hp, rfl⟩ := List.mem_map.mp h
  exact ⟨p.1, (List.of_mem_zip hp).1, rfl, rfl⟩
/-- the dict's object, over the heap -/
theorem nd_at (I : Inv X pins σ H s) {d : Addr} {es : List Ent} (e : Rd H d (ndO X.prog X.w d es)) (ka : KeysAt X.K H es) : ∃ us, Vals (es.map (·.2.2)) us ∧ s.heap.DictOfH (nestedKind X.prog X.w) d (rawOf us es) ∧ (d == sysModules) = false ∧ es.length ≤ sizeLine := by
  obtain ⟨⟨o, en, ep, us, h1, h2, h3, h4, h5, h6, h7, h8⟩, _, _⟩ := rd_of I.hok e
  refine ⟨us, h4, ⟨o, en, ep, h1, h2, h3, h5, fun x hx => ?_, h6⟩, h7, h8⟩
  obtain ⟨e', he, q1, q2⟩ := raw_mem hx
  obtain ⟨k1, k2, k3⟩ := ka e' he
  rw [q1, q2]
  exact key_is I k1 k2 k3
end
/-- the dict's pairs -/
def prs (es : List Ent) : List (NestedKey × V) := es.map fun e => (keyOf e.1, e.2.2)
theorem kv_raw : ∀ {es : List Ent} {us : List Value}, Vals (es.map (·.2.2)) us → KV (prs es) (pairsH (rawOf us es))
  | [], _, .nil => .nil
  | e :: es, _, .cons h t => .cons ⟨rfl, h⟩ (kv_raw t)
section
variable {X : Cx} {pins : List (Addr × Obj)} {σ : L2.St} {H : Hp} {s : Shared} {d b : Addr} {es : List Ent} {k : PyData} {A : Around} {E : Value → Shared → Prop}
theorem nd_keyed (I : Inv X pins σ H s) (e : Rd H d (ndO X.prog X.w d es)) (ka : KeysAt X.K H es) : ∃ vs, KV (prs es) vs ∧ s.heap.DictKeyed (nestedKind X.prog X.w) d vs ∧ (d == sysModules) = false ∧ es.length ≤ sizeLine := by
  obtain ⟨us, h1, h2, h3, h4⟩ := nd_at I e ka
  exact ⟨_, kv_raw h1, ⟨_, h2, rfl⟩, h3, h4⟩
/-- d[k], there -/
theorem nd_getItem {v : V} {Q : Value → Shared → Prop} (hu : (nestedKind X.prog X.w).room A.in1) (I : Inv X pins σ H s) (e : Rd H d (ndO X.prog X.w d es)) (ka : KeysAt X.K H es) (hb : Dp X.K H (.ref b) k) (hk : isKey k = true) (h8 : (keyOf k).depth ≤ 8)
    (l : valV (prs es) (keyOf k) = some v) (h : ∀ w' s', Inv X pins σ H s' → RelV v w' → Q w' s') : wpAny (model X.prog X.w) A (getItem (.ref d) (.ref b)) Q E s := by
  obtain ⟨vs, rel, dd, hd, _⟩ := nd_keyed I e ka
  obtain ⟨w', hw, rw'⟩ := RelO.some_of (v := v) (o := valueAt vs (keyOf k)) (by rw [← l]; exact rel.val (keyOf k))
  exact getItem_keyed hu (key_is I hb hk h8) dd hw (h w' _ (I.tok _) rw')
/-- k in d -/
theorem nd_in {Q : Value → Shared → Prop} (hu : (nestedKind X.prog X.w).room A.in1) (I : Inv X pins σ H s) (e : Rd H d (ndO X.prog X.w d es)) (ka : KeysAt X.K H es) (hb : Dp X.K H (.ref b) k) (hk : isKey k = true) (h8 : (keyOf k).depth ≤ 8)
    (h : ∀ s', Inv X pins σ H s' → Q (.bool (valV (prs es) (keyOf k)).isSome) s') : wpAny (model X.prog X.w) A (compareOp .In (.ref b) (.ref d)) Q E s := by
  obtain ⟨vs, rel, dd, hd, _⟩ := nd_keyed I e ka
  refine in_keyed hu (key_is I hb hk h8) hd dd ?_
  rw [← (rel.val (keyOf k)).isSome_eq]
  exact h _ (I.tok _)
theorem nd_notIn {Q : Value → Shared → Prop} (hu : (nestedKind X.prog X.w).room A.in1) (I : Inv X pins σ H s) (e : Rd H d (ndO X.prog X.w d es)) (ka : KeysAt X.K H es) (hb : Dp X.K H (.ref b) k) (hk : isKey k = true) (h8 : (keyOf k).depth ≤ 8)
    (h : ∀ s', Inv X pins σ H s' → Q (.bool (!(valV (prs es) (keyOf k)).isSome)) s') : wpAny (model X.prog X.w) A (compareOp .NotIn (.ref b) (.ref d)) Q E s := by
  obtain ⟨vs, rel, dd, hd, _⟩ := nd_keyed I e ka
  refine notIn_keyed hu (key_is I hb hk h8) hd dd ?_
  rw [← (rel.val (keyOf k)).isSome_eq]
  exact h _ (I.tok _)
/-- d.get(k) and d.get(k, z) -/
theorem nd_get1 {Q : Value → Shared → Prop} (hu : (nestedKind X.prog X.w).room A.in1) (I : Inv X pins σ H s) (e : Rd H d (ndO X.prog X.w d es)) (ka : KeysAt X.K H es) (hb : Dp X.K H (.ref b) k) (hk : isKey k = true) (h8 : (keyOf k).depth ≤ 8)
    (h : ∀ w' s', Inv X pins σ H s' → RelV ((valV (prs es) (keyOf k)).getD .non) w' → Q w' s') : wpAny (model X.prog X.w) A (call (.builtin "dict.get") [.ref d, .ref b]) Q E s := by
  obtain ⟨vs, rel, dd, hd, _⟩ := nd_keyed I e ka
  exact get_keyed hu (key_is I hb hk h8) hd dd (h _ _ (I.tok _) ((rel.val (keyOf k)).getD (show RelV .non .none from rfl)))
theorem nd_get2 {z : V} {r : Value} {Q : Value → Shared → Prop} (hu : (nestedKind X.prog X.w).room A.in1) (I : Inv X pins σ H s) (e : Rd H d (ndO X.prog X.w d es)) (ka : KeysAt X.K H es) (hb : Dp X.K H (.ref b) k) (hk : isKey k = true) (h8 : (keyOf k).depth ≤ 8) (rz : RelV z r)
    (h : ∀ w' s', Inv X pins σ H s' → RelV ((valV (prs es) (keyOf k)).getD z) w' → Q w' s') : wpAny (model X.prog X.w) A (call (.builtin "dict.get") [.ref d, .ref b, r]) Q E s := by
  obtain ⟨vs, rel, dd, hd, _⟩ := nd_keyed I e ka
  exact getOr_keyed hu (key_is I hb hk h8) hd dd (h _ _ (I.tok _) ((rel.val (keyOf k)).getD rz))
/-- len(d) -/
theorem nd_len {Q : Value → Shared → Prop} (I : Inv X pins σ H s) (e : Rd H d (ndO X.prog X.w d es)) (ka : KeysAt X.K H es) (h : ∀ t s', Inv X pins σ H s' → Q (.int es.length t) s') : wpAny (model X.prog X.w) A (call (.builtin "dict.__len__") [.ref d]) Q E s := by
  obtain ⟨vs, rel, dd, hd, _⟩ := nd_keyed I e ka
  have q : vs.length = es.length := by rw [← rel.length]; exact List.length_map _
  refine len_keyed hd dd ?_
  rw [q]
  exact h _ _ (I.tok _)
end
/-- d[k] = v, in the entries -/
def putE (es : List Ent) (k : PyData) (b : Addr) (v : V) : List Ent :=
  if (valV (prs es) (keyOf k)).isSome then es.map fun e => if keyOf e.1 = keyOf k then (e.1, e.2.1, v) else e else es ++ [(k, b, v)]
theorem raw_repl {q : NestedKey} {v : V} {r : Value} (rv : RelV v r) : ∀ {es : List Ent} {us : List Value}, Vals (es.map (·.2.2)) us →
    ∃ us', Vals ((es.map fun e => if keyOf e.1 = q then (e.1, e.2.1, v) else e).map (·.2.2)) us' ∧ rawOf us' (es.map fun e => if keyOf e.1 = q then (e.1, e.2.1, v) else e) = (rawOf us es).map (putAt q r)
  | [], _, .nil => ⟨[], .nil, rfl⟩
  | e :: es, u :: us, .cons h t => by
    obtain ⟨us', h1, h2⟩ := raw_repl (q := q) rv t
    by_cases c : keyOf e.1 = q
    · refine ⟨r :: us', ?_, ?_⟩
      · simp only [List.map_cons, if_pos c]
        exact .cons rv h1
      · show rawOf (r :: us') ((if keyOf e.1 = q then (e.1, e.2.1, v) else e) :: _) = putAt q r (keyOf e.1, e.2.1, u) :: (rawOf us es).map (putAt q r)
        rw [if_pos c, ← h2]
        unfold putAt
        rw [if_pos c]
        rfl
    · refine ⟨u :: us', ?_, ?_⟩
      · simp only [List.map_cons, if_neg c]
        exact .cons h h1
      · show rawOf (u :: us') ((if keyOf e.1 = q then (e.1, e.2.1, v) else e) :: _) = putAt q r (keyOf e.1, e.2.1, u) :: (rawOf us es).map (putAt q r)
        rw [if_neg c, ← h2]
        unfold putAt
        rw [if_neg c]
        rfl
theorem raw_snoc {k : PyData} {b : Addr} {v : V} {r : Value} (rv : RelV v r) : ∀ {es : List Ent} {us : List Value}, Vals (es.map (·.2.2)) us →
    ∃ us', Vals ((es ++ [(k, b, v)]).map (·.2.2)) us' ∧ rawOf us' (es ++ [(k, b, v)]) = rawOf us es ++ [(keyOf k, b, r)]
  | [], _, .nil => ⟨[r], .cons rv .nil, rfl⟩
  | e :: es, u :: us, .cons h t => by
    obtain ⟨us', h1, h2⟩ := raw_snoc (k := k) (b := b) rv t
    exact ⟨u :: us', .cons h h1, congrArg ((keyOf e.1, e.2.1, u) :: ·) h2⟩
theorem raw_put {k : PyData} {b : Addr} {v : V} {r : Value} (rv : RelV v r) {es : List Ent} {us : List Value} (h : Vals (es.map (·.2.2)) us) :
    ∃ us', Vals ((putE es k b v).map (·.2.2)) us' ∧ rawOf us' (putE es k b v) = storedH (rawOf us es) (keyOf k) b r := by
  have q := ((kv_raw h).val (keyOf k)).isSome_eq
  rw [valueAt_pairsH, Option.isSome_map] at q
  unfold putE
  cases c : atKey (rawOf us es) (keyOf k) with
  | none =>
    rw [c] at q
    rw [q, storedH_new c]
    exact raw_snoc rv h
  | some p =>
    rw [c] at q
    rw [q, storedH_old c]
    exact raw_repl rv h
theorem putE_length (es : List Ent) (k : PyData) (b : Addr) (v : V) : (putE es k b v).length ≤ es.length + 1 := by
  unfold putE
  split <;> simp
theorem putE_mem {es : List Ent} {k : PyData} {b : Addr} {v : V} {x : Ent} (h : x ∈ putE es k b v) : (∃ e ∈ es, x.1 = e.1 ∧ x.2.1 = e.2.1) ∨ (x.1 = k ∧ x.2.1 = b) := by
  unfold putE at h
  split at h
  · obtain ⟨e, he, rfl⟩ := List.mem_map.mp h
    refine .inl ⟨e, he, ?_⟩
    split <;> exact ⟨rfl, rfl⟩
  · rcases List.mem_append.mp h with h | h
    · exact .inl ⟨x, h, rfl, rfl⟩
    · rw [List.mem_singleton] at h
      exact .inr ⟨by rw [h], by rw [h]⟩
section
variable {X : Cx} {pins : List (Addr × Obj)} {σ : L2.St} {H : Hp} {s : Shared} {d b : Addr} {es : List Ent} {k : PyData} {A : Around} {E : Value → Shared → Prop}
/-- what a dict over the heap says of its object -/
theorem nd_ok {P : Program} {w : World} {H' : Hp} {h : Heap} {us : List Value} (h1 : Vals (es.map (·.2.2)) us) (h2 : h.DictOfH (nestedKind P w) d (rawOf us es)) (h3 : (d == sysModules) = false) (h4 : es.length ≤ sizeLine) : ObjOk P w H' h d (ndO P w d es) := by
  obtain ⟨o, en, ep, q1, q2, q3, q4, _, q5⟩ := h2
  refine ⟨⟨o, en, ep, us, q1, q2, q3, h1, q4, q5, h3, h4⟩, ⟨o, q1⟩, ?_⟩
  rintro g1 g2 ⟨o', en', ep', us', p1, p2⟩ hk
  exact ⟨o', en', ep', us', hk o' p1, p2⟩
/-- d[k] = v -/
theorem nd_setItem {v : V} {r : Value} {Q : Unit → Shared → Prop} (hu : (nestedKind X.prog X.w).room A.in1) (I : Inv X pins σ H s) (e : H d = some (ndO X.prog X.w d es)) (ka : KeysAt X.K H es) (hb : Dp X.K H (.ref b) k) (hk : isKey k = true) (h8 : (keyOf k).depth ≤ 8)
    (hl : es.length < sizeLine) (rv : RelV v r) (h : ∀ s', Inv X pins σ (upd H d (ndO X.prog X.w d (putE es k b v))) s' → Q () s') : wpAny (model X.prog X.w) A (setItem (.ref d) (.ref b) r) Q E s := by
  obtain ⟨us, h1, h2, h3, h4⟩ := nd_at I (.inl e) ka
  obtain ⟨us', g1, g2⟩ := raw_put (k := k) (b := b) rv h1
  have hz : (rawOf us es).length ≤ sizeLine := by
    have : (rawOf us es).length ≤ es.length := by unfold rawOf; simp; omega
    omega
  have hl' : (putE es k b v).length ≤ sizeLine := by have := putE_length es k b v; omega
  refine wpAny_setItem_heap (hsz := hz) hu (key_is I hb hk h8) h2 fun h' dd' hs => h _ ?_
  have he : ∃ q, h'.get? d = some q := let ⟨q, _, _, hq, _⟩ := dd'; ⟨q, hq⟩
  rw [← g2] at dd'
  exact d_write I (by rw [e]; exact True.intro) hs he (nd_ok g1 dd' h3 hl')
/-- {} -/
theorem nd_empty {P : Program} {w : World} {H' : Hp} (h : Heap) (hb : sysModules < h.objs.size) : ObjOk P w H' (h.push { cls := .type "dict", data := .dict #[] }) h.objs.size (ndO P w h.objs.size []) :=
  nd_ok (us := []) .nil (Heap.DictOfH.new h) (by simpa using Nat.ne_of_gt hb) (Nat.zero_le _)
end
/-- d without k, in the entries -/
def dropE (es : List Ent) (k : PyData) : List Ent := es.filter fun e => decide (keyOf e.1 ≠ keyOf k)
theorem dropE_length (es : List Ent) (k : PyData) : (dropE es k).length ≤ es.length := List.length_filter_le _ _
theorem dropE_mem {es : List Ent} {k : PyData} {x : Ent} (h : x ∈ dropE es k) : x ∈ es := (List.mem_filter.mp h).1
theorem raw_drop {k : PyData} : ∀ {es : List Ent} {us : List Value}, Vals (es.map (·.2.2)) us → ∃ us', Vals ((dropE es k).map (·.2.2)) us' ∧ rawOf us' (dropE es k) = withoutH (rawOf us es) (keyOf k)
  | [], _, .nil => ⟨[], .nil, rfl⟩
  | e :: es, u :: us, .cons h t => by
    obtain ⟨us', h1, h2⟩ := raw_drop (k := k) t
    by_cases c : keyOf e.1 = keyOf k
    · have e1 : dropE (e :: es) k = dropE es k := by unfold dropE; rw [List.filter_cons_of_neg (by simpa using c)]
      have e2 : withoutH (rawOf (u :: us) (e :: es)) (keyOf k) = withoutH (rawOf us es) (keyOf k) := by
        show List.filter _ ((keyOf e.1, e.2.1, u) :: rawOf us es) = _
        rw [List.filter_cons_of_neg (by simpa using c)]
        rfl
      rw [e1, e2]
      exact ⟨us', h1, h2⟩
    · have e1 : dropE (e :: es) k = e :: dropE es k := by unfold dropE; rw [List.filter_cons_of_pos (by simpa using c)]
      have e2 : withoutH (rawOf (u :: us) (e :: es)) (keyOf k) = (keyOf e.1, e.2.1, u) :: withoutH (rawOf us es) (keyOf k) := by
        show List.filter _ ((keyOf e.1, e.2.1, u) :: rawOf us es) = _
        rw [List.filter_cons_of_pos (by simpa using c)]
        rfl
      rw [e1, e2, ← h2]
      exact ⟨u :: us', .cons h h1, rfl⟩
section
variable {X : Cx} {pins : List (Addr × Obj)} {σ : L2.St} {H : Hp} {s : Shared} {d b : Addr} {es : List Ent} {k : PyData} {A : Around} {E : Value → Shared → Prop}
theorem raw_length (us : List Value) (es : List Ent) : (rawOf us es).length ≤ es.length := by unfold rawOf; simp; omega
/-- d.pop(k), d.pop(k, x): there -/
theorem nd_pop {v : V} {more : List Value} {Q : Value → Shared → Prop} (hu : (nestedKind X.prog X.w).room A.in1) (I : Inv X pins σ H s) (e : H d = some (ndO X.prog X.w d es)) (ka : KeysAt X.K H es) (hb : Dp X.K H (.ref b) k) (hk : isKey k = true) (h8 : (keyOf k).depth ≤ 8)
    (l : valV (prs es) (keyOf k) = some v) (hm : more = [] ∨ ∃ x, more = [x]) (h : ∀ w' s', Inv X pins σ (upd H d (ndO X.prog X.w d (dropE es k))) s' → RelV v w' → Q w' s') : wpAny (model X.prog X.w) A (call (.builtin "dict.pop") (.ref d :: .ref b :: more)) Q E s := by
  obtain ⟨us, h1, h2, h3, h4⟩ := nd_at I (.inl e) ka
  obtain ⟨us', g1, g2⟩ := raw_drop (k := k) h1
  obtain ⟨w', hw, rw'⟩ := RelO.some_of (v := v) (o := valueAt (pairsH (rawOf us es)) (keyOf k)) (by rw [← l]; exact (kv_raw h1).val (keyOf k))
  rw [valueAt_pairsH] at hw
  obtain ⟨p, hp, rfl⟩ := Option.map_eq_some_iff.mp hw
  have ha : argsOk "dict.pop" ⟨.ref d :: .ref b :: more, []⟩ := by
    rcases hm with q | ⟨x, q⟩
    · subst q; exact PySem.F.args_dict_pop_2 _ _
    · subst q; exact PySem.F.args_dict_pop_3 _ _ _
  refine call_pop_heap (hsz := Nat.le_trans (raw_length us es) h4) hm ha hu (key_is I hb hk h8) h3 h2 hp fun h' dd' hs => h _ _ ?_ rw'
  have he : ∃ q, h'.get? d = some q := let ⟨q, _, _, hq, _⟩ := dd'; ⟨q, hq⟩
  rw [← g2] at dd'
  exact d_write I (by rw [e]; exact True.intro) hs he (nd_ok g1 dd' h3 (Nat.le_trans (dropE_length es k) h4))
/-- d.pop(k, x): not there -/
theorem nd_popD {r : Value} {Q : Value → Shared → Prop} (hu : (nestedKind X.prog X.w).room A.in1) (I : Inv X pins σ H s) (e : Rd H d (ndO X.prog X.w d es)) (ka : KeysAt X.K H es) (hb : Dp X.K H (.ref b) k) (hk : isKey k = true) (h8 : (keyOf k).depth ≤ 8)
    (l : valV (prs es) (keyOf k) = none) (h : ∀ s', Inv X pins σ H s' → Q r s') : wpAny (model X.prog X.w) A (call (.builtin "dict.pop") [.ref d, .ref b, r]) Q E s := by
  obtain ⟨us, h1, h2, h3, h4⟩ := nd_at I e ka
  have hn : valueAt (pairsH (rawOf us es)) (keyOf k) = none := RelO.none_of (by rw [← l]; exact (kv_raw h1).val (keyOf k))
  rw [valueAt_pairsH] at hn
  exact call_pop_default_heap (hsz := Nat.le_trans (raw_length us es) h4) hu (key_is I hb hk h8) h3 h2 (Option.map_eq_none_iff.mp hn) fun tk => h _ (I.tok _)
end
/-! dict(d) -/
section
variable {prog : Program} {w : World} {K : Type} [DecidableEq K] {knd : HeapKind prog w K} {A : Around} {E : Value → Shared → Prop} {s : Shared}
theorem call_dictH {o : Addr} {more : List (K × Addr × Value)} {Q : Value → Shared → Prop} (hu : knd.room A.in1.in1) (hoS : (o == sysModules) = false) (ho : s.heap.DictOfH knd o more) (hty : ∀ x ∈ more, s.TypeIs (.ref x.2.1) "tuple") (hap : (more.map fun x => knd.hash x.1).Nodup)
    (st : ∀ h', (∀ b u, s.heap.get? b = some u → h'.get? b = some u) → ∀ y ∈ more, knd.is h' y.1 y.2.1) (hsz : more.length ≤ sizeLine)
    (h : ∀ h', h'.DictOfH knd s.heap.objs.size more → Heap.SameBut s.heap.objs.size (s.heap.push { cls := .type "dict", data := .dict #[] }) h' → Q (.ref s.heap.objs.size) { s with heap := h' }) :
    wpAny (model prog w) A (call (.type "dict") [.ref o]) Q E s := by
  refine callType_codes (Q₁ := fun obj s₁ => obj = .ref s.heap.objs.size ∧ s₁ = { s with heap := s.heap.push { cls := .type "dict", data := .dict #[] } }) F.kt_called_dict (F.kt_typeCall_dict_1 _) F.entry_dict_init (kt_code_dict_new _ ⟨rfl, rfl⟩) ?_
  rintro obj s₁ ⟨rfl, rfl⟩
  have hnew : (s.heap.push { cls := .type "dict", data := .dict #[] }).DictOfH knd s.heap.objs.size [] := Heap.DictOfH.new s.heap
  have hk : ∀ b u, s.heap.get? b = some u → (s.heap.push { cls := .type "dict", data := .dict #[] }).get? b = some u := fun b u q => Heap.get?_push_of_some _ q
  have ho' : (s.heap.push { cls := .type "dict", data := .dict #[] }).DictOfH knd o more := ho.at' (fun u q => hk o u q) (st _ hk)
  have hn : (more.map (·.1)).Nodup := let ⟨_, _, _, _, _, _, _, _, hn⟩ := ho; hn
  have hdo : s.heap.objs.size ≠ o := fun q => absurd ho.lt_size (by rw [q]; exact Nat.lt_irrefl _)
  refine ⟨hnew.typeIs, F.args_dict_init_2 _ _, ?_⟩
  unfold Builtin.«dict.__init__»
  refine wpAny_bind ?_
  unfold Builtin.Dict.selfAndRest
  refine wpAny_bind (wpAny_notOrdered_dict hnew.typeIs ?_)
  show wpAny _ _ (pure (s.heap.objs.size, [Value.ref o])) _ _ _
  refine wpAny_pure ?_
  show wpAny _ _ (Builtin.Dict.updateFrom "dict.__init__" s.heap.objs.size (.ref o) [] .none) _ _ _
  refine updateFrom_dictH .none hu hdo hoS hnew ho' (.inr ⟨fun x hx => ?_, hap⟩) (by simpa using hsz) fun h' hd' _ hs => ?_
  · obtain ⟨u, q, c⟩ := hty x hx
    exact ⟨u, hk _ u q, c⟩
  · rw [storedAllH_nil_of_nodup more hn] at hd'
    exact ⟨rfl, h h' hd' hs⟩
end
section
variable {X : Cx} {pins : List (Addr × Obj)} {σ : L2.St} {H : Hp} {s : Shared} {d b : Addr} {es : List Ent} {k : PyData} {A : Around} {E : Value → Shared → Prop}
theorem raw_keys : ∀ {es : List Ent} {us : List Value}, Vals (es.map (·.2.2)) us → ∀ {β : Type} (f : NestedKey → β), ((rawOf us es).map fun x => f x.1) = es.map fun e => f (keyOf e.1)
  | [], _, .nil, _, _ => rfl
  | e :: es, u :: us, .cons h t, _, f => congrArg (f (keyOf e.1) :: ·) (raw_keys t f)
/-- dict(d): another dict with the same entries -/
theorem nd_copy {Q : Value → Shared → Prop} (hu : (nestedKind X.prog X.w).room A.in1.in1) (I : Inv X pins σ H s) (e : Rd H d (ndO X.prog X.w d es)) (ka : KeysAt X.K H es) (hap : (es.map fun e => (nestedKind X.prog X.w).hash (keyOf e.1)).Nodup)
    (h : ∀ p s', H p = none → Inv X pins σ (upd H p (ndO X.prog X.w p es)) s' → Q (.ref p) s') : wpAny (model X.prog X.w) A (call (.type "dict") [.ref d]) Q E s := by
  obtain ⟨us, h1, h2, h3, h4⟩ := nd_at I e ka
  have st : ∀ h', (∀ b u, s.heap.get? b = some u → h'.get? b = some u) → ∀ y ∈ rawOf us es, (nestedKind X.prog X.w).is h' y.1 y.2.1 := fun h' hk y hy => by
    obtain ⟨_, _, _, _, _, _, _, his, _⟩ := id h2
    exact nestedKind_stays.stays (fun b o _ _ e _ => hk b o e) (his y hy)
  refine call_dictH hu h3 h2 (keyed_apart nestedKind_stays h2) (by rw [raw_keys h1]; exact hap) st (Nat.le_trans (raw_length us es) h4) fun h' dd' hs => ?_
  refine h _ _ (I.hok.fresh (Nat.le_refl _)) (I.laid (a := s.heap.objs.size) (o := ndO X.prog X.w s.heap.objs.size es) (t' := s.toks) (fun b q hq => ?_) (Nat.le_refl _) (nd_ok h1 dd' (beq_eq_false_iff_ne.mpr (Ne.symm (Nat.ne_of_lt I.big))) h4))
  exact (hs.2 b (Nat.ne_of_lt (Heap.lt_size hq))).trans (Heap.get?_push_of_some _ hq)
end
section
variable {X : Cx}
theorem raw_addrs : ∀ {es : List Ent} {us : List Value}, Vals (es.map (·.2.2)) us → ((rawOf us es).map fun x => x.2.1) = es.map fun e => e.2.1
  | [], _, .nil => rfl
  | e :: es, u :: us, .cons h t => congrArg (e.2.1 :: ·) (raw_addrs t)
theorem raw_size : ∀ {es : List Ent} {us : List Value}, Vals (es.map (·.2.2)) us → (rawOf us es).length = es.length
  | [], _, .nil => rfl
  | e :: es, u :: us, .cons h t => congrArg (· + 1) (raw_size t)
/-- list(d): the keys -/
theorem call_list_nd (hc : X.calm = true) : CallR X (.type "list") (fun xs H Q => ∃ d es, xs = [V.ref d] ∧ Rd H d (ndO X.prog X.w d es) ∧ ∀ p, H p = none → Q (.ref p) (upd H p (.lst (es.map fun e => V.ref e.2.1)))) := by
  intro pins s σ H xs us Q I r h
  obtain ⟨d, kvs, rfl, hd, q⟩ := h
  obtain ⟨u, rfl, rx⟩ := r.one
  cases rx
  obtain ⟨⟨o, en, ep, us, ho, hx, hdt, hv, he, hn, hs, z⟩, _, _⟩ := rd_of I.hok hd
  have he' : en.toList = (rawOf us kvs).map (entryOfKey (nestedKind X.prog X.w)) := he
  have l1 : en.size = (rawOf us kvs).length := size_of_entries he'
  have l2 : (rawOf us kvs).length = kvs.length := raw_size hv
  refine PySem.W.kdl_call (kdl_raw hs hx hdt) (I.ok.hd hc) ho (by omega) fun h' tk acc' c' kp e it => ?_
  have ea : acc'.toList = (rawOf us kvs).map fun x => Value.ref x.2.1 := by
    have hl : acc'.toList.length = (rawOf us kvs).length := by rw [Array.length_toList, it.1]; exact l1
    apply List.ext_getElem?
    intro j
    rw [List.getElem?_map]
    cases hj : acc'.toList[j]? with
    | none =>
      have h1 := List.getElem?_eq_none_iff.mp hj
      rw [List.getElem?_eq_none (by omega)]
      all_goals rfl
    | some v =>
      obtain ⟨en', hen, hv'⟩ := it.2 j v (by rw [← Array.getElem?_toList]; exact hj)
      have qe := entry_at he' j
      rw [hen] at qe
      cases hb : (rawOf us kvs)[j]? with
      | none =>
        rw [hb] at qe
        exact nomatch (show some en' = none from qe)
      | some b =>
        rw [hb] at qe
        have e2 : en' = entryOfKey (nestedKind X.prog X.w) b := Option.some.inj qe
        rw [hv', e2]
        all_goals rfl
  have eb : acc'.toList = (kvs.map fun e => e.2.1).map Value.ref := by rw [ea, ← raw_addrs hv, List.map_map]; all_goals rfl
  have em : (kvs.map fun e => V.ref e.2.1) = (kvs.map fun e => e.2.1).map V.ref := by rw [List.map_map]; rfl
  have rv : Vals (kvs.map fun e => V.ref e.2.1) acc'.toList := by rw [eb, em]; exact vals_refs _
  have hz : (kvs.map fun e => V.ref e.2.1).length ≤ sizeLine := by rw [List.length_map]; exact z
  refine ⟨.ref s.heap.objs.size, _, I.laid (t' := tk) (o := .lst (kvs.map fun e => V.ref e.2.1)) kp (Nat.le_refl _) ?_, rfl, q _ (I.hok.fresh (Nat.le_refl _))⟩
  exact ⟨hz, acc'.toList, c', rv, by rw [Array.toArray_toList]; exact e⟩
end
/-! for k in d -/
section
variable {X : Cx} {pins : List (Addr × Obj)} {σ : L2.St} {H : Hp} {s : Shared}
/-- a locked dict -/
theorem frzN {d : Addr} {o : Obj} {es : List Ent} (I : Inv X pins σ H s) (h : H d = some (.frz o (ndO X.prog X.w d es))) :
    (d == sysModules) = false ∧ s.heap.get? d = some o ∧ o.ExactDict ∧ ∃ (en : Array DictEntry) (ep : Nat), o.data = .dict en ep ∧ en.size = es.length ∧ ∀ (i : Nat) (e : Ent), es[i]? = some e → ∃ q : DictEntry, en[i]? = some q ∧ q.key = Value.ref e.2.1 := by
  obtain ⟨hg, ⟨o', en, ep, us, ho, hx, hdt, hv, he, hn, hs, z⟩, _, _⟩ := I.hok d _ h
  rw [hg] at ho
  cases ho
  have he' : en.toList = (rawOf us es).map (entryOfKey (nestedKind X.prog X.w)) := he
  refine ⟨hs, hg, hx, en, ep, hdt, (size_of_entries he').trans (raw_size hv), fun i e q => ?_⟩
  have h1 := congrArg (fun l => l[i]?) (raw_addrs hv)
  simp only [List.getElem?_map, q] at h1
  obtain ⟨x, hx1, hx2⟩ := Option.map_eq_some_iff.mp (show ((rawOf us es)[i]?).map (fun x => x.2.1) = some e.2.1 from h1)
  refine ⟨entryOfKey (nestedKind X.prog X.w) x, by rw [entry_at he' i, hx1]; rfl, ?_⟩
  show Value.ref x.2.1 = _
  rw [hx2]
/-- the keys of the locked dict at d, in their order -/
def Itn (P : Program) (w : World) (d : Addr) (o : Obj) (es : List Ent) : It :=
  ⟨fun i H => H d = some (.frz o (ndO P w d es)) ∧ i < es.length, fun i H x H' => H' = H ∧ ∃ e, es[i]? = some e ∧ x = .ref e.2.1, fun i H => H d = some (.frz o (ndO P w d es)) ∧ es.length ≤ i⟩
end
section
variable {P : Program} {w : World} {K : PySem.W.Frag} {tg : Expr} {d : Addr} {o : Obj} {en : Array DictEntry} {ep : Nat}
theorem turn_keysN {es : List Ent} (it : Addr) (hod : o.data = .dict en ep) : Turn P w K tg (Itn P w d o es) [it] it (fun i h => h.IsKeyIter it d i es.length ep) where
  mem := by simp
  obj := fun i h st b hb => by
    have e : b = it := by simpa using hb
    subst e
    obtain ⟨oi, e, c, dd⟩ := st
    exact ⟨oi, e, fun v z => by rw [dd] at z; cases z⟩
  keep := fun i h h' st k => st.at fun oi e => k it (by simp) oi e
  item := by
    intro X hP hw hK hc i pins s σ H E I hf st hg
    subst hP hw hK
    obtain ⟨hd, hi⟩ := hg
    obtain ⟨f0, f1, f2, f3, f4, f5⟩ := hf it (by simp)
    obtain ⟨hs, hgd, hx, es', ep', hdt, hsz, ent⟩ := frzN I hd
    obtain ⟨rfl, rfl⟩ := dict_ep hod hdt
    obtain ⟨e, hkv⟩ : ∃ p, es[i]? = some p := ⟨es[i], List.getElem?_eq_getElem hi⟩
    obtain ⟨q, hen, hkey⟩ := ent i e hkv
    refine next_key_item st hgd hdt hsz hen fun h' st' sb => ?_
    have I1 : Inv X pins σ H { s with heap := h' } := I.turned (t' := s.toks) (fun b ob hb e => (sb.2 b hb).trans e) f0 f1 f3 f4 f5
    obtain ⟨oi, e1, c, dd⟩ := id st'
    exact ⟨q.key, rfl, go_of (s := { s with heap := h' }) e1 c dd (by decide) ⟨.ref e.2.1, H, I1, hkey, ⟨rfl, e, hkv, rfl⟩, st', fun b hb => (hf b hb).1⟩⟩
  done := by
    intro X hP hw hK hc i pins s σ H E I hf st hg
    subst hP hw hK
    obtain ⟨hd, hi⟩ := hg
    obtain ⟨f0, f1, f2, f3, f4, f5⟩ := hf it (by simp)
    obtain ⟨hs, hgd, hx, es', ep', hdt, hsz, ent⟩ := frzN I hd
    obtain ⟨rfl, rfl⟩ := dict_ep hod hdt
    exact next_key_end (I.ok.hd hc) st hgd hdt hsz hi fun h' eb => ⟨rfl, I.turned (t' := s.toks) (fun b ob hb e => eb b ob hb e) f0 f1 f3 f4 f5⟩
  self := fun A i s Q E st h => by
    refine wpAny_pyIter_slot st.typeIs F.slot_dict_keyiterator_iter (wpAny_call_entry F.slot_dict_keyiterator_iter st.typeIs F.entry_dict_keyiterator_iter ?_ (F.args_dict_keyiterator_iter_1 _))
    show wpAny _ _ (ret (.ref it)) _ _ s
    exact wpAny_pure ⟨_, rfl, "dict_keyiterator", _, st.typeIs, F.slot_dict_keyiterator_next.lookup, h⟩
end
/-- the dict is locked -/
def iKeysN (P : Program) (w : World) (td : TE) : TI := fun σ H R => td σ H fun x H1 => ∃ d o es, x = .ref d ∧ H1 d = some (.frz o (ndO P w d es)) ∧ R (Itn P w d o es) H1
section
variable {X : Cx} {tg e : Expr} {td : TE}
theorem pi_keysN (he : PE X e td) : PI X tg e (iKeysN X.prog X.w td) := by
  refine ⟨fun pins s σ H R I h => ?_⟩
  refine thn (he.run pins s σ H _ I h) fun u s1 ⟨x, H1, I1, rx, d, o, es, ex, hd, q⟩ => ?_
  subst ex
  obtain rfl : u = Value.ref d := rx
  obtain ⟨hs, hgd, hx, en, ep, hdt, hsz, ent⟩ := frzN I1 hd
  refine iter_keys hs hgd hx hdt (pi_one (tk := s1.toks) I1 _ (turn_keysN _ hdt) ⟨_, Heap.get?_push_size _ rfl, rfl, ?_⟩ q)
  rw [hsz] <;> rfl
end
/-! rules for expressions and statements -/
/-- y is a key whose data is k -/
def IsK (K : PySem.W.Frag) (H : Hp) (y : V) (k : PyData) : Prop := ∃ b, y = .ref b ∧ Dp K H (.ref b) k ∧ isKey k = true ∧ (keyOf k).depth ≤ 8
/-- what the dict at d holds at the key y -/
def NGet (X : Cx) (H : Hp) (d : Addr) (y : V) (o : Option V) : Prop := ∃ es k, Rd H d (ndO X.prog X.w d es) ∧ KeysAt X.K H es ∧ IsK X.K H y k ∧ o = valV (prs es) (keyOf k)
/-- the heap behind d[y] = v -/
def NPut (X : Cx) (H : Hp) (d : Addr) (y v : V) (H' : Hp) : Prop := ∃ es k b, H d = some (ndO X.prog X.w d es) ∧ KeysAt X.K H es ∧ y = .ref b ∧ IsK X.K H y k ∧ es.length < sizeLine ∧ H' = upd H d (ndO X.prog X.w d (putE es k b v))
section
variable {X : Cx} {pins : List (Addr × Obj)} {σ : L2.St} {H : Hp} {s : Shared} {d : Addr} {y : V} {o' : Option V} {o i value : Expr} {pos pos' : Pos} {td ty tv : TE}
theorem nget_type (I : Inv X pins σ H s) (g : NGet X H d y o') : s.TypeIs (.ref d) "dict" := by
  obtain ⟨es, k, e, ka, _, _⟩ := g
  obtain ⟨_, _, dd, _⟩ := nd_keyed I e ka
  exact dd.typeIs
def tNGet (X : Cx) (td ty : TE) : TE := fun σ H Q => td σ H fun x H1 => ty σ H1 fun y H2 => ∃ a v, x = .ref a ∧ NGet X H2 a y (some v) ∧ Q v H2
def tNIn (X : Cx) (ty td : TE) : TE := fun σ H Q => ty σ H fun y H1 => td σ H1 fun x H2 => ∃ a o, x = .ref a ∧ NGet X H2 a y o ∧ Q (.bl o.isSome) H2
def tNNotIn (X : Cx) (ty td : TE) : TE := fun σ H Q => ty σ H fun y H1 => td σ H1 fun x H2 => ∃ a o, x = .ref a ∧ NGet X H2 a y o ∧ Q (.bl (!o.isSome)) H2
def sNPut (X : Cx) (td ty tv : TE) : TS := fun D σ H => tv σ H fun v H1 => td σ H1 fun x H2 => ty σ H2 fun y H3 => ∃ a H4, x = .ref a ∧ NPut X H3 a y v H4 ∧ D.nx σ H4
theorem pe_nget (hu : (nestedKind X.prog X.w).room X.A.in1) (ho : PE X o td) (hi : PE X i ty) (hs : NoSl i) : PE X (.Subscript o i pos) (tNGet X td ty) := by
  refine ⟨fun pins s σ H Q I h => ?_⟩
  refine subD_of PySem.F.slot_dict_getitem.lookup hs (thn (ho.run pins s σ H _ I h) fun u s1 ⟨x, H1, I1, rx, q1⟩ => thn (hi.run pins s1 σ H1 _ I1 q1) fun iv s2 ⟨y, H2, I2, ry, a, v, ex, g, q2⟩ => ?_)
  subst ex
  obtain rfl : u = Value.ref a := rx
  refine ⟨nget_type I2 g, ?_⟩
  obtain ⟨es, k, e, ka, ⟨b, rfl, h1, h2, h3⟩, l⟩ := g
  obtain rfl : iv = Value.ref b := ry
  exact nd_getItem hu I2 e ka h1 h2 h3 l.symm fun w' s3 I3 rw' => ⟨v, H2, I3, rw', q2⟩
theorem pc_nin (hu : (nestedKind X.prog X.w).room X.A.in1) (hi : PE X i ty) (ho : PE X o td) : PC X .In i o (tNIn X ty td) := by
  refine ⟨fun pins s σ H Q I h => ?_⟩
  refine thn (hi.run pins s σ H _ I h) fun iv s1 ⟨y, H1, I1, ry, q1⟩ => thn (ho.run pins s1 σ H1 _ I1 q1) fun u s2 ⟨x, H2, I2, rx, a, ov, ex, g, q2⟩ => ?_
  subst ex
  obtain rfl : u = Value.ref a := rx
  obtain ⟨es, k, e, ka, ⟨b, rfl, h1, h2, h3⟩, rfl⟩ := g
  obtain rfl : iv = Value.ref b := ry
  exact nd_in hu I2 e ka h1 h2 h3 fun s3 I3 => ⟨.bl (valV (prs es) (keyOf k)).isSome, H2, I3, rfl, q2⟩
theorem pc_nnotin (hu : (nestedKind X.prog X.w).room X.A.in1) (hi : PE X i ty) (ho : PE X o td) : PC X .NotIn i o (tNNotIn X ty td) := by
  refine ⟨fun pins s σ H Q I h => ?_⟩
  refine thn (hi.run pins s σ H _ I h) fun iv s1 ⟨y, H1, I1, ry, q1⟩ => thn (ho.run pins s1 σ H1 _ I1 q1) fun u s2 ⟨x, H2, I2, rx, a, ov, ex, g, q2⟩ => ?_
  subst ex
  obtain rfl : u = Value.ref a := rx
  obtain ⟨es, k, e, ka, ⟨b, rfl, h1, h2, h3⟩, rfl⟩ := g
  obtain rfl : iv = Value.ref b := ry
  exact nd_notIn hu I2 e ka h1 h2 h3 fun s3 I3 => ⟨.bl (!(valV (prs es) (keyOf k)).isSome), H2, I3, rfl, q2⟩
theorem ps_nput (hu : (nestedKind X.prog X.w).room X.A.in1) (ho : PE X o td) (hi : PE X i ty) (hv : PE X value tv) (hs : swapsWith value (some (.Subscript o i pos')) pos.line X.env = pure false) :
    PS X (.Assign [.Subscript o i pos'] value pos) (sNPut X td ty tv) := by
  refine ⟨fun pins s σ H D I h => ?_⟩
  refine wpAny_Assign_Subscript (thn (hv.run pins s σ H _ I h) fun r s1 ⟨v, H1, I1, rv, q1⟩ => thn (ho.run pins s1 σ H1 _ I1 q1) fun u s2 ⟨x, H2, I2, rx, q2⟩ => thn (hi.run pins s2 σ H2 _ I2 q2) fun iv s3 ⟨y, H3, I3, ry, a, H4, ex, g, q3⟩ => ?_) hs
  subst ex
  obtain rfl : u = Value.ref a := rx
  obtain ⟨es, k, b, e, ka, rfl, ⟨b', eb, h1, h2, h3⟩, hl, rfl⟩ := g
  cases eb
  obtain rfl : iv = Value.ref b := ry
  exact nd_setItem hu I3 e ka h1 h2 h3 hl rv fun s4 I4 => ⟨σ, _, I4, q3⟩
end
/-! methods -/
/-- d is a dict of this kind -/
def IsN (X : Cx) (H : Hp) (d : Addr) : Prop := ∃ es, Rd H d (ndO X.prog X.w d es)
section
variable {X : Cx} {pins : List (Addr × Obj)} {σ : L2.St} {H : Hp} {s : Shared} {d : Addr} {y : V} {o e f : Expr} {apos cpos : Pos} {td ty tx : TE}
theorem isN_at (I : Inv X pins σ H s) (h : IsN X H d) : s.TypeIs (.ref d) "dict" ∧ (∀ b, Value.ref d = .ref b → ∃ ob, s.heap.get? b = some ob ∧ ob.dict = none) ∧ (d == sysModules) = false := by
  obtain ⟨es, h⟩ := h
  obtain ⟨⟨ob, en, ep, us, h1, h2, h3, h4, h5, h6, h7, h8⟩, _, _⟩ := rd_of I.hok h
  refine ⟨⟨ob, h1, h2.1⟩, fun b q => ?_, h7⟩
  cases q
  exact ⟨ob, h1, h2.2.1⟩
/-- d.get(y, z) -/
def tNGet2 (X : Cx) (td ty tx : TE) : TE := fun σ H Q => td σ H fun x H1 => ∃ a, x = .ref a ∧ IsN X H1 a ∧ ty σ H1 fun y H2 => tx σ H2 fun z H3 => ∃ o, NGet X H3 a y o ∧ Q (o.getD z) H3
/-- d.pop(k): there; d.pop(k, x): there or not -/
def tNPop1 (X : Cx) (td ty : TE) : TE := fun σ H Q => td σ H fun x H1 => ∃ a, x = .ref a ∧ IsN X H1 a ∧ ty σ H1 fun y H2 => ∃ es k v, H2 a = some (ndO X.prog X.w a es) ∧ KeysAt X.K H2 es ∧ IsK X.K H2 y k ∧ valV (prs es) (keyOf k) = some v ∧
  Q v (upd H2 a (ndO X.prog X.w a (dropE es k)))
def tNPop2 (X : Cx) (td ty tx : TE) : TE := fun σ H Q => td σ H fun x H1 => ∃ a, x = .ref a ∧ IsN X H1 a ∧ ty σ H1 fun y H2 => tx σ H2 fun z H3 => ∃ es k, H3 a = some (ndO X.prog X.w a es) ∧ KeysAt X.K H3 es ∧ IsK X.K H3 y k ∧
  (∀ v, valV (prs es) (keyOf k) = some v → Q v (upd H3 a (ndO X.prog X.w a (dropE es k)))) ∧ (valV (prs es) (keyOf k) = none → Q z H3)
theorem pe_nget2 (hu : (nestedKind X.prog X.w).room X.A.in1) (ho : PE X o td) (he : PE X e ty) (hf : PE X f tx) (m : M2 X o "get" apos e f cpos) : PE X (.Call (.Attribute o "get" apos) [e, f] [] cpos) (tNGet2 X td ty tx) := by
  refine ⟨fun pins s σ H Q I h => ?_⟩
  refine wpAny_Call_method m.base m.few m.line PySem.F.plainAttrs_dict PySem.F.slot_dict_get PySem.F.type_dict_get (thn (ho.run pins s σ H _ I h) fun u s1 ⟨x, H1, I1, rx, a, ex, d, q1⟩ => ?_)
  subst ex
  obtain rfl : u = Value.ref a := rx
  obtain ⟨t1, t2, _⟩ := isN_at I1 d
  refine ⟨t1, t2, ?_⟩
  rw [m.trees]
  refine Calls.callWith_builtin rfl (Calls.evalArgs_plain (Calls.spliced_cons (thn (he.run pins s1 σ H1 _ I1 q1) fun iv s2 ⟨y, H2, I2, ry, q2⟩ =>
    Calls.spliced_cons (thn (hf.run pins s2 σ H2 _ I2 q2) fun fv s3 ⟨z, H3, I3, rz, ov, g, q3⟩ => Calls.spliced_nil ?_))))
  obtain ⟨es, k, e, ka, ⟨b, rfl, h1, h2, h3⟩, rfl⟩ := g
  obtain rfl : iv = Value.ref b := ry
  exact nd_get2 hu I3 e ka h1 h2 h3 rz fun w' s4 I4 rw' => ⟨_, H3, I4, rw', q3⟩
theorem pe_npop1 (hu : (nestedKind X.prog X.w).room X.A.in1) (ho : PE X o td) (he : PE X e ty) (m : M1 X o "pop" apos e cpos) : PE X (.Call (.Attribute o "pop" apos) [e] [] cpos) (tNPop1 X td ty) := by
  refine ⟨fun pins s σ H Q I h => ?_⟩
  refine wpAny_Call_method m.base m.few m.line PySem.F.plainAttrs_dict PySem.F.slot_dict_pop PySem.F.type_dict_pop (thn (ho.run pins s σ H _ I h) fun u s1 ⟨x, H1, I1, rx, a, ex, d, q1⟩ => ?_)
  subst ex
  obtain rfl : u = Value.ref a := rx
  obtain ⟨t1, t2, _⟩ := isN_at I1 d
  refine ⟨t1, t2, ?_⟩
  rw [m.trees]
  refine Calls.callWith_builtin rfl (Calls.evalArgs_plain (Calls.spliced_cons (thn (he.run pins s1 σ H1 _ I1 q1) fun iv s2 ⟨y, H2, I2, ry, es, k, v, ea, ka, ⟨b, ey, h1, h2, h3⟩, l, q2⟩ => Calls.spliced_nil ?_)))
  subst ey
  obtain rfl : iv = Value.ref b := ry
  exact nd_pop hu I2 ea ka h1 h2 h3 l (.inl rfl) fun w' s3 I3 rw' => ⟨v, _, I3, rw', q2⟩
theorem pe_npop2 (hu : (nestedKind X.prog X.w).room X.A.in1) (ho : PE X o td) (he : PE X e ty) (hf : PE X f tx) (m : M2 X o "pop" apos e f cpos) : PE X (.Call (.Attribute o "pop" apos) [e, f] [] cpos) (tNPop2 X td ty tx) := by
  refine ⟨fun pins s σ H Q I h => ?_⟩
  refine wpAny_Call_method m.base m.few m.line PySem.F.plainAttrs_dict PySem.F.slot_dict_pop PySem.F.type_dict_pop (thn (ho.run pins s σ H _ I h) fun u s1 ⟨x, H1, I1, rx, a, ex, d, q1⟩ => ?_)
  subst ex
  obtain rfl : u = Value.ref a := rx
  obtain ⟨t1, t2, _⟩ := isN_at I1 d
  refine ⟨t1, t2, ?_⟩
  rw [m.trees]
  refine Calls.callWith_builtin rfl (Calls.evalArgs_plain (Calls.spliced_cons (thn (he.run pins s1 σ H1 _ I1 q1) fun iv s2 ⟨y, H2, I2, ry, q2⟩ =>
    Calls.spliced_cons (thn (hf.run pins s2 σ H2 _ I2 q2) fun fv s3 ⟨z, H3, I3, rz, es, k, ea, ka, ⟨b, ey, h1, h2, h3⟩, q3, q4⟩ => Calls.spliced_nil ?_))))
  subst ey
  obtain rfl : iv = Value.ref b := ry
  cases l : valV (prs es) (keyOf k) with
  | some v => exact nd_pop hu I3 ea ka h1 h2 h3 l (.inr ⟨fv, rfl⟩) fun w' s4 I4 rw' => ⟨v, _, I4, rw', q3 v l⟩
  | none => exact nd_popD hu I3 (.inl ea) ka h1 h2 h3 l fun s4 I4 => ⟨z, H3, I4, rz, q4 l⟩
end
section
variable {X : Cx}
/-- dict(d) -/
theorem call_dict_nd (hu : (nestedKind X.prog X.w).room X.A.in1.in1) : CallR X (.type "dict") (fun xs H Q => ∃ d es, xs = [V.ref d] ∧ Rd H d (ndO X.prog X.w d es) ∧ KeysAt X.K H es ∧ (es.map fun e => (nestedKind X.prog X.w).hash (keyOf e.1)).Nodup ∧ ∀ p, H p = none → Q (.ref p) (upd H p (ndO X.prog X.w p es))) := by
  intro pins s σ H xs us Q I r h
  obtain ⟨d, es, rfl, hd, ka, hap, q⟩ := h
  obtain ⟨u, rfl, rx⟩ := r.one
  cases rx
  exact nd_copy hu I hd ka hap fun p s' hn I' => ⟨.ref p, _, I', rfl, q p hn⟩
end
section
variable {X : Cx}
/-- len(d) -/
theorem call_len_nd : CallR X (.builtin "len") (fun xs H Q => ∃ d es, xs = [V.ref d] ∧ Rd H d (ndO X.prog X.w d es) ∧ KeysAt X.K H es ∧ Q (.int es.length) H) := by
  intro pins s σ H xs us Q I r h
  obtain ⟨d, es, rfl, hd, ka, q⟩ := h
  obtain ⟨u, rfl, rx⟩ := r.one
  cases rx
  obtain ⟨us, h1, h2, h3, h4⟩ := nd_at I hd ka
  have hl := raw_size h1
  refine call_len_dictH h3 h2 (by rw [hl]; rw [sizeLine_eq] at h4; omega) ?_
  rw [hl]
  exact ⟨.int es.length, H, I.tok _, ⟨_, rfl⟩, q⟩
end
end ND
/-! DL: a layer over HandS in which a def's reading speaks of data alone (no heap): what stands in the slots is data, owned lists may be changed. -/
namespace DL
open PySem L2

abbrev D := PyData
/-- the program's part, with its program and world -/
structure KW where
  fr : PySem.W.Frag
  P : Program
  w : World
abbrev kx (X : Cx) : KW := ⟨X.K, X.prog, X.w⟩
/-- the list at a is read: tracked and not among O, or of the module -/
def ShL (K : KW) (O : Addr → Prop) (H : Hp) (a : Addr) (xs : List V) : Prop :=
  (¬ O a ∧ Rd H a (.lst xs)) ∨ ∃ (o : Obj) (its : Array Value) (n : Nat), K.fr.lookup a = some o ∧ o.cls = .type "list" ∧ o.dict = none ∧ o.data = .seq its n ∧ its.size ≤ sizeLine ∧ Vals xs its.toList
def ShT (K : KW) (O : Addr → Prop) (H : Hp) (a : Addr) (xs : List V) : Prop :=
  (¬ O a ∧ ∃ o : Obj, o.dict = none ∧ H a = some (.frz o (.tup xs))) ∨ ∃ (o : Obj) (its : Array Value) (n : Nat), K.fr.lookup a = some o ∧ o.cls = .type "tuple" ∧ o.dict = none ∧ o.data = .seq its n ∧ its.size ≤ sizeLine ∧ Vals xs its.toList
/-- whatever is outside O stays -/
def Stp (O : Addr → Prop) (H H' : Hp) : Prop := ∀ b o, ¬ O b → H b = some o → H' b = some o
theorem Stp.refl {O : Addr → Prop} {H : Hp} : Stp O H H := fun _ _ _ h => h
theorem Stp.trans {O : Addr → Prop} {H H1 H2 : Hp} (a : Stp O H H1) (b : Stp O H1 H2) : Stp O H H2 := fun c o n h => b c o n (a c o n h)
theorem Stp.of {O : Addr → Prop} {H H' : Hp} (e : Same H H') : Stp O H H' := fun b o _ h => e b o h
theorem Stp.weak {O O' : Addr → Prop} {H H' : Hp} (e : Stp O H H') (s : ∀ b, O b → O' b) : Stp O' H H' := fun b o n h => e b o (fun z => n (s b z)) h
theorem Stp.nil0 {O : Addr → Prop} {H H' : Hp} {p : Addr} (e : Stp O H H') (n : ¬ O p) (h : H' p = none) : H p = none := by
  cases q : H p with
  | none => rfl
  | some o => exact nomatch h.symm.trans (e p o n q)
theorem Stp.rd {O : Addr → Prop} {H H' : Hp} {a : Addr} {u : HO} (e : Stp O H H') (n : ¬ O a) (h : Rd H a u) : Rd H' a u := by
  rcases h with h | ⟨o, h⟩
  · exact .inl (e a _ n h)
  · exact .inr ⟨o, e a _ n h⟩
section
variable {K : KW} {O O' : Addr → Prop} {H H' : Hp} {a : Addr} {xs : List V}
theorem ShL.sq (h : ShL K O H a xs) : SqL K.fr H a xs := by
  rcases h with ⟨_, h⟩ | h
  · exact .inl h
  · exact .inr h
theorem ShT.sq (h : ShT K O H a xs) : SqT K.fr H a xs := by
  rcases h with ⟨_, o, _, h⟩ | ⟨o, its, n, h1, h2, _, h3⟩
  · exact .inl (.inr ⟨o, h⟩)
  · exact .inr ⟨o, its, n, h1, h2, h3⟩
theorem ShT.plain {X : Cx} {pins : List (Addr × Obj)} {σ : L2.St} {s : Shared} (I : Inv X pins σ H s) (h : ShT (kx X) O H a xs) : ∃ o, s.heap.get? a = some o ∧ o.dict = none := by
  rcases h with ⟨_, o, hd, h⟩ | ⟨o, its, n, h1, h2, hd, h3⟩
  · exact ⟨o, (I.hok a _ h).1, hd⟩
  · exact ⟨o, I.kIn a o h1, hd⟩
theorem ShL.mono (e : Stp O H H') (h : ShL K O H a xs) : ShL K O H' a xs := by
  rcases h with ⟨n, h⟩ | h
  · exact .inl ⟨n, e.rd n h⟩
  · exact .inr h
theorem ShT.mono (e : Stp O H H') (h : ShT K O H a xs) : ShT K O H' a xs := by
  rcases h with ⟨n, o, hd, h⟩ | h
  · exact .inl ⟨n, o, hd, e a _ n h⟩
  · exact .inr h
theorem ShL.less (s : ∀ b, O' b → O b) (h : ShL K O H a xs) : ShL K O' H a xs := by
  rcases h with ⟨n, h⟩ | h
  · exact .inl ⟨fun z => n (s _ z), h⟩
  · exact .inr h
theorem ShT.less (s : ∀ b, O' b → O b) (h : ShT K O H a xs) : ShT K O' H a xs := by
  rcases h with ⟨n, h⟩ | h
  · exact .inl ⟨fun z => n (s _ z), h⟩
  · exact .inr h
/-- one more address that is not tracked -/
theorem ShL.more {p : Addr} (hp : H p = none) (s : ∀ b, O' b → O b ∨ b = p) (h : ShL K O H a xs) : ShL K O' H a xs := by
  rcases h with ⟨n, h⟩ | h
  · refine .inl ⟨fun z => ?_, h⟩
    rcases s _ z with z | z
    · exact n z
    · subst z
      rcases h with h | ⟨o, h⟩ <;> (rw [hp] at h; cases h)
  · exact .inr h
theorem ShT.more {p : Addr} (hp : H p = none) (s : ∀ b, O' b → O b ∨ b = p) (h : ShT K O H a xs) : ShT K O' H a xs := by
  rcases h with ⟨n, o, hd, h⟩ | h
  · refine .inl ⟨fun z => ?_, o, hd, h⟩
    rcases s _ z with z | z
    · exact n z
    · rw [z, hp] at h
      cases h
  · exact .inr h
end

/-- a dict with ints as keys, as data (told apart by a mark) -/
def tagI (kvs : List (Int × D)) : List (D × D) := (.list [], .none) :: kvs.map fun e => (.int e.1, e.2)
mutual
/-- the value v is the data d; none of its lists and tuples is among O -/
inductive Rp (K : KW) (O : Addr → Prop) (H : Hp) : V → D → Prop
  | non : Rp K O H .non .none
  | bl (b : Bool) : Rp K O H (.bl b) (.bool b)
  | int (i : Int) : Rp K O H (.int i) (.int i)
  | str (x : Str) : Rp K O H (.str x) (.str x)
  | lst {a : Addr} {xs : List V} {ds : List D} : ShL K O H a xs → RpA K O H xs ds → Rp K O H (.ref a) (.list ds)
  | tup {a : Addr} {xs : List V} {ds : List D} : ShT K O H a xs → RpA K O H xs ds → Rp K O H (.ref a) (.tuple ds)
  | dct {a : Addr} {o : Obj} {es : List ND.Ent} {kvs : List (D × D)} : ¬ O a → H a = some (.frz o (ND.ndO K.P K.w a es)) → RpE K O H es kvs → Rp K O H (.ref a) (.dict kvs)
  | dik {a : Addr} {o : Obj} {es : List (L2.Key × V)} {kvs : List (Int × D)} {z : List (D × D)} : ¬ O a → H a = some (.frz o (.dK es)) → RpK K O H es kvs → z = tagI kvs → Rp K O H (.ref a) (.dict z)
inductive RpA (K : KW) (O : Addr → Prop) (H : Hp) : List V → List D → Prop
  | nil : RpA K O H [] []
  | cons {v : V} {vs : List V} {d : D} {ds : List D} : Rp K O H v d → RpA K O H vs ds → RpA K O H (v :: vs) (d :: ds)
inductive RpE (K : KW) (O : Addr → Prop) (H : Hp) : List ND.Ent → List (D × D) → Prop
  | nil : RpE K O H [] []
  | cons {k : D} {b : Addr} {y : V} {v : D} {es : List ND.Ent} {kvs : List (D × D)} : Rp K O H (.ref b) k → ND.isKey k = true → (ND.keyOf k).depth ≤ 8 → Rp K O H y v → RpE K O H es kvs → RpE K O H ((k, b, y) :: es) ((k, v) :: kvs)
inductive RpK (K : KW) (O : Addr → Prop) (H : Hp) : List (L2.Key × V) → List (Int × D) → Prop
  | nil : RpK K O H [] []
  | cons {i : Int} {y : V} {v : D} {es : List (L2.Key × V)} {kvs : List (Int × D)} : Rp K O H y v → RpK K O H es kvs → RpK K O H ((.inl i, y) :: es) ((i, v) :: kvs)
end
/-- a dict's content as data -/
inductive Ct where
  | nd (kvs : List (D × D)) | ik (kvs : List (Int × D))
def Ct.dat : Ct → D
  | .nd kvs => .dict kvs
  | .ik kvs => .dict (tagI kvs)
/-- the object u at a has the content c -/
inductive RpC (K : KW) (O : Addr → Prop) (H : Hp) (a : Addr) : HO → Ct → Prop
  | nd {es : List ND.Ent} {kvs : List (D × D)} : RpE K O H es kvs → RpC K O H a (ND.ndO K.P K.w a es) (.nd kvs)
  | ik {es : List (L2.Key × V)} {kvs : List (Int × D)} : RpK K O H es kvs → RpC K O H a (.dK es) (.ik kvs)
section
variable {K : KW} {O O' : Addr → Prop} {H H' : Hp}
theorem RpC.dat {a : Addr} {u : HO} {c : Ct} {o : Obj} (h : RpC K O H a u c) (n : ¬ O a) (e : H a = some (.frz o u)) : Rp K O H (.ref a) c.dat := by
  cases h with
  | nd r => exact .dct n e r
  | ik r => exact .dik n e r rfl
theorem RpC.mut {a : Addr} {u : HO} {c : Ct} (h : RpC K O H a u c) : Mut (some u) := by
  cases h <;> exact True.intro
/-- what is read stays so -/
structure Stay (K : KW) (O O' : Addr → Prop) (H H' : Hp) : Prop where
  l : ∀ a xs, ShL K O H a xs → ShL K O' H' a xs
  t : ∀ a xs, ShT K O H a xs → ShT K O' H' a xs
  d : ∀ a o u, ¬ O a → H a = some (.frz o u) → ¬ O' a ∧ H' a = some (.frz o u)
mutual
theorem Rp.map (S : Stay K O O' H H') : ∀ {d : D} {v : V}, Rp K O H v d → Rp K O' H' v d
  | _, _, .non => .non
  | _, _, .bl b => .bl b
  | _, _, .int i => .int i
  | _, _, .str x => .str x
  | _, _, .lst h r => .lst (S.l _ _ h) (RpA.map S r)
  | _, _, .tup h r => .tup (S.t _ _ h) (RpA.map S r)
  | _, _, .dct n e r => .dct (S.d _ _ _ n e).1 (S.d _ _ _ n e).2 (RpE.map S r)
  | _, _, .dik n e r z => .dik (S.d _ _ _ n e).1 (S.d _ _ _ n e).2 (RpK.map S r) z
theorem RpA.map (S : Stay K O O' H H') : ∀ {ds : List D} {vs : List V}, RpA K O H vs ds → RpA K O' H' vs ds
  | _, _, .nil => .nil
  | _, _, .cons h r => .cons (Rp.map S h) (RpA.map S r)
theorem RpE.map (S : Stay K O O' H H') : ∀ {kvs : List (D × D)} {es : List ND.Ent}, RpE K O H es kvs → RpE K O' H' es kvs
  | _, _, .nil => .nil
  | _, _, .cons h1 h2 h3 h4 r => .cons (Rp.map S h1) h2 h3 (Rp.map S h4) (RpE.map S r)
theorem RpK.map (S : Stay K O O' H H') : ∀ {kvs : List (Int × D)} {es : List (L2.Key × V)}, RpK K O H es kvs → RpK K O' H' es kvs
  | _, _, .nil => .nil
  | _, _, .cons h r => .cons (Rp.map S h) (RpK.map S r)
end
theorem RpC.map (S : Stay K O O' H H') {a : Addr} {u : HO} {c : Ct} (h : RpC K O H a u c) : RpC K O' H' a u c := by
  cases h with
  | nd r => exact .nd (r.map S)
  | ik r => exact .ik (r.map S)
theorem Stay.mono (e : Stp O H H') : Stay K O O H H' := ⟨fun _ _ x => x.mono e, fun _ _ x => x.mono e, fun a o u n h => ⟨n, e a _ n h⟩⟩
theorem Stay.less (s : ∀ b, O' b → O b) : Stay K O O' H H := ⟨fun _ _ x => x.less s, fun _ _ x => x.less s, fun a o u n h => ⟨fun z => n (s _ z), h⟩⟩
theorem Stay.more {p : Addr} (hp : H p = none) (s : ∀ b, O' b → O b ∨ b = p) : Stay K O O' H H := ⟨fun _ _ x => x.more hp s, fun _ _ x => x.more hp s, fun a o u n h => ⟨fun z => (s _ z).elim n (fun z => by rw [z, hp] at h; cases h), h⟩⟩
theorem Rp.mono {v : V} {d : D} (e : Stp O H H') (h : Rp K O H v d) : Rp K O H' v d := h.map (Stay.mono e)
theorem RpA.mono {vs : List V} {ds : List D} (e : Stp O H H') (h : RpA K O H vs ds) : RpA K O H' vs ds := h.map (Stay.mono e)
theorem RpE.mono {vs : List ND.Ent} {ds : List (D × D)} (e : Stp O H H') (h : RpE K O H vs ds) : RpE K O H' vs ds := h.map (Stay.mono e)
theorem RpK.mono {vs : List (L2.Key × V)} {ds : List (Int × D)} (e : Stp O H H') (h : RpK K O H vs ds) : RpK K O H' vs ds := h.map (Stay.mono e)
theorem RpC.mono {a : Addr} {u : HO} {c : Ct} (e : Stp O H H') (h : RpC K O H a u c) : RpC K O H' a u c := h.map (Stay.mono e)
theorem Rp.less {v : V} {d : D} (s : ∀ b, O' b → O b) (h : Rp K O H v d) : Rp K O' H v d := h.map (Stay.less s)
theorem RpA.less {vs : List V} {ds : List D} (s : ∀ b, O' b → O b) (h : RpA K O H vs ds) : RpA K O' H vs ds := h.map (Stay.less s)
theorem RpC.less {a : Addr} {u : HO} {c : Ct} (s : ∀ b, O' b → O b) (h : RpC K O H a u c) : RpC K O' H a u c := h.map (Stay.less s)
theorem Rp.more {v : V} {d : D} {p : Addr} (hp : H p = none) (s : ∀ b, O' b → O b ∨ b = p) (h : Rp K O H v d) : Rp K O' H v d := h.map (Stay.more hp s)
theorem RpA.more {vs : List V} {ds : List D} {p : Addr} (hp : H p = none) (s : ∀ b, O' b → O b ∨ b = p) (h : RpA K O H vs ds) : RpA K O' H vs ds := h.map (Stay.more hp s)
theorem RpC.more {a : Addr} {u : HO} {c : Ct} {p : Addr} (hp : H p = none) (s : ∀ b, O' b → O b ∨ b = p) (h : RpC K O H a u c) : RpC K O' H a u c := h.map (Stay.more hp s)
mutual
/-- no dict in it -/
def noD : D → Bool
  | .list xs => noDA xs
  | .tuple xs => noDA xs
  | .dict _ => false
  | _ => true
def noDA : List D → Bool
  | [] => true
  | x :: xs => noD x && noDA xs
end
mutual
theorem Rp.dp : ∀ {d : D} {v : V}, Rp K O H v d → noD d = true → Dp K.fr H v d
  | _, _, .non, _ => .non
  | _, _, .bl b, _ => .bl b
  | _, _, .int i, _ => .int i
  | _, _, .str x, _ => .str x
  | _, _, .lst h r, q => .lst h.sq (RpA.dp r (by unfold noD at q; exact q))
  | _, _, .tup h r, q => .tup h.sq (RpA.dp r (by unfold noD at q; exact q))
  | _, _, .dct _ _ _, q => by unfold noD at q; cases q
  | _, _, .dik _ _ _ _, q => by unfold noD at q; cases q
theorem RpA.dp : ∀ {ds : List D} {vs : List V}, RpA K O H vs ds → noDA ds = true → DpAll K.fr H vs ds
  | _, _, .nil, _ => .nil
  | _, _, .cons h r, q => by
    unfold noDA at q
    rw [Bool.and_eq_true] at q
    exact .cons (Rp.dp h q.1) (RpA.dp r q.2)
end
mutual
theorem noD_lay : ∀ {d : D}, d.canLay0 = true → noD d = true
  | .none, _ => rfl
  | .bool _, _ => rfl
  | .int _, _ => rfl
  | .str _, _ => rfl
  | .list xs, q => by unfold noD; exact noDA_lay (by unfold PyData.canLay0 at q; exact q)
  | .tuple xs, q => by unfold noD; exact noDA_lay (by unfold PyData.canLay0 at q; exact q)
  | .dict _, q => by unfold PyData.canLay0 at q; cases q
theorem noDA_lay : ∀ {ds : List D}, PyData.canLayAll0 ds = true → noDA ds = true
  | [], _ => rfl
  | x :: xs, q => by
    unfold PyData.canLayAll0 at q
    rw [Bool.and_eq_true] at q
    unfold noDA
    rw [noD_lay q.1, noDA_lay q.2]
    rfl
end
theorem noD_shaped {d : D} (h : SeqAt.shaped d = true) : noD d = true := noD_lay (SeqAt.canLay_of_shaped h)
mutual
theorem noD_key : ∀ {d : D}, ND.isKey d = true → noD d = true
  | .none, _ => rfl
  | .bool _, _ => rfl
  | .int _, _ => rfl
  | .str _, _ => rfl
  | .list xs, q => by unfold ND.isKey at q; cases q
  | .tuple xs, q => by unfold noD; exact noDA_key (by unfold ND.isKey at q; exact q)
  | .dict _, q => by unfold ND.isKey at q; cases q
theorem noDA_key : ∀ {ds : List D}, ND.isKeys ds = true → noDA ds = true
  | [], _ => rfl
  | x :: xs, q => by
    unfold ND.isKeys at q
    rw [Bool.and_eq_true] at q
    unfold noDA
    rw [noD_key q.1, noDA_key q.2]
    rfl
end
theorem RpA.len : ∀ {ds : List D} {vs : List V}, RpA K O H vs ds → vs.length = ds.length
  | _, _, .nil => rfl
  | _, _, .cons _ r => by simp [r.len]
theorem RpA.get : ∀ {ds : List D} {vs : List V} {i : Nat} {d : D}, RpA K O H vs ds → ds[i]? = some d → ∃ v, vs[i]? = some v ∧ Rp K O H v d
  | _, _, i, _, .nil, e => by simp at e
  | _, _, 0, _, .cons h _, e => by
    simp at e
    subst e
    exact ⟨_, rfl, h⟩
  | _, _, i + 1, _, .cons _ r, e => by
    obtain ⟨v, h1, h2⟩ := RpA.get (i := i) r (by simpa using e)
    exact ⟨v, by simpa using h1, h2⟩
theorem RpA.getV : ∀ {ds : List D} {vs : List V} {i : Nat} {v : V}, RpA K O H vs ds → vs[i]? = some v → ∃ d, ds[i]? = some d ∧ Rp K O H v d
  | _, _, i, _, .nil, e => by simp at e
  | _, _, 0, _, .cons h _, e => by
    simp at e
    subst e
    exact ⟨_, rfl, h⟩
  | _, _, i + 1, _, .cons _ r, e => by
    obtain ⟨v, h1, h2⟩ := RpA.getV (i := i) r (by simpa using e)
    exact ⟨v, by simpa using h1, h2⟩
theorem RpA.append : ∀ {ds es : List D} {vs ws : List V}, RpA K O H vs ds → RpA K O H ws es → RpA K O H (vs ++ ws) (ds ++ es)
  | _, _, _, _, .nil, s => s
  | _, _, _, _, .cons h r, s => .cons h (RpA.append r s)
theorem RpA.one {v : V} {d : D} (h : Rp K O H v d) : RpA K O H [v] [d] := .cons h .nil
theorem RpA.set {v : V} {d : D} (h : Rp K O H v d) : ∀ {ds : List D} {vs : List V} (i : Nat), RpA K O H vs ds → RpA K O H (vs.set i v) (ds.set i d)
  | _, _, _, .nil => .nil
  | _, _, 0, .cons _ r => .cons h r
  | _, _, i + 1, .cons q r => .cons q (RpA.set h i r)
theorem RpA.map1 {O1 O2 : Addr → Prop} {H1 H2 : Hp} (h : ∀ v d, Rp K O1 H1 v d → Rp K O2 H2 v d) : ∀ {ds : List D} {vs : List V}, RpA K O1 H1 vs ds → RpA K O2 H2 vs ds
  | _, _, .nil => .nil
  | _, _, .cons q r => .cons (h _ _ q) (RpA.map1 h r)
theorem RpA.ints : ∀ {ns : List Int}, RpA K O H (ns.map V.int) (ns.map PyData.int)
  | [] => .nil
  | n :: ns => .cons (.int n) RpA.ints
theorem RpA.drop : ∀ {ds : List D} {vs : List V} (n : Nat), RpA K O H vs ds → RpA K O H (vs.drop n) (ds.drop n)
  | _, _, 0, r => r
  | _, _, _ + 1, .nil => .nil
  | _, _, n + 1, .cons _ r => RpA.drop n r
theorem RpA.take : ∀ {ds : List D} {vs : List V} (n : Nat), RpA K O H vs ds → RpA K O H (vs.take n) (ds.take n)
  | _, _, 0, _ => .nil
  | _, _, _ + 1, .nil => .nil
  | _, _, n + 1, .cons h r => .cons h (RpA.take n r)
end

/-! ### the state -/
/-- what stands in a slot: nothing that is known; data; a list of the def's own; a list of the caller's that the def changes -/
inductive Sl where
  | no | sh (d : D) | ol (ds : List D) | io (ds : List D) | od (c : Ct) | va (v : V)
abbrev Env := List Sl
/-- an activation: the heap at the entry, the addresses that belong to others, the slots that hold the caller's own lists, objects that stay, values that stay -/
structure Act where
  H0 : Hp
  FO : Addr → Prop
  io : List (Nat × Addr)
  keep : List (Addr × HO)
  pin : List (List V × List D)
def own (FO : Addr → Prop) (Ow : Nat → Option Addr) : Addr → Prop := fun a => FO a ∨ ∃ i, Ow i = some a
def RelS (K : KW) (O : Addr → Prop) (H : Hp) (io : List (Nat × Addr)) (i : Nat) (x : Option (Option V)) (w : Option Addr) : Sl → Prop
  | .no => w = none
  | .sh d => w = none ∧ ∃ v, x = some (some v) ∧ Rp K O H v d
  | .ol ds => ∃ a xs, w = some a ∧ x = some (some (.ref a)) ∧ H a = some (.lst xs) ∧ RpA K O H xs ds ∧ ∀ b, (i, b) ∉ io
  | .io ds => ∃ a xs, w = some a ∧ x = some (some (.ref a)) ∧ H a = some (.lst xs) ∧ RpA K O H xs ds ∧ (i, a) ∈ io
  | .od c => ∃ a u, w = some a ∧ x = some (some (.ref a)) ∧ H a = some u ∧ RpC K O H a u c ∧ ∀ b, (i, b) ∉ io
  | .va v => w = none ∧ x = some (some v)
structure Rel (K : KW) (A : Act) (Ow : Nat → Option Addr) (σ : L2.St) (H : Hp) (ρ : Env) : Prop where
  len : σ.length = ρ.length
  sl : ∀ i s, ρ[i]? = some s → RelS K (own A.FO Ow) H A.io i σ[i]? (Ow i) s
  out : ∀ i, ρ.length ≤ i → Ow i = none
  uniq : ∀ i j a, Ow i = some a → Ow j = some a → i = j
  kept : ∀ b o, (∀ i, (i, b) ∉ A.io) → A.H0 b = some o → H b = some o
  fo : ∀ b, A.FO b → ∃ o, H b = some o
  new : ∀ i a, Ow i = some a → A.H0 a = none ∨ (i, a) ∈ A.io
  nofo : ∀ i a, Ow i = some a → (i, a) ∈ A.io ∨ ¬ A.FO a
  io : ∀ p ∈ A.io, ∃ ds, ρ[p.1]? = some (.io ds)
  one : ∀ i a b, (i, a) ∈ A.io → (i, b) ∈ A.io → a = b
  keep : ∀ p ∈ A.keep, H p.1 = some p.2 ∧ ∀ i, Ow i ≠ some p.1
  pin : ∀ p ∈ A.pin, RpA K (own A.FO Ow) H p.1 p.2
section
variable {K : KW} {A : Act} {Ow : Nat → Option Addr} {σ : L2.St} {H H' : Hp} {ρ : Env}
theorem RelS.mono {O : Addr → Prop} {io : List (Nat × Addr)} {i : Nat} {x : Option (Option V)} {w : Option Addr} {s : Sl} (e : Stp O H H') (k : ∀ a, w = some a → ∀ u, H a = some u → H' a = some u) (h : RelS K O H io i x w s) : RelS K O H' io i x w s := by
  cases s with
  | no => exact h
  | sh d =>
    obtain ⟨h1, v, h2, h3⟩ := h
    exact ⟨h1, v, h2, h3.mono e⟩
  | ol ds =>
    obtain ⟨a, xs, h1, h2, h3, h4, h5⟩ := h
    exact ⟨a, xs, h1, h2, k a h1 _ h3, h4.mono e, h5⟩
  | io ds =>
    obtain ⟨a, xs, h1, h2, h3, h4, h5⟩ := h
    exact ⟨a, xs, h1, h2, k a h1 _ h3, h4.mono e, h5⟩
  | od c =>
    obtain ⟨a, u, h1, h2, h3, h4, h5⟩ := h
    exact ⟨a, u, h1, h2, k a h1 _ h3, h4.mono e, h5⟩
  | va v => exact h
/-- what is owned is tracked -/
theorem Rel.at (R : Rel K A Ow σ H ρ) {i : Nat} {a : Addr} (h : Ow i = some a) : ∃ u, H a = some u ∧ σ[i]? = some (some (.ref a)) := by
  by_cases hi : i < ρ.length
  · have q := R.sl i ρ[i] (List.getElem?_eq_getElem hi)
    cases e : ρ[i] with
    | no => rw [e] at q; exact absurd (show Ow i = none from q) (by rw [h]; simp)
    | sh d => rw [e] at q; exact absurd q.1 (by rw [h]; simp)
    | ol ds =>
      rw [e] at q
      obtain ⟨b, xs, h1, h2, h3, _⟩ := q
      rw [h] at h1; cases h1
      exact ⟨_, h3, h2⟩
    | io ds =>
      rw [e] at q
      obtain ⟨b, xs, h1, h2, h3, _⟩ := q
      rw [h] at h1; cases h1
      exact ⟨_, h3, h2⟩
    | od c =>
      rw [e] at q
      obtain ⟨b, u, h1, h2, h3, _⟩ := q
      rw [h] at h1; cases h1
      exact ⟨u, h3, h2⟩
    | va v => rw [e] at q; exact absurd q.1 (by rw [h]; simp)
  · rw [R.out i (by omega)] at h
    cases h
theorem Rel.tracked (R : Rel K A Ow σ H ρ) {a : Addr} (h : own A.FO Ow a) : ∃ o, H a = some o := by
  rcases h with h | ⟨i, h⟩
  · exact R.fo a h
  · obtain ⟨xs, h1, _⟩ := R.at h
    exact ⟨_, h1⟩
theorem Rel.fresh (R : Rel K A Ow σ H ρ) {p : Addr} (hp : H p = none) : ¬ own A.FO Ow p := fun z => by
  obtain ⟨o, e⟩ := R.tracked z
  rw [hp] at e
  cases e
/-- the heap grows -/
theorem Rel.ext (R : Rel K A Ow σ H ρ) (e : Same H H') : Rel K A Ow σ H' ρ where
  len := R.len
  sl := fun i s h => (R.sl i s h).mono (Stp.of e) fun a _ xs q => e a _ q
  out := R.out
  uniq := R.uniq
  kept := fun b o n h => e b o (R.kept b o n h)
  fo := fun b h => let ⟨o, q⟩ := R.fo b h; ⟨o, e b o q⟩
  new := R.new
  nofo := R.nofo
  io := R.io
  one := R.one
  keep := fun p h => ⟨e _ _ (R.keep p h).1, (R.keep p h).2⟩
  pin := fun p h => (R.pin p h).mono (Stp.of e)
theorem io_of_new (R : Rel K A Ow σ H ρ) {i : Nat} {a : Addr} (h : Ow i = some a) {b : Addr} {o : HO} (n : ∀ j, (j, b) ∉ A.io) (hb : A.H0 b = some o) : b ≠ a := fun z => by
  subst z
  rcases R.new i b h with q | q
  · rw [q] at hb; cases hb
  · exact n i q
/-- the thing of the slot i is changed (by the def or by a callee) -/
theorem Rel.mutG (R : Rel K A Ow σ H ρ) {i : Nat} {a : Addr} {o : HO} {s : Sl} (h : Ow i = some a) (e : Stp (fun b => b = a) H H') (ha : H' a = some o) (hs : RelS K (own A.FO Ow) H' A.io i σ[i]? (Ow i) s) (hio : ∀ p ∈ A.io, ∃ ds, (ρ.set i s)[p.1]? = some (.io ds)) (hi : i < ρ.length) : Rel K A Ow σ H' (ρ.set i s) := by
  have eo : Stp (own A.FO Ow) H H' := e.weak fun b z => by subst z; exact .inr ⟨i, h⟩
  refine ⟨by rw [List.length_set]; exact R.len, fun j t hj => ?_, fun j hj => R.out j (by rw [List.length_set] at hj; exact hj), R.uniq, fun b o n q => e b o (io_of_new R h n q) (R.kept b o n q), fun b q => ?_, R.new, R.nofo, hio, R.one, fun p hp => ?_, fun p hp => (R.pin p hp).mono eo⟩
  · by_cases hij : i = j
    · subst hij
      rw [List.getElem?_set_self hi] at hj
      cases hj
      exact hs
    · rw [List.getElem?_set_ne hij] at hj
      exact (R.sl j t hj).mono eo fun b hb ys q => e b _ (fun z => hij (R.uniq i j a h (z ▸ hb))) q
  · by_cases z : b = a
    · subst z; exact ⟨_, ha⟩
    · obtain ⟨o, q⟩ := R.fo b q
      exact ⟨o, e b o z q⟩
  · obtain ⟨k1, k2⟩ := R.keep p hp
    exact ⟨e _ _ (fun z => k2 i (z ▸ h)) k1, k2⟩
theorem Rel.mut (R : Rel K A Ow σ H ρ) {i : Nat} {a : Addr} {xs : List V} {cs : List D} (h : Ow i = some a) (e : Stp (fun b => b = a) H H') (ha : H' a = some (.lst xs)) (hc : RpA K (own A.FO Ow) H' xs cs) :
    (ρ[i]? = some (.ol ds) → Rel K A Ow σ H' (ρ.set i (.ol cs))) ∧ (ρ[i]? = some (.io ds) → Rel K A Ow σ H' (ρ.set i (.io cs))) := by
  have base : ∀ s : Sl, RelS K (own A.FO Ow) H' A.io i σ[i]? (Ow i) s → (∀ p ∈ A.io, ∃ ds, (ρ.set i s)[p.1]? = some (.io ds)) → i < ρ.length → Rel K A Ow σ H' (ρ.set i s) := fun s hs hio hi => R.mutG h e ha hs hio hi
  refine ⟨fun hs => ?_, fun hs => ?_⟩
  · have hi : i < ρ.length := (List.getElem?_eq_some_iff.mp hs).1
    obtain ⟨b, ys, h1, h2, h3, h4, h5⟩ := R.sl i _ hs
    rw [h] at h1; cases h1
    refine base (.ol cs) ⟨a, xs, h, h2, ha, hc, h5⟩ (fun p hp => ?_) hi
    obtain ⟨es, q⟩ := R.io p hp
    by_cases z : i = p.1
    · rw [← z, hs] at q; cases q
    · exact ⟨es, by rw [List.getElem?_set_ne z]; exact q⟩
  · have hi : i < ρ.length := (List.getElem?_eq_some_iff.mp hs).1
    obtain ⟨b, ys, h1, h2, h3, h4, h5⟩ := R.sl i _ hs
    rw [h] at h1; cases h1
    refine base (.io cs) ⟨a, xs, h, h2, ha, hc, h5⟩ (fun p hp => ?_) hi
    obtain ⟨es, q⟩ := R.io p hp
    by_cases z : i = p.1
    · exact ⟨cs, by rw [← z, List.getElem?_set_self hi]⟩
    · exact ⟨es, by rw [List.getElem?_set_ne z]; exact q⟩
/-- .. a dict -/
theorem Rel.mutD (R : Rel K A Ow σ H ρ) {i : Nat} {a : Addr} {u : HO} {c c' : Ct} (h : Ow i = some a) (e : Stp (fun b => b = a) H H') (ha : H' a = some u) (hc : RpC K (own A.FO Ow) H' a u c') (hs : ρ[i]? = some (.od c)) : Rel K A Ow σ H' (ρ.set i (.od c')) := by
  have hi : i < ρ.length := (List.getElem?_eq_some_iff.mp hs).1
  obtain ⟨b, v, h1, h2, h3, h4, h5⟩ := R.sl i _ hs
  rw [h] at h1; cases h1
  refine R.mutG h e ha ⟨a, u, h, h2, ha, hc, h5⟩ (fun p hp => ?_) hi
  obtain ⟨es, q⟩ := R.io p hp
  by_cases z : i = p.1
  · rw [← z, hs] at q; cases q
  · exact ⟨es, by rw [List.getElem?_set_ne z]; exact q⟩
/-- one slot is no more owned -/
def off (Ow : Nat → Option Addr) (i : Nat) : Nat → Option Addr := fun j => if j = i then none else Ow j
theorem off_some {Ow : Nat → Option Addr} {i j : Nat} {a : Addr} (h : off Ow i j = some a) : j ≠ i ∧ Ow j = some a := by
  unfold off at h
  by_cases z : j = i
  · rw [if_pos z] at h; cases h
  · rw [if_neg z] at h; exact ⟨z, h⟩
theorem off_ne {Ow : Nat → Option Addr} {i j : Nat} (h : j ≠ i) : off Ow i j = Ow j := by unfold off; rw [if_neg h]
theorem off_self {Ow : Nat → Option Addr} {i : Nat} : off Ow i i = none := by unfold off; rw [if_pos rfl]
theorem own_off {FO : Addr → Prop} {Ow : Nat → Option Addr} {i : Nat} : ∀ b, own FO (off Ow i) b → own FO Ow b := fun b z => by
  rcases z with z | ⟨j, z⟩
  · exact .inl z
  · exact .inr ⟨j, (off_some z).2⟩
theorem RelS.less {O O' : Addr → Prop} {io : List (Nat × Addr)} {i : Nat} {x : Option (Option V)} {w : Option Addr} {s : Sl} (k : ∀ b, O' b → O b) (h : RelS K O H io i x w s) : RelS K O' H io i x w s := by
  cases s with
  | no => exact h
  | sh d =>
    obtain ⟨h1, v, h2, h3⟩ := h
    exact ⟨h1, v, h2, h3.less k⟩
  | ol ds =>
    obtain ⟨a, xs, h1, h2, h3, h4, h5⟩ := h
    exact ⟨a, xs, h1, h2, h3, h4.less k, h5⟩
  | io ds =>
    obtain ⟨a, xs, h1, h2, h3, h4, h5⟩ := h
    exact ⟨a, xs, h1, h2, h3, h4.less k, h5⟩
  | od c =>
    obtain ⟨a, u, h1, h2, h3, h4, h5⟩ := h
    exact ⟨a, u, h1, h2, h3, h4.less k, h5⟩
  | va v => exact h
/-- the slot i gets something else (that is not owned) -/
theorem Rel.put (R : Rel K A Ow σ H ρ) {i : Nat} {x : Option V} {s : Sl} (hi : ∀ ds, ρ[i]? ≠ some (.io ds)) (hs : RelS K (own A.FO (off Ow i)) H A.io i (some x) none s) : Rel K A (off Ow i) (σ.set i x) H (ρ.set i s) where
  len := by rw [List.length_set, List.length_set]; exact R.len
  sl := fun j t hj => by
    by_cases hij : i = j
    · subst hij
      by_cases hl : i < ρ.length
      · rw [List.getElem?_set_self hl] at hj
        cases hj
        rw [List.getElem?_set_self (by rw [R.len]; exact hl), off_self]
        exact hs
      · rw [List.getElem?_eq_none (by rw [List.length_set]; omega)] at hj
        cases hj
    · rw [List.getElem?_set_ne hij] at hj
      rw [List.getElem?_set_ne hij, off_ne (Ne.symm hij)]
      exact (R.sl j t hj).less own_off
  out := fun j hj => by
    by_cases z : j = i
    · subst z; exact off_self
    · rw [off_ne z]; exact R.out j (by rw [List.length_set] at hj; exact hj)
  uniq := fun j k a h1 h2 => R.uniq j k a (off_some h1).2 (off_some h2).2
  kept := R.kept
  fo := R.fo
  new := fun j a h => R.new j a (off_some h).2
  nofo := fun j a h => R.nofo j a (off_some h).2
  io := fun p hp => by
    obtain ⟨es, q⟩ := R.io p hp
    by_cases z : i = p.1
    · rw [← z] at q; exact absurd q (hi es)
    · exact ⟨es, by rw [List.getElem?_set_ne z]; exact q⟩
  one := R.one
  keep := fun p hp => ⟨(R.keep p hp).1, fun j z => (R.keep p hp).2 j (off_some z).2⟩
  pin := fun p hp => (R.pin p hp).less own_off
/-- .. a new list of its own -/
def onn (Ow : Nat → Option Addr) (i : Nat) (p : Addr) : Nat → Option Addr := fun j => if j = i then some p else Ow j
theorem onn_self {Ow : Nat → Option Addr} {i : Nat} {p : Addr} : onn Ow i p i = some p := by unfold onn; rw [if_pos rfl]
theorem onn_ne {Ow : Nat → Option Addr} {i j : Nat} {p : Addr} (h : j ≠ i) : onn Ow i p j = Ow j := by unfold onn; rw [if_neg h]
theorem own_onn {FO : Addr → Prop} {Ow : Nat → Option Addr} {i : Nat} {p : Addr} : ∀ b, own FO (onn Ow i p) b → own FO Ow b ∨ b = p := fun b z => by
  rcases z with z | ⟨j, z⟩
  · exact .inl (.inl z)
  · by_cases k : j = i
    · subst k; rw [onn_self] at z; cases z; exact .inr rfl
    · rw [onn_ne k] at z; exact .inl (.inr ⟨j, z⟩)
/-- the def's own list is from now on read alone -/
theorem Rel.freeze (R : Rel K A Ow σ H ρ) {i : Nat} {cs : List D} (h : ρ[i]? = some (.ol cs)) : Rel K A (off Ow i) σ H (ρ.set i (.sh (.list cs))) := by
  obtain ⟨a, xs, h1, h2, h3, h4, h5⟩ := R.sl i _ h
  have hi : ∀ ds, ρ[i]? ≠ some (.io ds) := fun ds z => by rw [h] at z; cases z
  have q := R.put (i := i) (x := some (.ref a)) (s := .sh (.list cs)) hi ⟨rfl, _, rfl, .lst (.inl ⟨fun z => ?_, .inl h3⟩) (h4.less own_off)⟩
  · have hl : i < σ.length := by
      rw [R.len]
      exact (List.getElem?_eq_some_iff.mp h).1
    have es : σ.set i (some (.ref a)) = σ := by
      rw [List.getElem?_eq_some_iff] at h2
      obtain ⟨_, h2⟩ := h2
      rw [← h2]
      exact List.set_getElem_self hl
    rw [es] at q
    exact q
  · rcases z with z | ⟨j, z⟩
    · rcases R.nofo i a h1 with q | q
      · exact h5 a q
      · exact q z
    · exact (off_some z).1 (R.uniq j i a (off_some z).2 h1)
end

section
variable {K : KW} {A : Act} {Ow : Nat → Option Addr} {σ : L2.St} {H H' : Hp} {ρ : Env}
/-- the thing of the slot i is changed and no more owned -/
theorem Rel.mutOff (R : Rel K A Ow σ H ρ) {i : Nat} {a : Addr} {o : HO} {s : Sl} (h : Ow i = some a) (e : Stp (fun b => b = a) H H') (ha : H' a = some o) (hs : RelS K (own A.FO (off Ow i)) H' A.io i σ[i]? none s) (nio : ∀ b, (i, b) ∉ A.io) (hi : i < ρ.length) : Rel K A (off Ow i) σ H' (ρ.set i s) := by
  have eo : Stp (own A.FO Ow) H H' := e.weak fun b z => by subst z; exact .inr ⟨i, h⟩
  refine ⟨by rw [List.length_set]; exact R.len, fun j t hj => ?_, fun j hj => ?_, fun j k b h1 h2 => R.uniq j k b (off_some h1).2 (off_some h2).2, fun b o n q => e b o (io_of_new R h n q) (R.kept b o n q), fun b q => ?_, fun j b q => R.new j b (off_some q).2, fun j b q => R.nofo j b (off_some q).2, fun p hp => ?_, R.one, fun p hp => ?_, fun p hp => ((R.pin p hp).mono eo).less own_off⟩
  · by_cases hij : i = j
    · subst hij
      rw [List.getElem?_set_self hi] at hj
      cases hj
      rw [off_self]
      exact hs
    · rw [List.getElem?_set_ne hij] at hj
      rw [off_ne (Ne.symm hij)]
      exact ((R.sl j t hj).mono eo fun b hb ys q => e b _ (fun z => hij (R.uniq i j a h (z ▸ hb))) q).less own_off
  · rw [List.length_set] at hj
    by_cases z : j = i
    · subst z; exact off_self
    · rw [off_ne z]; exact R.out j hj
  · by_cases z : b = a
    · subst z; exact ⟨_, ha⟩
    · obtain ⟨o, q⟩ := R.fo b q
      exact ⟨o, e b o z q⟩
  · obtain ⟨es, q⟩ := R.io p hp
    by_cases z : i = p.1
    · exact absurd hp (by rw [show p = (i, p.2) from by rw [z]]; exact nio p.2)
    · exact ⟨es, by rw [List.getElem?_set_ne z]; exact q⟩
  · obtain ⟨k1, k2⟩ := R.keep p hp
    exact ⟨e _ _ (fun z => k2 i (z ▸ h)) k1, fun j z => k2 j (off_some z).2⟩
/-- the def's own dict is locked, and from now on read alone -/
theorem Rel.freezeD (R : Rel K A Ow σ H ρ) {i : Nat} {c : Ct} (h : ρ[i]? = some (.od c)) : ∃ a u, H a = some u ∧ Mut (some u) ∧ ∀ od, Rel K A (off Ow i) σ (L2.upd H a (.frz od u)) (ρ.set i (.sh c.dat)) := by
  obtain ⟨a, u, h1, h2, h3, h4, h5⟩ := R.sl i _ h
  refine ⟨a, u, h3, h4.mut, fun od => ?_⟩
  have e : Stp (fun b => b = a) H (L2.upd H a (.frz od u)) := fun b o n q => by rw [upd_ne n]; exact q
  have eo : Stp (own A.FO Ow) H (L2.upd H a (.frz od u)) := e.weak fun b z => by subst z; exact .inr ⟨i, h1⟩
  refine R.mutOff h1 e upd_same ⟨rfl, _, h2, ((h4.mono eo).less own_off).dat (fun z => ?_) upd_same⟩ h5 (List.getElem?_eq_some_iff.mp h).1
  rcases z with z | ⟨j, z⟩
  · rcases R.nofo i a h1 with q | q
    · exact h5 a q
    · exact q z
  · exact (off_some z).1 (R.uniq j i a (off_some z).2 h1)
end

/-! ### judgements: a PE whose reading speaks of data -/
abbrev DE := Env → (D → Env → Prop) → Prop
abbrev DT := Env → (Bool → Env → Prop) → Prop
abbrev DA := Env → (List D → Env → Prop) → Prop
abbrev DF := Env → (List D → Env → Prop) → Prop
structure DEnds where
  nx : Env → Prop
  rt : D → Env → Prop
  bk : Env → Prop := fun _ => False
  ct : Env → Prop := fun _ => False
  rf : List D → Env → Prop := fun _ _ => False
abbrev DS := DEnds → Env → Prop
/-- p belongs to others -/
def Act.fo (A : Act) (p : Addr) : Act := { A with FO := fun b => A.FO b ∨ b = p }
/-- p is new: it was not there at the entry, nobody holds it -/
structure Nw (A : Act) (Ow : Nat → Option Addr) (p : Addr) : Prop where
  h0 : A.H0 p = none
  no : ¬ own A.FO Ow p
  kp : ∀ q ∈ A.keep, q.1 ≠ p
def lam (K : KW) (te : DE) : TE := fun σ H Q => ∃ A Ow ρ R, Rel K A Ow σ H ρ ∧ te ρ R ∧ ∀ v H' d ρ', Stp (own A.FO Ow) H H' → Rel K A Ow σ H' ρ' → Rp K (own A.FO Ow) H' v d → R d ρ' → Q v H'
def lamT (K : KW) (tt : DT) : TT := fun σ H Q => ∃ A Ow ρ R, Rel K A Ow σ H ρ ∧ tt ρ R ∧ ∀ b H' ρ', Stp (own A.FO Ow) H H' → Rel K A Ow σ H' ρ' → R b ρ' → Q b H'
def lamA (K : KW) (ta : DA) : TA := fun σ H Q => ∃ A Ow ρ R, Rel K A Ow σ H ρ ∧ ta ρ R ∧ ∀ vs H' ds ρ', Stp (own A.FO Ow) H H' → Rel K A Ow σ H' ρ' → RpA K (own A.FO Ow) H' vs ds → R ds ρ' → Q vs H'
/-- a new list -/
def lamF (K : KW) (tf : DF) : TE := fun σ H Q => ∃ A Ow ρ R, Rel K A Ow σ H ρ ∧ tf ρ R ∧ ∀ p H' xs cs ρ', (Stp (own A.FO Ow) H H' ∧ H p = none) → Nw A Ow p → H' p = some (.lst xs) → Rel K (A.fo p) Ow σ H' ρ' → RpA K (own (A.fo p).FO Ow) H' xs cs → R cs ρ' → Q (.ref p) H'
def lamS (K : KW) (ts : DS) : TS := fun D σ H => ∃ A Ow ρ DD, Rel K A Ow σ H ρ ∧ ts DD ρ ∧ (∀ Ow' σ' H' ρ', Rel K A Ow' σ' H' ρ' → DD.nx ρ' → D.nx σ' H') ∧ (∀ Ow' σ' H' ρ', Rel K A Ow' σ' H' ρ' → DD.bk ρ' → D.bk σ' H') ∧
  (∀ Ow' σ' H' ρ', Rel K A Ow' σ' H' ρ' → DD.ct ρ' → D.ct σ' H') ∧ ((∀ Ow' σ' H' ρ' v d, Rel K A Ow' σ' H' ρ' → Rp K (own A.FO Ow') H' v d → DD.rt d ρ' → D.rt v H') ∧
  ∀ Ow' σ' H' ρ' p xs cs, Nw A Ow' p → H' p = some (.lst xs) → Rel K (A.fo p) Ow' σ' H' ρ' → RpA K (own (A.fo p).FO Ow') H' xs cs → DD.rf cs ρ' → D.rt (.ref p) H')
def QE (X : Cx) (e : Expr) (te : DE) : Prop := PE X e (lam (kx X) te)
def QT (X : Cx) (e : Expr) (tt : DT) : Prop := PT X e (lamT (kx X) tt)
def QW (X : Cx) (e : Expr) (tt : DT) : Prop := PW X e (lamT (kx X) tt)
def QA (X : Cx) (es : List Expr) (ta : DA) : Prop := PA X es (lamA (kx X) ta)
def QF (X : Cx) (e : Expr) (tf : DF) : Prop := PE X e (lamF (kx X) tf)
def QS (X : Cx) (st : Stmt) (ts : DS) : Prop := PS X st (lamS (kx X) ts)
def QSs (X : Cx) (st : List Stmt) (ts : DS) : Prop := PSs X st (lamS (kx X) ts)
section
variable {X : Cx} {e : Expr}
theorem pe_less {t t' : TE} (h : PE X e t) (k : ∀ σ H Q, t' σ H Q → t σ H Q) : PE X e t' := ⟨fun pins s σ H Q I q => h.run pins s σ H Q I (k σ H Q q)⟩
theorem pt_less {t t' : TT} (h : PT X e t) (k : ∀ σ H Q, t' σ H Q → t σ H Q) : PT X e t' := ⟨fun pins s σ H Q I q => h.run pins s σ H Q I (k σ H Q q)⟩
theorem pw_less {t t' : TT} (h : PW X e t) (k : ∀ σ H Q, t' σ H Q → t σ H Q) : PW X e t' := ⟨fun wh pins s σ H Q I q => h.run wh pins s σ H Q I (k σ H Q q)⟩
theorem pa_less {es : List Expr} {t t' : TA} (h : PA X es t) (k : ∀ σ H Q, t' σ H Q → t σ H Q) : PA X es t' := ⟨fun pos pins s σ H Q I q => h.run pos pins s σ H Q I (k σ H Q q)⟩
theorem ps_less {st : Stmt} {t t' : TS} (h : PS X st t) (k : ∀ D σ H, t' D σ H → t D σ H) : PS X st t' := ⟨fun pins s σ H D I q => h.run pins s σ H D I (k D σ H q)⟩
theorem pss_less {st : List Stmt} {t t' : TS} (h : PSs X st t) (k : ∀ D σ H, t' D σ H → t D σ H) : PSs X st t' := ⟨fun pins s σ H D I q => h.run pins s σ H D I (k D σ H q)⟩
end

/-! ### the primitive steps of the state -/
section
variable {K : KW} {A : Act} {Ow : Nat → Option Addr} {σ : L2.St} {H H' : Hp} {ρ : Env}
theorem own_fo {p : Addr} : ∀ b, own (A.fo p).FO Ow b → own A.FO Ow b ∨ b = p := fun b z => by
  rcases z with (z | z) | z
  · exact .inl (.inl z)
  · exact .inr z
  · exact .inl (.inr z)
theorem own_fo' {p : Addr} : ∀ b, own A.FO Ow b → own (A.fo p).FO Ow b := fun b z => by
  rcases z with z | z
  · exact .inl (.inl z)
  · exact .inr z
/-- a new object p; p is to be nobody's -/
theorem Rel.alloc (R : Rel K A Ow σ H ρ) {p : Addr} (hp : H p = none) (e : Same H H') (ht : ∃ o, H' p = some o) : Rel K (A.fo p) Ow σ H' ρ where
  len := R.len
  sl := fun i s h => by
    have q := R.sl i s h
    cases s with
    | no => exact q
    | sh d =>
      obtain ⟨h1, v, h2, h3⟩ := q
      exact ⟨h1, v, h2, (h3.more hp own_fo).mono (Stp.of e)⟩
    | ol ds =>
      obtain ⟨a, xs, h1, h2, h3, h4, h5⟩ := q
      exact ⟨a, xs, h1, h2, e _ _ h3, (h4.more hp own_fo).mono (Stp.of e), h5⟩
    | io ds =>
      obtain ⟨a, xs, h1, h2, h3, h4, h5⟩ := q
      exact ⟨a, xs, h1, h2, e _ _ h3, (h4.more hp own_fo).mono (Stp.of e), h5⟩
    | od c =>
      obtain ⟨a, u, h1, h2, h3, h4, h5⟩ := q
      exact ⟨a, u, h1, h2, e _ _ h3, (h4.more hp own_fo).mono (Stp.of e), h5⟩
    | va v => exact q
  out := R.out
  uniq := R.uniq
  kept := fun b o n h => e b o (R.kept b o n h)
  fo := fun b h => by
    rcases h with h | h
    · obtain ⟨o, q⟩ := R.fo b h
      exact ⟨o, e b o q⟩
    · subst h; exact ht
  new := R.new
  nofo := fun i a h => by
    rcases R.nofo i a h with q | q
    · exact .inl q
    · refine .inr fun z => ?_
      rcases z with z | z
      · exact q z
      · subst z
        obtain ⟨_, k, _⟩ := R.at h
        rw [hp] at k; cases k
  io := R.io
  one := R.one
  keep := fun p h => ⟨e _ _ (R.keep p h).1, (R.keep p h).2⟩
  pin := fun q h => ((R.pin q h).more hp own_fo).mono (Stp.of e)
theorem Rel.unfo {p : Addr} (R : Rel K (A.fo p) Ow σ H ρ) : Rel K A Ow σ H ρ where
  len := R.len
  sl := fun i s h => (R.sl i s h).less own_fo'
  out := R.out
  uniq := R.uniq
  kept := R.kept
  fo := fun b h => R.fo b (.inl h)
  new := R.new
  nofo := fun i a h => (R.nofo i a h).imp id fun q z => q (.inl z)
  io := R.io
  one := R.one
  keep := R.keep
  pin := fun q h => (R.pin q h).less own_fo'
/-- a new list that nobody holds goes into the slot i -/
theorem own_fo_onn {i : Nat} {p : Addr} : ∀ b, own A.FO (onn Ow i p) b → own (A.fo p).FO Ow b := fun b z => by
  rcases own_onn b z with z | z
  · exact own_fo' b z
  · exact .inl (.inr z)
theorem Rel.noio {p : Addr} (R : Rel K (A.fo p) Ow σ H ρ) {i : Nat} (hi : ∀ ds, ρ[i]? ≠ some (.io ds)) : ∀ b, (i, b) ∉ A.io := fun b hb => by
  obtain ⟨ds, q⟩ := R.io _ hb
  exact hi ds q
theorem Rel.takeG {p : Addr} (R : Rel K (A.fo p) Ow σ H ρ) {i : Nat} {s : Sl} (hi : ∀ ds, ρ[i]? ≠ some (.io ds)) (hl : i < ρ.length) (np : Nw A Ow p) (hs : RelS K (own A.FO (onn Ow i p)) H A.io i (some (some (.ref p))) (some p) s) :
    Rel K A (onn Ow i p) (σ.set i (some (.ref p))) H (ρ.set i s) := by
  have lessO : ∀ b, own A.FO (onn Ow i p) b → own (A.fo p).FO Ow b := own_fo_onn
  have hp := np.no
  have hn := np.h0
  have np' : ∀ j, Ow j ≠ some p := fun j z => hp (.inr ⟨j, z⟩)
  have hio : ∀ b, (i, b) ∉ A.io := fun b hb => by
    obtain ⟨ds, q⟩ := R.io _ hb
    exact hi ds q
  refine ⟨by rw [List.length_set, List.length_set]; exact R.len, fun j t hj => ?_, fun j hj => ?_, fun j k a h1 h2 => ?_, R.kept, fun b h => R.fo b (.inl h), fun j a h => ?_, fun j a h => ?_, fun q hq => ?_, R.one, fun q hq => ⟨(R.keep q hq).1, fun j z => ?_⟩, fun q hq => (R.pin q hq).less lessO⟩
  · by_cases hij : i = j
    · subst hij
      rw [List.getElem?_set_self hl] at hj
      cases hj
      rw [List.getElem?_set_self (by rw [R.len]; exact hl), onn_self]
      exact hs
    · rw [List.getElem?_set_ne hij] at hj
      rw [List.getElem?_set_ne hij, onn_ne (Ne.symm hij)]
      exact (R.sl j t hj).less lessO
  · rw [List.length_set] at hj
    rw [onn_ne (by omega)]
    exact R.out j hj
  · by_cases z1 : j = i
    · by_cases z2 : k = i
      · rw [z1, z2]
      · rw [z1, onn_self] at h1
        cases h1
        rw [onn_ne z2] at h2
        exact (np' k h2).elim
    · by_cases z2 : k = i
      · rw [z2, onn_self] at h2
        cases h2
        rw [onn_ne z1] at h1
        exact (np' j h1).elim
      · rw [onn_ne z1] at h1
        rw [onn_ne z2] at h2
        exact R.uniq j k a h1 h2
  · by_cases z : j = i
    · subst z; rw [onn_self] at h; cases h; exact .inl hn
    · rw [onn_ne z] at h; exact R.new j a h
  · by_cases z : j = i
    · subst z; rw [onn_self] at h; cases h
      exact .inr fun q => hp (.inl q)
    · rw [onn_ne z] at h
      exact (R.nofo j a h).imp id fun q z => q (.inl z)
  · obtain ⟨es, q'⟩ := R.io q hq
    by_cases z : i = q.1
    · rw [← z] at q'; exact absurd q' (hi es)
    · exact ⟨es, by rw [List.getElem?_set_ne z]; exact q'⟩
  · by_cases k : j = i
    · subst k
      rw [onn_self] at z
      exact np.kp q hq (Option.some.inj z).symm
    · rw [onn_ne k] at z; exact (R.keep q hq).2 j z
theorem Rel.take {p : Addr} (R : Rel K (A.fo p) Ow σ H ρ) {i : Nat} {xs : List V} {cs : List D} (hi : ∀ ds, ρ[i]? ≠ some (.io ds)) (hl : i < ρ.length) (np : Nw A Ow p) (ha : H p = some (.lst xs)) (hc : RpA K (own (A.fo p).FO Ow) H xs cs) :
    Rel K A (onn Ow i p) (σ.set i (some (.ref p))) H (ρ.set i (.ol cs)) := R.takeG hi hl np ⟨p, xs, rfl, rfl, ha, hc.less own_fo_onn, R.noio hi⟩
theorem Rel.takeD {p : Addr} (R : Rel K (A.fo p) Ow σ H ρ) {i : Nat} {u : HO} {c : Ct} (hi : ∀ ds, ρ[i]? ≠ some (.io ds)) (hl : i < ρ.length) (np : Nw A Ow p) (ha : H p = some u) (hc : RpC K (own (A.fo p).FO Ow) H p u c) :
    Rel K A (onn Ow i p) (σ.set i (some (.ref p))) H (ρ.set i (.od c)) := R.takeG hi hl np ⟨p, u, rfl, rfl, ha, hc.less own_fo_onn, R.noio hi⟩
theorem Rel.nw (R : Rel K A Ow σ H ρ) {p : Addr} (hp : H p = none) : Nw A Ow p where
  h0 := by
    cases q : A.H0 p with
    | none => rfl
    | some o =>
      by_cases h : ∃ i, (i, p) ∈ A.io
      · obtain ⟨i, h⟩ := h
        obtain ⟨ds, e⟩ := R.io _ h
        obtain ⟨a, xs, h1, h2, h3, h4, h5⟩ := R.sl i _ e
        have z := R.one i a p h5 h
        rw [z, hp] at h3
        cases h3
      · have z := R.kept p o (fun i hi => h ⟨i, hi⟩) q
        rw [hp] at z
        cases z
  no := R.fresh hp
  kp := fun q hq z => by
    have k := (R.keep q hq).1
    rw [z, hp] at k
    cases k
theorem Rel.pins (R : Rel K A Ow σ H ρ) {P : List (List V × List D)} (h : ∀ p ∈ P, RpA K (own A.FO Ow) H p.1 p.2) : Rel K { A with pin := P ++ A.pin } Ow σ H ρ :=
  ⟨R.len, R.sl, R.out, R.uniq, R.kept, R.fo, R.new, R.nofo, R.io, R.one, R.keep, fun p hp => (List.mem_append.mp hp).elim (h p) (R.pin p)⟩
theorem Rel.unpin {P : List (List V × List D)} (R : Rel K { A with pin := P ++ A.pin } Ow σ H ρ) : Rel K A Ow σ H ρ :=
  ⟨R.len, R.sl, R.out, R.uniq, R.kept, R.fo, R.new, R.nofo, R.io, R.one, R.keep, fun p hp => R.pin p (List.mem_append_right _ hp)⟩
theorem Rel.nil (R : Rel K A Ow σ H ρ) : Rel K { A with pin := [] ++ A.pin } Ow σ H ρ := R.pins fun _ z => nomatch z
/-- what is new is data as well -/
theorem Nw.rp {p : Addr} {xs : List V} {cs : List D} (n : Nw A Ow p) (h : H p = some (.lst xs)) (hc : RpA K (own (A.fo p).FO Ow) H xs cs) : Rp K (own A.FO Ow) H (.ref p) (.list cs) :=
  .lst (.inl ⟨n.no, .inl h⟩) (hc.less own_fo')
theorem Same.new {p : Addr} {o : HO} (h : H p = none) : Same H (upd H p o) := fun b u e => by
  rw [upd_ne (ne_of_none e h)]
  exact e
end

/-! ### expressions -/
section
variable {X : Cx} {e : Expr} {pos : Pos}
def dVar (i : Nat) : DE := fun ρ Q => match ρ[i]? with
  | some (.sh d) => Q d ρ
  | _ => False
theorem qe_var (i : Nat) {x : Str} (hN : X.N[i]? = some x := by rfl) (hv : Vis X.env.scope x := by first | exact Or.inl rfl | exact Or.inr (Or.inl rfl) | exact Or.inr (Or.inr rfl)) (hd : (x == ("__debug__" : Str)) = false := by decide)
    (hcd : (x == ("__classdict__" : Str)) = false := by decide) : QE X (.Name x pos) (dVar i) := pe_less (pv i hN hv hd hcd) fun σ H Q ⟨A, Ow, ρ, R, rel, h, k⟩ => by
  unfold dVar at h
  split at h
  · rename_i d hs
    obtain ⟨_, v, h1, h2⟩ := rel.sl i _ hs
    exact ⟨v, h1, k v H d ρ Stp.refl rel h2 h⟩
  · exact h.elim
def dC (d : D) : DE := fun ρ Q => Q d ρ
theorem qe_cst {v : V} {d : D} (h : PE X e (tC v)) (r : ∀ K O H, Rp K O H v d) : QE X e (dC d) := pe_less h fun σ H Q ⟨A, Ow, ρ, R, rel, h, k⟩ => k v H d ρ Stp.refl rel (r _ _ _) h
theorem qe_int {i j} : QE X (.Constant (.int i) j pos) (dC (.int i)) := qe_cst pe_int fun _ _ _ => .int i
theorem qe_bl {b j} : QE X (.Constant (.bool b) j pos) (dC (.bool b)) := qe_cst pe_bl fun _ _ _ => .bl b
theorem qe_non {j} : QE X (.Constant .none j pos) (dC .none) := qe_cst pe_non fun _ _ _ => .non
theorem qe_str {x j} : QE X (.Constant (.str x) j pos) (dC (.str x)) := qe_cst pe_str fun _ _ _ => .str x
/-- operations on values: r on values, rd on data -/
def Lift2 (K : KW) (r : R2) (rd : D → D → (D → Prop) → Prop) : Prop := ∀ (O : Addr → Prop) (H : Hp) (x y : V) (d e : D) (R : D → Prop) (Q : VK), (∀ a, O a → ∃ o, H a = some o) → Rp K O H x d → Rp K O H y e → rd d e R → (∀ v H' z, Same H H' → Rp K O H' v z → R z → Q v H') → r x y H Q
def Lift1 (K : KW) (r : V → Hp → VK → Prop) (rd : D → (D → Prop) → Prop) : Prop := ∀ (O : Addr → Prop) (H : Hp) (x : V) (d : D) (R : D → Prop) (Q : VK), (∀ a, O a → ∃ o, H a = some o) → Rp K O H x d → rd d R → (∀ v H' z, Same H H' → Rp K O H' v z → R z → Q v H') → r x H Q
def LiftC (K : KW) (r : List V → Hp → VK → Prop) (rd : List D → (D → Prop) → Prop) : Prop := ∀ (O : Addr → Prop) (H : Hp) (xs : List V) (ds : List D) (R : D → Prop) (Q : VK), (∀ a, O a → ∃ o, H a = some o) → RpA K O H xs ds → rd ds R → (∀ v H' z, Same H H' → Rp K O H' v z → R z → Q v H') → r xs H Q
def dOp (rd : D → D → (D → Prop) → Prop) (ta tb : DE) : DE := fun ρ Q => ta ρ fun d ρ1 => tb ρ1 fun e ρ2 => rd d e fun z => Q z ρ2
theorem lam_op {r : R2} {rd : D → D → (D → Prop) → Prop} {ta tb : DE} {K : KW} (hr : Lift2 K r rd) (σ : L2.St) (H : Hp) (Q : VK) : lam K (dOp rd ta tb) σ H Q → tOp r (lam K ta) (lam K tb) σ H Q := fun ⟨A, Ow, ρ, R, rel, h, k⟩ =>
  ⟨A, Ow, ρ, _, rel, h, fun x H1 d ρ1 e1 rel1 rp1 h1 => ⟨A, Ow, ρ1, _, rel1, h1, fun y H2 e ρ2 e2 rel2 rp2 h2 =>
    hr (own A.FO Ow) H2 x y d e _ Q (fun a ha => rel2.tracked ha) (rp1.mono e2) rp2 h2 fun v H3 z e3 rp3 q3 => k v H3 z ρ2 ((e1.trans e2).trans (Stp.of e3)) (rel2.ext e3) rp3 q3⟩⟩
theorem qe_op {op : Operator} {r : R2} {rd : D → D → (D → Prop) → Prop} {a b : Expr} {ta tb : DE} (ho : OpR X (binaryOp op) r) (hr : Lift2 (kx X) r rd) (ha : QE X a ta) (hb : QE X b tb) : QE X (.BinOp a op b pos) (dOp rd ta tb) := pe_less (pe_op ho ha hb) (lam_op hr)
theorem qe_cmpR {op : CmpOp} {r : R2} {rd : D → D → (D → Prop) → Prop} {a b : Expr} {ta tb : DE} (ho : OpR X (compareOp op) r) (hr : Lift2 (kx X) r rd) (ha : QE X a ta) (hb : QE X b tb) (hm : behindInMarks op b = false) : QE X (.Compare a [op] [b] pos) (dOp rd ta tb) := pe_less (pe_cmpR ho ha hb hm) (lam_op hr)
def dTest (te : DE) : DT := fun ρ Q => te ρ fun d ρ' => ∃ b, d = .bool b ∧ Q b ρ'
theorem rp_bool {K : KW} {O : Addr → Prop} {H : Hp} {v : V} {b : Bool} (h : Rp K O H v (.bool b)) : v = .bl b := by cases h; rfl
theorem rp_int {K : KW} {O : Addr → Prop} {H : Hp} {v : V} {i : Int} (h : Rp K O H v (.int i)) : v = .int i := by cases h; rfl
theorem rp_str {K : KW} {O : Addr → Prop} {H : Hp} {v : V} {x : Str} (h : Rp K O H v (.str x)) : v = .str x := by cases h; rfl
theorem rp_non {K : KW} {O : Addr → Prop} {H : Hp} {v : V} (h : Rp K O H v .none) : v = .non := by cases h; rfl
theorem lam_test {te : DE} {K : KW} (σ : L2.St) (H : Hp) (Q : Bool → Hp → Prop) : lamT K (dTest te) σ H Q → (lam K te) σ H fun x H' => ∃ k, x = .bl k ∧ Q k H' := fun ⟨A, Ow, ρ, R, rel, h, k⟩ =>
  ⟨A, Ow, ρ, _, rel, h, fun v H' d ρ' e' rel' rp' ⟨b, hb, h'⟩ => ⟨b, rp_bool (hb ▸ rp'), k b H' ρ' e' rel' h'⟩⟩
theorem qt_cmpR {op : CmpOp} {r : R2} {rd : D → D → (D → Prop) → Prop} {a b : Expr} {ta tb : DE} (ho : OpR X (compareOp op) r) (hr : Lift2 (kx X) r rd) (ha : QE X a ta) (hb : QE X b tb) (hm : behindInMarks op b = false) : QT X (.Compare a [op] [b] pos) (dTest (dOp rd ta tb)) :=
  pt_less (pt_cmpR ho ha hb hm) fun σ H Q h => by
    obtain ⟨A, Ow, ρ, R, rel, h, k⟩ := lam_test σ H Q h
    exact lam_op hr σ H _ ⟨A, Ow, ρ, R, rel, h, k⟩
theorem qt_val {te : DE} (h : QE X e te) (he : ∀ whole, isTrue e X.env whole = (do let v ← whole; standAt e.pos; holding [v] (truthy v)) := by intro _; rfl) : QT X e (dTest te) := pt_less (pt_val h he) lam_test
theorem qe_un {op : UnaryOp} {a : Expr} {ta : DE} {r : V → Hp → VK → Prop} {rd : D → (D → Prop) → Prop} (ho : UnR X (unaryOp op) r) (hr : Lift1 (kx X) r rd) (ha : QE X a ta) : QE X (.UnaryOp op a pos) (fun ρ Q => ta ρ fun d ρ1 => rd d fun z => Q z ρ1) :=
  pe_less (pe_un ho ha) fun σ H Q ⟨A, Ow, ρ, R, rel, h, k⟩ => ⟨A, Ow, ρ, _, rel, h, fun x H1 d ρ1 e1 rel1 rp1 h1 =>
    hr (own A.FO Ow) H1 x d _ Q (fun a ha => rel1.tracked ha) rp1 h1 fun v H3 z e3 rp3 q3 => k v H3 z ρ1 (e1.trans (Stp.of e3)) (rel1.ext e3) rp3 q3⟩
/-! and, or, not, if -/
def dAnd (t u : DT) : DT := fun ρ Q => t ρ fun c ρ1 => (c = true → u ρ1 Q) ∧ (c = false → Q false ρ1)
def dOr (t u : DT) : DT := fun ρ Q => t ρ fun c ρ1 => (c = true → Q true ρ1) ∧ (c = false → u ρ1 Q)
def dNot (t : DT) : DT := fun ρ Q => t ρ fun c ρ1 => Q (!c) ρ1
variable {a b : Expr} {rest : List Expr} {t u : DT} {ta tb : DE}
theorem qw_and1 (ha : QT X a t) : QW X (.BoolOp .And [a] pos) t := pw_and1 ha
theorem qw_or1 (ha : QT X a t) : QW X (.BoolOp .Or [a] pos) t := pw_or1 ha
theorem qw_and (ha : QT X a t) (hb : QW X (.BoolOp .And (b :: rest) pos) u) : QW X (.BoolOp .And (a :: b :: rest) pos) (dAnd t u) := pw_less (pw_and ha hb) fun σ H Q ⟨A, Ow, ρ, R, rel, h, k⟩ =>
  ⟨A, Ow, ρ, _, rel, h, fun c H1 ρ1 e1 rel1 ⟨h1, h2⟩ => by
    cases c with
    | true => exact (if_pos rfl).mpr ⟨A, Ow, ρ1, R, rel1, h1 rfl, fun b H2 ρ2 e2 rel2 h2 => k b H2 ρ2 (e1.trans e2) rel2 h2⟩
    | false => exact (if_neg Bool.false_ne_true).mpr (k false H1 ρ1 e1 rel1 (h2 rfl))⟩
theorem qw_or (ha : QT X a t) (hb : QW X (.BoolOp .Or (b :: rest) pos) u) : QW X (.BoolOp .Or (a :: b :: rest) pos) (dOr t u) := pw_less (pw_or ha hb) fun σ H Q ⟨A, Ow, ρ, R, rel, h, k⟩ =>
  ⟨A, Ow, ρ, _, rel, h, fun c H1 ρ1 e1 rel1 ⟨h1, h2⟩ => by
    cases c with
    | true => exact (if_pos rfl).mpr (k true H1 ρ1 e1 rel1 (h1 rfl))
    | false => exact (if_neg Bool.false_ne_true).mpr ⟨A, Ow, ρ1, R, rel1, h2 rfl, fun b H2 ρ2 e2 rel2 h2 => k b H2 ρ2 (e1.trans e2) rel2 h2⟩⟩
theorem qt_bool (h : QW X e t) : QT X e t := PW.pt h
theorem qt_not (ha : QT X a t) : QT X (.UnaryOp .Not a pos) (dNot t) := pt_less (pt_not ha) fun σ H Q ⟨A, Ow, ρ, R, rel, h, k⟩ =>
  ⟨A, Ow, ρ, _, rel, h, fun c H1 ρ1 e1 rel1 h1 => k (!c) H1 ρ1 e1 rel1 h1⟩
/-- as values (bools) -/
def dAndV (ta tb : DE) : DE := fun ρ Q => ta ρ fun d ρ1 => ∃ c, d = .bool c ∧ (c = true → tb ρ1 Q) ∧ (c = false → Q (.bool false) ρ1)
def dOrV (ta tb : DE) : DE := fun ρ Q => ta ρ fun d ρ1 => ∃ c, d = .bool c ∧ (c = true → Q (.bool true) ρ1) ∧ (c = false → tb ρ1 Q)
def dNotV (ta : DE) : DE := fun ρ Q => ta ρ fun d ρ1 => ∃ c, d = .bool c ∧ Q (.bool !c) ρ1
theorem qe_one {op} (h : QE X a ta) : QE X (.BoolOp op [a] pos) ta := pe_one h
theorem qe_and (ha : QE X a ta) (hb : QE X (.BoolOp .And (b :: rest) pos) tb) : QE X (.BoolOp .And (a :: b :: rest) pos) (dAndV ta tb) := pe_less (pe_and ha hb) fun σ H Q ⟨A, Ow, ρ, R, rel, h, k⟩ =>
  ⟨A, Ow, ρ, _, rel, h, fun x H1 d ρ1 e1 rel1 rp1 ⟨c, hc, h1, h2⟩ => ⟨c, rp_bool (hc ▸ rp1), by
    cases c with
    | true => exact (if_pos rfl).mpr ⟨A, Ow, ρ1, R, rel1, h1 rfl, fun v H2 z ρ2 e2 rel2 rp2 h2 => k v H2 z ρ2 (e1.trans e2) rel2 rp2 h2⟩
    | false => exact (if_neg Bool.false_ne_true).mpr (k _ H1 _ ρ1 e1 rel1 (.bl false) (h2 rfl))⟩⟩
theorem qe_or (ha : QE X a ta) (hb : QE X (.BoolOp .Or (b :: rest) pos) tb) : QE X (.BoolOp .Or (a :: b :: rest) pos) (dOrV ta tb) := pe_less (pe_or ha hb) fun σ H Q ⟨A, Ow, ρ, R, rel, h, k⟩ =>
  ⟨A, Ow, ρ, _, rel, h, fun x H1 d ρ1 e1 rel1 rp1 ⟨c, hc, h1, h2⟩ => ⟨c, rp_bool (hc ▸ rp1), by
    cases c with
    | true => exact (if_pos rfl).mpr (k _ H1 _ ρ1 e1 rel1 (.bl true) (h1 rfl))
    | false => exact (if_neg Bool.false_ne_true).mpr ⟨A, Ow, ρ1, R, rel1, h2 rfl, fun v H2 z ρ2 e2 rel2 rp2 h2 => k v H2 z ρ2 (e1.trans e2) rel2 rp2 h2⟩⟩⟩
theorem qe_not (ha : QE X a ta) : QE X (.UnaryOp .Not a pos) (dNotV ta) := pe_less (pe_not ha) fun σ H Q ⟨A, Ow, ρ, R, rel, h, k⟩ =>
  ⟨A, Ow, ρ, _, rel, h, fun x H1 d ρ1 e1 rel1 rp1 ⟨c, hc, h1⟩ => ⟨c, rp_bool (hc ▸ rp1), k _ H1 _ ρ1 e1 rel1 (.bl _) h1⟩⟩
def dIf (t : DT) (ta tb : DE) : DE := fun ρ Q => t ρ fun c ρ1 => (c = true → ta ρ1 Q) ∧ (c = false → tb ρ1 Q)
theorem qe_if {c : Expr} (hc : QT X c t) (ha : QE X a ta) (hb : QE X b tb) : QE X (.IfExp c a b pos) (dIf t ta tb) := pe_less (pe_ifExp hc ha hb) fun σ H Q ⟨A, Ow, ρ, R, rel, h, k⟩ =>
  ⟨A, Ow, ρ, _, rel, h, fun c H1 ρ1 e1 rel1 ⟨h1, h2⟩ => by
    cases c with
    | true => exact (if_pos rfl).mpr ⟨A, Ow, ρ1, R, rel1, h1 rfl, fun v H2 z ρ2 e2 rel2 rp2 h2 => k v H2 z ρ2 (e1.trans e2) rel2 rp2 h2⟩
    | false => exact (if_neg Bool.false_ne_true).mpr ⟨A, Ow, ρ1, R, rel1, h2 rfl, fun v H2 z ρ2 e2 rel2 rp2 h2 => k v H2 z ρ2 (e1.trans e2) rel2 rp2 h2⟩⟩
/-! lists of arguments, tuples, lists -/
def dNil : DA := fun ρ Q => Q [] ρ
def dCons (ta : DE) (tr : DA) : DA := fun ρ Q => ta ρ fun d ρ1 => tr ρ1 fun ds ρ2 => Q (d :: ds) ρ2
theorem qa_nil : QA X [] dNil := pa_less pa_nil fun σ H Q ⟨A, Ow, ρ, R, rel, h, k⟩ => k [] H [] ρ Stp.refl rel .nil h
theorem qa_cons {es : List Expr} {tr : DA} (ha : QE X a ta) (hr : QA X es tr) (hs : starEach (a :: es) X.env = (false, eval a X.env) :: starEach es X.env := by rfl) : QA X (a :: es) (dCons ta tr) := pa_less (pa_cons ha hr hs) fun σ H Q ⟨A, Ow, ρ, R, rel, h, k⟩ =>
  ⟨A, Ow, ρ, _, rel, h, fun x H1 d ρ1 e1 rel1 rp1 h1 => ⟨A, Ow, ρ1, _, rel1, h1, fun xs H2 ds ρ2 e2 rel2 rp2 h2 => k _ H2 _ ρ2 (e1.trans e2) rel2 (.cons (rp1.mono e2) rp2) h2⟩⟩
def dTup (ta : DA) : DE := fun ρ Q => ta ρ fun ds ρ1 => ds.length ≤ sizeLine ∧ Q (.tuple ds) ρ1
/-- a tuple is locked from the start -/
def tTupF (t : TA) : TE := fun σ H Q => t σ H fun xs H1 => xs.length ≤ sizeLine ∧ ∀ p (o : Obj), H1 p = none → o.dict = none → Q (.ref p) (L2.upd H1 p (.frz o (.tup xs)))
theorem pe_tupF {es : List Expr} {x1} {t : TA} (h : PA X es t) : PE X (.Tuple es x1 pos) (tTupF t) := by
  refine ⟨fun pins s σ H Q I hq => ?_⟩
  refine wpAny_Tuple_spliced (thn (h.run pos pins s σ H _ I hq) fun us s1 ⟨xs, H1, I1, r, z, q⟩ => ⟨by rw [← r.length]; exact z, ?_⟩)
  have hf : H1 s1.heap.objs.size = none := I1.hok.fresh (Nat.le_refl _)
  refine ⟨.ref s1.heap.objs.size, L2.upd H1 s1.heap.objs.size (.frz { cls := .type "tuple", data := .seq us.toArray } (.tup xs)), I1.laid (t' := s1.toks) (fun b u e => Heap.get?_push_of_some _ e) (Nat.le_refl _) ?_, rfl, q _ _ hf rfl⟩
  exact ⟨Heap.get?_push_size _ rfl, z, us, r, ⟨_, Heap.get?_push_size _ rfl, rfl, _, rfl⟩⟩
theorem Rel.newT {K : KW} {A : Act} {Ow : Nat → Option Addr} {σ : L2.St} {H : Hp} {ρ : Env} {p : Addr} {o : Obj} {xs : List V} {ds : List D} (rel : Rel K A Ow σ H ρ) (hp : H p = none) (hd : o.dict = none) (r : RpA K (own A.FO Ow) H xs ds) : Rp K (own A.FO Ow) (L2.upd H p (.frz o (.tup xs))) (.ref p) (.tuple ds) :=
  .tup (.inl ⟨rel.fresh hp, o, hd, upd_same⟩) (r.mono (Stp.of (Same.new hp)))
theorem qe_tup {es : List Expr} {x1} {ta : DA} (h : QA X es ta) : QE X (.Tuple es x1 pos) (dTup ta) := pe_less (pe_tupF h) fun σ H Q ⟨A, Ow, ρ, R, rel, h, k⟩ =>
  ⟨A, Ow, ρ, _, rel, h, fun xs H1 ds ρ1 e1 rel1 rp1 ⟨h1, h2⟩ => ⟨by rw [rp1.len]; exact h1, fun p o hp hd =>
    k _ _ _ ρ1 (e1.trans (Stp.of (Same.new hp))) (rel1.ext (Same.new hp)) (rel1.newT hp hd rp1) h2⟩⟩
def dLst (ta : DA) : DF := fun ρ Q => ta ρ fun ds ρ1 => ds.length ≤ sizeLine ∧ Q ds ρ1
theorem qf_lst {es : List Expr} {ta : DA} (h : QA X es ta) : QF X (.List es pos) (dLst ta) := pe_less (pe_lst h) fun σ H Q ⟨A, Ow, ρ, R, rel, h, k⟩ =>
  ⟨A, Ow, ρ, _, rel, h, fun xs H1 ds ρ1 e1 rel1 rp1 ⟨h1, h2⟩ => ⟨by rw [rp1.len]; exact h1, fun p hp =>
    k p _ xs ds ρ1 ⟨e1.trans (Stp.of (Same.new hp)), e1.nil0 (rel1.fresh hp) hp⟩ (rel1.nw hp) upd_same (rel1.alloc hp (Same.new hp) ⟨_, upd_same⟩) ((rp1.more hp own_fo).mono (Stp.of (Same.new hp))) h2⟩⟩
/-- a new list as a value -/
def dFr (tf : DF) : DE := fun ρ Q => tf ρ fun ds ρ1 => Q (.list ds) ρ1
theorem qe_fr {tf : DF} (h : QF X e tf) : QE X e (dFr tf) := pe_less h fun σ H Q ⟨A, Ow, ρ, R, rel, h, k⟩ =>
  ⟨A, Ow, ρ, _, rel, h, fun p H1 xs cs ρ1 e1 n hp rel1 rp1 h1 => k _ H1 _ ρ1 e1.1 rel1.unfo (n.rp hp rp1) h1⟩
/-! calls of what is known -/
def dCB (rd : List D → (D → Prop) → Prop) (ta : DA) : DE := fun ρ Q => ta ρ fun ds ρ1 => rd ds fun z => Q z ρ1
theorem lam_cb {r : List V → Hp → VK → Prop} {rd : List D → (D → Prop) → Prop} {ta : DA} {K : KW} (hr : LiftC K r rd) (σ : L2.St) (H : Hp) (Q : VK) : lam K (dCB rd ta) σ H Q → tCB r (lamA K ta) σ H Q := fun ⟨A, Ow, ρ, R, rel, h, k⟩ =>
  ⟨A, Ow, ρ, _, rel, h, fun xs H1 ds ρ1 e1 rel1 rp1 h1 => hr (own A.FO Ow) H1 xs ds _ Q (fun a ha => rel1.tracked ha) rp1 h1 fun v H3 z e3 rp3 q3 => k v H3 z ρ1 (e1.trans (Stp.of e3)) (rel1.ext e3) rp3 q3⟩
theorem qe_callB {id : String} {r : List V → Hp → VK → Prop} {rd : List D → (D → Prop) → Prop} {x : Str} {es : List Expr} {ta : DA} {p : Pos} (hc : CallR X (.builtin id) r) (hr : LiftC (kx X) r rd) (hg : Gl X x) (hm : X.mg x = none) (hv : bootBuiltins x = some (.builtin id)) (ha : QA X (e :: es) ta) (hn : x ≠ "__name__" := by decide) (hdb : (x == ("__debug__" : Str)) = false := by decide)
    (he : starEach (e :: es) X.env = (false, eval e X.env) :: starEach es X.env := by rfl) (hpl : (backTo pos (starEach es X.env)).any (·.1) = false := by rfl) : QE X (.Call (.Name x p) (e :: es) [] pos) (dCB rd ta) := pe_less (pe_callB hc hg hm hv ha hn hdb he hpl) (lam_cb hr)
theorem qe_callTy {T : String} {r : List V → Hp → VK → Prop} {rd : List D → (D → Prop) → Prop} {x : Str} {es : List Expr} {ta : DA} {p : Pos} (hc : CallR X (.type T) r) (hr : LiftC (kx X) r rd) (hg : Gl X x) (hm : X.mg x = none) (hv : bootBuiltins x = some (.type T)) (ha : QA X (e :: es) ta) (hn : x ≠ "__name__" := by decide) (hdb : (x == ("__debug__" : Str)) = false := by decide)
    (he : starEach (e :: es) X.env = (false, eval e X.env) :: starEach es X.env := by rfl) (hpl : (backTo pos (starEach es X.env)).any (·.1) = false := by rfl) : QE X (.Call (.Name x p) (e :: es) [] pos) (dCB rd ta) := pe_less (pe_callTy hc hg hm hv ha hn hdb he hpl) (lam_cb hr)
/-! subscripts -/
def dIxR (d e : D) (R : D → Prop) : Prop := match d, e with
  | .list xs, .int i => ∃ z, atI xs i = some z ∧ R z
  | .tuple xs, .int i => ∃ z, atI xs i = some z ∧ R z
  | .str z, .int i => z.length ≤ sizeLine ∧ ∃ c, atI z.cps.toList i = some c ∧ R (.str ⟨#[c]⟩)
  | _, _ => False
theorem atI_len {α β : Type} {xs : List α} {ys : List β} {i : Int} {y : β} (h : xs.length = ys.length) (hy : atI ys i = some y) : ∃ j : Nat, ixN ys.length i = some j ∧ ys[j]? = some y ∧ atI xs i = xs[j]? := by
  unfold atI at hy
  cases q : ixN ys.length i with
  | none => rw [q] at hy; cases hy
  | some j =>
    rw [q] at hy
    refine ⟨j, rfl, hy, ?_⟩
    unfold atI
    rw [h, q]
    rfl
theorem RpA.at {K : KW} {O : Addr → Prop} {H : Hp} {xs : List V} {ds : List D} {i : Int} {d : D} (r : RpA K O H xs ds) (h : atI ds i = some d) : ∃ v, atI xs i = some v ∧ Rp K O H v d := by
  obtain ⟨j, h1, h2, h3⟩ := atI_len r.len h
  obtain ⟨v, h4, h5⟩ := r.get h2
  exact ⟨v, by rw [h3]; exact h4, h5⟩
theorem lift_ix {K : KW} : Lift2 K (rIx K.fr) dIxR := fun O H x y d e R Q _ hx hy h k => by
  cases hx with
  | lst hs ha =>
    cases hy with
    | int i =>
      obtain ⟨z, h1, h2⟩ := h
      obtain ⟨v, h3, h4⟩ := ha.at h1
      exact .inl ⟨_, _, i, v, rfl, rfl, hs.sq, h3, k v H z (Same.refl H) h4 h2⟩
    | _ => exact h.elim
  | tup hs ha =>
    cases hy with
    | int i =>
      obtain ⟨z, h1, h2⟩ := h
      obtain ⟨v, h3, h4⟩ := ha.at h1
      exact .inr (.inl ⟨_, _, i, v, rfl, rfl, hs.sq, h3, k v H z (Same.refl H) h4 h2⟩)
    | _ => exact h.elim
  | str z =>
    cases hy with
    | int i =>
      obtain ⟨h0, c, h1, h2⟩ := h
      exact .inr (.inr ⟨z, i, c, rfl, rfl, h0, h1, k _ H _ (Same.refl H) (.str _) h2⟩)
    | _ => exact h.elim
  | _ => cases hy <;> exact h.elim
theorem qe_ix (ha : QE X a ta) (hb : QE X b tb) (hs : PlainIx b := by exact fun _ _ => rfl) : QE X (.Subscript a b pos) (dOp dIxR ta tb) := pe_less (pe_ix ix_seq ha hb hs) (lam_op lift_ix)
/-! lists of the def's own -/
def ownedAt (ρ : Env) (i : Nat) : Option (List D) := match ρ[i]? with
  | some (.ol cs) => some cs
  | some (.io cs) => some cs
  | _ => none
def putOwned (ρ : Env) (i : Nat) (cs : List D) : Env := match ρ[i]? with
  | some (.ol _) => ρ.set i (.ol cs)
  | some (.io _) => ρ.set i (.io cs)
  | _ => ρ
theorem Rel.owned {K : KW} {A : Act} {Ow : Nat → Option Addr} {σ : L2.St} {H : Hp} {ρ : Env} {i : Nat} {cs : List D} (R : Rel K A Ow σ H ρ) (h : ownedAt ρ i = some cs) : ∃ a xs, Ow i = some a ∧ σ[i]? = some (some (.ref a)) ∧ H a = some (.lst xs) ∧ RpA K (own A.FO Ow) H xs cs ∧
    ∀ H' xs' cs', Stp (fun b => b = a) H H' → H' a = some (.lst xs') → RpA K (own A.FO Ow) H' xs' cs' → Rel K A Ow σ H' (putOwned ρ i cs') := by
  unfold ownedAt at h
  split at h
  · rename_i ds hs
    cases h
    obtain ⟨a, xs, h1, h2, h3, h4, _⟩ := R.sl i _ hs
    refine ⟨a, xs, h1, h2, h3, h4, fun H' xs' cs' e ha hc => ?_⟩
    unfold putOwned
    rw [hs]
    exact (R.mut h1 e ha hc).1 hs
  · rename_i ds hs
    cases h
    obtain ⟨a, xs, h1, h2, h3, h4, _⟩ := R.sl i _ hs
    refine ⟨a, xs, h1, h2, h3, h4, fun H' xs' cs' e ha hc => ?_⟩
    unfold putOwned
    rw [hs]
    exact (R.mut h1 e ha hc).2 hs
  · cases h
theorem Stp.upd {p : Addr} {H : Hp} {o : HO} : Stp (fun b => b = p) H (L2.upd H p o) := fun b u n h => by
  rw [upd_ne n]
  exact h
theorem stp_own {A : Act} {Ow : Nat → Option Addr} {i : Nat} {a : Addr} {H H' : Hp} (h : Ow i = some a) (e : Stp (fun b => b = a) H H') : Stp (own A.FO Ow) H H' := e.weak fun b z => by subst z; exact .inr ⟨i, h⟩
/-- x[i], x a list of its own -/
def dIxO (i : Nat) (tb : DE) : DE := fun ρ Q => (ownedAt ρ i).isSome = true ∧ tb ρ fun e ρ1 => ∃ cs k z, ownedAt ρ1 i = some cs ∧ e = .int k ∧ atI cs k = some z ∧ Q z ρ1
theorem qe_ixO (i : Nat) {x : Str} {p : Pos} (hb : QE X b tb) (hN : X.N[i]? = some x := by rfl) (hv : Vis X.env.scope x := by first | exact Or.inl rfl | exact Or.inr (Or.inl rfl) | exact Or.inr (Or.inr rfl)) (hd : (x == ("__debug__" : Str)) = false := by decide)
    (hcd : (x == ("__classdict__" : Str)) = false := by decide) (hs : PlainIx b := by exact fun _ _ => rfl) : QE X (.Subscript (.Name x p) b pos) (dIxO i tb) := by
  refine pe_less (pe_ix ix_seq (pv i hN hv hd hcd) hb hs) fun σ H Q ⟨A, Ow, ρ, R, rel, ⟨h0, h⟩, k⟩ => ?_
  obtain ⟨cs0, e0⟩ := Option.isSome_iff_exists.mp h0
  obtain ⟨a, xs, h1, h2, h3, h4, _⟩ := rel.owned e0
  refine ⟨.ref a, h2, A, Ow, ρ, _, rel, h, fun y H2 e ρ2 e2 rel2 rp2 ⟨cs, j, z, g1, g2, g3, g4⟩ => ?_⟩
  subst g2
  cases rp2
  obtain ⟨a', xs', k1, k2, k3, k4, _⟩ := rel2.owned g1
  rw [h1] at k1
  cases k1
  obtain ⟨v, q1, q2⟩ := k4.at g3
  exact .inl ⟨a, xs', j, v, rfl, rfl, SqL.of k3, q1, k v H2 z ρ2 e2 rel2 q2 g4⟩
/-! calls of the program's own defs -/
/-- from data to data -/
def spD (K : KW) (P : List D → (D → Prop) → Prop) : Sp := fun vs H Q _ => ∃ (O : Addr → Prop) (ds : List D) (R : D → Prop), RpA K O H vs ds ∧ (∀ a, O a → ∃ o, H a = some o) ∧ P ds R ∧ ∀ v H' d, Same H H' → Rp K O H' v d → R d → Q v H'
/-- .. that returns a new list -/
def spF (K : KW) (P : List D → (List D → Prop) → Prop) : Sp := fun vs H Q _ => ∃ (O : Addr → Prop) (ds : List D) (R : List D → Prop), RpA K O H vs ds ∧ (∀ a, O a → ∃ o, H a = some o) ∧ P ds R ∧
  ∀ p H' xs cs, Same H H' → H p = none → H' p = some (.lst xs) → RpA K (fun b => O b ∨ b = p) H' xs cs → R cs → Q (.ref p) H'
/-- .. that changes the list that is its first argument -/
def spI (K : KW) (P : List D → List D → (D → List D → Prop) → Prop) : Sp := fun vs H Q _ => ∃ (O : Addr → Prop) (a : Addr) (xs : List V) (cs : List D) (vs' : List V) (ds : List D) (R : D → List D → Prop), vs = .ref a :: vs' ∧ O a ∧ H a = some (.lst xs) ∧ RpA K O H xs cs ∧ RpA K O H vs' ds ∧
  (∀ a, O a → ∃ o, H a = some o) ∧ P cs ds R ∧ ∀ v H' xs' cs' d, Stp (fun b => b = a) H H' → H' a = some (.lst xs') → RpA K O H' xs' cs' → Rp K O H' v d → R d cs' → Q v H'
/-- .. and returns a new list -/
def spJ (K : KW) (P : List D → List D → (List D → List D → Prop) → Prop) : Sp := fun vs H Q _ => ∃ (O : Addr → Prop) (a : Addr) (xs : List V) (cs : List D) (vs' : List V) (ds : List D) (R : List D → List D → Prop), vs = .ref a :: vs' ∧ O a ∧ H a = some (.lst xs) ∧ RpA K O H xs cs ∧ RpA K O H vs' ds ∧
  (∀ a, O a → ∃ o, H a = some o) ∧ P cs ds R ∧ ∀ p H' ys es xs' cs', Stp (fun b => b = a) H H' → H p = none → H' p = some (.lst ys) → RpA K (fun b => O b ∨ b = p) H' ys es → H' a = some (.lst xs') → RpA K (fun b => O b ∨ b = p) H' xs' cs' → R es cs' → Q (.ref p) H'
/-- a def that may be called -/
structure Cal (P : Program) (w : World) (K : PySem.W.Frag) (mg : Str → Option Value) (base : Heap) (x : Str) (k : Nat) (sp : Sp) : Prop where
  ex : ∃ (f : Addr) (fd : FuncData) (ps : List Str), mg x = some (.ref f) ∧ PySem.W.keepIn K (.ref f) = true ∧ Binds K fd ps [] ∧ FnOk P w K mg base CX0 k f fd ps sp
theorem pe_cal {x : Str} {k : Nat} {sp : Sp} {es : List Expr} {t : TA} {p : Pos} (C : Cal X.prog X.w X.K X.mg X.base x k sp) (hr : Room k X.A) (hg : Gl X x) (ha : PA X (e :: es) t) (hdb : (x == ("__debug__" : Str)) = false := by decide)
    (he : starEach (e :: es) X.env = (false, eval e X.env) :: starEach es X.env := by rfl) (hpl : (backTo pos (starEach es X.env)).any (·.1) = false := by rfl) : PE X (.Call (.Name x p) (e :: es) [] pos) (fun σ H Q => t σ H fun vs H1 => sp vs H1 Q E0) := by
  obtain ⟨f, fd, ps, h1, h2, h3, h4⟩ := C.ex
  refine pe_less (pe_call (dvs := []) h4 hr hg h1 h2 h3 .nil pass0 ha hdb he hpl) fun σ H Q h => ?_
  show t σ H fun vs H1 => sp (vs ++ []) H1 Q E0
  have e : (fun vs H1 => sp (vs ++ []) H1 Q E0) = (fun vs H1 => sp vs H1 Q E0) := by
    funext vs H1
    rw [List.append_nil]
  rw [e]
  exact h
def dCall (P : List D → (D → Prop) → Prop) (ta : DA) : DE := fun ρ Q => ta ρ fun ds ρ1 => P ds fun z => Q z ρ1
theorem qe_call {x : Str} {k : Nat} {P : List D → (D → Prop) → Prop} {es : List Expr} {ta : DA} {p : Pos} (C : Cal X.prog X.w X.K X.mg X.base x k (spD (kx X) P)) (hr : Room k X.A) (hg : Gl X x) (ha : QA X (e :: es) ta) (hdb : (x == ("__debug__" : Str)) = false := by decide)
    (he : starEach (e :: es) X.env = (false, eval e X.env) :: starEach es X.env := by rfl) (hpl : (backTo pos (starEach es X.env)).any (·.1) = false := by rfl) : QE X (.Call (.Name x p) (e :: es) [] pos) (dCall P ta) :=
  pe_less (pe_cal C hr hg ha hdb he hpl) fun σ H Q ⟨A, Ow, ρ, R, rel, h, k⟩ => ⟨A, Ow, ρ, _, rel, h, fun vs H1 ds ρ1 e1 rel1 rp1 h1 =>
    ⟨own A.FO Ow, ds, _, rp1, fun a ha => rel1.tracked ha, h1, fun v H' d e2 rp2 h2 => k v H' d ρ1 (e1.trans (Stp.of e2)) (rel1.ext e2) rp2 h2⟩⟩
def dCallF (P : List D → (List D → Prop) → Prop) (ta : DA) : DF := fun ρ Q => ta ρ fun ds ρ1 => P ds fun z => Q z ρ1
theorem own_or {A : Act} {Ow : Nat → Option Addr} {p : Addr} : ∀ b, own (A.fo p).FO Ow b → (own A.FO Ow b ∨ b = p) := own_fo
theorem own_or' {A : Act} {Ow : Nat → Option Addr} {p : Addr} : ∀ b, (own A.FO Ow b ∨ b = p) → own (A.fo p).FO Ow b := fun b z => by
  rcases z with (z | z) | z
  · exact .inl (.inl z)
  · exact .inr z
  · exact .inl (.inr z)
theorem qf_call {x : Str} {k : Nat} {P : List D → (List D → Prop) → Prop} {es : List Expr} {ta : DA} {p : Pos} (C : Cal X.prog X.w X.K X.mg X.base x k (spF (kx X) P)) (hr : Room k X.A) (hg : Gl X x) (ha : QA X (e :: es) ta) (hdb : (x == ("__debug__" : Str)) = false := by decide)
    (he : starEach (e :: es) X.env = (false, eval e X.env) :: starEach es X.env := by rfl) (hpl : (backTo pos (starEach es X.env)).any (·.1) = false := by rfl) : QF X (.Call (.Name x p) (e :: es) [] pos) (dCallF P ta) :=
  pe_less (pe_cal C hr hg ha hdb he hpl) fun σ H Q ⟨A, Ow, ρ, R, rel, h, k⟩ => ⟨A, Ow, ρ, _, rel, h, fun vs H1 ds ρ1 e1 rel1 rp1 h1 =>
    ⟨own A.FO Ow, ds, _, rp1, fun a ha => rel1.tracked ha, h1, fun p H' xs cs e2 hp h3 rp2 h2 => k p H' xs cs ρ1 ⟨e1.trans (Stp.of e2), e1.nil0 (rel1.fresh hp) hp⟩ (rel1.nw hp) h3 (rel1.alloc hp e2 ⟨_, h3⟩) (rp2.less own_or) h2⟩⟩
/-- f(x, ..), x a list of its own that f changes -/
def dCallI (P : List D → List D → (D → List D → Prop) → Prop) (i : Nat) (ta : DA) : DE := fun ρ Q => (ownedAt ρ i).isSome = true ∧ ta ρ fun ds ρ1 => ∃ cs, ownedAt ρ1 i = some cs ∧ P cs ds fun z cs' => Q z (putOwned ρ1 i cs')
theorem pa_consV (i : Nat) {x : Str} {p : Pos} {es : List Expr} {tr : TA} (hr : PA X es tr) (hN : X.N[i]? = some x) (hv : Vis X.env.scope x) (hd : (x == ("__debug__" : Str)) = false) (hcd : (x == ("__classdict__" : Str)) = false) (hs : starEach (.Name x p :: es) X.env = (false, eval (.Name x p) X.env) :: starEach es X.env) :
    PA X (.Name x p :: es) (tCons (tVar i) tr) := pa_cons (pv i hN hv hd hcd) hr hs
theorem qe_callI (i : Nat) {x y : Str} {k : Nat} {P : List D → List D → (D → List D → Prop) → Prop} {es : List Expr} {ta : DA} {p py : Pos} (C : Cal X.prog X.w X.K X.mg X.base x k (spI (kx X) P)) (hr : Room k X.A) (hg : Gl X x) (ha : QA X es ta)
    (hN : X.N[i]? = some y := by rfl) (hv : Vis X.env.scope y := by first | exact Or.inl rfl | exact Or.inr (Or.inl rfl) | exact Or.inr (Or.inr rfl)) (hd : (y == ("__debug__" : Str)) = false := by decide) (hcd : (y == ("__classdict__" : Str)) = false := by decide)
    (hdb : (x == ("__debug__" : Str)) = false := by decide) (he : starEach (.Name y py :: es) X.env = (false, eval (.Name y py) X.env) :: starEach es X.env := by rfl) (hpl : (backTo pos (starEach es X.env)).any (·.1) = false := by rfl) : QE X (.Call (.Name x p) (.Name y py :: es) [] pos) (dCallI P i ta) := by
  refine pe_less (pe_cal C hr hg (pa_consV i ha hN hv hd hcd he) hdb he hpl) fun σ H Q ⟨A, Ow, ρ, R, rel, ⟨h0, h⟩, k⟩ => ?_
  obtain ⟨cs0, e0⟩ := Option.isSome_iff_exists.mp h0
  obtain ⟨a, xs, h1, h2, h3, h4, _⟩ := rel.owned e0
  refine ⟨.ref a, h2, A, Ow, ρ, _, rel, h, fun vs H1 ds ρ1 e1 rel1 rp1 ⟨cs, g1, g2⟩ => ?_⟩
  obtain ⟨a', xs', k1, k2, k3, k4, k5⟩ := rel1.owned g1
  rw [h1] at k1
  cases k1
  exact ⟨own A.FO Ow, a, xs', cs, vs, ds, _, rfl, .inr ⟨i, h1⟩, k3, k4, rp1, fun a ha => rel1.tracked ha, g2, fun v H' ys cs' d e2 ha hc rp2 h2 =>
    k v H' d _ (e1.trans (stp_own h1 e2)) (k5 H' ys cs' e2 ha hc) rp2 h2⟩
end

/-! ### statements -/
section
variable {X : Cx} {e : Expr} {st : Stmt} {rest : List Stmt} {pos : Pos} {te : DE} {tf : DF} {t u : DS}
def dNext : DS := fun D ρ => D.nx ρ
def dSeq (t u : DS) : DS := fun D ρ => t { D with nx := u D } ρ
theorem qss_nil : QSs X [] dNext := pss_less pss_nil fun D σ H ⟨A, Ow, ρ, DD, rel, h, n, _⟩ => n _ _ _ _ rel h
theorem lam_seq {K : KW} (D : Ends) (σ : L2.St) (H : Hp) : lamS K (dSeq t u) D σ H → tSeq (lamS K t) (lamS K u) D σ H := fun ⟨A, Ow, ρ, DD, rel, h, n, b, c, r⟩ =>
  ⟨A, Ow, ρ, _, rel, h, fun Ow' σ' H' ρ' rel' h' => ⟨A, Ow', ρ', DD, rel', h', n, b, c, r⟩, b, c, r⟩
theorem qss_cons (h1 : QS X st t) (h2 : QSs X rest u) : QSs X (st :: rest) (dSeq t u) := pss_less (pss_cons h1 h2) lam_seq
theorem qss_one (h1 : QS X st t) : QSs X [st] t := pss_one h1
/-- from here on the list in the slot i is read alone -/
def dFz (i : Nat) (t : DS) : DS := fun D ρ => match ρ[i]? with
  | some (.ol cs) => t D (ρ.set i (.sh (.list cs)))
  | _ => False
theorem qss_fz (i : Nat) (h : QSs X rest t) : QSs X rest (dFz i t) := pss_less h fun D σ H ⟨A, Ow, ρ, DD, rel, h, n, b, c, r⟩ => by
  unfold dFz at h
  split at h
  · rename_i cs hs
    exact ⟨A, off Ow i, _, DD, rel.freeze hs, h, n, b, c, r⟩
  · exact h.elim
/-- is not a list of the caller's -/
def noIo (ρ : Env) (i : Nat) : Prop := match ρ[i]? with
  | some (.io _) => False
  | none => False
  | _ => True
theorem noIo.ne {ρ : Env} {i : Nat} (h : noIo ρ i) : ∀ ds, ρ[i]? ≠ some (.io ds) := fun ds q => by
  unfold noIo at h
  rw [q] at h
  exact h
theorem noIo.lt {ρ : Env} {i : Nat} (h : noIo ρ i) : i < ρ.length := by
  by_cases q : i < ρ.length
  · exact q
  · unfold noIo at h
    rw [List.getElem?_eq_none (by omega)] at h
    exact h.elim
/-- targets -/
abbrev DG := D → Env → (Env → Prop) → Prop
abbrev DGs := List D → Env → (Env → Prop) → Prop
def lamG (K : KW) (g : DG) : TG := fun v σ H Q => ∃ A Ow ρ R d, Rel K A Ow σ H ρ ∧ Rp K (own A.FO Ow) H v d ∧ g d ρ R ∧ ∀ Ow' σ' H' ρ', Rel K A Ow' σ' H' ρ' → (∀ w z, Rp K (own A.FO Ow) H w z → Rp K (own A.FO Ow') H' w z) → R ρ' → Q σ' H'
def lamGs (K : KW) (g : DGs) : TGs := fun vs σ H Q => ∃ A Ow ρ R ds, Rel K A Ow σ H ρ ∧ RpA K (own A.FO Ow) H vs ds ∧ g ds ρ R ∧ ∀ Ow' σ' H' ρ', Rel K A Ow' σ' H' ρ' → (∀ w z, Rp K (own A.FO Ow) H w z → Rp K (own A.FO Ow') H' w z) → R ρ' → Q σ' H'
def QG (X : Cx) (tg : Expr) (g : DG) : Prop := PG X tg (lamG (kx X) g)
def QGs (X : Cx) (tg : List Expr) (g : DGs) : Prop := PGs X tg (lamGs (kx X) g)
theorem pg_less {tg : Expr} {t t' : TG} (h : PG X tg t) (k : ∀ v σ H Q, t' v σ H Q → t v σ H Q) : PG X tg t' := ⟨fun pins s σ H v u Q I r q => h.run pins s σ H v u Q I r (k v σ H Q q)⟩
theorem pgs_less {tg : List Expr} {t t' : TGs} (h : PGs X tg t) (k : ∀ v σ H Q, t' v σ H Q → t v σ H Q) : PGs X tg t' := ⟨fun pins s σ H v u Q I r q => h.run pins s σ H v u Q I r (k v σ H Q q)⟩
def gN (i : Nat) : DG := fun d ρ Q => noIo ρ i ∧ Q (ρ.set i (.sh d))
theorem qg_name (i : Nat) {x : Str} {p : Pos} (hN : X.N.Nodup) (hi : X.N[i]? = some x := by rfl) (hx : Loc X.env.scope x := by first | exact Or.inl rfl | exact Or.inr rfl) (hf : X.fn x = true ∨ X.env.scope.names.lookup x = some .local := by first | exact .inl rfl | exact .inr rfl) : QG X (.Name x p) (gN i) :=
  pg_less (pg_name (i := i) hN hi hx hf) fun v σ H Q ⟨A, Ow, ρ, R, d, rel, rp, ⟨h0, h⟩, k⟩ => k (off Ow i) _ H _ (rel.put (s := .sh d) h0.ne ⟨rfl, v, rfl, rp.less own_off⟩) (fun w z q => q.less own_off) h
def gs0 : DGs := fun ds ρ Q => ds = [] ∧ Q ρ
def gsC (g : DG) (r : DGs) : DGs := fun ds ρ Q => match ds with
  | d :: es => g d ρ fun ρ1 => r es ρ1 Q
  | [] => False
theorem qgs_nil : QGs X [] gs0 := pgs_less pgs_nil fun vs σ H Q ⟨A, Ow, ρ, R, ds, rel, rp, ⟨h0, h⟩, k⟩ => by
  subst h0
  cases rp
  exact ⟨rfl, k _ _ _ _ rel (fun _ _ q => q) h⟩
theorem qgs_cons {tg : Expr} {es : List Expr} {g : DG} {r : DGs} (h1 : QG X tg g) (h2 : QGs X es r) (hs : (assignEach (tg :: es) X.env).map (·.2) = assign tg X.env :: (assignEach es X.env).map (·.2) := by rfl) : QGs X (tg :: es) (gsC g r) :=
  pgs_less (pgs_cons h1 h2 hs) fun vs σ H Q ⟨A, Ow, ρ, R, ds, rel, rp, h, k⟩ => by
    cases rp with
    | nil => exact h.elim
    | cons r1 r2 =>
      exact ⟨_, _, rfl, A, Ow, ρ, _, _, rel, r1, h, fun Ow1 σ1 H1 ρ1 rel1 m1 h1 => ⟨A, Ow1, ρ1, _, _, rel1, r2.map1 m1, h1, fun Ow2 σ2 H2 ρ2 rel2 m2 h2 => k Ow2 σ2 H2 ρ2 rel2 (fun w z q => m2 w z (m1 w z q)) h2⟩⟩
def gT (g : DGs) (n : Nat) : DG := fun d ρ Q => match d with
  | .tuple ds => ds.length = n ∧ g ds ρ Q
  | _ => False
theorem lam_gT {K : KW} {g : DGs} {n : Nat} (v : V) (σ : L2.St) (H : Hp) (Q : L2.St → Hp → Prop) : lamG K (gT g n) v σ H Q → gTup K.fr n (lamGs K g) v σ H Q := fun ⟨A, Ow, ρ, R, d, rel, rp, h, k⟩ => by
  cases rp with
  | tup hs ha =>
    obtain ⟨h1, h2⟩ := h
    exact ⟨_, _, rfl, hs.sq, by rw [ha.len]; exact h1, A, Ow, ρ, _, _, rel, ha, h2, k⟩
  | _ => exact h.elim
theorem qg_tup {es : List Expr} {k : Nat} {g : DGs} {n : Nat} {p : Pos} (hc : X.calm = true) (h : QGs X es g) (hn : (assignEach es X.env).length = n := by rfl) (hst : (assignEach es X.env).findIdx? (·.1) = none := by rfl) : QG X (.Tuple es k p) (gT g n) := pg_less (pg_tup hc h hn hst) lam_gT
def dAsg (te : DE) (g : DG) : DS := fun D ρ => te ρ fun d ρ1 => g d ρ1 D.nx
theorem lam_asg {K : KW} {te : DE} {g : DG} (D : Ends) (σ : L2.St) (H : Hp) : lamS K (dAsg te g) D σ H → tAsg (lam K te) (lamG K g) D σ H := fun ⟨A, Ow, ρ, DD, rel, h, n, b, c, r⟩ =>
  ⟨A, Ow, ρ, _, rel, h, fun v H' d ρ' e' rel' rp' h' => ⟨A, Ow, ρ', _, d, rel', rp', h', fun Ow' σ' H' ρ' rel' _ h' => n Ow' σ' H' ρ' rel' h'⟩⟩
theorem qs_asg {tg : Expr} {g : DG} (he : QE X e te) (hg : QG X tg g) (hs : swapsWithSole [tg] e pos.line X.env = pure false := by rfl) (hw : swappedStores [tg] e X.env = pure none := by rfl) (h1 : (assignEach [tg] X.env).map (·.2) = [assign tg X.env] := by rfl) : QS X (.Assign [tg] e pos) (dAsg te g) :=
  ps_less (ps_asg he hg hs hw h1) lam_asg
theorem qs_set (i : Nat) {x : Str} {p : Pos} (hN : X.N.Nodup) (he : QE X e te) (hi : X.N[i]? = some x := by rfl) (hx : Loc X.env.scope x := by first | exact Or.inl rfl | exact Or.inr rfl) (hs : swapsWith e (some (.Name x p)) pos.line X.env = pure false := by rfl) (hf : X.fn x = true ∨ X.env.scope.names.lookup x = some .local := by first | exact .inl rfl | exact .inr rfl) : QS X (.Assign [.Name x p] e pos) (dAsg te (gN i)) :=
  ps_less (ps_set (i := i) hN hi hx he hs hf) fun D σ H ⟨A, Ow, ρ, DD, rel, h, n, b, c, r⟩ => ⟨A, Ow, ρ, _, rel, h, fun v H' d ρ' e' rel' rp' ⟨h0, h'⟩ => n (off Ow i) _ H' _ (rel'.put (s := .sh d) h0.ne ⟨rfl, v, rfl, rp'.less own_off⟩) h'⟩
/-- x = a new list, from now on of its own -/
def dOwn (tf : DF) (i : Nat) : DS := fun D ρ => tf ρ fun cs ρ1 => noIo ρ1 i ∧ D.nx (ρ1.set i (.ol cs))
theorem qs_own (i : Nat) {x : Str} {p : Pos} (hN : X.N.Nodup) (he : QF X e tf) (hi : X.N[i]? = some x := by rfl) (hx : Loc X.env.scope x := by first | exact Or.inl rfl | exact Or.inr rfl) (hs : swapsWith e (some (.Name x p)) pos.line X.env = pure false := by rfl) (hf : X.fn x = true ∨ X.env.scope.names.lookup x = some .local := by first | exact .inl rfl | exact .inr rfl) : QS X (.Assign [.Name x p] e pos) (dOwn tf i) :=
  ps_less (ps_set (i := i) hN hi hx he hs hf) fun D σ H ⟨A, Ow, ρ, DD, rel, h, n, b, c, r⟩ => ⟨A, Ow, ρ, _, rel, h, fun p H' xs cs ρ' e' nw hp rel' rp' ⟨h0, h'⟩ => n (onn Ow i p) _ H' _ (rel'.take h0.ne h0.lt nw hp rp') h'⟩
def dRet (te : DE) : DS := fun D ρ => te ρ D.rt
theorem qs_ret (he : QE X e te) : QS X (.Return (some e) pos) (dRet te) := ps_less (ps_ret he) fun D σ H ⟨A, Ow, ρ, DD, rel, h, n, b, c, r⟩ => ⟨A, Ow, ρ, _, rel, h, fun v H' d ρ' e' rel' rp' h' => r.1 Ow σ H' ρ' v d rel' rp' h'⟩
/-- a new list is returned -/
def dRetF (tf : DF) : DS := fun D ρ => tf ρ D.rf
theorem qs_retF (he : QF X e tf) : QS X (.Return (some e) pos) (dRetF tf) := ps_less (ps_ret he) fun D σ H ⟨A, Ow, ρ, DD, rel, h, n, b, c, r⟩ => ⟨A, Ow, ρ, _, rel, h, fun p H' xs cs ρ' e' nw hp rel' rp' h' => r.2 Ow σ H' ρ' p xs cs nw hp rel' rp' h'⟩
/-- the def's own list is returned -/
def dRetO (i : Nat) : DS := fun D ρ => ∃ cs, ρ[i]? = some (.ol cs) ∧ D.rf cs (ρ.set i .no)
theorem Rel.give {K : KW} {A : Act} {Ow : Nat → Option Addr} {σ : L2.St} {H : Hp} {ρ : Env} (R : Rel K A Ow σ H ρ) {i : Nat} {cs : List D} (h : ρ[i]? = some (.ol cs)) : ∃ p xs, σ[i]? = some (some (.ref p)) ∧ Nw A (off Ow i) p ∧ H p = some (.lst xs) ∧ Rel K (A.fo p) (off Ow i) σ H (ρ.set i .no) ∧ RpA K (own (A.fo p).FO (off Ow i)) H xs cs := by
  obtain ⟨a, xs, h1, h2, h3, h4, h5⟩ := R.sl i _ h
  have hi : ∀ ds, ρ[i]? ≠ some (.io ds) := fun ds z => by rw [h] at z; cases z
  have lessO : ∀ b, own (A.fo a).FO (off Ow i) b → own A.FO Ow b := fun b z => by
    rcases z with (z | z) | ⟨j, z⟩
    · exact .inl z
    · subst z; exact .inr ⟨i, h1⟩
    · exact .inr ⟨j, (off_some z).2⟩
  have nfo : ¬ A.FO a := by
    rcases R.nofo i a h1 with q | q
    · exact absurd q (h5 a)
    · exact q
  have q := R.put (i := i) (x := some (.ref a)) (s := .no) hi rfl
  have hl : i < σ.length := by
    rw [R.len]
    exact (List.getElem?_eq_some_iff.mp h).1
  have es : σ.set i (some (.ref a)) = σ := by
    obtain ⟨_, h2'⟩ := List.getElem?_eq_some_iff.mp h2
    rw [← h2']
    exact List.set_getElem_self hl
  rw [es] at q
  refine ⟨a, xs, h2, ⟨?_, fun z => ?_, fun p hp z => (R.keep p hp).2 i (by rw [z]; exact h1)⟩, h3, ⟨q.len, fun j s hj => ?_, q.out, q.uniq, q.kept, fun b hb => ?_, q.new, fun j b hb => ?_, q.io, q.one, q.keep, fun p hp => (R.pin p hp).less lessO⟩, h4.less lessO⟩
  · rcases R.new i a h1 with z | z
    · exact z
    · exact absurd z (h5 a)
  · rcases z with z | ⟨j, z⟩
    · exact nfo z
    · exact (off_some z).1 (R.uniq j i a (off_some z).2 h1)
  · by_cases z : i = j
    · subst z
      rw [List.getElem?_set_self (by rw [← R.len]; exact hl)] at hj
      cases hj
      exact off_self
    · rw [List.getElem?_set_ne z] at hj
      rw [off_ne (Ne.symm z)]
      exact (R.sl j s hj).less lessO
  · rcases hb with hb | hb
    · exact R.fo b hb
    · subst hb; exact ⟨_, h3⟩
  · obtain ⟨hj, hb'⟩ := off_some hb
    rcases R.nofo j b hb' with z | z
    · exact .inl z
    · refine .inr fun y => ?_
      rcases y with y | y
      · exact z y
      · subst y; exact hj (R.uniq j i b hb' h1)
theorem qs_retO (i : Nat) {x : Str} {p : Pos} (hN : X.N[i]? = some x := by rfl) (hv : Vis X.env.scope x := by first | exact Or.inl rfl | exact Or.inr (Or.inl rfl) | exact Or.inr (Or.inr rfl)) (hd : (x == ("__debug__" : Str)) = false := by decide) (hcd : (x == ("__classdict__" : Str)) = false := by decide) : QS X (.Return (some (.Name x p)) pos) (dRetO i) :=
  ps_less (ps_ret (pv i hN hv hd hcd)) fun D σ H ⟨A, Ow, ρ, DD, rel, ⟨cs, h0, h⟩, n, b, c, r⟩ => by
    obtain ⟨p, xs, h1, nw, h2, rel2, rp2⟩ := rel.give h0
    exact ⟨_, h1, r.2 _ σ H _ p xs cs nw h2 rel2 rp2 h⟩
def dRetN : DS := fun D ρ => D.rt .none ρ
theorem qs_retN : QS X (.Return none pos) dRetN := ps_less ps_retN fun D σ H ⟨A, Ow, ρ, DD, rel, h, n, b, c, r⟩ => r.1 Ow σ H ρ _ _ rel .non h
def dDrop (te : DE) : DS := fun D ρ => te ρ fun _ ρ1 => D.nx ρ1
theorem qs_expr (he : QE X e te) (hs : swapsWith e none pos.line X.env = pure false := by rfl) : QS X (.Expr e pos) (dDrop te) := ps_less (ps_expr he hs) fun D σ H ⟨A, Ow, ρ, DD, rel, h, n, b, c, r⟩ => ⟨A, Ow, ρ, _, rel, h, fun v H' d ρ' e' rel' rp' h' => n Ow σ H' ρ' rel' h'⟩
def dIfS (c : DT) (t u : DS) : DS := fun D ρ => c ρ fun b ρ1 => (b = true → t D ρ1) ∧ (b = false → u D ρ1)
theorem qs_if {c : Expr} {tc : DT} {p q : List Stmt} (hc : QT X c tc) (hp : QSs X p t) (hq : QSs X q u) : QS X (.If c p q pos) (dIfS tc t u) := ps_less (ps_if hc hp hq) fun D σ H ⟨A, Ow, ρ, DD, rel, h, n, b, c, r⟩ =>
  ⟨A, Ow, ρ, _, rel, h, fun k H1 ρ1 e1 rel1 ⟨h1, h2⟩ => by
    cases k with
    | true => exact (if_pos rfl).mpr ⟨A, Ow, ρ1, DD, rel1, h1 rfl, n, b, c, r⟩
    | false => exact (if_neg Bool.false_ne_true).mpr ⟨A, Ow, ρ1, DD, rel1, h2 rfl, n, b, c, r⟩⟩
def dBreak : DS := fun D ρ => D.bk ρ
def dCont : DS := fun D ρ => D.ct ρ
theorem qs_break : QS X (.Break pos) dBreak := ps_less ps_break fun D σ H ⟨A, Ow, ρ, DD, rel, h, n, b, c, r⟩ => b _ _ _ _ rel h
theorem qs_continue : QS X (.Continue pos) dCont := ps_less ps_continue fun D σ H ⟨A, Ow, ρ, DD, rel, h, n, b, c, r⟩ => c _ _ _ _ rel h
theorem qs_pass : QS X (.Pass pos) dNext := ps_less ps_pass fun D σ H ⟨A, Ow, ρ, DD, rel, h, n, b, c, r⟩ => n _ _ _ _ rel h
/-- a, b = x, y -/
def dPar (i j : Nat) (ta : DA) : DS := fun D ρ => ta ρ fun ds ρ1 => match ds with
  | [d, e] => noIo ρ1 i ∧ noIo ρ1 j ∧ D.nx ((ρ1.set i (.sh d)).set j (.sh e))
  | _ => False
theorem noIo.set {ρ : Env} {i j : Nat} {d : D} (h : noIo ρ j) : noIo (ρ.set i (.sh d)) j := by
  have hl := h.lt
  unfold noIo
  by_cases z : i = j
  · subst z
    rw [List.getElem?_set_self hl]
    trivial
  · rw [List.getElem?_set_ne z]
    exact h
theorem qs_par (i j : Nat) {x y : Str} {a b : Expr} {ta : DA} {px py pt : Pos} {kt k2 pt2} (hc : X.calm = true) (hN : X.N.Nodup) (hij : i ≠ j) (ha : QA X [a, b] ta) (hi : X.N[i]? = some x := by rfl) (hj : X.N[j]? = some y := by rfl) (hx : X.env.scope.names.lookup x = some .local := by rfl) (hy : X.env.scope.names.lookup y = some .local := by rfl)
    (hw : swappedStores [.Tuple [.Name x px, .Name y py] kt pt] (.Tuple [a, b] k2 pt2) X.env = pure (some [x, y]) := by rfl) (hs : swapsWithSole [.Tuple [.Name x px, .Name y py] kt pt] (.Tuple [a, b] k2 pt2) pos.line X.env = pure false := by rfl) :
    QS X (.Assign [.Tuple [.Name x px, .Name y py] kt pt] (.Tuple [a, b] k2 pt2) pos) (dPar i j ta) := ps_less (ps_par hc hN hi hj hij hx hy ha hw hs) fun D σ H ⟨A, Ow, ρ, DD, rel, h, n, b, c, r⟩ => ⟨A, Ow, ρ, _, rel, h, fun vs H' ds ρ' e' rel' rp' h' => by
  match ds, rp', h' with
  | [d, e], .cons (v := v) r1 (.cons (v := w) r2 .nil), ⟨h1, h2, h3⟩ =>
    have q1 := rel'.put (s := .sh d) h1.ne ⟨rfl, v, rfl, r1.less own_off⟩
    have q2 := q1.put (s := .sh e) h2.set.ne ⟨rfl, w, rfl, (r2.less own_off).less own_off⟩
    exact ⟨v, w, rfl, n _ _ _ _ q2 h3⟩⟩
/-- x op= e, of ints -/
def dAug (i : Nat) (te : DE) (f : Int → Int → Int) : DS := fun D ρ => ∃ a, ρ[i]? = some (.sh (.int a)) ∧ te ρ fun d ρ1 => ∃ b, d = .int b ∧ noIo ρ1 i ∧ D.nx (ρ1.set i (.sh (.int (f a b))))
theorem qs_aug (i : Nat) {x : Str} {op : Operator} {f : Int → Int → Int} {p : Pos} (hN : X.N.Nodup) (ho : PIp X op (ipI f)) (he : QE X e te) (hi : X.N[i]? = some x := by rfl) (hx : Loc X.env.scope x := by first | exact Or.inl rfl | exact Or.inr rfl) (hf : X.fn x = true ∨ X.env.scope.names.lookup x = some .local := by first | exact .inl rfl | exact .inr rfl) : QS X (.AugAssign (.Name x p) op e pos) (dAug i te f) :=
  ps_less (ps_aug (i := i) hN hi hx he ho hf) fun D σ H ⟨A, Ow, ρ, DD, rel, ⟨a, h0, h⟩, n, b, c, r⟩ => by
    obtain ⟨_, v, h1, h2⟩ := rel.sl i _ h0
    cases h2
    exact ⟨_, h1, A, Ow, ρ, _, rel, h, fun w H' d ρ' e' rel' rp' ⟨b, hb, h3, h4⟩ => by
      subst hb
      cases rp'
      exact ⟨a, b, rfl, rfl, n _ _ _ _ (rel'.put (s := .sh (.int (f a b))) h3.ne ⟨rfl, _, rfl, .int _⟩) h4⟩⟩
/-! changes of lists -/
/-- x.append(e) -/
def dApp (i : Nat) (te : DE) : DS := fun D ρ => (ownedAt ρ i).isSome = true ∧ te ρ fun d ρ1 => ∃ cs, ownedAt ρ1 i = some cs ∧ cs.length < sizeLine ∧ D.nx (putOwned ρ1 i (cs ++ [d]))
theorem qs_app (i : Nat) {x : Str} {p apos cpos : Pos} (he : QE X e te) (hN : X.N[i]? = some x := by rfl) (hv : Vis X.env.scope x := by first | exact Or.inl rfl | exact Or.inr (Or.inl rfl) | exact Or.inr (Or.inr rfl)) (hd : (x == ("__debug__" : Str)) = false := by decide) (hcd : (x == ("__classdict__" : Str)) = false := by decide)
    (hbase : attributeBase (.Name x p) "append" X.env (eval (.Name x p) X.env) = eval (.Name x p) X.env := by rfl)
    (hfew : ((backTo cpos (starEach [e] X.env)).all (fun x => !x.1) && (backToKw cpos (keywordEach [] X.env)).all (fun x => x.1.isSome) && decide ([e].length + ([] : List Keyword).length + (if ([] : List Keyword).isEmpty then 0 else 1) < 30)) = true := by rfl)
    (hline : (apos.endLine == cpos.line) = true := by rfl) (hs : starEach [e] X.env = (false, eval e X.env) :: starEach [] X.env := by rfl) (hplain : (backTo cpos (starEach [] X.env)).any (·.1) = false := by rfl) (hsw : swapsWith (.Call (.Attribute (.Name x p) "append" apos) [e] [] cpos) none pos.line X.env = pure false := by rfl) :
    QS X (.Expr (.Call (.Attribute (.Name x p) "append" apos) [e] [] cpos) pos) (dApp i te) := by
  refine ps_less (ps_expr (pe_bm PySem.F.plainAttrs_list PySem.F.slot_list_append PySem.F.type_list_append mt_append (pv i hN hv hd hcd) (pa_cons he pa_nil hs) hbase hfew hline hs hplain) hsw) fun D σ H ⟨A, Ow, ρ, DD, rel, ⟨h0, h⟩, n, b, c, r⟩ => ?_
  obtain ⟨cs0, e0⟩ := Option.isSome_iff_exists.mp h0
  obtain ⟨a, xs, h1, h2, h3, h4, _⟩ := rel.owned e0
  refine ⟨.ref a, h2, .inl ⟨rfl, _, SqL.of h3⟩, A, Ow, ρ, _, rel, h, fun v H1 d ρ1 e1 rel1 rp1 ⟨cs, g1, g2, g3⟩ => ?_⟩
  obtain ⟨a', xs', k1, k2, k3, k4, k5⟩ := rel1.owned g1
  rw [h1] at k1
  cases k1
  exact ⟨a, xs', v, rfl, rfl, k3, by rw [k4.len]; exact g2, n _ _ _ _ (k5 _ _ _ Stp.upd upd_same ((k4.append (.one rp1)).mono (stp_own h1 Stp.upd))) g3⟩
/-- x.extend(a new list) -/
def dExt (i : Nat) (tf : DF) : DS := fun D ρ => (ownedAt ρ i).isSome = true ∧ tf ρ fun ds ρ1 => ∃ cs, ownedAt ρ1 i = some cs ∧ cs.length + ds.length ≤ sizeLine ∧ D.nx (putOwned ρ1 i (cs ++ ds))
theorem qs_ext (i : Nat) {x : Str} {p apos cpos : Pos} (he : QF X e tf) (hN : X.N[i]? = some x := by rfl) (hv : Vis X.env.scope x := by first | exact Or.inl rfl | exact Or.inr (Or.inl rfl) | exact Or.inr (Or.inr rfl)) (hd : (x == ("__debug__" : Str)) = false := by decide) (hcd : (x == ("__classdict__" : Str)) = false := by decide)
    (hbase : attributeBase (.Name x p) "extend" X.env (eval (.Name x p) X.env) = eval (.Name x p) X.env := by rfl)
    (hfew : ((backTo cpos (starEach [e] X.env)).all (fun x => !x.1) && (backToKw cpos (keywordEach [] X.env)).all (fun x => x.1.isSome) && decide ([e].length + ([] : List Keyword).length + (if ([] : List Keyword).isEmpty then 0 else 1) < 30)) = true := by rfl)
    (hline : (apos.endLine == cpos.line) = true := by rfl) (hs : starEach [e] X.env = (false, eval e X.env) :: starEach [] X.env := by rfl) (hplain : (backTo cpos (starEach [] X.env)).any (·.1) = false := by rfl) (hsw : swapsWith (.Call (.Attribute (.Name x p) "extend" apos) [e] [] cpos) none pos.line X.env = pure false := by rfl) :
    QS X (.Expr (.Call (.Attribute (.Name x p) "extend" apos) [e] [] cpos) pos) (dExt i tf) := by
  refine ps_less (ps_expr (pe_bm PySem.F.plainAttrs_list PySem.F.slot_list_extend PySem.F.type_list_extend mt_extend (pv i hN hv hd hcd) (pa_cons he pa_nil hs) hbase hfew hline hs hplain) hsw) fun D σ H ⟨A, Ow, ρ, DD, rel, ⟨h0, h⟩, n, b, c, r⟩ => ?_
  obtain ⟨cs0, e0⟩ := Option.isSome_iff_exists.mp h0
  obtain ⟨a, xs, h1, h2, h3, h4, _⟩ := rel.owned e0
  refine ⟨.ref a, h2, .inl ⟨rfl, _, SqL.of h3⟩, A, Ow, ρ, _, rel, h, fun q H1 zs ds ρ1 e1 nw hq rel1 rp1 ⟨cs, g1, g2, g3⟩ => ?_⟩
  have rel2 := rel1.unfo
  obtain ⟨a', xs', k1, k2, k3, k4, k5⟩ := rel2.owned g1
  rw [h1] at k1
  cases k1
  exact ⟨a, q, xs', zs, rfl, rfl, k3, hq, by rw [k4.len, rp1.len]; exact g2, n _ _ _ _ (k5 _ _ _ Stp.upd upd_same ((k4.append (rp1.less own_fo')).mono (stp_own h1 Stp.upd))) g3⟩
/-- x[i] = e -/
def dSetI (i : Nat) (te tb : DE) : DS := fun D ρ => te ρ fun d ρ1 => (ownedAt ρ1 i).isSome = true ∧ tb ρ1 fun k ρ2 => ∃ cs n j, ownedAt ρ2 i = some cs ∧ k = .int n ∧ ixN cs.length n = some j ∧ D.nx (putOwned ρ2 i (cs.set j d))
theorem qs_setI (i : Nat) {x : Str} {b : Expr} {tb : DE} {p spos : Pos} (he : QE X e te) (hb : QE X b tb) (hN : X.N[i]? = some x := by rfl) (hv : Vis X.env.scope x := by first | exact Or.inl rfl | exact Or.inr (Or.inl rfl) | exact Or.inr (Or.inr rfl)) (hd : (x == ("__debug__" : Str)) = false := by decide) (hcd : (x == ("__classdict__" : Str)) = false := by decide)
    (ha : ∀ v, assign (.Subscript (.Name x p) b spos) X.env v = (do
      let ov ← holding [v] (eval (.Name x p) X.env)
      let iv ← holding [v, ov] (eval b X.env)
      standAt spos
      holding [v, ov, iv] (setItem ov iv v)
      release [v, ov, iv] []) := by intro _; rfl)
    (hs : swapsWithSole [.Subscript (.Name x p) b spos] e pos.line X.env = pure false := by rfl) (hw : swappedStores [.Subscript (.Name x p) b spos] e X.env = pure none := by rfl) (h1 : (assignEach [.Subscript (.Name x p) b spos] X.env).map (·.2) = [assign (.Subscript (.Name x p) b spos) X.env] := by rfl) :
    QS X (.Assign [.Subscript (.Name x p) b spos] e pos) (dSetI i te tb) := by
  refine ps_less (ps_asg he (pg_sub (pv i hN hv hd hcd) hb set_list ha) hs hw h1) fun D σ H ⟨A, Ow, ρ, DD, rel, h, n, b, c, r⟩ => ?_
  refine ⟨A, Ow, ρ, _, rel, h, fun v H1 d ρ1 e1 rel1 rp1 ⟨h0, h'⟩ => ?_⟩
  obtain ⟨cs0, e0⟩ := Option.isSome_iff_exists.mp h0
  obtain ⟨a, xs, h1, h2, h3, h4, _⟩ := rel1.owned e0
  refine ⟨.ref a, h2, A, Ow, ρ1, _, rel1, h', fun w H2 k ρ2 e2 rel2 rp2 ⟨cs, m, j, g1, g2, g3, g4⟩ => ?_⟩
  subst g2
  cases rp2
  obtain ⟨a', xs', k1, k2, k3, k4, k5⟩ := rel2.owned g1
  rw [h1] at k1
  cases k1
  exact ⟨a, xs', m, j, rfl, rfl, k3, by rw [k4.len]; exact g3, n _ _ _ _ (k5 _ _ _ Stp.upd upd_same ((RpA.set (rp1.mono e2) j k4).mono (stp_own h1 Stp.upd))) g4⟩
/-! ### while, for -/
def dWhile (c : DT) (tb : DS) : DS := fun D ρ => ∃ W : Nat → Env → Prop, (∃ m, W m ρ) ∧ ∀ m ρ, W m ρ → c ρ fun b ρ1 => (b = true → ∃ N : Env → Prop, (∀ ρ', N ρ' → ∃ m', m' < m ∧ W m' ρ') ∧ tb { D with nx := N, ct := N, bk := D.nx } ρ1) ∧ (b = false → D.nx ρ1)
theorem qs_while {c : Expr} {body : List Stmt} {tc : DT} {tb : DS} (hp : PassesOwn (model X.prog X.w) X.A X.env X.xe) (hc : QT X c tc) (hb : QSs X body tb) : QS X (.While c body [] pos) (dWhile tc tb) := ps_less (ps_while hp hc hb) fun D σ H ⟨A, Ow, ρ, DD, rel, ⟨W, ⟨m0, w0⟩, turn⟩, n, b, c, r⟩ =>
  ⟨fun m σ H => ∃ Ow ρ, Rel (kx X) A Ow σ H ρ ∧ W m ρ, ⟨m0, Ow, ρ, rel, w0⟩, fun m σ1 H1 ⟨Ow1, ρ1, rel1, w1⟩ => ⟨A, Ow1, ρ1, _, rel1, turn m ρ1 w1, fun k H2 ρ2 e2 rel2 ⟨h1, h2⟩ => by
    cases k with
    | true =>
      obtain ⟨N, hN, h3⟩ := h1 rfl
      have key : ∀ Ow' σ' H' ρ', Rel (kx X) A Ow' σ' H' ρ' → N ρ' → ∃ Ow ρ, Rel (kx X) A Ow σ' H' ρ ∧ N ρ := fun Ow' σ' H' ρ' rel' h' => ⟨Ow', ρ', rel', h'⟩
      refine (if_pos rfl).mpr ⟨fun σ H => ∃ Ow ρ, Rel (kx X) A Ow σ H ρ ∧ N ρ, fun σ' H' ⟨Ow', ρ', rel', h'⟩ => ?_, A, Ow1, ρ2, _, rel2, h3, key, fun Ow' σ' H' ρ' rel' h' => n Ow' σ' H' ρ' rel' h', key, r⟩
      obtain ⟨m', hm, hw⟩ := hN ρ' h'
      exact ⟨m', hm, Ow', ρ', rel', hw⟩
    | false => exact (if_neg Bool.false_ne_true).mpr (n Ow1 σ1 H2 ρ2 rel2 (h2 rfl))⟩⟩
/-- J walks the data ds, while the pins P stand and the things L stay -/
def WalkOk (K : KW) (J : It) (P : List (List V × List D)) (L : List (Addr × HO)) (ds : List D) : Prop := ∀ (O : Addr → Prop) (H : Hp), (∀ p ∈ P, RpA K O H p.1 p.2) → (∀ p ∈ L, H p.1 = some p.2) → ∀ i, (ds.length ≤ i → J.stop i H) ∧ (i < ds.length → J.go i H ∧ ∀ x H', J.yld i H x H' → ∃ d, ds[i]? = some d ∧ Same H H' ∧ Rp K O H' x d)
/-- .. with these pins and things -/
def Act.wth (A : Act) (P : List (List V × List D)) (L : List (Addr × HO)) : Act := { A with pin := P ++ A.pin, keep := L ++ A.keep }
section
variable {K : KW} {A : Act} {Ow : Nat → Option Addr} {σ : L2.St} {H : Hp} {ρ : Env} {P : List (List V × List D)} {L : List (Addr × HO)}
theorem Rel.wth (R : Rel K A Ow σ H ρ) (h : ∀ p ∈ P, RpA K (own A.FO Ow) H p.1 p.2) (hL : ∀ p ∈ L, H p.1 = some p.2 ∧ ∀ i, Ow i ≠ some p.1) : Rel K (A.wth P L) Ow σ H ρ :=
  ⟨R.len, R.sl, R.out, R.uniq, R.kept, R.fo, R.new, R.nofo, R.io, R.one, fun p hp => (List.mem_append.mp hp).elim (hL p) (R.keep p), fun p hp => (List.mem_append.mp hp).elim (h p) (R.pin p)⟩
theorem Rel.unwth (R : Rel K (A.wth P L) Ow σ H ρ) : Rel K A Ow σ H ρ :=
  ⟨R.len, R.sl, R.out, R.uniq, R.kept, R.fo, R.new, R.nofo, R.io, R.one, fun p hp => R.keep p (List.mem_append_right _ hp), fun p hp => R.pin p (List.mem_append_right _ hp)⟩
theorem Rel.wth0 (R : Rel K A Ow σ H ρ) : Rel K (A.wth [] []) Ow σ H ρ := R.wth (fun _ z => nomatch z) (fun _ z => nomatch z)
theorem Rel.wthP (R : Rel K A Ow σ H ρ) (h : ∀ p ∈ P, RpA K (own A.FO Ow) H p.1 p.2) : Rel K (A.wth P []) Ow σ H ρ := R.wth h (fun _ z => nomatch z)
end
abbrev DI := Env → (List D → Env → Prop) → Prop
def lamI (K : KW) (ti : DI) : TI := fun σ H Q => ∃ A Ow ρ R, Rel K A Ow σ H ρ ∧ ti ρ R ∧ ∀ J P L H' ds ρ', Stp (own A.FO Ow) H H' → Rel K (A.wth P L) Ow σ H' ρ' → WalkOk K J P L ds → R ds ρ' → Q J H'
def QI (X : Cx) (tg iter : Expr) (ti : DI) : Prop := PI X tg iter (lamI (kx X) ti)
theorem pi_less {tg it : Expr} {t t' : TI} (h : PI X tg it t) (k : ∀ σ H Q, t' σ H Q → t σ H Q) : PI X tg it t' := ⟨fun pins s σ H R I q => h.run pins s σ H R I (k σ H R q)⟩
def dFor (ti : DI) (g : DG) (tb : DS) : DS := fun D ρ => ti ρ fun ds ρ1 => ∃ J : Nat → Env → Prop, J 0 ρ1 ∧ (∀ i d ρ, ds[i]? = some d → J i ρ → g d ρ fun ρ2 => tb { D with nx := J (i + 1), ct := J (i + 1), bk := D.nx } ρ2) ∧ ∀ ρ, J ds.length ρ → D.nx ρ
theorem qs_for {tg iter : Expr} {body : List Stmt} {ti : DI} {g : DG} {tb : DS} (hp : PassesOwn (model X.prog X.w) X.A X.env X.xe) (hc : X.calm = true) (hi : QI X tg iter ti) (hg : QG X tg g) (hb : QSs X body tb) (hs : ∀ x, foldedSetIterable iter X.env x = pure x := by intro _; rfl) : QS X (.For tg iter body [] pos) (dFor ti g tb) :=
  ps_less (ps_for hp hc hi hg hb hs) fun D σ H ⟨A, Ow, ρ, DD, rel, h, n, b, c, r⟩ => ⟨A, Ow, ρ, _, rel, h, fun J P L H1 ds ρ1 e1 rel1 wk ⟨V, v0, turn, fin⟩ => by
  refine ⟨fun i m σ H => m = ds.length - i ∧ i ≤ ds.length ∧ ∃ Ow ρ, Rel (kx X) (A.wth P L) Ow σ H ρ ∧ V i ρ, ⟨_, rfl, Nat.zero_le _, Ow, ρ1, rel1, v0⟩, ?_⟩
  rintro i m σ2 H2 ⟨hm, hi, Ow2, ρ2, rel2, v2⟩
  have w := wk (own A.FO Ow2) H2 (fun p hp => rel2.pin p (List.mem_append_left _ hp)) (fun p hp => (rel2.keep p (List.mem_append_left _ hp)).1) i
  by_cases hlt : i < ds.length
  · obtain ⟨g1, g2⟩ := w.2 hlt
    refine .inr ⟨g1, fun σ H => ∃ Ow ρ, Rel (kx X) (A.wth P L) Ow σ H ρ ∧ V (i + 1) ρ, fun σ' H' ⟨Ow', ρ', rel', v'⟩ => ⟨_, by omega, rfl, hlt, Ow', ρ', rel', v'⟩, fun x H3 y => ?_⟩
    obtain ⟨d, hd, sm, rp⟩ := g2 x H3 y
    have rel3 := rel2.ext sm
    refine ⟨_, Ow2, ρ2, _, d, rel3, rp, turn i d ρ2 hd v2, fun Ow4 σ4 H4 ρ4 rel4 _ h4 => ?_⟩
    exact ⟨_, Ow4, ρ4, _, rel4, h4, fun Ow' σ' H' ρ' rel' h' => ⟨Ow', ρ', rel', h'⟩, fun Ow' σ' H' ρ' rel' h' => n Ow' σ' H' ρ' rel'.unwth h', fun Ow' σ' H' ρ' rel' h' => ⟨Ow', ρ', rel', h'⟩, fun Ow' σ' H' ρ' v d rel' rp' h' => r.1 Ow' σ' H' ρ' v d rel'.unwth rp' h', fun Ow' σ' H' ρ' p xs cs nw hp rel' rp' h' => r.2 Ow' σ' H' ρ' p xs cs ⟨nw.h0, nw.no, fun q hq => nw.kp q (List.mem_append_right _ hq)⟩ hp (rel'.unwth (A := A.fo p) (P := P) (L := L)) rp' h'⟩
  · have e : i = ds.length := by omega
    subst e
    exact .inl ⟨w.1 (Nat.le_refl _), n Ow2 σ2 H2 ρ2 rel2.unwth (fin ρ2 v2)⟩⟩
/-- over a list, a tuple that stands -/
def iSeq (te : DE) : DI := fun ρ Q => te ρ fun d ρ1 => match d with
  | .list ds => Q ds ρ1
  | _ => False
def iSeqT (te : DE) : DI := fun ρ Q => te ρ fun d ρ1 => match d with
  | .tuple ds => Q ds ρ1
  | _ => False
theorem walk_list {K : KW} {a : Addr} {ds : List D} : WalkOk K (Itl K.fr a) [([.ref a], [.list ds])] [] ds := fun O H hp _ i => by
  have h := hp _ List.mem_cons_self
  cases h with
  | cons h _ =>
    cases h with
    | lst hs ha =>
      refine ⟨fun hi => ⟨_, hs.sq, by rw [ha.len]; exact hi⟩, fun hi => ?_⟩
      obtain ⟨v, h1, h2⟩ := ha.get (List.getElem?_eq_getElem hi)
      refine ⟨⟨_, v, hs.sq, h1⟩, fun x H' y => ?_⟩
      obtain ⟨rfl, y2⟩ := y
      have e := (y2 _ hs.sq).symm.trans h1
      cases e
      exact ⟨_, List.getElem?_eq_getElem hi, Same.refl _, h2⟩
theorem walk_tup {K : KW} {a : Addr} {ds : List D} : WalkOk K (Itt K.fr a) [([.ref a], [.tuple ds])] [] ds := fun O H hp _ i => by
  have h := hp _ List.mem_cons_self
  cases h with
  | cons h _ =>
    cases h with
    | tup hs ha =>
      refine ⟨fun hi => ⟨_, hs.sq, by rw [ha.len]; exact hi⟩, fun hi => ?_⟩
      obtain ⟨v, h1, h2⟩ := ha.get (List.getElem?_eq_getElem hi)
      refine ⟨⟨_, v, hs.sq, h1⟩, fun x H' y => ?_⟩
      obtain ⟨rfl, y2⟩ := y
      have e := (y2 _ hs.sq).symm.trans h1
      cases e
      exact ⟨_, List.getElem?_eq_getElem hi, Same.refl _, h2⟩
theorem qi_list {tg : Expr} (he : QE X e te) : QI X tg e (iSeq te) := pi_less (pi_list he) fun σ H Q ⟨A, Ow, ρ, R, rel, h, k⟩ => ⟨A, Ow, ρ, _, rel, h, fun v H1 d ρ1 e1 rel1 rp1 h1 => by
  cases rp1 with
  | lst hs ha => exact ⟨_, rfl, ⟨_, hs.sq⟩, k _ [([.ref _], [.list _])] [] H1 _ ρ1 e1 (rel1.wthP fun p hp => by
      cases List.mem_singleton.mp hp
      exact .one (.lst hs ha)) walk_list h1⟩
  | _ => exact h1.elim⟩
theorem qi_tup {tg : Expr} (he : QE X e te) : QI X tg e (iSeqT te) := pi_less (pi_tup he) fun σ H Q ⟨A, Ow, ρ, R, rel, h, k⟩ => ⟨A, Ow, ρ, _, rel, h, fun v H1 d ρ1 e1 rel1 rp1 h1 => by
  cases rp1 with
  | tup hs ha => exact ⟨_, rfl, ⟨_, hs.sq⟩, k _ [([.ref _], [.tuple _])] [] H1 _ ρ1 e1 (rel1.wthP fun p hp => by
      cases List.mem_singleton.mp hp
      exact .one (.tup hs ha)) walk_tup h1⟩
  | _ => exact h1.elim⟩
def rgD (lo : Int) (n : Nat) : List D := (List.range n).map fun (k : Nat) => PyData.int (lo + (k : Int))
theorem rgD_len {lo : Int} {n : Nat} : (rgD lo n).length = n := by simp [rgD]
theorem rgD_get {lo : Int} {n i : Nat} (h : i < n) : (rgD lo n)[i]? = some (.int (lo + (i : Int))) := by simp [rgD, h]
theorem rgD_at {lo : Int} {n i : Nat} {d : D} (h : (rgD lo n)[i]? = some d) : i < n ∧ d = .int (lo + (i : Int)) := by
  have hi : i < n := by
    have := (List.getElem?_eq_some_iff.mp h).1
    rw [rgD_len] at this
    exact this
  rw [rgD_get hi] at h
  exact ⟨hi, (Option.some.inj h).symm⟩
theorem walk_range {K : KW} {lo : Int} {n : Nat} : WalkOk K (Itr lo n) [] [] (rgD lo n) := fun O H hp _ i => by
  rw [rgD_len]
  refine ⟨fun hi => hi, fun hi => ⟨hi, fun x H' y => ?_⟩⟩
  obtain ⟨rfl, rfl⟩ := y
  exact ⟨_, rgD_get hi, Same.refl _, .int _⟩
def iRng1 (ta : DA) : DI := fun ρ Q => ta ρ fun ds ρ1 => ∃ j : Int, ds = [.int j] ∧ -(2 ^ 62) ≤ j ∧ j < 2 ^ 62 ∧ Q (rgD 0 j.toNat) ρ1
def iRng2 (ta : DA) : DI := fun ρ Q => ta ρ fun ds ρ1 => ∃ i j : Int, ds = [.int i, .int j] ∧ (-(2 ^ 62) ≤ i ∧ i < 2 ^ 62 ∧ -(2 ^ 62) ≤ j ∧ j < 2 ^ 62) ∧ Q (rgD i (j - i).toNat) ρ1
theorem qi_range1 {tg a : Expr} {ta : DA} {p : Pos} (hg : Gl X "range") (hm : X.mg "range" = none) (ha : QA X [a] ta) (hs : starEach [a] X.env = [(false, eval a X.env)] := by rfl) : QI X tg (.Call (.Name "range" p) [a] [] pos) (iRng1 ta) :=
  pi_less (pi_range1 hg hm ha hs) fun σ H Q ⟨A, Ow, ρ, R, rel, h, k⟩ => ⟨A, Ow, ρ, _, rel, h, fun vs H1 ds ρ1 e1 rel1 rp1 ⟨j, h0, h1, h2, h3⟩ => by
  subst h0
  match vs, rp1 with
  | _, .cons (.int _) .nil => exact ⟨j, rfl, h1, h2, k _ [] [] H1 _ ρ1 e1 rel1.wth0 walk_range h3⟩⟩
theorem qi_range2 {tg a b : Expr} {ta : DA} {p : Pos} (hg : Gl X "range") (hm : X.mg "range" = none) (ha : QA X [a, b] ta) (hs : starEach [a, b] X.env = [(false, eval a X.env), (false, eval b X.env)] := by rfl) (hs2 : starEach [b] X.env = [(false, eval b X.env)] := by rfl) : QI X tg (.Call (.Name "range" p) [a, b] [] pos) (iRng2 ta) :=
  pi_less (pi_range2 hg hm ha hs hs2) fun σ H Q ⟨A, Ow, ρ, R, rel, h, k⟩ => ⟨A, Ow, ρ, _, rel, h, fun vs H1 ds ρ1 e1 rel1 rp1 ⟨i, j, h0, h1, h3⟩ => by
  subst h0
  match vs, rp1 with
  | _, .cons (.int _) (.cons (.int _) .nil) => exact ⟨i, j, rfl, h1, k _ [] [] H1 _ ρ1 e1 rel1.wth0 walk_range h3⟩⟩
/-! ### list comprehensions -/
theorem Rel.keeps {K : KW} {A : Act} {Ow : Nat → Option Addr} {σ : L2.St} {H : Hp} {ρ : Env} (R : Rel K A Ow σ H ρ) {k : List (Addr × HO)} (h : ∀ p ∈ k, H p.1 = some p.2 ∧ ∀ i, Ow i ≠ some p.1) : Rel K { A with keep := k ++ A.keep } Ow σ H ρ :=
  ⟨R.len, R.sl, R.out, R.uniq, R.kept, R.fo, R.new, R.nofo, R.io, R.one, fun p hp => (List.mem_append.mp hp).elim (h p) (R.keep p), R.pin⟩
theorem Rel.unkeep {K : KW} {A : Act} {Ow : Nat → Option Addr} {σ : L2.St} {H : Hp} {ρ : Env} {k : List (Addr × HO)} (R : Rel K { A with keep := k ++ A.keep } Ow σ H ρ) : Rel K A Ow σ H ρ :=
  ⟨R.len, R.sl, R.out, R.uniq, R.kept, R.fo, R.new, R.nofo, R.io, R.one, fun p hp => R.keep p (List.mem_append_right _ hp), R.pin⟩
/-- what belongs to others is changed -/
theorem Rel.updFo {K : KW} {A : Act} {Ow : Nat → Option Addr} {σ : L2.St} {H : Hp} {ρ : Env} {p : Addr} (R : Rel K (A.fo p) Ow σ H ρ) (np : Nw A Ow p) (o : HO) : Rel K (A.fo p) Ow σ (L2.upd H p o) ρ := by
  have e : Stp (own (A.fo p).FO Ow) H (L2.upd H p o) := Stp.upd.weak fun b z => .inl (.inr z)
  have nOw : ∀ i, Ow i ≠ some p := fun i z => np.no (.inr ⟨i, z⟩)
  refine ⟨R.len, fun i s h => (R.sl i s h).mono e fun a ha xs q => ?_, R.out, R.uniq, fun b u n q => ?_, fun b h => ?_, R.new, R.nofo, R.io, R.one, fun q hq => ⟨?_, (R.keep q hq).2⟩, fun q hq => (R.pin q hq).mono e⟩
  · rw [upd_ne (fun z => nOw i (by rw [ha, z]))]
    exact q
  · have hb : b ≠ p := fun z => by
      rw [z] at q
      have z0 : A.H0 p = some u := q
      rw [np.h0] at z0
      cases z0
    rw [upd_ne hb]
    exact R.kept b u n q
  · by_cases z : b = p
    · exact ⟨o, by rw [z]; exact upd_same⟩
    · obtain ⟨u, q⟩ := R.fo b h
      exact ⟨u, by rw [upd_ne z]; exact q⟩
  · rw [upd_ne (np.kp q hq)]
    exact (R.keep q hq).1
/-- a slot that holds nothing known -/
theorem Rel.clear {K : KW} {A : Act} {Ow : Nat → Option Addr} {σ : L2.St} {H : Hp} {ρ : Env} (R : Rel K A Ow σ H ρ) {i : Nat} {x : Option V} (h : ρ[i]? = some .no) : Rel K A Ow (σ.set i x) H ρ := by
  refine ⟨by rw [List.length_set]; exact R.len, fun j s hj => ?_, R.out, R.uniq, R.kept, R.fo, R.new, R.nofo, R.io, R.one, R.keep, R.pin⟩
  by_cases z : i = j
  · subst z
    rw [h] at hj
    cases hj
    exact R.sl i _ h
  · rw [List.getElem?_set_ne z]
    exact R.sl j s hj
theorem off_id {Ow : Nat → Option Addr} {i : Nat} (h : Ow i = none) : off Ow i = Ow := by
  funext j
  unfold off
  by_cases z : j = i
  · rw [if_pos z, z, h]
  · rw [if_neg z]
def QTs (X : Cx) (ifs : List Expr) (tt : DT) : Prop := PTs X ifs (lamT (kx X) tt)
def dYes : DT := fun ρ Q => Q true ρ
theorem pts_less {ifs : List Expr} {t t' : TT} (h : PTs X ifs t) (k : ∀ σ H Q, t' σ H Q → t σ H Q) : PTs X ifs t' := ⟨fun pins s σ H Q I q => h.run pins s σ H Q I (k σ H Q q)⟩
theorem qts_nil : QTs X [] dYes := pts_less pts_nil fun σ H Q ⟨A, Ow, ρ, R, rel, h, k⟩ => k true H ρ Stp.refl rel h
theorem qts_one {c : Expr} {tt : DT} (h : QT X c tt) : QTs X [c] tt := pts_one h
/-- the comprehension's own slots -/
def clr (ρ : Env) : List Nat → Env
  | [] => ρ
  | v :: vs => (clr ρ vs).set v .no
def shAt (ρ : Env) (v : Nat) : Prop := match ρ[v]? with
  | some (.sh _) => True
  | some .no => True
  | _ => False
theorem shAt.ne {ρ : Env} {v : Nat} (h : shAt ρ v) : ∀ ds, ρ[v]? ≠ some (.io ds) := fun ds q => by
  unfold shAt at h
  rw [q] at h
  exact h
theorem shAt.set {ρ : Env} {v u : Nat} (h : shAt ρ v) : shAt (ρ.set u .no) v := by
  unfold shAt at h ⊢
  by_cases z : u = v
  · subst z
    by_cases hl : u < ρ.length
    · rw [List.getElem?_set_self hl]
      trivial
    · rw [List.getElem?_eq_none (by omega)] at h
      exact h.elim
  · rw [List.getElem?_set_ne z]
    exact h
theorem shAt.clr {ρ : Env} {v : Nat} (h : shAt ρ v) : ∀ vs, shAt (clr ρ vs) v
  | [] => h
  | u :: us => (h.clr us).set
theorem Rel.noOw {K : KW} {A : Act} {Ow : Nat → Option Addr} {σ : L2.St} {H : Hp} {ρ : Env} (R : Rel K A Ow σ H ρ) {v : Nat} (h : shAt ρ v) : Ow v = none := by
  unfold shAt at h
  split at h
  · rename_i d q
    exact (R.sl v _ q).1
  · rename_i q
    exact R.sl v _ q
  · exact h.elim
theorem Rel.wiped {K : KW} {A : Act} {Ow : Nat → Option Addr} {σ : L2.St} {H : Hp} {ρ : Env} (R : Rel K A Ow σ H ρ) : ∀ vs : List Nat, (∀ v ∈ vs, shAt ρ v) → Rel K A Ow (wipe σ vs) H (clr ρ vs)
  | [], _ => R
  | v :: vs, h => by
    have r := R.wiped vs fun u hu => h u (List.mem_cons_of_mem _ hu)
    have hv : shAt (clr ρ vs) v := (h v List.mem_cons_self).clr vs
    have q := r.put (i := v) (x := none) (s := .no) hv.ne rfl
    rw [off_id (r.noOw hv)] at q
    exact q
/-- a comprehension's target -/
def LcT (K : KW) (g : DG) (G : TG) (vs : List Nat) : Prop := ∀ (A : Act) (Ow : Nat → Option Addr) (σ : L2.St) (H : Hp) (ρ : Env) (R : Env → Prop) (v : V) (d : D) (Q : L2.St → Hp → Prop), Rel K A Ow (wipe σ vs) H ρ → Rp K (own A.FO Ow) H v d → g d ρ R →
  (∀ σ' ρ', Rel K A Ow σ' H ρ' → wipe σ' vs = wipe σ vs → R ρ' → Q σ' H) → G v (wipe σ vs) H Q
def gL (i : Nat) : DG := fun d ρ Q => shAt ρ i ∧ Q (ρ.set i (.sh d))
theorem lct_name {K : KW} (i : Nat) : LcT K (gL i) (gName i) [i] := fun A Ow σ H ρ R v d Q rel rp ⟨h0, h⟩ k => by
  have q := rel.put (i := i) (x := some v) (s := .sh d) h0.ne ⟨rfl, v, rfl, rp.less own_off⟩
  rw [off_id (rel.noOw h0)] at q
  refine k _ _ q ?_ h
  show (((σ.set i none).set i (some v)).set i none) = σ.set i none
  rw [List.set_set, List.set_set]
def gL2 (i j : Nat) : DG := fun d ρ Q => ∃ a b, d = .tuple [a, b] ∧ shAt ρ i ∧ shAt ρ j ∧ Q ((ρ.set i (.sh a)).set j (.sh b))
theorem shAt.setS {ρ : Env} {v u : Nat} {d : D} (h : shAt ρ v) : shAt (ρ.set u (.sh d)) v := by
  unfold shAt at h ⊢
  by_cases z : u = v
  · subst z
    by_cases hl : u < ρ.length
    · rw [List.getElem?_set_self hl]
      trivial
    · rw [List.getElem?_eq_none (by omega)] at h
      exact h.elim
  · rw [List.getElem?_set_ne z]
    exact h
theorem set_two {i j : Nat} (hij : i ≠ j) (l : L2.St) (x y : Option V) : (((((l.set j none).set i none).set i x).set j y).set j none).set i none = (l.set j none).set i none := by
  apply List.ext_getElem?
  intro k
  by_cases h1 : k = i
  · subst h1
    by_cases hl : k < l.length
    · rw [List.getElem?_set_self (by simpa using hl), List.getElem?_set_self (by simpa using hl)]
    · rw [List.getElem?_eq_none (by simpa using hl), List.getElem?_eq_none (by simpa using hl)]
  · rw [List.getElem?_set_ne (Ne.symm h1), List.getElem?_set_ne (Ne.symm h1)]
    by_cases h2 : k = j
    · subst h2
      by_cases hl : k < l.length
      · rw [List.getElem?_set_self (by simpa using hl), List.getElem?_set_self (by simpa using hl)]
      · rw [List.getElem?_eq_none (by simpa using hl), List.getElem?_eq_none (by simpa using hl)]
    · rw [List.getElem?_set_ne (Ne.symm h2), List.getElem?_set_ne (Ne.symm h2), List.getElem?_set_ne (Ne.symm h1), List.getElem?_set_ne (Ne.symm h1)]
theorem lct_two {K : KW} {i j : Nat} (hij : i ≠ j) : LcT K (gL2 i j) (gTup K.fr 2 (gCons (gName i) (gCons (gName j) gNil))) [i, j] := fun A Ow σ H ρ R v d Q rel rp h k => by
  obtain ⟨a, b, rfl, h1, h2, h3⟩ := h
  cases rp with
  | tup hs ha =>
    cases ha with
    | cons r1 ha =>
      cases ha with
      | cons r2 ha =>
        cases ha with
        | nil =>
          have q1 := rel.put (i := i) (x := some _) (s := .sh a) h1.ne ⟨rfl, _, rfl, r1.less own_off⟩
          rw [off_id (rel.noOw h1)] at q1
          have h2' : shAt (ρ.set i (.sh a)) j := h2.setS
          have q2 := q1.put (i := j) (x := some _) (s := .sh b) h2'.ne ⟨rfl, _, rfl, r2.less own_off⟩
          rw [off_id (q1.noOw h2')] at q2
          refine ⟨_, _, rfl, hs.sq, rfl, _, _, rfl, _, _, rfl, rfl, k _ _ q2 ?_ h3⟩
          show ((((((σ.set j none).set i none).set i (some _)).set j (some _)).set j none).set i none) = ((σ.set j none).set i none)
          exact set_two hij σ _ _
/-- [te for g in ti if tt]; vs: its own slots -/
def dLc (ti : DI) (g : DG) (tt : DT) (te : DE) (vs : List Nat) : DF := fun ρ Q => ti ρ fun ds ρ1 => (∀ v ∈ vs, shAt ρ1 v) ∧ ∃ J : Nat → List D → Env → Prop, J 0 [] (clr ρ1 vs) ∧
  (∀ k acc d ρ2, ds[k]? = some d → J k acc ρ2 → g d ρ2 fun ρ3 => tt ρ3 fun b ρ4 => (b = true → te ρ4 fun z ρ5 => acc.length < sizeLine ∧ (∀ v ∈ vs, shAt ρ5 v) ∧ J (k + 1) (acc ++ [z]) (clr ρ5 vs)) ∧ (b = false → (∀ v ∈ vs, shAt ρ4 v) ∧ J (k + 1) acc (clr ρ4 vs))) ∧
  ∀ acc ρ2, J ds.length acc ρ2 → Q acc ρ2
def noAt (ρ : Env) (v : Nat) : Prop := ∀ s, ρ[v]? = some s → s = .no
theorem clr_noAt {ρ : Env} : ∀ {vs : List Nat} {v : Nat}, v ∈ vs → noAt (clr ρ vs) v
  | u :: us, v, h => fun s hs => by
    have hs' : ((clr ρ us).set u .no)[v]? = some s := hs
    by_cases z : u = v
    · subst z
      by_cases hl : u < (clr ρ us).length
      · rw [List.getElem?_set_self hl] at hs'
        exact (Option.some.inj hs').symm
      · rw [List.getElem?_eq_none (by rw [List.length_set]; omega)] at hs'
        cases hs'
    · rw [List.getElem?_set_ne z] at hs'
      rcases List.mem_cons.mp h with q | q
      · exact absurd q.symm z
      · exact clr_noAt q s hs'
theorem wipe_get {σ : L2.St} {j : Nat} : ∀ {vs : List Nat}, j ∉ vs → (wipe σ vs)[j]? = σ[j]?
  | [], _ => rfl
  | v :: vs, h => by
    show ((wipe σ vs).set v none)[j]? = σ[j]?
    rw [List.getElem?_set_ne (fun z => h (by rw [z]; exact List.mem_cons_self))]
    exact wipe_get fun q => h (List.mem_cons_of_mem _ q)
theorem Rel.unwipe {K : KW} {A : Act} {Ow : Nat → Option Addr} {σ : L2.St} {H : Hp} {ρ : Env} {vs : List Nat} (R : Rel K A Ow (wipe σ vs) H ρ) (h : ∀ v ∈ vs, noAt ρ v) : Rel K A Ow σ H ρ := by
  refine ⟨by rw [← wipe_length σ vs]; exact R.len, fun j s hj => ?_, R.out, R.uniq, R.kept, R.fo, R.new, R.nofo, R.io, R.one, R.keep, R.pin⟩
  by_cases z : j ∈ vs
  · have e := h j z s hj
    subst e
    exact R.sl j _ hj
  · rw [← wipe_get z]
    exact R.sl j s hj
theorem lam_lc {K : KW} {ti : DI} {g : DG} {G : TG} {tt : DT} {te : DE} {vs : List Nat} (hG : LcT K g G vs) (σ : L2.St) (H : Hp) (Q : VK) : lamF K (dLc ti g tt te vs) σ H Q → tLc (lamI K ti) G (lamT K tt) (lam K te) vs σ H Q := fun ⟨A, Ow, ρ, R, rel, h, fin⟩ =>
  ⟨A, Ow, ρ, _, rel, h, fun J P L H1 ds ρ1 e1 rel1 wk ⟨hv, V, v0, turn, last⟩ Dl hD => by
  have nw : Nw A Ow Dl := rel1.unwth.nw hD
  have nwP : Nw (A.wth P L) Ow Dl := rel1.nw hD
  have relD : Rel K ((A.wth P L).fo Dl) Ow (wipe σ vs) (L2.upd H1 Dl (.lst [])) (clr ρ1 vs) := (rel1.alloc hD (Same.new hD) ⟨_, upd_same⟩).wiped vs hv
  refine ⟨fun i m H => m = ds.length - i ∧ i ≤ ds.length ∧ ∃ acc xs ρ, H Dl = some (.lst xs) ∧ (∀ v ∈ vs, noAt ρ v) ∧ Rel K ((A.wth P L).fo Dl) Ow (wipe σ vs) H ρ ∧ RpA K (own (A.fo Dl).FO Ow) H xs acc ∧ V i acc ρ ∧ Stp (own (A.fo Dl).FO Ow) H1 H, ⟨_, rfl, Nat.zero_le _, [], [], _, upd_same, fun v hv => clr_noAt hv, relD, .nil, v0, Stp.upd.weak fun b z => .inl (.inr z)⟩, ?_⟩
  rintro i m H2 ⟨hm, hi, acc, xs, ρ2, hD2, no2, rel2, rp2, v2, st2⟩
  have w := wk (own (A.fo Dl).FO Ow) H2 (fun p hp => rel2.pin p (List.mem_append_left _ hp)) (fun p hp => (rel2.keep p (List.mem_append_left _ hp)).1) i
  by_cases hlt : i < ds.length
  · obtain ⟨g1, g2⟩ := w.2 hlt
    refine .inr ⟨g1, fun H => ∃ acc xs ρ, H Dl = some (.lst xs) ∧ (∀ v ∈ vs, noAt ρ v) ∧ Rel K ((A.wth P L).fo Dl) Ow (wipe σ vs) H ρ ∧ RpA K (own (A.fo Dl).FO Ow) H xs acc ∧ V (i + 1) acc ρ ∧ Stp (own (A.fo Dl).FO Ow) H1 H, fun H' q => ⟨_, by omega, rfl, hlt, q⟩, fun x H3 y => ?_⟩
    obtain ⟨d, hd, sm, rpx⟩ := g2 x H3 y
    -- the state of the turn: the list so far is kept, its items are pinned
    have k3 : H3 Dl = some (.lst xs) := sm _ _ hD2
    have rel3 := ((rel2.ext sm).pins (P := [(xs, acc)]) fun p hp => by
      cases List.mem_singleton.mp hp
      exact rp2.mono (Stp.of sm)).keeps (k := [(Dl, .lst xs)]) fun p hp => by
        cases List.mem_singleton.mp hp
        exact ⟨k3, fun j z => nw.no (.inr ⟨j, z⟩)⟩
    refine hG _ Ow σ H3 ρ2 _ x d _ rel3 rpx (turn i acc d ρ2 hd v2) fun σ4 ρ4 rel4 wq h4 => ⟨wq, ?_⟩
    refine ⟨_, Ow, ρ4, _, rel4, h4, fun b H5 ρ5 e5 rel5 ⟨h5, h6⟩ => ?_⟩
    have back : ∀ {H : Hp} {ρ : Env}, (∀ v ∈ vs, shAt ρ v) → Rel K ({ (A.wth P L).fo Dl with pin := [(xs, acc)] ++ (P ++ A.pin), keep := [(Dl, .lst xs)] ++ (L ++ A.keep) } : Act) Ow σ4 H ρ → Rel K ((A.wth P L).fo Dl) Ow (wipe σ vs) H (clr ρ vs) ∧ H Dl = some (.lst xs) ∧ RpA K (own (A.fo Dl).FO Ow) H xs acc := fun {H ρ} hs r => by
      refine ⟨?_, (r.keep _ List.mem_cons_self).1, r.pin _ List.mem_cons_self⟩
      have q := (r.unkeep.unpin (A := (A.wth P L).fo Dl)).wiped vs hs
      rw [wq] at q
      exact q
    cases b with
    | true =>
      refine (if_pos rfl).mpr ⟨_, Ow, ρ5, _, rel5, h5 rfl, fun y H6 z ρ6 e6 rel6 rp6 ⟨q1, q2, q3⟩ => ?_⟩
      obtain ⟨b1, b2, b3⟩ := back q2 rel6
      have up := b1.updFo nwP (.lst (xs ++ [y]))
      refine ⟨xs, b2, by rw [rp2.len]; exact q1, _, _, _, upd_same, fun v hv => clr_noAt hv, up, (b3.append (.one rp6)).mono (Stp.upd.weak fun b z => .inl (.inr z)), q3, ?_⟩
      exact ((st2.trans (Stp.of sm)).trans (e5.trans e6)).trans (Stp.upd.weak fun b z => .inl (.inr z))
    | false =>
      obtain ⟨q1, q2⟩ := h6 rfl
      obtain ⟨b1, b2, b3⟩ := back q1 rel5
      exact (if_neg Bool.false_ne_true).mpr ⟨acc, xs, _, b2, fun v hv => clr_noAt hv, b1, b3, q2, (st2.trans (Stp.of sm)).trans e5⟩
  · have e : i = ds.length := by omega
    subst e
    refine .inl ⟨w.1 (Nat.le_refl _), fin Dl H2 xs acc ρ2 ⟨?_, e1.nil0 nw.no hD⟩ nw hD2 ?_ rp2 (last acc ρ2 v2)⟩
    · refine e1.trans fun b o n h => ?_
      refine st2 b o (fun z => ?_) h
      rcases own_fo b z with z | z
      · exact n z
      · rw [z, hD] at h
        cases h
    · exact (rel2.unwth (A := A.fo Dl) (P := P) (L := L)).unwipe no2⟩
theorem qf_lc1 (i : Nat) {elt iter : Expr} {x : Str} {p : Pos} {ifs : List Expr} {scope : Scope} {ti : DI} {tt : DT} {te : DE} (hc : X.calm = true) (hN : X.N.Nodup) (hi : QI X (.Name x p) iter ti) (ok : BlkOk X.N X.env.scope scope [(x, i)])
    (hg : ∀ (s : Shared) (H : Hp) (C : Addr) (cl : List (Str × Addr)) (fp : List Addr), PG (X.blk s H scope (compEnvC scope cl C X.env) fp) (.Name x p) (gName i)) (ht : ∀ (s : Shared) (H : Hp) (C : Addr) (cl : List (Str × Addr)) (fp : List Addr), QTs (X.blk s H scope (compEnvC scope cl C X.env) fp) ifs tt)
    (he : ∀ (s : Shared) (H : Hp) (C : Addr) (cl : List (Str × Addr)) (fp : List Addr), QE (X.blk s H scope (compEnvC scope cl C X.env) fp) elt te) (hs : ∀ x, foldedSetIterable iter X.env x = pure x := by intro _; rfl) : QF X (.ListComp elt [⟨.Name x p, iter, ifs, 0⟩] scope pos) (dLc ti (gL i) tt te [i]) :=
  pe_less (pe_lc (own := [(x, i)]) (tt := lamT (kx X) tt) (te := lam (kx X) te) hc hN hi ok hg ht he hs) (lam_lc (lct_name i))
theorem qs_ownLc (i j : Nat) {elt iter : Expr} {x y : Str} {p py spos : Pos} {ifs : List Expr} {scope : Scope} {ti : DI} {tt : DT} {te : DE} (hc : X.calm = true) (hN : X.N.Nodup) (hsw : swapsWith (.ListComp elt [⟨.Name x p, iter, ifs, 0⟩] scope pos) (some (.Name y py)) spos.line X.env = pure true) (hi : QI X (.Name x p) iter ti) (ok : BlkOk X.N X.env.scope scope [(x, j)])
    (hg : ∀ (s : Shared) (H : Hp) (C : Addr) (cl : List (Str × Addr)) (fp : List Addr), PG (X.blk s H scope (compEnvC scope cl C X.env) fp) (.Name x p) (gName j)) (ht : ∀ (s : Shared) (H : Hp) (C : Addr) (cl : List (Str × Addr)) (fp : List Addr), QTs (X.blk s H scope (compEnvC scope cl C X.env) fp) ifs tt)
    (he : ∀ (s : Shared) (H : Hp) (C : Addr) (cl : List (Str × Addr)) (fp : List Addr), QE (X.blk s H scope (compEnvC scope cl C X.env) fp) elt te) (hy : X.N[i]? = some y := by rfl) (hyl : X.env.scope.names.lookup y = some .local := by rfl) (hs : ∀ x, foldedSetIterable iter X.env x = pure x := by intro _; rfl) :
    QS X (.Assign [.Name y py] (.ListComp elt [⟨.Name x p, iter, ifs, 0⟩] scope pos) spos) (dOwn (dLc ti (gL j) tt te [j]) i) :=
  ps_less (ps_setLc (i := i) (own := [(x, j)]) (tt := lamT (kx X) tt) (te := lam (kx X) te) hc hN hy hyl hsw hi ok hg ht he hs) fun D σ H ⟨A, Ow, ρ, DD, rel, h, n, b, c, r⟩ =>
    lam_lc (lct_name j) σ H _ ⟨A, Ow, ρ, _, rel, h, fun p H' xs cs ρ' e' nw hp rel' rp' ⟨h0, h'⟩ => n (onn Ow i p) _ H' _ (rel'.take h0.ne h0.lt nw hp rp') h'⟩
end

/-! ### defs -/
def startD (N : List Str) (ds : List D) : Env := ds.map .sh ++ List.replicate (N.length - ds.length) .no
/-- the state at a def's entry -/
theorem rel_start {K : KW} {N : List Str} {O : Addr → Prop} {H : Hp} {vs : List V} {ds : List D} (r : RpA K O H vs ds) (ht : ∀ a, O a → ∃ o, H a = some o) : Rel K ⟨H, O, [], [], []⟩ (fun _ => none) (L2.start N vs) H (startD N ds) := by
  have e := r.len
  refine ⟨by unfold L2.start startD; simp [e], fun i s h => ?_, fun _ _ => rfl, fun i j a h => (nomatch h), fun b o _ h => h, ht, fun i a h => (nomatch h), fun i a h => (nomatch h), fun p hp => (nomatch hp), fun i a b h => (nomatch h), fun p hp => (nomatch hp), fun p hp => (nomatch hp)⟩
  unfold startD at h
  unfold L2.start
  by_cases hi : i < ds.length
  · rw [List.getElem?_append_left (by rw [List.length_map]; exact hi), List.getElem?_map, List.getElem?_eq_getElem hi] at h
    cases h
    obtain ⟨v, h1, h2⟩ := r.get (List.getElem?_eq_getElem hi)
    refine ⟨rfl, v, ?_, h2.less fun b z => ?_⟩
    · rw [List.getElem?_append_left (by rw [List.length_map, e]; exact hi), List.getElem?_map, h1]
      rfl
    · rcases z with z | ⟨j, z⟩
      · exact z
      · cases z
  · rw [List.getElem?_append_right (by rw [List.length_map]; omega)] at h
    have q := List.getElem?_eq_some_iff.mp h
    obtain ⟨_, q⟩ := q
    rw [List.getElem_replicate] at q
    subst q
    exact rfl
section
variable {P : Program} {w : World} {K : PySem.W.Frag} {mg : Str → Option Value} {base : Heap}
/-- the context of a def's body -/
abbrev ctx (P : Program) (w : World) (K : PySem.W.Frag) (mg : Str → Option Value) (base : Heap) (N : List Str) (qual : Str) (st : Stmt) (f : Addr) (cdv : Value) (A : Around) (outer : List PySem.Env) (s : Shared) (H : Hp) (E : XK) : Cx := (cxOf CX0 P w K mg base N qual (defScope st) f cdv A outer s H E).nox
/-- what a def's reading is: its body as a term of rules, for every context -/
def Body (P : Program) (w : World) (K : PySem.W.Frag) (mg : Str → Option Value) (base : Heap) (N : List Str) (qual : Str) (st : Stmt) (k : Nat) (G : DS → Prop) : Prop :=
  ∀ (f : Addr) (cdv : Value) (A : Around) (outer : List PySem.Env) (s : Shared) (H : Hp) (E : XK), Room k (ctx P w K mg base N qual st f cdv A outer s H E).A → ∃ ts, QSs (ctx P w K mg base N qual st f cdv A outer s H E) (defBody st) ts ∧ G ts
/-- a def's body from data to data -/
theorem fn_D {x qual : Str} {st : Stmt} {f : Addr} {fd : FuncData} {N ps : List Str} {k : Nat} {p : List D → (D → Prop) → Prop} (F : Fun K x qual st f fd) (S : FnScope N ps (defScope st)) (len : ∀ ds R, p ds R → ds.length = ps.length)
    (hbody : Body P w K mg base N qual st k fun ts => ∀ ds R, p ds R → ts { nx := fun _ => R .none, rt := fun d _ => R d } (startD N ds)) : FnOk P w K mg base CX0 (k + 1) f fd ps (spD ⟨K, P, w⟩ p) := by
  refine F.ok S (fun vs H Q E h => ?_) (fun cdv A outer s H vs Q E hr h => ?_)
  · obtain ⟨O, ds, R, h1, _, h2, _⟩ := h
    rw [h1.len]
    exact len ds R h2
  · obtain ⟨O, ds, R, h1, h2, h3, h4⟩ := h
    obtain ⟨ts, hq, hs⟩ := hbody f cdv A outer s H E hr
    refine ⟨_, hq, _, _, _, _, rel_start h1 h2, hs ds R h3, fun Ow' σ' H' ρ' rel' h' => ?_, fun _ _ _ _ _ z => z.elim, fun _ _ _ _ _ z => z.elim, fun Ow' σ' H' ρ' v d rel' rp' h' => ?_, fun _ _ _ _ _ _ _ _ _ _ _ z => z.elim⟩
    · exact h4 .non H' .none (fun b o q => rel'.kept b o (fun i z => nomatch z) q) .non h'
    · exact h4 v H' d (fun b o q => rel'.kept b o (fun i z => nomatch z) q) (rp'.less fun b z => .inl z) h'
theorem fn_F {x qual : Str} {st : Stmt} {f : Addr} {fd : FuncData} {N ps : List Str} {k : Nat} {p : List D → (List D → Prop) → Prop} (F : Fun K x qual st f fd) (S : FnScope N ps (defScope st)) (len : ∀ ds R, p ds R → ds.length = ps.length)
    (hbody : Body P w K mg base N qual st k fun ts => ∀ ds R, p ds R → ts { nx := fun _ => False, rt := fun _ _ => False, rf := fun cs _ => R cs } (startD N ds)) : FnOk P w K mg base CX0 (k + 1) f fd ps (spF ⟨K, P, w⟩ p) := by
  refine F.ok S (fun vs H Q E h => ?_) (fun cdv A outer s H vs Q E hr h => ?_)
  · obtain ⟨O, ds, R, h1, _, h2, _⟩ := h
    rw [h1.len]
    exact len ds R h2
  · obtain ⟨O, ds, R, h1, h2, h3, h4⟩ := h
    obtain ⟨ts, hq, hs⟩ := hbody f cdv A outer s H E hr
    refine ⟨_, hq, _, _, _, _, rel_start h1 h2, hs ds R h3, fun _ _ _ _ _ z => z.elim, fun _ _ _ _ _ z => z.elim, fun _ _ _ _ _ z => z.elim, fun _ _ _ _ _ _ _ _ z => z.elim, fun Ow' σ' H' ρ' q xs cs nw hp rel' rp' h' => ?_⟩
    exact h4 q H' xs cs (fun b o z => rel'.kept b o (fun i z => nomatch z) z) nw.h0 hp (rp'.less fun b z => .inl z) h'
def startI (N : List Str) (cs ds : List D) : Env := .io cs :: (ds.map .sh ++ List.replicate (N.length - (ds.length + 1)) .no)
theorem rel_startI {K : KW} {N : List Str} {O : Addr → Prop} {H : Hp} {a : Addr} {xs vs : List V} {cs ds : List D} (hO : O a) (ha : H a = some (.lst xs)) (hc : RpA K O H xs cs) (r : RpA K O H vs ds) (ht : ∀ a, O a → ∃ o, H a = some o) (hN : N ≠ []) :
    Rel K ⟨H, O, [(0, a)], [], []⟩ (fun i => if i = 0 then some a else none) (L2.start N (.ref a :: vs)) H (startI N cs ds) := by
  have e := r.len
  have lessO : ∀ b, own O (fun i => if i = 0 then some a else none) b → O b := fun b z => by
    rcases z with z | ⟨j, z⟩
    · exact z
    · by_cases q : j = 0
      · simp only [q, if_true] at z
        cases z; exact hO
      · simp only [q, if_false] at z
        cases z
  refine ⟨by unfold L2.start startI; simp [e], fun i s h => ?_, fun i hi => ?_, fun i j b h1 h2 => ?_, fun b o _ h => h, ht, fun i b h => ?_, fun i b h => ?_, fun p hp => ?_, fun i b c h1 h2 => ?_, fun p hp => (nomatch hp), fun p hp => (nomatch hp)⟩
  · unfold startI at h
    unfold L2.start
    cases i with
    | zero =>
      simp only [List.getElem?_cons_zero] at h
      cases h
      exact ⟨a, xs, rfl, rfl, ha, hc.less lessO, List.mem_singleton.mpr rfl⟩
    | succ i =>
      simp only [List.getElem?_cons_succ, List.map_cons, List.cons_append] at h ⊢
      have ez : (if i + 1 = 0 then some a else none) = (none : Option Addr) := by simp
      rw [ez]
      by_cases hi : i < ds.length
      · rw [List.getElem?_append_left (by rw [List.length_map]; exact hi), List.getElem?_map, List.getElem?_eq_getElem hi] at h
        cases h
        obtain ⟨v, h1, h2⟩ := r.get (List.getElem?_eq_getElem hi)
        refine ⟨rfl, v, ?_, h2.less lessO⟩
        rw [List.getElem?_append_left (by rw [List.length_map, e]; exact hi), List.getElem?_map, h1]
        rfl
      · rw [List.getElem?_append_right (by rw [List.length_map]; omega)] at h
        obtain ⟨_, q⟩ := List.getElem?_eq_some_iff.mp h
        rw [List.getElem_replicate] at q
        subst q
        exact rfl
  · have : i ≠ 0 := by
      unfold startI at hi
      simp at hi
      omega
    simp [this]
  · by_cases q : i = 0
    · by_cases q2 : j = 0
      · rw [q, q2]
      · simp [q2] at h2
    · simp [q] at h1
  · by_cases q : i = 0
    · simp [q] at h
      subst h
      exact .inr (by rw [q]; exact List.mem_singleton.mpr rfl)
    · simp [q] at h
  · by_cases q : i = 0
    · simp [q] at h
      subst h
      exact .inl (by rw [q]; exact List.mem_singleton.mpr rfl)
    · simp [q] at h
  · cases List.mem_singleton.mp hp
    exact ⟨cs, rfl⟩
  · cases List.mem_singleton.mp h1
    cases List.mem_singleton.mp h2
    rfl
theorem Rel.endI {K : KW} {A : Act} {O : Addr → Prop} {H0 : Hp} {a : Addr} {Ow : Nat → Option Addr} {σ : L2.St} {H : Hp} {ρ : Env} {cs : List D} (hA : A.io = [(0, a)]) (R : Rel K A Ow σ H ρ) (h : ρ[0]? = some (.io cs)) : ∃ xs, H a = some (.lst xs) ∧ RpA K (own A.FO Ow) H xs cs := by
  obtain ⟨b, xs, h1, h2, h3, h4, h5⟩ := R.sl 0 _ h
  rw [hA] at h5
  cases List.mem_singleton.mp h5
  exact ⟨xs, h3, h4⟩
theorem not_io {a b : Addr} (h : b ≠ a) : ∀ i : Nat, (i, b) ∉ [((0 : Nat), a)] := fun i z => by
  cases List.mem_singleton.mp z
  exact h rfl
theorem fn_I {x qual : Str} {st : Stmt} {f : Addr} {fd : FuncData} {N ps : List Str} {k : Nat} {p : List D → List D → (D → List D → Prop) → Prop} (F : Fun K x qual st f fd) (S : FnScope N ps (defScope st)) (hN : N ≠ []) (len : ∀ cs ds R, p cs ds R → ds.length + 1 = ps.length)
    (hbody : Body P w K mg base N qual st k fun ts => ∀ cs ds R, p cs ds R → ts { nx := fun ρ => ∃ cs', ρ[0]? = some (.io cs') ∧ R .none cs', rt := fun d ρ => ∃ cs', ρ[0]? = some (.io cs') ∧ R d cs' } (startI N cs ds)) : FnOk P w K mg base CX0 (k + 1) f fd ps (spI ⟨K, P, w⟩ p) := by
  refine F.ok S (fun vs H Q E h => ?_) (fun cdv A outer s H vs Q E hr h => ?_)
  · obtain ⟨O, a, xs, cs, vs', ds, R, rfl, _, _, _, h1, _, h2, _⟩ := h
    rw [List.length_cons, h1.len]
    exact len cs ds R h2
  · obtain ⟨O, a, xs, cs, vs', ds, R, rfl, hO, ha, hc, h1, h2, h3, h4⟩ := h
    obtain ⟨ts, hq, hs⟩ := hbody f cdv A outer s H E hr
    refine ⟨_, hq, _, _, _, _, rel_startI hO ha hc h1 h2 hN, hs cs ds R h3, fun Ow' σ' H' ρ' rel' ⟨cs', g1, g2⟩ => ?_, fun _ _ _ _ _ z => z.elim, fun _ _ _ _ _ z => z.elim, fun Ow' σ' H' ρ' v d rel' rp' ⟨cs', g1, g2⟩ => ?_, fun _ _ _ _ _ _ _ _ _ _ _ z => z.elim⟩
    · obtain ⟨xs', k1, k2⟩ := rel'.endI (O := O) (H0 := H) rfl g1
      exact h4 .non H' xs' cs' .none (fun b o n q => rel'.kept b o (not_io n) q) k1 (k2.less fun b z => .inl z) .non g2
    · obtain ⟨xs', k1, k2⟩ := rel'.endI (O := O) (H0 := H) rfl g1
      exact h4 v H' xs' cs' d (fun b o n q => rel'.kept b o (not_io n) q) k1 (k2.less fun b z => .inl z) (rp'.less fun b z => .inl z) g2
end
/-! ### operations -/
section
variable {K : KW}
def dI (C : Int → Int → Prop) (g : Int → Int → D) (d e : D) (R : D → Prop) : Prop := match d, e with
  | .int i, .int j => C i j ∧ R (g i j)
  | _, _ => False
def dI0 (g : Int → Int → D) (d e : D) (R : D → Prop) : Prop := match d, e with
  | .int i, .int j => R (g i j)
  | _, _ => False
theorem lift_I {C : Int → Int → Prop} {g : Int → Int → V} {g' : Int → Int → D} (hg : ∀ O H i j, Rp K O H (g i j) (g' i j)) : Lift2 K (rI C g) (dI C g') := fun O H x y d e R Q _ hx hy h k => by
  cases hx with
  | int i =>
    cases hy with
    | int j => exact ⟨i, j, rfl, rfl, h.1, k _ _ _ (Same.refl H) (hg O H i j) h.2⟩
    | _ => exact h.elim
  | _ => cases hy <;> exact h.elim
theorem lift_I0 {g : Int → Int → V} {g' : Int → Int → D} (hg : ∀ O H i j, Rp K O H (g i j) (g' i j)) : Lift2 K (rI0 g) (dI0 g') := fun O H x y d e R Q _ hx hy h k => by
  cases hx with
  | int i =>
    cases hy with
    | int j => exact ⟨i, j, rfl, rfl, k _ _ _ (Same.refl H) (hg O H i j) h⟩
    | _ => exact h.elim
  | _ => cases hy <;> exact h.elim
theorem Lift2.or {r r' : R2} {rd rd' : D → D → (D → Prop) → Prop} (h : Lift2 K r rd) (h' : Lift2 K r' rd') : Lift2 K (fun x y H Q => r x y H Q ∨ r' x y H Q) (fun d e R => rd d e R ∨ rd' d e R) := fun O H x y d e R Q ho hx hy q k => by
  rcases q with q | q
  · exact .inl (h O H x y d e R Q ho hx hy q k)
  · exact .inr (h' O H x y d e R Q ho hx hy q k)
theorem Lift2.less {r : R2} {rd rd' : D → D → (D → Prop) → Prop} (h : Lift2 K r rd) (s : ∀ d e R, rd' d e R → rd d e R) : Lift2 K r rd' := fun O H x y d e R Q ho hx hy q k => h O H x y d e R Q ho hx hy (s d e R q) k
def dStrCat (d e : D) (R : D → Prop) : Prop := match d, e with
  | .str i, .str j => i.length + j.length ≤ sizeLine ∧ R (.str (i ++ j))
  | _, _ => False
theorem lift_strCat : Lift2 K (fun x y H Q => ∃ i j, x = .str i ∧ y = .str j ∧ i.length + j.length ≤ sizeLine ∧ Q (.str (i ++ j)) H) dStrCat := fun O H x y d e R Q _ hx hy h k => by
  cases hx with
  | str i =>
    cases hy with
    | str j => exact ⟨i, j, rfl, rfl, h.1, k _ _ _ (Same.refl H) (.str _) h.2⟩
    | _ => exact h.elim
  | _ => cases hy <;> exact h.elim
def dAdd (d e : D) (R : D → Prop) : Prop := match d, e with
  | .int i, .int j => R (.int (i + j))
  | .str i, .str j => i.length + j.length ≤ sizeLine ∧ R (.str (i ++ j))
  | _, _ => False
theorem lift_add : Lift2 K (fun x y H Q => rI0 (fun i j => .int (i + j)) x y H Q ∨ ∃ i j, x = .str i ∧ y = .str j ∧ i.length + j.length ≤ sizeLine ∧ Q (.str (i ++ j)) H) dAdd :=
  ((lift_I0 fun _ _ _ _ => .int _).or lift_strCat).less (rd' := dAdd) fun d e R h => by
    cases d <;> cases e <;> first | exact .inl h | exact .inr h | exact h.elim
abbrev dSub := dI0 fun i j => .int (i - j)
def CMulA (i j : Int) : Prop := CMul i j ∨ CMulW i j
theorem op_mulA {X : Cx} : OpR X (binaryOp .Mult) (rI CMulA fun i j => .int (i * j)) := opI fun _ _ _ _ _ _ _ hc q => PyProof.Rows.mul_int q (hc.elim (fun h => h.ok) fun h => h.ok)
def CDivG (i j : Int) : Prop := j ≠ 0 ∧ Builtin.divisionGoesByPylong i j = false
theorem op_fdivG {X : Cx} : OpR X (binaryOp .FloorDiv) (rI CDivG fun i j => .int (i.fdiv j)) := opI fun _ _ _ _ _ _ _ hc q => PyProof.Rows.floordiv_int hc.1 q (.inl hc.2)
abbrev dMul := dI CMulA fun i j => .int (i * j)
abbrev dFdv := dI CDivG fun i j => .int (i.fdiv j)
abbrev dMod := dI (fun _ j => j ≠ 0) fun i j => .int (i.fmod j)
abbrev dPow := dI CPow fun i j => .int (i ^ j.toNat)
/-! equality -/
def rEqA (K : KW) : R2 := fun x y H Q => rEq x y H Q ∨ rEqD K.fr x y H Q
def rNeA (K : KW) : R2 := fun x y H Q => rNe x y H Q ∨ rNeD K.fr x y H Q
def dEqB (d e : D) (R : Bool → Prop) : Prop := match d, e with
  | .int i, .int j => R (i == j)
  | .str i, .str j => R (i == j)
  | .bool i, .bool j => R (i == j)
  | d, e => SeqAt.shaped d = true ∧ SeqAt.shaped e = true ∧ R (PyData.eqv d e)
def dEq (d e : D) (R : D → Prop) : Prop := dEqB d e fun b => R (.bool b)
def dNe (d e : D) (R : D → Prop) : Prop := dEqB d e fun b => R (.bool !b)
theorem rEq_int {i j : Int} {H : Hp} {Q : VK} (h : Q (.bl (i == j)) H) : rEq (.int i) (.int j) H Q := ⟨rfl, by rw [dec_int]; exact h⟩
theorem rEq_str {i j : Str} {H : Hp} {Q : VK} (h : Q (.bl (i == j)) H) : rEq (.str i) (.str j) H Q := ⟨rfl, by rw [dec_str]; exact h⟩
theorem rEq_bl {i j : Bool} {H : Hp} {Q : VK} (h : Q (.bl (i == j)) H) : rEq (.bl i) (.bl j) H Q := ⟨rfl, by rw [dec_bl]; exact h⟩
theorem rNe_int {i j : Int} {H : Hp} {Q : VK} (h : Q (.bl (!(i == j))) H) : rNe (.int i) (.int j) H Q := ⟨rfl, by rw [dec_int]; exact h⟩
theorem rNe_str {i j : Str} {H : Hp} {Q : VK} (h : Q (.bl (!(i == j))) H) : rNe (.str i) (.str j) H Q := ⟨rfl, by rw [dec_str]; exact h⟩
theorem rNe_bl {i j : Bool} {H : Hp} {Q : VK} (h : Q (.bl (!(i == j))) H) : rNe (.bl i) (.bl j) H Q := ⟨rfl, by rw [dec_bl]; exact h⟩
theorem lift_eq : Lift2 K (rEqA K) dEq := fun O H x y d e R Q _ hx hy h k => by
  have hx0 := hx
  have hy0 := hy
  cases hx with
  | int i =>
    cases hy with
    | int j => exact .inl (rEq_int (k _ _ _ (Same.refl H) (.bl _) h))
    | _ => exact .inr ⟨_, _, hx0.dp (noD_shaped h.1), hy0.dp (noD_shaped h.2.1), h.1, h.2.1, k _ _ _ (Same.refl H) (.bl _) h.2.2⟩
  | str i =>
    cases hy with
    | str j => exact .inl (rEq_str (k _ _ _ (Same.refl H) (.bl _) h))
    | _ => exact .inr ⟨_, _, hx0.dp (noD_shaped h.1), hy0.dp (noD_shaped h.2.1), h.1, h.2.1, k _ _ _ (Same.refl H) (.bl _) h.2.2⟩
  | bl i =>
    cases hy with
    | bl j => exact .inl (rEq_bl (k _ _ _ (Same.refl H) (.bl _) h))
    | _ => exact .inr ⟨_, _, hx0.dp (noD_shaped h.1), hy0.dp (noD_shaped h.2.1), h.1, h.2.1, k _ _ _ (Same.refl H) (.bl _) h.2.2⟩
  | _ => cases hy <;> exact .inr ⟨_, _, hx0.dp (noD_shaped h.1), hy0.dp (noD_shaped h.2.1), h.1, h.2.1, k _ _ _ (Same.refl H) (.bl _) h.2.2⟩
theorem lift_ne : Lift2 K (rNeA K) dNe := fun O H x y d e R Q _ hx hy h k => by
  have hx0 := hx
  have hy0 := hy
  cases hx with
  | int i =>
    cases hy with
    | int j => exact .inl (rNe_int (k _ _ _ (Same.refl H) (.bl _) h))
    | _ => exact .inr ⟨_, _, hx0.dp (noD_shaped h.1), hy0.dp (noD_shaped h.2.1), h.1, h.2.1, k _ _ _ (Same.refl H) (.bl _) h.2.2⟩
  | str i =>
    cases hy with
    | str j => exact .inl (rNe_str (k _ _ _ (Same.refl H) (.bl _) h))
    | _ => exact .inr ⟨_, _, hx0.dp (noD_shaped h.1), hy0.dp (noD_shaped h.2.1), h.1, h.2.1, k _ _ _ (Same.refl H) (.bl _) h.2.2⟩
  | bl i =>
    cases hy with
    | bl j => exact .inl (rNe_bl (k _ _ _ (Same.refl H) (.bl _) h))
    | _ => exact .inr ⟨_, _, hx0.dp (noD_shaped h.1), hy0.dp (noD_shaped h.2.1), h.1, h.2.1, k _ _ _ (Same.refl H) (.bl _) h.2.2⟩
  | _ => cases hy <;> exact .inr ⟨_, _, hx0.dp (noD_shaped h.1), hy0.dp (noD_shaped h.2.1), h.1, h.2.1, k _ _ _ (Same.refl H) (.bl _) h.2.2⟩
/-! order -/
def rCmD (K : KW) (f : D → D → Bool) : R2 := fun x y H Q => ∃ d e, Dp K.fr H x d ∧ Dp K.fr H y e ∧ PySem.W.alike d e = true ∧ d ≠ .none ∧ d.depth ≤ 64 ∧ Q (.bl (f d e)) H
def dCmB (g : Int → Int → Bool) (f : D → D → Bool) (d e : D) (R : D → Prop) : Prop := match d, e with
  | .int i, .int j => R (.bool (g i j))
  | d, e => noD d = true ∧ noD e = true ∧ PySem.W.alike d e = true ∧ d ≠ .none ∧ d.depth ≤ 64 ∧ R (.bool (f d e))
theorem lift_cm {g : Int → Int → Bool} {f : D → D → Bool} : Lift2 K (fun x y H Q => rI0 (fun i j => .bl (g i j)) x y H Q ∨ rCmD K f x y H Q) (dCmB g f) := fun O H x y d e R Q _ hx hy h k => by
  have hx0 := hx
  have hy0 := hy
  cases hx with
  | int i =>
    cases hy with
    | int j => exact .inl ⟨i, j, rfl, rfl, k _ _ _ (Same.refl H) (.bl _) h⟩
    | _ => exact .inr ⟨_, _, hx0.dp h.1, hy0.dp h.2.1, h.2.2.1, h.2.2.2.1, h.2.2.2.2.1, k _ _ _ (Same.refl H) (.bl _) h.2.2.2.2.2⟩
  | _ => cases hy <;> exact .inr ⟨_, _, hx0.dp h.1, hy0.dp h.2.1, h.2.2.1, h.2.2.2.1, h.2.2.2.2.1, k _ _ _ (Same.refl H) (.bl _) h.2.2.2.2.2⟩
variable {X : Cx}
theorem op_ltD (hu : X.A.units + 64 < cLine) : OpR X (compareOp .Lt) (rCmD (kx X) fun d e => PySem.W.dataLt d e) := by
  intro pins s σ H x y v u Q I rx ry h
  obtain ⟨d, e, hd, he, ha, hn, hdp, q⟩ := h
  obtain ⟨as, r1⟩ := Dp.reads I d x v hd rx
  obtain ⟨bs, r2⟩ := Dp.reads I e y u he ry
  have hm : min d.depth e.depth ≤ d.depth := Nat.min_le_left _ _
  exact PySem.W.lt_data r1 r2 ha hn (by omega) ⟨.bl _, H, I, rfl, q⟩
theorem op_gtD (hu : X.A.units + 64 < cLine) : OpR X (compareOp .Gt) (rCmD (kx X) fun d e => PySem.W.dataLt e d) := by
  intro pins s σ H x y v u Q I rx ry h
  obtain ⟨d, e, hd, he, ha, hn, hdp, q⟩ := h
  obtain ⟨as, r1⟩ := Dp.reads I d x v hd rx
  obtain ⟨bs, r2⟩ := Dp.reads I e y u he ry
  have hm : min d.depth e.depth ≤ d.depth := Nat.min_le_left _ _
  exact PySem.W.gt_data r1 r2 ha hn (by omega) ⟨.bl _, H, I, rfl, q⟩
theorem op_leD (hu : X.A.units + 64 < cLine) : OpR X (compareOp .LtE) (rCmD (kx X) fun d e => !PySem.W.dataLt e d) := by
  intro pins s σ H x y v u Q I rx ry h
  obtain ⟨d, e, hd, he, ha, hn, hdp, q⟩ := h
  obtain ⟨as, r1⟩ := Dp.reads I d x v hd rx
  obtain ⟨bs, r2⟩ := Dp.reads I e y u he ry
  have hm : min d.depth e.depth ≤ d.depth := Nat.min_le_left _ _
  exact PySem.W.le_data r1 r2 ha hn (by omega) ⟨.bl _, H, I, rfl, q⟩
theorem op_geD (hu : X.A.units + 64 < cLine) : OpR X (compareOp .GtE) (rCmD (kx X) fun d e => !PySem.W.dataLt d e) := by
  intro pins s σ H x y v u Q I rx ry h
  obtain ⟨d, e, hd, he, ha, hn, hdp, q⟩ := h
  obtain ⟨as, r1⟩ := Dp.reads I d x v hd rx
  obtain ⟨bs, r2⟩ := Dp.reads I e y u he ry
  have hm : min d.depth e.depth ≤ d.depth := Nat.min_le_left _ _
  exact PySem.W.ge_data r1 r2 ha hn (by omega) ⟨.bl _, H, I, rfl, q⟩
abbrev dLt := dCmB (fun i j => decide (i < j)) fun d e => PySem.W.dataLt d e
abbrev dGt := dCmB (fun i j => decide (j < i)) fun d e => PySem.W.dataLt e d
abbrev dLe := dCmB (fun i j => decide (i ≤ j)) fun d e => !PySem.W.dataLt e d
abbrev dGe := dCmB (fun i j => decide (j ≤ i)) fun d e => !PySem.W.dataLt d e
/-! in -/
def dIn (neg : Bool) (d e : D) (R : D → Prop) : Prop := match e with
  | .list ds => SeqAt.shaped d = true ∧ SeqAt.shaped (.list ds) = true ∧ R (.bool (if neg then !(ds.any fun z => PyData.eqv z d) else ds.any fun z => PyData.eqv z d))
  | _ => False
theorem lift_in : Lift2 K (rInD K.fr) (dIn false) := fun O H x y d e R Q _ hx hy h k => by
  have hx0 := hx
  have hy0 := hy
  cases hy with
  | lst _ _ => exact ⟨d, _, hx0.dp (noD_shaped h.1), hy0.dp (noD_shaped h.2.1), h.1, h.2.1, k _ _ _ (Same.refl H) (.bl _) h.2.2⟩
  | _ => exact h.elim
theorem lift_notin : Lift2 K (rNotInD K.fr) (dIn true) := fun O H x y d e R Q _ hx hy h k => by
  have hx0 := hx
  have hy0 := hy
  cases hy with
  | lst _ _ => exact ⟨d, _, hx0.dp (noD_shaped h.1), hy0.dp (noD_shaped h.2.1), h.1, h.2.1, k _ _ _ (Same.refl H) (.bl _) h.2.2⟩
  | _ => exact h.elim
/-! the rules -/
variable {pos : Pos} {a b : Expr} {ta tb : DE}
theorem q_add (ha : QE X a ta) (hb : QE X b tb) : QE X (.BinOp a .Add b pos) (dOp dAdd ta tb) := qe_op (op_add.or op_add_str) lift_add ha hb
theorem q_sub (ha : QE X a ta) (hb : QE X b tb) : QE X (.BinOp a .Sub b pos) (dOp dSub ta tb) := qe_op op_sub (lift_I0 fun _ _ _ _ => .int _) ha hb
theorem q_mul (ha : QE X a ta) (hb : QE X b tb) : QE X (.BinOp a .Mult b pos) (dOp dMul ta tb) := qe_op op_mulA (lift_I fun _ _ _ _ => .int _) ha hb
theorem q_fdv (ha : QE X a ta) (hb : QE X b tb) : QE X (.BinOp a .FloorDiv b pos) (dOp dFdv ta tb) := qe_op op_fdivG (lift_I fun _ _ _ _ => .int _) ha hb
theorem q_mod (ha : QE X a ta) (hb : QE X b tb) : QE X (.BinOp a .Mod b pos) (dOp dMod ta tb) := qe_op op_modN (lift_I fun _ _ _ _ => .int _) ha hb
theorem q_pow (ha : QE X a ta) (hb : QE X b tb) : QE X (.BinOp a .Pow b pos) (dOp dPow ta tb) := qe_op op_pow (lift_I fun _ _ _ _ => .int _) ha hb
def dNeg (d : D) (R : D → Prop) : Prop := match d with
  | .int i => R (.int (-i))
  | _ => False
theorem lift_neg : Lift1 K (rU fun i => .int (-i)) dNeg := fun O H x d R Q _ hx h k => by
  cases hx with
  | int i => exact ⟨i, rfl, k _ _ _ (Same.refl H) (.int _) h⟩
  | _ => exact h.elim
theorem q_neg (ha : QE X a ta) : QE X (.UnaryOp .USub a pos) (fun ρ Q => ta ρ fun d ρ1 => dNeg d fun z => Q z ρ1) := qe_un un_neg lift_neg ha
theorem q_eq (hu : X.A.units + 64 < cLine) (ha : QE X a ta) (hb : QE X b tb) : QE X (.Compare a [.Eq] [b] pos) (dOp dEq ta tb) := qe_cmpR (op_eq.or (op_eqD hu)) lift_eq ha hb (nomark _)
theorem q_ne (hu : X.A.units + 64 < cLine) (ha : QE X a ta) (hb : QE X b tb) : QE X (.Compare a [.NotEq] [b] pos) (dOp dNe ta tb) := qe_cmpR (op_ne.or (op_neD hu)) lift_ne ha hb (nomark _)
theorem q_lt (hu : X.A.units + 64 < cLine) (ha : QE X a ta) (hb : QE X b tb) : QE X (.Compare a [.Lt] [b] pos) (dOp dLt ta tb) := qe_cmpR (op_lt.or (op_ltD hu)) lift_cm ha hb (nomark _)
theorem q_gt (hu : X.A.units + 64 < cLine) (ha : QE X a ta) (hb : QE X b tb) : QE X (.Compare a [.Gt] [b] pos) (dOp dGt ta tb) := qe_cmpR (op_gt.or (op_gtD hu)) lift_cm ha hb (nomark _)
theorem q_le (hu : X.A.units + 64 < cLine) (ha : QE X a ta) (hb : QE X b tb) : QE X (.Compare a [.LtE] [b] pos) (dOp dLe ta tb) := qe_cmpR (op_le.or (op_leD hu)) lift_cm ha hb (nomark _)
theorem q_ge (hu : X.A.units + 64 < cLine) (ha : QE X a ta) (hb : QE X b tb) : QE X (.Compare a [.GtE] [b] pos) (dOp dGe ta tb) := qe_cmpR (op_ge.or (op_geD hu)) lift_cm ha hb (nomark _)
theorem t_eq (hu : X.A.units + 64 < cLine) (ha : QE X a ta) (hb : QE X b tb) : QT X (.Compare a [.Eq] [b] pos) (dTest (dOp dEq ta tb)) := qt_cmpR (op_eq.or (op_eqD hu)) lift_eq ha hb (nomark _)
theorem t_ne (hu : X.A.units + 64 < cLine) (ha : QE X a ta) (hb : QE X b tb) : QT X (.Compare a [.NotEq] [b] pos) (dTest (dOp dNe ta tb)) := qt_cmpR (op_ne.or (op_neD hu)) lift_ne ha hb (nomark _)
theorem t_lt (hu : X.A.units + 64 < cLine) (ha : QE X a ta) (hb : QE X b tb) : QT X (.Compare a [.Lt] [b] pos) (dTest (dOp dLt ta tb)) := qt_cmpR (op_lt.or (op_ltD hu)) lift_cm ha hb (nomark _)
theorem t_gt (hu : X.A.units + 64 < cLine) (ha : QE X a ta) (hb : QE X b tb) : QT X (.Compare a [.Gt] [b] pos) (dTest (dOp dGt ta tb)) := qt_cmpR (op_gt.or (op_gtD hu)) lift_cm ha hb (nomark _)
theorem t_le (hu : X.A.units + 64 < cLine) (ha : QE X a ta) (hb : QE X b tb) : QT X (.Compare a [.LtE] [b] pos) (dTest (dOp dLe ta tb)) := qt_cmpR (op_le.or (op_leD hu)) lift_cm ha hb (nomark _)
theorem t_ge (hu : X.A.units + 64 < cLine) (ha : QE X a ta) (hb : QE X b tb) : QT X (.Compare a [.GtE] [b] pos) (dTest (dOp dGe ta tb)) := qt_cmpR (op_ge.or (op_geD hu)) lift_cm ha hb (nomark _)
theorem q_in (hu : X.A.units + 65 < cLine) (ha : QE X a ta) (hb : QE X b tb) (hm : behindInMarks .In b = false := by with_unfolding_all rfl) : QE X (.Compare a [.In] [b] pos) (dOp (dIn false) ta tb) := qe_cmpR (op_inD hu) lift_in ha hb hm
theorem t_in (hu : X.A.units + 65 < cLine) (ha : QE X a ta) (hb : QE X b tb) (hm : behindInMarks .In b = false := by with_unfolding_all rfl) : QT X (.Compare a [.In] [b] pos) (dTest (dOp (dIn false) ta tb)) := qt_cmpR (op_inD hu) lift_in ha hb hm
theorem q_notin (hu : X.A.units + 65 < cLine) (ha : QE X a ta) (hb : QE X b tb) (hm : behindInMarks .NotIn b = false := by with_unfolding_all rfl) : QE X (.Compare a [.NotIn] [b] pos) (dOp (dIn true) ta tb) := qe_cmpR (op_notInD hu) lift_notin ha hb hm
theorem t_notin (hu : X.A.units + 65 < cLine) (ha : QE X a ta) (hb : QE X b tb) (hm : behindInMarks .NotIn b = false := by with_unfolding_all rfl) : QT X (.Compare a [.NotIn] [b] pos) (dTest (dOp (dIn true) ta tb)) := qt_cmpR (op_notInD hu) lift_notin ha hb hm
/-! built-ins -/
def dC1 (g : Int → D) (ds : List D) (R : D → Prop) : Prop := match ds with
  | [.int i] => R (g i)
  | _ => False
def dC2 (g : Int → Int → D) (ds : List D) (R : D → Prop) : Prop := match ds with
  | [.int i, .int j] => R (g i j)
  | _ => False
theorem lift_C1 {g : Int → V} {g' : Int → D} (hg : ∀ O H i, Rp K O H (g i) (g' i)) : LiftC K (fun xs H Q => ∃ i, xs = [.int i] ∧ Q (g i) H) (dC1 g') := fun O H xs ds R Q _ hx h k => by
  unfold dC1 at h
  split at h
  · match xs, hx with
    | _, .cons (.int i) .nil => exact ⟨i, rfl, k _ _ _ (Same.refl H) (hg _ _ _) h⟩
  · exact h.elim
theorem lift_C2 {g : Int → Int → V} {g' : Int → Int → D} (hg : ∀ O H i j, Rp K O H (g i j) (g' i j)) : LiftC K (fun xs H Q => ∃ i j, xs = [.int i, .int j] ∧ Q (g i j) H) (dC2 g') := fun O H xs ds R Q _ hx h k => by
  unfold dC2 at h
  split at h
  · match xs, hx with
    | _, .cons (.int i) (.cons (.int j) .nil) => exact ⟨i, j, rfl, k _ _ _ (Same.refl H) (hg _ _ _ _) h⟩
  · exact h.elim
abbrev dAbs := dC1 fun i => .int (if i < 0 then -i else i)
abbrev dMax2 := dC2 fun i j => .int (if j > i then j else i)
abbrev dMin2 := dC2 fun i j => .int (if j < i then j else i)
def dInt (ds : List D) (R : D → Prop) : Prop := match ds with
  | [.int i] => R (.int i)
  | [.bool k] => R (.int (if k then 1 else 0))
  | _ => False
theorem lift_int : LiftC K (fun xs H Q => (∃ i, xs = [.int i] ∧ Q (.int i) H) ∨ ∃ k, xs = [.bl k] ∧ Q (.int (if k then 1 else 0)) H) dInt := fun O H xs ds R Q _ hx h k => by
  unfold dInt at h
  split at h
  · match xs, hx with
    | _, .cons (.int i) .nil => exact .inl ⟨i, rfl, k _ _ _ (Same.refl H) (.int _) h⟩
  · match xs, hx with
    | _, .cons (.bl i) .nil => exact .inr ⟨i, rfl, k _ _ _ (Same.refl H) (.int _) h⟩
  · exact h.elim
def dLen (ds : List D) (R : D → Prop) : Prop := match ds with
  | [.list xs] => R (.int xs.length)
  | [.tuple xs] => R (.int xs.length)
  | [.str z] => z.length ≤ sizeLine ∧ R (.int z.length)
  | _ => False
theorem lift_len : LiftC K (fun xs H Q => ∃ x n, xs = [x] ∧ LenV K.fr x H n ∧ Q (.int n) H) dLen := fun O H xs ds R Q _ hx h k => by
  unfold dLen at h
  split at h
  · match xs, hx with
    | _, .cons (.lst hs ha) .nil => exact ⟨_, _, rfl, .inl ⟨_, hs.sq, ha.len.symm⟩, k _ _ _ (Same.refl H) (.int _) h⟩
  · match xs, hx with
    | _, .cons (.tup hs ha) .nil => exact ⟨_, _, rfl, .inr ⟨_, hs.sq, ha.len.symm⟩, k _ _ _ (Same.refl H) (.int _) h⟩
  · match xs, hx with
    | _, .cons (.str z) .nil => exact ⟨_, _, rfl, ⟨h.1, rfl⟩, k _ _ _ (Same.refl H) (.int _) h.2⟩
  · exact h.elim
variable {e : Expr} {p : Pos}
theorem q_abs {ta : DA} (hg : Gl X "abs") (hm : X.mg "abs" = none) (ha : QA X [e] ta) (he : starEach [e] X.env = (false, eval e X.env) :: starEach [] X.env := by rfl) : QE X (.Call (.Name "abs" p) [e] [] pos) (dCB dAbs ta) := qe_callB call_abs (lift_C1 fun _ _ _ => .int _) hg hm (by rfl) ha (by decide) (by decide) he
theorem q_max {e2 : Expr} {ta : DA} (hc : X.calm = true) (hg : Gl X "max") (hm : X.mg "max" = none) (ha : QA X [e, e2] ta) (he : starEach [e, e2] X.env = (false, eval e X.env) :: starEach [e2] X.env := by rfl) (hpl : (backTo pos (starEach [e2] X.env)).any (·.1) = false := by rfl) :
    QE X (.Call (.Name "max" p) [e, e2] [] pos) (dCB dMax2 ta) := qe_callB (call_max2 hc) (lift_C2 fun _ _ _ _ => .int _) hg hm (by rfl) ha (by decide) (by decide) he hpl
theorem q_min {e2 : Expr} {ta : DA} (hc : X.calm = true) (hg : Gl X "min") (hm : X.mg "min" = none) (ha : QA X [e, e2] ta) (he : starEach [e, e2] X.env = (false, eval e X.env) :: starEach [e2] X.env := by rfl) (hpl : (backTo pos (starEach [e2] X.env)).any (·.1) = false := by rfl) :
    QE X (.Call (.Name "min" p) [e, e2] [] pos) (dCB dMin2 ta) := qe_callB (call_min2 hc) (lift_C2 fun _ _ _ _ => .int _) hg hm (by rfl) ha (by decide) (by decide) he hpl
theorem q_int {ta : DA} (hg : Gl X "int") (hm : X.mg "int" = none) (ha : QA X [e] ta) (he : starEach [e] X.env = (false, eval e X.env) :: starEach [] X.env := by rfl) : QE X (.Call (.Name "int" p) [e] [] pos) (dCB dInt ta) := qe_callTy call_int1 lift_int hg hm (by rfl) ha (by decide) (by decide) he
theorem q_len {ta : DA} (hg : Gl X "len") (hm : X.mg "len" = none) (ha : QA X [e] ta) (he : starEach [e] X.env = (false, eval e X.env) :: starEach [] X.env := by rfl) : QE X (.Call (.Name "len" p) [e] [] pos) (dCB dLen ta) := qe_callB call_len lift_len hg hm (by rfl) ha (by decide) (by decide) he
/-- len(x), x a list of its own -/
def dLenO (i : Nat) : DE := fun ρ Q => ∃ cs, ownedAt ρ i = some cs ∧ Q (.int cs.length) ρ
theorem q_lenO (i : Nat) {x : Str} {px : Pos} (hg : Gl X "len") (hm : X.mg "len" = none) (hN : X.N[i]? = some x := by rfl) (hv : Vis X.env.scope x := by first | exact Or.inl rfl | exact Or.inr (Or.inl rfl) | exact Or.inr (Or.inr rfl)) (hd : (x == ("__debug__" : Str)) = false := by decide)
    (hcd : (x == ("__classdict__" : Str)) = false := by decide) (he : starEach [.Name x px] X.env = (false, eval (.Name x px) X.env) :: starEach [] X.env := by rfl) : QE X (.Call (.Name "len" p) [.Name x px] [] pos) (dLenO i) := by
  refine pe_less (pe_callB call_len hg hm (by rfl) (pa_consV i pa_nil hN hv hd hcd he) (by decide) (by decide) he) fun σ H Q ⟨A, Ow, ρ, R, rel, ⟨cs, h0, h⟩, k⟩ => ?_
  obtain ⟨a, xs, h1, h2, h3, h4, _⟩ := rel.owned h0
  exact ⟨.ref a, h2, .ref a, _, rfl, .inl ⟨xs, SqL.of h3, h4.len.symm⟩, k _ H _ ρ Stp.refl rel (.int _) h⟩
/-! isinstance -/
def tyD : D → String
  | .none => "NoneType"
  | .bool _ => "bool"
  | .int _ => "int"
  | .str _ => "str"
  | .list _ => "list"
  | .tuple _ => "tuple"
  | .dict _ => "dict"
theorem tyx_of {O : Addr → Prop} {H : Hp} {v : V} {d : D} (h : Rp K O H v d) (nd : ∀ z, d ≠ .dict z) : TyX K.fr H v (.type (tyD d)) := by
  cases h with
  | non => exact .base .non
  | bl b => exact .base (.bl b)
  | int i => exact .base (.int i)
  | str x => exact .base (.str x)
  | lst hs _ =>
    rcases hs with ⟨_, h | ⟨o, h⟩⟩ | ⟨o, its, n, h, hc, _⟩
    · exact .base (.lst h)
    · exact .base (.frz h)
    · exact .kList h hc
  | tup hs _ =>
    rcases hs with ⟨_, o, _, h⟩ | ⟨o, its, n, h, hc, _⟩
    · exact .fTuple h
    · exact .kTuple h hc
  | dct _ _ _ => exact absurd rfl (nd _)
  | dik _ _ _ _ => exact absurd rfl (nd _)
def dIsi (T : String) (te : DE) : DE := fun ρ Q => te ρ fun d ρ1 => ∃ b, (∀ z, d ≠ .dict z) ∧ kitB (tyD d) T = some b ∧ Q (.bool b) ρ1
theorem q_isi {T : String} {x : Str} {te : DE} {px : Pos} (hg : Gl X "isinstance") (hm : X.mg "isinstance" = none) (hgT : Gl X x) (hmT : X.mg x = none) (he : QE X e te) (hvT : bootBuiltins x = some (.type T) := by rfl) (hnT : x ≠ "__name__" := by decide) (hdT : (x == ("__debug__" : Str)) = false := by decide)
    (h1 : starEach [e, .Name x px] X.env = (false, eval e X.env) :: starEach [.Name x px] X.env := by rfl) (h2 : starEach [.Name x px] X.env = (false, eval (.Name x px) X.env) :: starEach [] X.env := by rfl) (hpl : (backTo pos (starEach [.Name x px] X.env)).any (·.1) = false := by rfl) :
    QE X (.Call (.Name "isinstance" p) [e, .Name x px] [] pos) (dIsi T te) :=
  pe_less (pe_callB call_isi hg hm (by rfl) (pa_cons he (pa_cons (pe_bltn (v := .ty T) hgT hmT hvT rfl hnT hdT) pa_nil h2) h1) (by decide) (by decide) h1 hpl) fun σ H Q ⟨A, Ow, ρ, R, rel, h, k⟩ =>
    ⟨A, Ow, ρ, _, rel, h, fun v H1 d ρ1 e1 rel1 rp1 ⟨b, nd, hb, h1⟩ => ⟨v, .ty T, .type (tyD d), .type T, b, rfl, .ty T, tyx_of rp1 nd, kit_ty hb, k _ H1 _ ρ1 e1 rel1 (.bl b) h1⟩⟩
/-! list(range(..)) -/
def dLRg2 (ta tb : DE) : DF := fun ρ Q => ta ρ fun d ρ1 => tb ρ1 fun e ρ2 => ∃ i j : Int, d = .int i ∧ e = .int j ∧ RgOk i j ∧ Q (rgD i (j - i).toNat) ρ2
theorem rpa_rg {O : Addr → Prop} {H : Hp} {lo : Int} {n : Nat} : RpA K O H ((List.range n).map fun i => V.int (lo + (i : Nat))) (rgD lo n) := by
  have e : ∀ l : List Nat, RpA K O H (l.map fun i => V.int (lo + (i : Nat))) (l.map fun (k : Nat) => PyData.int (lo + (k : Int))) := fun l => by
    induction l with
    | nil => exact .nil
    | cons a l ih => exact .cons (.int _) ih
  exact e _
theorem f_lrg2 {pr : Pos} (hc : X.calm = true) (hg : Gl X "list") (hm : X.mg "list" = none) (hgr : Gl X "range") (hmr : X.mg "range" = none) (ha : QE X a ta) (hb : QE X b tb) (na : starEach [a, b] X.env = (false, eval a X.env) :: starEach [b] X.env := by rfl)
    (nb : starEach [b] X.env = (false, eval b X.env) :: starEach [] X.env := by rfl) (hp : (backTo pr (starEach [b] X.env)).any (·.1) = false := by rfl) {p2 : Pos} (nc : starEach [.Call (.Name "range" p2) [a, b] [] pr] X.env = (false, eval (.Call (.Name "range" p2) [a, b] [] pr) X.env) :: starEach [] X.env := by rfl) :
    QF X (.Call (.Name "list" p) [.Call (.Name "range" p2) [a, b] [] pr] [] pos) (dLRg2 ta tb) :=
  pe_less (pe_listRg hc hg hm (prg_2 hgr hmr ha hb na nb hp) nc) fun σ H Q ⟨A, Ow, ρ, R, rel, h, k⟩ =>
    ⟨A, Ow, ρ, _, rel, h, fun x H1 d ρ1 e1 rel1 rp1 h1 => ⟨A, Ow, ρ1, _, rel1, h1, fun y H2 e ρ2 e2 rel2 rp2 ⟨i, j, hi, hj, ok, h2⟩ => by
      subst hi hj
      cases rp1
      cases rp2
      refine ⟨i, j, rfl, rfl, ok, fun q hq => ?_⟩
      exact k q _ _ _ ρ2 ⟨(e1.trans e2).trans (Stp.of (Same.new hq)), (e1.trans e2).nil0 (rel2.fresh hq) hq⟩ (rel2.nw hq) upd_same (rel2.alloc hq (Same.new hq) ⟨_, upd_same⟩) rpa_rg h2⟩⟩
/-! xs.index(y) -/
def idxD (ds : List D) (y : D) : Option Nat := ds.findIdx? fun z => PyData.eqv z y
def dIdx (to te : DE) : DE := fun ρ Q => to ρ fun d ρ1 => ∃ ds, d = .list ds ∧ te ρ1 fun y ρ2 => ∃ j, SeqAt.shaped (.list ds) = true ∧ SeqAt.shaped y = true ∧ idxD ds y = some j ∧ Q (.int (j : Nat)) ρ2
theorem idx_spec {ds : List D} {y : D} {j : Nat} (h : idxD ds y = some j) : ∃ z, ds[j]? = some z ∧ PyData.eqv z y = true ∧ ∀ (m : Nat) (z' : D), m < j → ds[m]? = some z' → PyData.eqv z' y = false := by
  obtain ⟨hj, h1, h2⟩ := List.findIdx?_eq_some_iff_getElem.mp h
  refine ⟨ds[j], List.getElem?_eq_getElem hj, h1, fun m z' hm hz => ?_⟩
  have h3 := h2 m hm
  have h4 : m < ds.length := by omega
  rw [List.getElem?_eq_getElem h4] at hz
  cases hz
  simpa using h3
theorem q_index {o : Expr} {to te : DE} {apos cpos : Pos} (hu : X.A.units + 65 < cLine) (ho : QE X o to) (he : QE X e te) (hbase : attributeBase o "index" X.env (eval o X.env) = eval o X.env := by rfl)
    (hfew : ((backTo cpos (starEach [e] X.env)).all (fun x => !x.1) && (backToKw cpos (keywordEach [] X.env)).all (fun x => x.1.isSome) && decide (([e] : List Expr).length + ([] : List Keyword).length + (if ([] : List Keyword).isEmpty then 0 else 1) < 30)) = true := by rfl)
    (hline : (apos.endLine == cpos.line) = true := by rfl) (hs : starEach [e] X.env = (false, eval e X.env) :: starEach [] X.env := by rfl) (hplain : (backTo cpos (starEach [] X.env)).any (·.1) = false := by rfl) :
    QE X (.Call (.Attribute o "index" apos) [e] [] cpos) (dIdx to te) :=
  pe_less (pe_bm PySem.F.plainAttrs_list PySem.F.slot_list_index PySem.F.type_list_index (mt_indexD hu) ho (pa_cons he pa_nil hs) hbase hfew hline hs hplain) fun σ H Q ⟨A, Ow, ρ, R, rel, h, k⟩ =>
    ⟨A, Ow, ρ, _, rel, h, fun x H1 d ρ1 e1 rel1 rp1 ⟨ds, hd, h1⟩ => by
      subst hd
      have rp0 := rp1
      cases rp1 with
      | @lst a xs _ hs ha =>
      refine ⟨.inl ⟨rfl, xs, hs.sq⟩, A, Ow, ρ1, _, rel1, h1, fun y H2 z ρ2 e2 rel2 rp2 ⟨j, s1, s2, hj, h2⟩ => ?_⟩
      obtain ⟨w, g1, g2, g3⟩ := idx_spec hj
      exact ⟨a, y, z, ds, j, w, rfl, rfl, (rp0.mono e2).dp (noD_shaped s1), rp2.dp (noD_shaped s2), s1, s2, g1, g2, g3, k _ H2 _ ρ2 (e1.trans e2) rel2 (.int _) h2⟩⟩
end
section
variable {X : Cx} {st : Stmt} {rest : List Stmt} {pos : Pos}
/-- what is never reached -/
theorem qs_dead : QS X st (fun _ _ => False) := ⟨fun pins s σ H D I ⟨_, _, _, _, _, h, _⟩ => h.elim⟩
/-- from here on a term of HandS, which returns True -/
def dRaw (K : KW) (t : TS) : DS := fun DD ρ => ∀ A Ow σ H D, Rel K A Ow σ H ρ → (∀ H', Same H H' → DD.rt (.bool true) ρ → D.rt (.bl true) H') → t D σ H
theorem qss_raw {t : TS} (h : PSs X rest t) : QSs X rest (dRaw (kx X) t) := pss_less h fun D σ H ⟨A, Ow, ρ, DD, rel, h, n, b, c, r⟩ =>
  h A Ow σ H D rel fun H' e q => r.1 Ow σ H' ρ _ _ (rel.ext e) (.bl true) q
/-- x + [..], x a list of its own -/
def dCatO (i : Nat) (tf : DF) : DF := fun ρ Q => (ownedAt ρ i).isSome = true ∧ tf ρ fun ds ρ1 => ∃ cs, ownedAt ρ1 i = some cs ∧ cs.length + ds.length ≤ sizeLine ∧ Q (cs ++ ds) ρ1
theorem qf_catO (i : Nat) {x : Str} {p : Pos} {b : Expr} {tf : DF} (hb : QF X b tf) (hN : X.N[i]? = some x := by rfl) (hv : Vis X.env.scope x := by first | exact Or.inl rfl | exact Or.inr (Or.inl rfl) | exact Or.inr (Or.inr rfl)) (hd : (x == ("__debug__" : Str)) = false := by decide) (hcd : (x == ("__classdict__" : Str)) = false := by decide) :
    QF X (.BinOp (.Name x p) .Add b pos) (dCatO i tf) := by
  refine pe_less (pe_op op_cat (pv i hN hv hd hcd) hb) fun σ H Q ⟨A, Ow, ρ, R, rel, ⟨h0, h⟩, k⟩ => ?_
  obtain ⟨cs0, e0⟩ := Option.isSome_iff_exists.mp h0
  obtain ⟨a, xs, h1, h2, h3, h4, _⟩ := rel.owned e0
  refine ⟨.ref a, h2, A, Ow, ρ, _, rel, h, fun q H2 zs ds ρ2 e2 nw hq rel2 rp2 ⟨cs, g1, g2, g3⟩ => ?_⟩
  obtain ⟨a', xs', k1, k2, k3, k4, _⟩ := rel2.owned g1
  rw [h1] at k1
  cases k1
  refine ⟨a, q, xs', zs, rfl, rfl, k3, hq, by rw [k4.len, rp2.len]; exact g2, fun r hr => ?_⟩
  have rel3 := rel2.unfo
  exact k r _ _ _ ρ2 ⟨e2.1.trans (Stp.of (Same.new hr)), e2.1.nil0 (rel3.fresh hr) hr⟩ (rel3.nw hr) upd_same (rel3.alloc hr (Same.new hr) ⟨_, upd_same⟩) ((((k4.less own_fo').append (rp2.less own_fo')).more hr own_fo).mono (Stp.of (Same.new hr))) g3
end
/-- the reading gives d and leaves ρ' -/
theorem ev {te : DE} {ρ ρ' : Env} {Q : D → Env → Prop} (d : D) (h : ∀ K : D → Env → Prop, K d ρ' → te ρ K) (k : Q d ρ') : te ρ Q := h Q k
theorem evT {tt : DT} {ρ ρ' : Env} {Q : Bool → Env → Prop} (d : Bool) (h : ∀ K : Bool → Env → Prop, K d ρ' → tt ρ K) (k : Q d ρ') : tt ρ Q := h Q k
/-! ### dicts -/
section
variable {X : Cx} {e : Expr} {pos : Pos} {st : Stmt} {rest : List Stmt}
def tFz (t : TE) : TE := fun σ H Q => t σ H fun v H' => ∃ a u, v = .ref a ∧ H' a = some u ∧ Mut (some u) ∧ ∀ od, Q v (L2.upd H' a (.frz od u))
theorem pe_fz {t : TE} (h : PE X e t) : PE X e (tFz t) := by
  refine ⟨fun pins s σ H Q I hw => ?_⟩
  refine thn (h.run pins s σ H _ I hw) fun v s1 ⟨x, H1, I1, r, a, u, ex, ea, mu, q⟩ => ?_
  obtain ⟨od, I2⟩ := I1.lock ea mu
  exact ⟨x, _, I2, r, q od⟩
/-- a new dict -/
abbrev DN := Env → (Ct → Env → Prop) → Prop
def lamN (K : KW) (tn : DN) : TE := fun σ H Q => ∃ A Ow ρ R, Rel K A Ow σ H ρ ∧ tn ρ R ∧ ∀ p H' u c ρ', (Stp (own A.FO Ow) H H' ∧ H p = none) → Nw A Ow p → H' p = some u → Rel K (A.fo p) Ow σ H' ρ' → RpC K (own (A.fo p).FO Ow) H' p u c → R c ρ' → Q (.ref p) H'
def QN (X : Cx) (e : Expr) (tn : DN) : Prop := PE X e (lamN (kx X) tn)
theorem Stp.upd1 {O : Addr → Prop} {H H' : Hp} {p : Addr} {o : HO} (e : Stp O H H') (h : H p = none) : Stp O H (L2.upd H' p o) := fun b u n q => by
  rw [upd_ne (fun z => by rw [z, h] at q; cases q)]
  exact e b u n q
def dFrN (tn : DN) : DE := fun ρ Q => tn ρ fun c ρ1 => Q c.dat ρ1
theorem qe_frN {tn : DN} (h : QN X e tn) : QE X e (dFrN tn) := pe_less (pe_fz h) fun σ H Q ⟨A, Ow, ρ, R, rel, h, k⟩ => ⟨A, Ow, ρ, _, rel, h, fun p H1 u c ρ1 e1 n hp rel1 rp1 h1 =>
  ⟨p, u, rfl, hp, rp1.mut, fun od => k (.ref p) _ c.dat ρ1 (e1.1.upd1 e1.2) (rel1.updFo n (.frz od u)).unfo (((rp1.mono (Stp.upd.weak fun b z => .inl (.inr z))).less own_fo').dat n.no upd_same) h1⟩⟩
def dOwnN (tn : DN) (i : Nat) : DS := fun D ρ => tn ρ fun c ρ1 => noIo ρ1 i ∧ D.nx (ρ1.set i (.od c))
theorem qs_ownN (i : Nat) {x : Str} {p : Pos} {tn : DN} (hN : X.N.Nodup) (he : QN X e tn) (hi : X.N[i]? = some x := by rfl) (hx : Loc X.env.scope x := by first | exact Or.inl rfl | exact Or.inr rfl) (hs : swapsWith e (some (.Name x p)) pos.line X.env = pure false := by rfl) (hf : X.fn x = true ∨ X.env.scope.names.lookup x = some .local := by first | exact .inl rfl | exact .inr rfl) : QS X (.Assign [.Name x p] e pos) (dOwnN tn i) :=
  ps_less (ps_set (i := i) hN hi hx he hs hf) fun D σ H ⟨A, Ow, ρ, DD, rel, h, n, b, c, r⟩ => ⟨A, Ow, ρ, _, rel, h, fun p H' u c ρ' e' nw hp rel' rp' ⟨h0, h'⟩ => n (onn Ow i p) _ H' _ (rel'.takeD h0.ne h0.lt nw hp rp') h'⟩
/-- from here on the dict in the slot i is read alone -/
def dFzD (i : Nat) (t : DS) : DS := fun D ρ => match ρ[i]? with
  | some (.od c) => t D (ρ.set i (.sh c.dat))
  | _ => False
theorem qss_fzD (i : Nat) {t : DS} (h : QSs X rest t) : QSs X rest (dFzD i t) := by
  refine ⟨fun pins s σ H D I hw => ?_⟩
  obtain ⟨A, Ow, ρ, DD, rel, hh, n, b, c, r⟩ := hw
  unfold dFzD at hh
  split at hh
  · rename_i ct hs
    obtain ⟨a, u, ea, mu, k⟩ := rel.freezeD hs
    obtain ⟨od, I2⟩ := I.lock ea mu
    exact h.run pins s σ _ D I2 ⟨A, off Ow i, _, DD, k od, hh, n, b, c, r⟩
  · exact hh.elim
/-! {} -/
def dEmpN : DN := fun ρ Q => Q (.nd []) ρ
def dEmpI : DN := fun ρ Q => Q (.ik []) ρ
theorem QN.mk {t : TE} {tn : DN} (h : PE X e t) (k : ∀ σ H Q, lamN (kx X) tn σ H Q → t σ H Q) : QN X e tn := pe_less h k
theorem pe_dnewN : PE X (.Dict [] [] pos) (fun _ H Q => ∀ p, H p = none → Q (.ref p) (L2.upd H p (ND.ndO X.prog X.w p []))) := ⟨fun pins s σ H Q I h =>
  wpAny_Dict_empty ⟨.ref s.heap.objs.size, _, I.laid (a := s.heap.objs.size) (o := ND.ndO X.prog X.w s.heap.objs.size []) (t' := s.toks) (fun _ _ q => Heap.get?_push_of_some _ q) (Nat.le_refl _) (ND.nd_empty s.heap I.big), rfl, h _ (I.hok.fresh (Nat.le_refl _))⟩⟩
theorem qn_empN : QN X (.Dict [] [] pos) dEmpN := QN.mk pe_dnewN fun σ H Q ⟨A, Ow, ρ, R, rel, h, k⟩ p hp =>
  k p _ _ _ ρ ⟨Stp.of (Same.new hp), hp⟩ (rel.nw hp) upd_same (rel.alloc hp (Same.new hp) ⟨_, upd_same⟩) (.nd .nil) h
theorem qn_empI : QN X (.Dict [] [] pos) dEmpI := QN.mk pe_dnewK fun σ H Q ⟨A, Ow, ρ, R, rel, h, k⟩ p hp =>
  k p _ _ _ ρ ⟨Stp.of (Same.new hp), hp⟩ (rel.nw hp) upd_same (rel.alloc hp (Same.new hp) ⟨_, upd_same⟩) (.ik .nil) h
/-! {(): i} -/
theorem dep_nil : (ND.keyOf (.tuple [])).depth ≤ 8 := by
  rw [show ND.keyOf (.tuple []) = .tup [] from by simp [ND.keyOf]]
  decide +kernel
theorem dict_pairsH {prog : Program} {w : World} {K : Type} [DecidableEq K] {knd : HeapKind prog w K} {A : Around} {E : Value → Shared → Prop} {s : Shared} {env : PySem.Env} {keys : List (Option Expr)} {values : List Expr} {pos : Pos} {pairs : List (Sem Value × Sem Value)} {Q : Value → Shared → Prop} (hu : knd.room A)
    (hshape : (evalEachOpt keys env).zip ((evalEach values env).map fun v => do let x ← v; standAt pos; pure x) = pairs.map fun p => (some p.1, p.2)) (h0 : pairs ≠ []) (hlen : pairs.length ≤ 15)
    (h : wpAny (model prog w) A (evalPairs pairs) (fun vs s₁ => ∃ ps, CarriesH knd s₁.heap vs ps ∧ s₁.heap.DictOfH knd s.heap.objs.size [] ∧
      ∀ h' tk, h'.DictOfH knd s.heap.objs.size (storedAllH [] ps) → Heap.SameBut s.heap.objs.size s₁.heap h' → Q (.ref s.heap.objs.size) { s₁ with heap := h', toks := tk }) E
      { s with heap := s.heap.push { cls := .type "dict", data := .dict #[] } }) :
    wpAny (model prog w) A (eval (.Dict keys values pos) env) Q E s := by
  rw [arm_eval_Dict, hshape, dictDisplay_pairs pairs h0 (by omega)]
  exact wpAny_bind (wpAny_standAt (wpAny_bind (wpAny_subDictH (knd := knd) (Q := fun d s' => wpAny (model prog w) A (pure (Value.ref d)) Q E s') hu hlen
    (wpAny_mono h (fun vs s₁ h₁ => by obtain ⟨ps, hc, hm, hq⟩ := h₁; exact ⟨ps, hc, hm, fun h' tk a b => wpAny_pure (hq h' tk a b)⟩) fun _ _ e => e))))
theorem pe_dict1 {i j : Nat} {z : Int} {pt pc : Pos} {c2 c3} (hu : (nestedKind X.prog X.w).room X.A) : PE X (.Dict [some (.Tuple [] c2 pt)] [.Constant (.int z) c3 pc] pos)
    (fun _ H Q => ∀ p q (ot : Obj), H p = none → H q = none → p ≠ q → ot.dict = none → Q (.ref p) (L2.upd (L2.upd (L2.upd H p (ND.ndO X.prog X.w p [])) q (.frz ot (.tup []))) p (ND.ndO X.prog X.w p [(.tuple [], q, .int z)]))) := by
  refine ⟨fun pins s σ H Q I h => ?_⟩
  have hn := I.hok.fresh (Nat.le_refl s.heap.objs.size)
  have I1 := I.laid (a := s.heap.objs.size) (o := ND.ndO X.prog X.w s.heap.objs.size []) (h' := s.heap.push { cls := .type "dict", data := .dict #[] }) (t' := s.toks) (fun _ _ q => Heap.get?_push_of_some _ q) (Nat.le_refl _) (ND.nd_empty s.heap I.big)
  have pp : PPs X pos [some (.Tuple [] c2 pt)] [.Constant (.int z) c3 pc] _ := pps_cons (pe_tupF pa_nil) pe_int pps_nil
  refine dict_pairsH (knd := nestedKind X.prog X.w) (pairs := pairTrees [some (.Tuple [] c2 pt)] [.Constant (.int z) c3 pc] X.env pos) hu (by rfl) (by intro q; cases q) (show (1 : Nat) ≤ 15 from by decide) ?_
  refine thn (pp.run pins _ σ _ (fun ps H2 => ∃ q ot, H q = none ∧ s.heap.objs.size ≠ q ∧ ot.dict = none ∧ ps = [(.ref q, .int z)] ∧ H2 = L2.upd (L2.upd H s.heap.objs.size (ND.ndO X.prog X.w s.heap.objs.size [])) q (.frz ot (.tup []))) I1 ⟨by decide, fun q ot hq hot => ?_⟩) fun ws s2 ⟨ps, H2, I2, rel, q, ot, hq, hne, hot, ep, eh⟩ => ?_
  · have hne : s.heap.objs.size ≠ q := fun z => by rw [← z, upd_same] at hq; cases hq
    exact ⟨q, ot, by rw [upd_ne (Ne.symm hne)] at hq; exact hq, hne, hot, rfl, rfl⟩
  · subst ep eh
    obtain ⟨b1, b2, rfl, ra, rb⟩ : ∃ b1 b2, ws = [(b1, b2)] ∧ RelV (.ref q) b1 ∧ RelV (.int z) b2 := by
      cases rel with
      | cons h t =>
        cases t
        exact ⟨_, _, rfl, h.1, h.2⟩
    cases (show b1 = Value.ref q from ra)
    have hd : (L2.upd (L2.upd H s.heap.objs.size (ND.ndO X.prog X.w s.heap.objs.size [])) q (.frz ot (.tup []))) s.heap.objs.size = some (ND.ndO X.prog X.w s.heap.objs.size []) := by rw [upd_ne hne, upd_same]
    obtain ⟨us, u1, u2, u3, u4⟩ := ND.nd_at I2 (.inl hd) (fun e h => nomatch h)
    cases u1
    have kq : Dp X.K (L2.upd (L2.upd H s.heap.objs.size (ND.ndO X.prog X.w s.heap.objs.size [])) q (.frz ot (.tup []))) (.ref q) (.tuple []) := .tup (.inl (.inr ⟨ot, upd_same⟩)) .nil
    have kk := ND.key_is I2 kq (by decide +kernel) dep_nil
    refine ⟨[(ND.keyOf (.tuple []), q, b2)], ⟨rfl, rfl, kk, True.intro⟩, u2, fun h' tk dd' hs => ⟨.ref s.heap.objs.size, _, ?_, rfl, h s.heap.objs.size q ot hn hq hne hot⟩⟩
    have he : ∃ o, h'.get? s.heap.objs.size = some o := let ⟨o, _, _, ho, _⟩ := dd'; ⟨o, ho⟩
    exact d_write I2 (by rw [hd]; exact True.intro) hs he (ND.nd_ok (us := [b2]) (.cons rb .nil) dd' u3 (show 1 ≤ sizeLine from by rw [sizeLine_eq]; omega))
/-- {(): z} -/
def dOneN (z : Int) : DN := fun ρ Q => Q (.nd [(.tuple [], .int z)]) ρ
theorem qn_one {z : Int} {pt pc : Pos} {c2 c3} (hu : (nestedKind X.prog X.w).room X.A) : QN X (.Dict [some (.Tuple [] c2 pt)] [.Constant (.int z) c3 pc] pos) (dOneN z) := QN.mk (pe_dict1 (i := 0) (j := 0) hu) fun σ H Q ⟨A, Ow, ρ, R, rel, h, k⟩ p q ot hp hq hne hot => by
  have e1 : Same H (L2.upd (L2.upd (L2.upd H p (ND.ndO X.prog X.w p [])) q (.frz ot (.tup []))) p (ND.ndO X.prog X.w p [(.tuple [], q, .int z)])) := fun b u z => by
    rw [upd_ne (ne_of_none z hp), upd_ne (ne_of_none z hq), upd_ne (ne_of_none z hp)]
    exact z
  have hq' : (L2.upd (L2.upd (L2.upd H p (ND.ndO X.prog X.w p [])) q (.frz ot (.tup []))) p (ND.ndO X.prog X.w p [(.tuple [], q, .int z)])) q = some (.frz ot (.tup [])) := by
    rw [upd_ne (Ne.symm hne), upd_same]
  refine k p _ _ _ ρ ⟨Stp.of e1, hp⟩ (rel.nw hp) upd_same (rel.alloc hp e1 ⟨_, upd_same⟩) (.nd (.cons (.tup (.inl ⟨fun w => ?_, ot, hot, hq'⟩) .nil) (by decide +kernel) dep_nil (.int z) .nil)) h
  rcases own_fo q w with w | w
  · exact rel.fresh hq w
  · exact hne w.symm
/-! data of dicts -/
def KeyOk (k : D) : Prop := ND.isKey k = true ∧ (ND.keyOf k).depth ≤ 8 ∧ ∃ ks, k = .tuple ks
def getN (kvs : List (D × D)) (k : D) : Option D := (kvs.find? fun e => decide (ND.keyOf e.1 = ND.keyOf k)).map (·.2)
def putN (kvs : List (D × D)) (k v : D) : List (D × D) := if (getN kvs k).isSome then kvs.map fun e => if ND.keyOf e.1 = ND.keyOf k then (e.1, v) else e else kvs ++ [(k, v)]
def dropN (kvs : List (D × D)) (k : D) : List (D × D) := kvs.filter fun e => decide (ND.keyOf e.1 ≠ ND.keyOf k)
def getI (kvs : List (Int × D)) (k : Int) : Option D := (kvs.find? fun e => decide (e.1 = k)).map (·.2)
def putI (kvs : List (Int × D)) (k : Int) (v : D) : List (Int × D) := if (getI kvs k).isSome then kvs.map fun e => if e.1 = k then (e.1, v) else e else kvs ++ [(k, v)]
end
section
variable {K : KW} {O : Addr → Prop} {H : Hp}
theorem RpE.len : ∀ {kvs : List (D × D)} {es : List ND.Ent}, RpE K O H es kvs → es.length = kvs.length
  | _, _, .nil => rfl
  | _, _, .cons _ _ _ _ r => by simp [r.len]
theorem RpE.keysAt : ∀ {kvs : List (D × D)} {es : List ND.Ent}, RpE K O H es kvs → ND.KeysAt K.fr H es
  | _, _, .nil => fun e h => nomatch h
  | _, _, .cons h1 h2 h3 h4 r => fun e h => by
    rcases List.mem_cons.mp h with rfl | h
    · exact ⟨h1.dp (noD_key h2), h2, h3⟩
    · exact r.keysAt e h
theorem RpE.get (k : D) : ∀ {kvs : List (D × D)} {es : List ND.Ent}, RpE K O H es kvs → (getN kvs k = none ∧ valV (ND.prs es) (ND.keyOf k) = none) ∨ ∃ d v, getN kvs k = some d ∧ valV (ND.prs es) (ND.keyOf k) = some v ∧ Rp K O H v d
  | _, _, .nil => .inl ⟨rfl, rfl⟩
  | _, _, .cons (k := j) (b := b) (y := y) (v := v) (es := es) (kvs := kvs) h1 h2 h3 h4 r => by
    by_cases c : ND.keyOf j = ND.keyOf k
    · refine .inr ⟨v, y, ?_, ?_, h4⟩
      · unfold getN
        rw [List.find?_cons_of_pos (by simpa using c)]
        rfl
      · exact valV_pos (p := (ND.keyOf j, y)) c
    · have e1 : getN ((j, v) :: kvs) k = getN kvs k := by
        unfold getN
        rw [List.find?_cons_of_neg (by simpa using c)]
      have e2 : valV (ND.prs ((j, b, y) :: es)) (ND.keyOf k) = valV (ND.prs es) (ND.keyOf k) := valV_neg (p := (ND.keyOf j, y)) c
      rw [e1, e2]
      exact r.get k
theorem RpE.isSome (k : D) {kvs : List (D × D)} {es : List ND.Ent} (r : RpE K O H es kvs) : (valV (ND.prs es) (ND.keyOf k)).isSome = (getN kvs k).isSome := by
  rcases r.get k with ⟨a, b⟩ | ⟨d, v, a, b, _⟩ <;> rw [a, b] <;> rfl
theorem RpE.repl {q : NestedKey} {v : V} {d : D} (h : Rp K O H v d) : ∀ {kvs : List (D × D)} {es : List ND.Ent}, RpE K O H es kvs → RpE K O H (es.map fun e => if ND.keyOf e.1 = q then (e.1, e.2.1, v) else e) (kvs.map fun e => if ND.keyOf e.1 = q then (e.1, d) else e)
  | _, _, .nil => .nil
  | _, _, .cons (k := j) h1 h2 h3 h4 r => by
    rw [List.map_cons, List.map_cons]
    by_cases c : ND.keyOf j = q
    · simp only [if_pos c]
      exact .cons h1 h2 h3 h (RpE.repl h r)
    · simp only [if_neg c]
      exact .cons h1 h2 h3 h4 (RpE.repl h r)
theorem RpE.snoc {k : D} {b : Addr} {y : V} {v : D} (g1 : Rp K O H (.ref b) k) (g2 : ND.isKey k = true) (g3 : (ND.keyOf k).depth ≤ 8) (g4 : Rp K O H y v) : ∀ {kvs : List (D × D)} {es : List ND.Ent}, RpE K O H es kvs → RpE K O H (es ++ [(k, b, y)]) (kvs ++ [(k, v)])
  | _, _, .nil => .cons g1 g2 g3 g4 .nil
  | _, _, .cons h1 h2 h3 h4 r => .cons h1 h2 h3 h4 (RpE.snoc g1 g2 g3 g4 r)
theorem RpE.put {k : D} {b : Addr} {y : V} {v : D} {kvs : List (D × D)} {es : List ND.Ent} (r : RpE K O H es kvs) (g1 : Rp K O H (.ref b) k) (g2 : ND.isKey k = true) (g3 : (ND.keyOf k).depth ≤ 8) (g4 : Rp K O H y v) : RpE K O H (ND.putE es k b y) (putN kvs k v) := by
  unfold ND.putE putN
  rw [r.isSome k]
  split
  · exact r.repl g4
  · exact r.snoc g1 g2 g3 g4
theorem RpE.drop (k : D) : ∀ {kvs : List (D × D)} {es : List ND.Ent}, RpE K O H es kvs → RpE K O H (ND.dropE es k) (dropN kvs k)
  | _, _, .nil => .nil
  | _, _, .cons (k := j) (b := b) (y := y) (v := v) (es := es) (kvs := kvs) h1 h2 h3 h4 r => by
    by_cases c : ND.keyOf j = ND.keyOf k
    · have e1 : ND.dropE ((j, b, y) :: es) k = ND.dropE es k := by unfold ND.dropE; rw [List.filter_cons_of_neg (by simpa using c)]
      have e2 : dropN ((j, v) :: kvs) k = dropN kvs k := by unfold dropN; rw [List.filter_cons_of_neg (by simpa using c)]
      rw [e1, e2]
      exact r.drop k
    · have e1 : ND.dropE ((j, b, y) :: es) k = (j, b, y) :: ND.dropE es k := by unfold ND.dropE; rw [List.filter_cons_of_pos (by simpa using c)]
      have e2 : dropN ((j, v) :: kvs) k = (j, v) :: dropN kvs k := by unfold dropN; rw [List.filter_cons_of_pos (by simpa using c)]
      rw [e1, e2]
      exact .cons h1 h2 h3 h4 (r.drop k)
theorem RpE.at : ∀ {kvs : List (D × D)} {es : List ND.Ent} {i : Nat} {e : ND.Ent}, RpE K O H es kvs → es[i]? = some e → ∃ p, kvs[i]? = some p ∧ Rp K O H (.ref e.2.1) p.1
  | _, _, _, _, .nil, h => by simp at h
  | _, _, 0, _, .cons h1 _ _ _ _, h => by
    simp at h
    subst h
    exact ⟨_, rfl, h1⟩
  | _, _, i + 1, _, .cons _ _ _ _ r, h => by
    obtain ⟨p, h1, h2⟩ := RpE.at (i := i) r (by simpa using h)
    exact ⟨p, by simpa using h1, h2⟩
theorem RpK.len : ∀ {kvs : List (Int × D)} {es : List (L2.Key × V)}, RpK K O H es kvs → es.length = kvs.length
  | _, _, .nil => rfl
  | _, _, .cons _ r => by simp [r.len]
theorem RpK.get (k : Int) : ∀ {kvs : List (Int × D)} {es : List (L2.Key × V)}, RpK K O H es kvs → (getI kvs k = none ∧ valV es (.inl k) = none) ∨ ∃ d v, getI kvs k = some d ∧ valV es (.inl k) = some v ∧ Rp K O H v d
  | _, _, .nil => .inl ⟨rfl, rfl⟩
  | _, _, .cons (i := j) (y := y) (v := v) (es := es) (kvs := kvs) h r => by
    by_cases c : j = k
    · refine .inr ⟨v, y, ?_, ?_, h⟩
      · unfold getI
        rw [List.find?_cons_of_pos (by simpa using c)]
        rfl
      · exact valV_pos (p := (Sum.inl j, y)) (by rw [c])
    · have e1 : getI ((j, v) :: kvs) k = getI kvs k := by
        unfold getI
        rw [List.find?_cons_of_neg (by simpa using c)]
      have e2 : valV ((Sum.inl j, y) :: es) (Sum.inl k : L2.Key) = valV es (.inl k) := valV_neg (p := (Sum.inl j, y)) (fun z => c (Sum.inl.inj z))
      rw [e1, e2]
      exact r.get k
theorem RpK.isSome (k : Int) {kvs : List (Int × D)} {es : List (L2.Key × V)} (r : RpK K O H es kvs) : (valV es (.inl k)).isSome = (getI kvs k).isSome := by
  rcases r.get k with ⟨a, b⟩ | ⟨d, v, a, b, _⟩ <;> rw [a, b] <;> rfl
theorem RpK.repl {q : Int} {v : V} {d : D} (h : Rp K O H v d) : ∀ {kvs : List (Int × D)} {es : List (L2.Key × V)}, RpK K O H es kvs → RpK K O H (es.map fun e => if e.1 = .inl q then (e.1, v) else e) (kvs.map fun e => if e.1 = q then (e.1, d) else e)
  | _, _, .nil => .nil
  | _, _, .cons (i := j) h1 r => by
    rw [List.map_cons, List.map_cons]
    by_cases c : j = q
    · simp only [if_pos c, if_pos (show (Sum.inl j : L2.Key) = .inl q from by rw [c])]
      exact .cons h (RpK.repl h r)
    · simp only [if_neg c, if_neg (show ¬ (Sum.inl j : L2.Key) = .inl q from fun z => c (Sum.inl.inj z))]
      exact .cons h1 (RpK.repl h r)
theorem RpK.snoc {k : Int} {y : V} {v : D} (g4 : Rp K O H y v) : ∀ {kvs : List (Int × D)} {es : List (L2.Key × V)}, RpK K O H es kvs → RpK K O H (es ++ [(.inl k, y)]) (kvs ++ [(k, v)])
  | _, _, .nil => .cons g4 .nil
  | _, _, .cons h1 r => .cons h1 (RpK.snoc g4 r)
theorem RpK.put {k : Int} {y : V} {v : D} {kvs : List (Int × D)} {es : List (L2.Key × V)} (r : RpK K O H es kvs) (g4 : Rp K O H y v) : RpK K O H (putK es (.inl k) y) (putI kvs k v) := by
  unfold putK putI
  rw [valV_any, r.isSome k]
  by_cases c : (getI kvs k).isSome = true
  · rw [if_pos c, if_pos c]
    exact r.repl g4
  · rw [if_neg c, if_neg c]
    exact r.snoc g4
theorem RpK.at : ∀ {kvs : List (Int × D)} {es : List (L2.Key × V)} {i : Nat} {e : L2.Key × V}, RpK K O H es kvs → es[i]? = some e → ∃ p, kvs[i]? = some p ∧ e.1 = .inl p.1 ∧ Rp K O H e.2 p.2
  | _, _, _, _, .nil, h => by simp at h
  | _, _, 0, _, .cons h1 _, h => by
    simp at h
    subst h
    exact ⟨_, rfl, rfl, h1⟩
  | _, _, i + 1, _, .cons _ r, h => by
    obtain ⟨p, h1, h2⟩ := RpK.at (i := i) r (by simpa using h)
    exact ⟨p, by simpa using h1, h2⟩
end
section
variable {X : Cx} {e f o : Expr} {pos apos cpos : Pos} {st : Stmt} {rest : List Stmt} {to ti te tb tf : DE}
theorem Rel.ownD {K : KW} {A : Act} {Ow : Nat → Option Addr} {σ : L2.St} {H : Hp} {ρ : Env} {i : Nat} {c : Ct} (R : Rel K A Ow σ H ρ) (h : ρ[i]? = some (.od c)) : ∃ a u, Ow i = some a ∧ σ[i]? = some (some (.ref a)) ∧ H a = some u ∧ RpC K (own A.FO Ow) H a u c ∧
    ∀ H' u' c', Stp (fun b => b = a) H H' → H' a = some u' → RpC K (own A.FO Ow) H' a u' c' → Rel K A Ow σ H' (ρ.set i (.od c')) := by
  obtain ⟨a, u, h1, h2, h3, h4, h5⟩ := R.sl i _ h
  exact ⟨a, u, h1, h2, h3, h4, fun H' u' c' e ha hc => R.mutD (c := c) h1 e ha hc h⟩
/-- the slot i holds a dict of the def's own -/
def isN (ρ : Env) (i : Nat) (kvs : List (D × D)) : Prop := ρ[i]? = some (.od (.nd kvs))
def isI (ρ : Env) (i : Nat) (kvs : List (Int × D)) : Prop := ρ[i]? = some (.od (.ik kvs))
/-- x[k] = e, x of its own -/
def dPutN (i : Nat) (te tb : DE) : DS := fun D ρ => te ρ fun d ρ1 => (∃ c, isN ρ1 i c) ∧ tb ρ1 fun k ρ2 => ∃ kvs, isN ρ2 i kvs ∧ KeyOk k ∧ kvs.length < sizeLine ∧ D.nx (ρ2.set i (.od (.nd (putN kvs k d))))
theorem qs_putN (i : Nat) {x : Str} {b : Expr} {p spos : Pos} (hu : X.A.units + 16 < cLine) (he : QE X e te) (hb : QE X b tb) (hN : X.N[i]? = some x := by rfl) (hv : Vis X.env.scope x := by first | exact Or.inl rfl | exact Or.inr (Or.inl rfl) | exact Or.inr (Or.inr rfl)) (hd : (x == ("__debug__" : Str)) = false := by decide) (hcd : (x == ("__classdict__" : Str)) = false := by decide)
    (hs : swapsWith e (some (.Subscript (.Name x p) b spos)) pos.line X.env = pure false := by rfl) : QS X (.Assign [.Subscript (.Name x p) b spos] e pos) (dPutN i te tb) := by
  refine ps_less (ND.ps_nput (by show X.A.units + 1 + 8 < cLine; omega) (pv i hN hv hd hcd) hb he hs) fun D σ H ⟨A, Ow, ρ, DD, rel, h, n, _⟩ => ?_
  refine ⟨A, Ow, ρ, _, rel, h, fun v H1 d ρ1 e1 rel1 rp1 ⟨⟨c, h0⟩, h'⟩ => ?_⟩
  obtain ⟨a, u, h1, h2, h3, h4, _⟩ := rel1.ownD h0
  refine ⟨.ref a, h2, A, Ow, ρ1, _, rel1, h', fun y H2 k ρ2 e2 rel2 rp2 ⟨kvs, g1, ⟨g2, g3, ks, gk⟩, g4, g5⟩ => ?_⟩
  obtain ⟨a', u', k1, k2, k3, k4, k5⟩ := rel2.ownD g1
  rw [h1] at k1
  cases k1
  cases k4 with
  | @nd es _ r =>
    subst gk
    have rp0 := rp2
    cases rp2 with
    | @tup b xs _ hs' hr' =>
      refine ⟨a, _, rfl, ⟨es, _, b, k3, r.keysAt, rfl, ⟨b, rfl, rp0.dp (noD_key g2), g2, g3⟩, by rw [r.len]; exact g4, rfl⟩, n _ _ _ _ (k5 _ _ _ Stp.upd upd_same (.nd ?_)) g5⟩
      have sp := stp_own (A := A) h1 (H := H2) (H' := L2.upd H2 a (ND.ndO X.prog X.w a (ND.putE es (.tuple ks) b v))) Stp.upd
      exact (r.put rp0 g2 g3 (rp1.mono e2)).mono sp
end
section
variable {X : Cx} {e f o b : Expr} {pos apos cpos : Pos} {st : Stmt} {rest : List Stmt} {to ti te tb tf : DE}
theorem RpE.getD {K : KW} {O : Addr → Prop} {H : Hp} {kvs : List (D × D)} {es : List ND.Ent} (r : RpE K O H es kvs) (k : D) {z : V} {d : D} (h : Rp K O H z d) : Rp K O H ((valV (ND.prs es) (ND.keyOf k)).getD z) ((getN kvs k).getD d) := by
  rcases r.get k with ⟨a, b⟩ | ⟨d', v, a, b, c⟩
  · rw [a, b]; exact h
  · rw [a, b]; exact c
theorem RpK.getD {K : KW} {O : Addr → Prop} {H : Hp} {kvs : List (Int × D)} {es : List (L2.Key × V)} (r : RpK K O H es kvs) (k : Int) {z : V} {d : D} (h : Rp K O H z d) : Rp K O H ((valV es (.inl k)).getD z) ((getI kvs k).getD d) := by
  rcases r.get k with ⟨a, b⟩ | ⟨d', v, a, b, c⟩
  · rw [a, b]; exact h
  · rw [a, b]; exact c
theorem dropN_none {kvs : List (D × D)} {k : D} (h : getN kvs k = none) : dropN kvs k = kvs := by
  unfold getN at h
  rw [Option.map_eq_none_iff, List.find?_eq_none] at h
  unfold dropN
  rw [List.filter_eq_self]
  intro x hx
  simpa using h x hx
/-- x.get(k, z), x of its own -/
def dGet2N (i : Nat) (te tf : DE) : DE := fun ρ Q => (∃ c, isN ρ i c) ∧ te ρ fun k ρ1 => tf ρ1 fun z ρ2 => ∃ kvs, isN ρ2 i kvs ∧ KeyOk k ∧ Q ((getN kvs k).getD z) ρ2
theorem key_ref {K : KW} {O : Addr → Prop} {H : Hp} {y : V} {k : D} (h : Rp K O H y k) (g : KeyOk k) : ∃ b, y = .ref b ∧ Rp K O H (.ref b) k := by
  obtain ⟨g1, g2, ks, rfl⟩ := g
  have h0 := h
  cases h with
  | tup hs hr => exact ⟨_, rfl, h0⟩
theorem q_get2N (i : Nat) {x : Str} {p : Pos} (hu : X.A.units + 16 < cLine) (he : QE X e te) (hf : QE X f tf) (hN : X.N[i]? = some x := by rfl) (hv : Vis X.env.scope x := by first | exact Or.inl rfl | exact Or.inr (Or.inl rfl) | exact Or.inr (Or.inr rfl)) (hd : (x == ("__debug__" : Str)) = false := by decide) (hcd : (x == ("__classdict__" : Str)) = false := by decide)
    (m : M2 X (.Name x p) "get" apos e f cpos := by exact ⟨rfl, rfl, rfl, rfl⟩) : QE X (.Call (.Attribute (.Name x p) "get" apos) [e, f] [] cpos) (dGet2N i te tf) := by
  refine pe_less (ND.pe_nget2 (by show X.A.units + 1 + 8 < cLine; omega) (pv i hN hv hd hcd) he hf m) fun σ H Q ⟨A, Ow, ρ, R, rel, ⟨⟨c, h0⟩, h⟩, k⟩ => ?_
  obtain ⟨a, u, h1, h2, h3, h4, _⟩ := rel.ownD h0
  cases h4 with
  | @nd es0 _ r0 =>
  refine ⟨.ref a, h2, a, rfl, ⟨es0, .inl h3⟩, A, Ow, ρ, _, rel, h, fun y H1 key ρ1 e1 rel1 rp1 h' => ⟨A, Ow, ρ1, _, rel1, h', fun z H2 d ρ2 e2 rel2 rp2 ⟨kvs, g1, g2, g3⟩ => ?_⟩⟩
  obtain ⟨a', u', k1, k2, k3, k4, k5⟩ := rel2.ownD g1
  rw [h1] at k1
  cases k1
  cases k4 with
  | @nd es _ r =>
    obtain ⟨b, rfl, rpb⟩ := key_ref (rp1.mono e2) g2
    exact ⟨_, ⟨es, key, .inl k3, r.keysAt, ⟨b, rfl, rpb.dp (noD_key g2.1), g2.1, g2.2.1⟩, rfl⟩, k _ H2 _ ρ2 (e1.trans e2) rel2 (r.getD key rp2) g3⟩
/-- x.pop(k, z) as a statement, x of its own -/
def dPop2N (i : Nat) (te tf : DE) : DS := fun D ρ => (∃ c, isN ρ i c) ∧ te ρ fun k ρ1 => tf ρ1 fun z ρ2 => ∃ kvs, isN ρ2 i kvs ∧ KeyOk k ∧ D.nx (ρ2.set i (.od (.nd (dropN kvs k))))
theorem qs_pop2N (i : Nat) {x : Str} {p : Pos} (hu : X.A.units + 16 < cLine) (he : QE X e te) (hf : QE X f tf) (hN : X.N[i]? = some x := by rfl) (hv : Vis X.env.scope x := by first | exact Or.inl rfl | exact Or.inr (Or.inl rfl) | exact Or.inr (Or.inr rfl)) (hd : (x == ("__debug__" : Str)) = false := by decide) (hcd : (x == ("__classdict__" : Str)) = false := by decide)
    (m : M2 X (.Name x p) "pop" apos e f cpos := by exact ⟨rfl, rfl, rfl, rfl⟩) (hsw : swapsWith (.Call (.Attribute (.Name x p) "pop" apos) [e, f] [] cpos) none pos.line X.env = pure false := by rfl) : QS X (.Expr (.Call (.Attribute (.Name x p) "pop" apos) [e, f] [] cpos) pos) (dPop2N i te tf) := by
  refine ps_less (ps_expr (ND.pe_npop2 (by show X.A.units + 1 + 8 < cLine; omega) (pv i hN hv hd hcd) he hf m) hsw) fun D σ H ⟨A, Ow, ρ, DD, rel, ⟨⟨c, h0⟩, h⟩, n, _⟩ => ?_
  obtain ⟨a, u, h1, h2, h3, h4, _⟩ := rel.ownD h0
  cases h4 with
  | @nd es0 _ r0 =>
  refine ⟨.ref a, h2, a, rfl, ⟨es0, .inl h3⟩, A, Ow, ρ, _, rel, h, fun y H1 key ρ1 e1 rel1 rp1 h' => ⟨A, Ow, ρ1, _, rel1, h', fun z H2 d ρ2 e2 rel2 rp2 ⟨kvs, g1, g2, g3⟩ => ?_⟩⟩
  obtain ⟨a', u', k1, k2, k3, k4, k5⟩ := rel2.ownD g1
  rw [h1] at k1
  cases k1
  cases k4 with
  | @nd es _ r =>
    obtain ⟨b, rfl, rpb⟩ := key_ref (rp1.mono e2) g2
    refine ⟨es, key, k3, r.keysAt, ⟨b, rfl, rpb.dp (noD_key g2.1), g2.1, g2.2.1⟩, fun v _ => ?_, fun hn => ?_⟩
    · exact n _ _ _ _ (k5 _ _ _ Stp.upd upd_same (.nd ((r.drop key).mono (stp_own (A := A) h1 Stp.upd)))) g3
    · have e0 : getN kvs key = none := by
        rcases r.get key with ⟨q, _⟩ | ⟨_, _, _, q, _⟩
        · exact q
        · rw [q] at hn; cases hn
      rw [dropN_none e0] at g3
      exact n _ _ _ _ (k5 H2 _ _ Stp.refl k3 (.nd r)) g3
/-- x.pop(k) as a statement -/
def dPop1N (i : Nat) (te : DE) : DS := fun D ρ => (∃ c, isN ρ i c) ∧ te ρ fun k ρ1 => ∃ kvs, isN ρ1 i kvs ∧ KeyOk k ∧ (getN kvs k).isSome = true ∧ D.nx (ρ1.set i (.od (.nd (dropN kvs k))))
theorem qs_pop1N (i : Nat) {x : Str} {p : Pos} (hu : X.A.units + 16 < cLine) (he : QE X e te) (hN : X.N[i]? = some x := by rfl) (hv : Vis X.env.scope x := by first | exact Or.inl rfl | exact Or.inr (Or.inl rfl) | exact Or.inr (Or.inr rfl)) (hd : (x == ("__debug__" : Str)) = false := by decide) (hcd : (x == ("__classdict__" : Str)) = false := by decide)
    (m : M1 X (.Name x p) "pop" apos e cpos := by exact ⟨rfl, rfl, rfl, rfl⟩) (hsw : swapsWith (.Call (.Attribute (.Name x p) "pop" apos) [e] [] cpos) none pos.line X.env = pure false := by rfl) : QS X (.Expr (.Call (.Attribute (.Name x p) "pop" apos) [e] [] cpos) pos) (dPop1N i te) := by
  refine ps_less (ps_expr (ND.pe_npop1 (by show X.A.units + 1 + 8 < cLine; omega) (pv i hN hv hd hcd) he m) hsw) fun D σ H ⟨A, Ow, ρ, DD, rel, ⟨⟨c, h0⟩, h⟩, n, _⟩ => ?_
  obtain ⟨a, u, h1, h2, h3, h4, _⟩ := rel.ownD h0
  cases h4 with
  | @nd es0 _ r0 =>
  refine ⟨.ref a, h2, a, rfl, ⟨es0, .inl h3⟩, A, Ow, ρ, _, rel, h, fun y H1 key ρ1 e1 rel1 rp1 ⟨kvs, g1, g2, gs, g3⟩ => ?_⟩
  obtain ⟨a', u', k1, k2, k3, k4, k5⟩ := rel1.ownD g1
  rw [h1] at k1
  cases k1
  cases k4 with
  | @nd es _ r =>
    obtain ⟨b, rfl, rpb⟩ := key_ref rp1 g2
    rcases r.get key with ⟨q, _⟩ | ⟨d', v, _, q, _⟩
    · rw [q] at gs; cases gs
    · exact ⟨es, key, v, k3, r.keysAt, ⟨b, rfl, rpb.dp (noD_key g2.1), g2.1, g2.2.1⟩, q, n _ _ _ _ (k5 _ _ _ Stp.upd upd_same (.nd ((r.drop key).mono (stp_own (A := A) h1 Stp.upd)))) g3⟩
/-! dicts that stand -/
theorem getN_tag {kvs : List (Int × D)} {ks : List D} : getN (tagI kvs) (.tuple ks) = none := by
  unfold getN tagI
  rw [Option.map_eq_none_iff, List.find?_eq_none]
  intro x hx
  rcases List.mem_cons.mp hx with rfl | hx
  · simp [ND.keyOf]
  · obtain ⟨e, _, rfl⟩ := List.mem_map.mp hx
    simp [ND.keyOf]
/-- x[k] -/
def dIxN (to ti : DE) : DE := fun ρ Q => to ρ fun d ρ1 => ti ρ1 fun k ρ2 => ∃ kvs z, d = .dict kvs ∧ KeyOk k ∧ getN kvs k = some z ∧ Q z ρ2
theorem q_ixN (hu : X.A.units + 16 < cLine) (ho : QE X o to) (hi : QE X e ti) (hs : NoSl e := by exact fun _ _ => rfl) : QE X (.Subscript o e pos) (dIxN to ti) :=
  pe_less (ND.pe_nget (by show X.A.units + 1 + 8 < cLine; omega) ho hi hs) fun σ H Q ⟨A, Ow, ρ, R, rel, h, k⟩ => ⟨A, Ow, ρ, _, rel, h, fun x H1 d ρ1 e1 rel1 rp1 h1 => ⟨A, Ow, ρ1, _, rel1, h1, fun y H2 key ρ2 e2 rel2 rp2 ⟨kvs, z, hd, g2, g3, g4⟩ => by
    subst hd
    obtain ⟨b, rfl, rpb⟩ := key_ref rp2 g2
    have rq := rp1.mono e2
    cases rq with
    | dct n ea r =>
      rcases r.get key with ⟨q, _⟩ | ⟨d', v, q1, q, q3⟩
      · rw [q] at g3; cases g3
      · rw [q1] at g3
        cases g3
        exact ⟨_, v, rfl, ⟨_, key, .inr ⟨_, ea⟩, r.keysAt, ⟨b, rfl, rpb.dp (noD_key g2.1), g2.1, g2.2.1⟩, q.symm⟩, k v H2 _ ρ2 (e1.trans e2) rel2 q3 g4⟩
    | dik n ea r hz =>
      obtain ⟨_, _, ks, rfl⟩ := g2
      rw [hz, getN_tag] at g3
      cases g3⟩⟩
def isND (kvs : List (D × D)) : Prop := ∀ p ∈ kvs, ∃ ks, p.1 = .tuple ks
theorem notTag {kvs : List (D × D)} {z : List (Int × D)} (h : isND kvs) : kvs ≠ tagI z := fun q => by
  subst q
  obtain ⟨ks, e⟩ := h (.list [], .none) List.mem_cons_self
  cases e
/-- len(x) -/
def dLenD (ta : DE) : DE := fun ρ Q => ta ρ fun d ρ1 => ∃ kvs, d = .dict kvs ∧ isND kvs ∧ Q (.int kvs.length) ρ1
theorem q_lenD {p : Pos} (hg : Gl X "len") (hm : X.mg "len" = none) (ha : QE X e te) (he : starEach [e] X.env = (false, eval e X.env) :: starEach [] X.env := by rfl) : QE X (.Call (.Name "len" p) [e] [] pos) (dLenD te) :=
  pe_less (pe_callB ND.call_len_nd hg hm (by rfl) (pa_cons ha pa_nil he) (by decide) (by decide) he) fun σ H Q ⟨A, Ow, ρ, R, rel, h, k⟩ => ⟨A, Ow, ρ, _, rel, h, fun x H1 d ρ1 e1 rel1 rp1 ⟨kvs, hd, hn, h1⟩ => by
    subst hd
    cases rp1 with
    | dct n ea r => exact ⟨_, _, rfl, .inr ⟨_, ea⟩, r.keysAt, by rw [r.len]; exact k _ H1 _ ρ1 e1 rel1 (.int _) h1⟩
    | dik n ea r hz => exact absurd hz (notTag hn)⟩
theorem RpE.keys {K : KW} {O : Addr → Prop} {H : Hp} : ∀ {kvs : List (D × D)} {es : List ND.Ent}, RpE K O H es kvs → RpA K O H (es.map fun e => V.ref e.2.1) (kvs.map (·.1))
  | _, _, .nil => .nil
  | _, _, .cons h1 _ _ _ r => .cons h1 r.keys
/-- for k in x -/
def iKeyN (te : DE) : DI := fun ρ Q => te ρ fun d ρ1 => ∃ kvs, d = .dict kvs ∧ isND kvs ∧ Q (kvs.map (·.1)) ρ1
theorem qi_keyN {tg : Expr} (he : QE X e te) : QI X tg e (iKeyN te) := pi_less (ND.pi_keysN he) fun σ H Q ⟨A, Ow, ρ, R, rel, h, k⟩ => ⟨A, Ow, ρ, _, rel, h, fun v H1 d ρ1 e1 rel1 rp1 ⟨kvs, hd, hn, h1⟩ => by
  subst hd
  cases rp1 with
  | dik n ea r hz => exact absurd hz (notTag hn)
  | @dct a od es _ n ea r =>
    refine ⟨a, od, es, rfl, ea, k _ [(es.map fun e => V.ref e.2.1, kvs.map (·.1))] [(a, .frz od (ND.ndO X.prog X.w a es))] H1 _ ρ1 e1 (rel1.wth (fun p hp => ?_) fun p hp => ?_) (fun O H2 hp hl i => ?_) h1⟩
    · cases List.mem_singleton.mp hp
      exact r.keys
    · cases List.mem_singleton.mp hp
      exact ⟨ea, fun i z => n (.inr ⟨i, z⟩)⟩
    · have hP : RpA (kx X) O H2 (es.map fun e => V.ref e.2.1) (kvs.map (·.1)) := hp _ List.mem_cons_self
      have hL : H2 a = some (.frz od (ND.ndO X.prog X.w a es)) := hl _ List.mem_cons_self
      have hlen : es.length = kvs.length := r.len
      rw [List.length_map]
      refine ⟨fun hi => ⟨hL, by omega⟩, fun hi => ⟨⟨hL, by omega⟩, fun x H' y => ?_⟩⟩
      obtain ⟨rfl, e, he, rfl⟩ := y
      obtain ⟨d, hd, hr⟩ := hP.getV (i := i) (v := .ref e.2.1) (by rw [List.getElem?_map, he]; rfl)
      exact ⟨d, hd, Same.refl _, hr⟩⟩
/-! dict(x) -/
def hOk (kvs : List (D × D)) : Prop := ∀ w : World, (kvs.map fun e => NestedKey.hash w (ND.keyOf e.1)).Nodup
theorem RpE.fst {K : KW} {O : Addr → Prop} {H : Hp} {β : Type} (f : D → β) : ∀ {kvs : List (D × D)} {es : List ND.Ent}, RpE K O H es kvs → (es.map fun e => f e.1) = kvs.map fun e => f e.1
  | _, _, .nil => rfl
  | _, _, .cons _ _ _ _ r => by rw [List.map_cons, List.map_cons, r.fst f]
def dCopyN (te : DE) : DN := fun ρ Q => te ρ fun d ρ1 => ∃ kvs, d = .dict kvs ∧ isND kvs ∧ hOk kvs ∧ Q (.nd kvs) ρ1
theorem qn_copyN {p : Pos} (hu : X.A.units + 16 < cLine) (hg : Gl X "dict") (hm : X.mg "dict" = none) (ha : QE X e te) (he : starEach [e] X.env = (false, eval e X.env) :: starEach [] X.env := by rfl) : QN X (.Call (.Name "dict" p) [e] [] pos) (dCopyN te) :=
  QN.mk (pe_callTy (ND.call_dict_nd (by show X.A.units + 1 + 1 + 8 < cLine; omega)) hg hm (by rfl) (pa_cons ha pa_nil he) (by decide) (by decide) he) fun σ H Q ⟨A, Ow, ρ, R, rel, h, k⟩ => ⟨A, Ow, ρ, _, rel, h, fun x H1 d ρ1 e1 rel1 rp1 ⟨kvs, hd, hn, ho, h1⟩ => by
    subst hd
    cases rp1 with
    | dik n ea r hz => exact absurd hz (notTag hn)
    | @dct a od es _ n ea r =>
      refine ⟨a, es, rfl, .inr ⟨od, ea⟩, r.keysAt, ?_, fun p hp => ?_⟩
      · have q := ho X.w
        rw [← r.fst (fun d => NestedKey.hash X.w (ND.keyOf d))] at q
        exact q
      · exact k p _ _ _ ρ1 ⟨e1.trans (Stp.of (Same.new hp)), e1.nil0 (rel1.fresh hp) hp⟩ (rel1.nw hp) upd_same (rel1.alloc hp (Same.new hp) ⟨_, upd_same⟩) (((RpC.nd r : RpC (kx X) _ _ p _ _).more hp own_fo).mono (Stp.of (Same.new hp))) h1⟩
end

/-! ### dicts from pairs, dicts with ints as keys -/
section
variable {X : Cx} {pins : List (Addr × Obj)} {σ : L2.St} {H : Hp} {s : Shared}
/-- pairs (key, value), the key known to f, by values: their objects -/
theorem pairs_at (I : Inv X pins σ H s) : ∀ {ps : List Addr} {kvs : List (V × V)}, Paired (fun p e => SqT X.K H p [e.1, e.2]) ps kvs → ∃ vs : List (Value × Value), Paired (fun e v => RelV e.1 v.1 ∧ RelV e.2 v.2) kvs vs ∧ vs.length = ps.length ∧ ∀ (j : Nat) (k v : Value), vs[j]? = some (k, v) → ∃ p, ps[j]? = some p ∧ PairAt s.heap p k v
  | _, _, .nil => ⟨[], .nil, rfl, fun j k v e => by simp at e⟩
  | _, _, .cons (a := p) (b := e) h t => by
    obtain ⟨vs, r, hl, hp⟩ := pairs_at I t
    obtain ⟨its, rv, ht, _⟩ := I.tuple h
    obtain ⟨u, y, ei, ru, ry⟩ := vals2 rv
    subst ei
    refine ⟨(u, y) :: vs, .cons ⟨ru, ry⟩ r, by rw [List.length_cons, List.length_cons, hl], fun j k v q => ?_⟩
    cases j with
    | zero =>
      cases q
      obtain ⟨o, ho, hc, n, hd⟩ := ht
      exact ⟨p, rfl, .inl ⟨o, ho, hc, n, hd⟩⟩
    | succ j =>
      obtain ⟨b, e1, e2⟩ := hp j k v (by simpa using q)
      exact ⟨b, by simpa using e1, e2⟩
theorem paired_get {α β : Type} {F : α → β → Prop} : ∀ {l : List α} {m : List β}, Paired F l m → ∀ (i : Nat) (b : β), m[i]? = some b → ∃ a, l[i]? = some a ∧ F a b
  | _, _, .nil, i, b, h => by simp at h
  | _, _, .cons h t, 0, b, e => by
    cases e
    exact ⟨_, rfl, h⟩
  | _, _, .cons h t, i + 1, b, e => by
    obtain ⟨a, q1, q2⟩ := paired_get t i b (by simpa using e)
    exact ⟨a, by simpa using q1, q2⟩
theorem pairItems_of {h : Heap} {ps : List Addr} {items : Array Value} {vs : List (Value × Value)} (hi : items.toList = ps.map Value.ref) (hl : vs.length = ps.length) (hp : ∀ (j : Nat) (k v : Value), vs[j]? = some (k, v) → ∃ p, ps[j]? = some p ∧ PairAt h p k v) : PairItems h items (fun j => ps.getD j 0) vs := by
  refine ⟨by have := congrArg List.length hi; rw [Array.length_toList, List.length_map] at this; omega, fun j k v e => ?_⟩
  obtain ⟨p, e1, e2⟩ := hp j k v e
  have e3 : ps.getD j 0 = p := by rw [List.getD_eq_getElem?_getD, e1]; rfl
  show items[j]? = some (.ref (ps.getD j 0)) ∧ PairAt h (ps.getD j 0) k v
  rw [e3]
  refine ⟨?_, e2⟩
  rw [← Array.getElem?_toList, hi, List.getElem?_map, e1]
  rfl
/-- dict(xs), xs a list of pairs with nested keys that differ -/
theorem call_dict_ndp (hc : X.calm = true) (hu : (nestedKind X.prog X.w).room X.A.in1.in1) : CallR X (.type "dict") (fun xs H Q => ∃ (a : Addr) (ps : List Addr) (es : List ND.Ent), xs = [V.ref a] ∧ SqL X.K H a (ps.map V.ref) ∧ Paired (fun p (e : ND.Ent) => SqT X.K H p [.ref e.2.1, e.2.2]) ps es ∧ ND.KeysAt X.K H es ∧ (es.map fun e => ND.keyOf e.1).Nodup ∧
    ∀ p, H p = none → Q (.ref p) (L2.upd H p (ND.ndO X.prog X.w p es))) := by
  intro pins s σ H xs us Q I r h
  obtain ⟨a, ps, es, rfl, hq, hp, ka, hnd, q⟩ := h
  obtain ⟨u, rfl, rx⟩ := r.one
  cases rx
  obtain ⟨its, rv, pl, hz⟩ := I.list hq
  have ei := refs_at rv
  subst ei
  rw [List.length_map] at hz
  have hp' : Paired (fun p (e : V × V) => SqT X.K H p [e.1, e.2]) ps (es.map fun e => (V.ref e.2.1, e.2.2)) := by
    clear hq hz rv pl ka hnd q r
    induction hp with
    | nil => exact .nil
    | cons h t ih => exact .cons h ih
  obtain ⟨vs, rvs, hl, hpr⟩ := pairs_at I hp'
  -- the entries' values
  have key : ∀ {es : List ND.Ent} {vs : List (Value × Value)}, Paired (fun (e : V × V) (v : Value × Value) => RelV e.1 v.1 ∧ RelV e.2 v.2) (es.map fun e => (V.ref e.2.1, e.2.2)) vs → Vals (es.map (·.2.2)) (vs.map (·.2)) ∧ vs.map (·.1) = es.map fun e => Value.ref e.2.1 := by
    intro es
    induction es with
    | nil =>
      intro vs q
      cases q
      exact ⟨.nil, rfl⟩
    | cons e es ih =>
      intro vs q
      rw [List.map_cons] at q
      cases q with
      | cons h t =>
        obtain ⟨i1, i2⟩ := ih t
        refine ⟨.cons h.2 i1, ?_⟩
        rw [List.map_cons, List.map_cons, i2]
        have z : _ = Value.ref e.2.1 := h.1
        rw [z]
  obtain ⟨k1, k2⟩ := key rvs
  have hle : es.length = vs.length := by have := congrArg List.length k2; simpa using this.symm
  obtain ⟨o, n, ho, hcl, hd, hdat⟩ := pl
  have raw : ∀ (i : Nat) (k v : Value), vs[i]? = some (k, v) → ∃ e : ND.Ent, es[i]? = some e ∧ k = .ref e.2.1 ∧ (ND.rawOf (vs.map (·.2)) es)[i]? = some (ND.keyOf e.1, e.2.1, v) := fun i k v hv => by
    have h1 := congrArg (fun l => l[i]?) k2
    simp only [List.getElem?_map, hv] at h1
    obtain ⟨e, he, hk⟩ := Option.map_eq_some_iff.mp h1.symm
    refine ⟨e, he, hk.symm, ?_⟩
    unfold ND.rawOf
    rw [List.getElem?_map, List.getElem?_zip_eq_some.mpr (⟨he, by rw [List.getElem?_map, hv]; rfl⟩ : es[i]? = some (e, v).1 ∧ (vs.map (·.2))[i]? = some (e, v).2)]
    rfl
  have his : ∀ x ∈ ND.rawOf (vs.map (·.2)) es, (nestedKind X.prog X.w).is s.heap x.1 x.2.1 := fun x hx => by
    obtain ⟨e, he, q1, q2⟩ := ND.raw_mem hx
    obtain ⟨g1, g2, g3⟩ := ka e he
    rw [q1, q2]
    exact ND.key_is I g1 g2 g3
  have hrl : (ND.rawOf (vs.map (·.2)) es).length = vs.length := by rw [ND.raw_size k1]; exact hle
  refine call_dict_pairsH (knd := nestedKind X.prog X.w) (ps := ND.rawOf (vs.map (·.2)) es) (PairArg.list a (ps.map Value.ref).toArray (fun j => ps.getD j 0) vs) (I.ok.hd hc) hu ⟨⟨o, n, ho, hcl, hd, hdat⟩, pairItems_of (by simp) hl hpr⟩ ⟨hrl, fun i k v hv => ?_⟩ (fun h' hk x hx => ?_) (by rw [hl]; exact hz) fun h' tk dd' hk => ?_
  · obtain ⟨e, _, g1, g2⟩ := raw i k v hv
    exact ⟨_, _, g2, g1⟩
  · exact nestedKind_stays.stays (fun b o _ _ e _ => hk b o (Nat.ne_of_lt (Heap.lt_size e)) (fun z => nomatch z) e) (his x hx)
  · have hn : ((ND.rawOf (vs.map (·.2)) es).map (·.1)).Nodup := by
      have e : ((ND.rawOf (vs.map (·.2)) es).map (·.1)) = es.map fun e => ND.keyOf e.1 := ND.raw_keys k1 id
      rw [e]; exact hnd
    rw [storedAllH_nil_of_nodup _ hn] at dd'
    refine ⟨.ref s.heap.objs.size, _, I.laid (a := s.heap.objs.size) (o := ND.ndO X.prog X.w s.heap.objs.size es) (t' := tk) (fun b o e => hk b o (fun z => nomatch z) e) (Nat.le_refl _) (ND.nd_ok k1 dd' (beq_eq_false_iff_ne.mpr (Ne.symm (Nat.ne_of_lt I.big))) (by rw [hle, hl]; exact hz)), rfl, q _ (I.hok.fresh (Nat.le_refl _))⟩
/-- dict(t), t a tuple of pairs with ints as keys that differ -/
theorem call_dict_ikp (hc : X.calm = true) : CallR X (.type "dict") (fun xs H Q => ∃ (a : Addr) (ps : List Addr) (es : List (L2.Key × V)), xs = [V.ref a] ∧ SqT X.K H a (ps.map V.ref) ∧ (∀ pins σ s, Inv X pins σ H s → ∃ o, s.heap.get? a = some o ∧ o.dict = none) ∧ Paired (fun p (e : L2.Key × V) => SqT X.K H p [kV e.1, e.2]) ps es ∧ (es.map (·.1)).Nodup ∧
    ∀ p, H p = none → Q (.ref p) (L2.upd H p (.dK es))) := by
  intro pins s σ H xs us Q I r h
  obtain ⟨a, ps, es, rfl, hq, hdn, hp, hnd, q⟩ := h
  obtain ⟨u, rfl, rx⟩ := r.one
  cases rx
  obtain ⟨its, rv, pl, hz⟩ := I.tuple hq
  have ei := refs_at rv
  subst ei
  rw [List.length_map] at hz
  have hp' : Paired (fun p (e : V × V) => SqT X.K H p [e.1, e.2]) ps (es.map fun e => (kV e.1, e.2)) := by
    clear hq hz rv pl hnd q r hdn
    induction hp with
    | nil => exact .nil
    | cons h t ih => exact .cons h ih
  obtain ⟨vs, rvs, hl, hpr⟩ := pairs_at I hp'
  have key : ∀ {es : List (L2.Key × V)} {vs : List (Value × Value)}, Paired (fun (e : V × V) (v : Value × Value) => RelV e.1 v.1 ∧ RelV e.2 v.2) (es.map fun e => (kV e.1, e.2)) vs →
      ∃ ks : List (L2.Key × Value), KV es ks ∧ ks.length = vs.length ∧ ∀ (i : Nat) (k v : Value), vs[i]? = some (k, v) → ∃ c, ks[i]? = some (c, v) ∧ (mixKind X.prog X.w).is c k = true := by
    intro es
    induction es with
    | nil =>
      intro vs q
      cases q
      exact ⟨[], .nil, rfl, fun i k v e => by simp at e⟩
    | cons e es ih =>
      intro vs q
      rw [List.map_cons] at q
      cases q with
      | @cons _ v _ vs h t =>
        obtain ⟨ks, i1, i2, i3⟩ := ih t
        refine ⟨(e.1, v.2) :: ks, .cons ⟨rfl, h.2⟩ i1, by simp [i2], fun i k w hw => ?_⟩
        cases i with
        | zero =>
          cases hw
          exact ⟨_, rfl, kV_is h.1⟩
        | succ i =>
          obtain ⟨c, c1, c2⟩ := i3 i k w (by simpa using hw)
          exact ⟨c, by simpa using c1, c2⟩
  obtain ⟨ks, k1, k2, k3⟩ := key rvs
  obtain ⟨o, ho, hcl, n, hdat⟩ := pl
  obtain ⟨o', ho', hd⟩ := hdn pins σ s I
  rw [ho] at ho'
  cases ho'
  refine PySem.call_dict_pairs (knd := mixKind X.prog X.w) (kvs := ks) (PairArg.tuple a (ps.map Value.ref).toArray (fun j => ps.getD j 0) vs) (I.ok.hd hc) ⟨⟨o, n, ho, hcl, hd, hdat⟩, pairItems_of (by simp) hl hpr⟩ ⟨k2, k3⟩ (by rw [hl]; exact hz) fun h' tk dd' hk => ?_
  have hn : (ks.map (·.1)).Nodup := by rw [← KV.keys k1]; exact hnd
  rw [merged_nil_of_nodup _ hn] at dd'
  have hle : es.length ≤ sizeLine := by rw [KV.length k1, k2, hl]; exact hz
  exact ⟨.ref s.heap.objs.size, _, I.laid (a := s.heap.objs.size) (o := .dK es) (t' := tk) (fun b o e => hk b o (fun z => nomatch z) e) (Nat.le_refl _) (show ObjOk X.prog X.w _ _ _ (.dK es) from ⟨hle, beq_eq_false_iff_ne.mpr (Ne.symm (Nat.ne_of_lt I.big)), ks, k1, dd'⟩), rfl, q _ (I.hok.fresh (Nat.le_refl _))⟩
end

end DL
namespace SK
open PySem PySem.Spec PySem.Calls PyProof.Rows PySem.W L2
/-! SK: sorted(xs, key=f) with f a def of the program: the two lists that the sort works with are pinned while f runs. -/
section
variable {X : Cx} {pins : List (Addr × Obj)} {σ : L2.St} {H : Hp} {s : Shared}
/-- an untracked thing of ours is tracked from now on -/
theorem track {a : Addr} {u : HO} (I : Inv X pins σ H s) (f : FpOk X pins H a) (hs : X.s_0.heap.objs.size ≤ a) (new : ObjOk X.prog X.w (L2.upd H a u) s.heap a u) : Inv X pins σ (L2.upd H a u) s := by
  obtain ⟨f0, f1, f2, f3, f4, f5⟩ := f
  have ne : ∀ b o, H b = some o → b ≠ a := fun b o e => ne_of_none e f0
  refine ⟨I.ok, I.os, I.bare, ⟨I.base.keep, I.base.slot, fun b o e n hx => (by
    rw [upd_ne (Nat.ne_of_lt (Nat.lt_of_lt_of_le (Heap.lt_size e) hs))]
    exact I.base.free b o e n hx), I.base.there, fun b xs e => (by
    have q := I.base.tups b xs e
    rw [upd_ne (ne b _ q)]; exact q), fun b o x e => (by
    have q := I.base.frzs b o x e
    rw [upd_ne (ne b _ q)]; exact q), fun b ps e => (by
    obtain ⟨m, q⟩ := I.base.tbls b ps e
    exact ⟨m, by rw [upd_ne (ne b _ q)]; exact q⟩)⟩, I.loc, I.cell, ?_, fun x c e => ?_, fun p hp => ?_, fun b o e => ?_, I.len⟩
  · rw [upd_ne (Ne.symm f1)]; exact I.free
  · rw [upd_ne (f4 x c e)]; exact I.freeC x c e
  · obtain ⟨e, n, r⟩ := I.pin p hp
    exact ⟨e, by rw [upd_ne (f5 p hp)]; exact n, r⟩
  · by_cases hb : b = a
    · rw [hb, upd_same] at e
      cases e
      rw [hb]; exact new
    · rw [upd_ne hb] at e
      exact (I.hok b o e).stay (fun c v _ q => q) (fun c q => by rw [upd_ne (ne c _ q)]; exact q) fun c xs q => by rw [upd_ne (ne c _ q)]; exact q
/-- a def runs further in -/
theorem call_in {A' : Around} {k : Nat} {f : Addr} {fd : FuncData} {ps : List Str} {sp : Sp} {Q : VK} {us : List Value} {vs : List V} (F : FnOk X.prog X.w X.K X.mg X.base CX0 k f fd ps sp) (hr : Room k A') (hf : A'.frames = X.A.frames) (hb : Binds X.K fd ps [])
    (I : Inv X pins σ H s) (r : Vals vs us) (h : sp vs H Q E0) : wpAny (model X.prog X.w) A' (call (.ref f) us) (EP X pins σ Q) (fun _ _ => False) s := by
  have hl : (us ++ []).length = ps.length := by rw [List.append_nil, ← r.length]; exact F.len _ _ _ _ h
  have e0 := I.env0
  have hb' := hb s us I.kIn hl
  rw [List.append_nil] at hb'
  refine wpAny_call (codeAny_mono (F.run A' X.stack s H ⟨us, []⟩ us vs Q E0 hr ⟨hf.trans e0.frames, e0.mod, e0.bs, e0.bsz, e0.funs, e0.frf, e0.hok, e0.bare⟩ hb' r h) fun r s' hq => ?_)
  cases r with
  | error e => exact False.elim hq
  | ok fl =>
    cases fl with
    | ret u => exact I.after hq
    | _ => exact False.elim hq
/-- the state between two calls of f -/
def St (X : Cx) (pins : List (Addr × Obj)) (σ : L2.St) (O : Addr → Prop) (H : Hp) (a kS : Addr) (e1 : Nat) (ks : List PyData) (s : Shared) : Prop :=
  ∃ (H' : Hp) (kA : Array Value) (e : Nat) (ys : List V), Inv X pins σ H' s ∧ L2.Same H H' ∧ FpOk X pins H' kS ∧ FpOk X pins H' a ∧ s.heap.get? kS = some (seqObj "list" kA e) ∧ s.heap.get? a = some (seqObj "list" #[] e1) ∧ Vals ys kA.toList ∧ DL.RpA (DL.kx X) O H' ys ks
/-- what f is asked while the sort runs -/
def Turn (X : Cx) (A' : Around) (f : Value) (O : Addr → Prop) (σ : L2.St) (H : Hp) (ds : List PyData) (κ : PyData → PyData) : Prop :=
  ∀ (pins1 : List (Addr × Obj)) (s1 : Shared) (H1 : Hp) (v : Value) (x : V) (d : PyData), Inv X pins1 σ H1 s1 → L2.Same H H1 → RelV x v → DL.Rp (DL.kx X) O H1 x d → d ∈ ds →
    wpAny (model X.prog X.w) A' (call f [v]) (EP X pins1 σ fun y H2 => L2.Same H1 H2 ∧ DL.Rp (DL.kx X) O H2 y (κ d)) (fun _ _ => False) s1
theorem Same.tr {H H1 H2 : Hp} (a : L2.Same H H1) (b : L2.Same H1 H2) : L2.Same H H2 := fun c o e => b c o (a c o e)
theorem rp_same {K : DL.KW} {O : Addr → Prop} {H H1 : Hp} {xs : List V} {ds : List PyData} (r : DL.RpA K O H xs ds) (e : L2.Same H H1) : DL.RpA K O H1 xs ds := r.mono (DL.Stp.of e)
theorem reads_all {O : Addr → Prop} (I : Inv X pins σ H s) : ∀ {ds : List PyData} {ys : List V} {us : List Value}, DL.RpA (DL.kx X) O H ys ds → (∀ d ∈ ds, DL.noD d = true) → Vals ys us → EachIs (fun v k => ∃ as, Reads s.heap v k as) us ds
  | _, _, _, .nil, _, .nil => .nil
  | _, _, _, .cons h r, n, .cons rv rs => .cons (Dp.reads I _ _ _ (h.dp (n _ List.mem_cons_self)) rv) (reads_all I r (fun d hd => n d (List.mem_cons_of_mem _ hd)) rs)
theorem rest {b : Bool} {a kS : Addr} {f : Value} {vs : List Value} {xs : List V} {ds : List PyData} {κ : PyData → PyData} {e1 : Nat} {O : Addr → Prop} {A' : Around} {P : PySem.Fin → Shared → Prop} {E : Value → Shared → Prop}
    (turn : Turn X A' f O σ H ds κ) (hka : kS ≠ a) (hvx : Vals xs vs) (hds : DL.RpA (DL.kx X) O H xs ds) (s0 : Shared) (st0 : St X pins σ O H a kS e1 [] s0) (hZ : vs.length ≤ sizeLine) (hal : AllAlike (ds.map κ)) (hsk : Sortable (ds.map κ)) (hnd : ∀ d ∈ ds.map κ, DL.noD d = true)
    (hu : ∀ d, d ∈ ds.map κ → A'.units + d.depth < cLine)
    (fin : ∀ (s' : Shared) (H' : Hp) (h' : Heap) (tk : Nat) (out : List Value) (c : Nat), Inv X pins σ H' s' → L2.Same H H' → FpOk X pins H' a → FpOk X pins H' kS → (∀ b o, b ≠ a → b ≠ kS → s'.heap.get? b = some o → h'.get? b = some o) → h'.get? a = some (seqObj "list" (List.toArray out) c) →
      KeyedOut b (ds.map κ) vs out → P (.done (.ret .none)) { s' with heap := h', toks := tk }) :
    wpAny (model X.prog X.w) A' (ksk_rest a f b vs.toArray e1 (.ref kS)) P E s0 := by
  have hlen : ds.length = vs.length := by rw [← hds.len, hvx.length]
  unfold ksk_rest
  refine wpAny_bind (wpAny_rule ?_)
  first | rw [List.forIn_toArray] | (rw [← Array.forIn_toList]; simp only [List.toList_toArray]) | rw [← Array.forIn_toList]
  refine wpAny_bind (ksk_fold (fun i s' => St X pins σ O H a kS e1 ((ds.map κ).take i) s') vs 0 s0 (by rw [List.take_zero]; exact st0) ?step ?done)
  case step =>
    rintro j v s1 hx ⟨H1, kA, e, ys, I1, sm, fk, fa, gk, ga, rv, rp⟩
    rw [Nat.zero_add] at rp ⊢
    have hj : j < vs.length := (List.getElem?_eq_some_iff.mp hx).1
    obtain ⟨d, hd⟩ : ∃ d, ds[j]? = some d := ⟨_, List.getElem?_eq_getElem (by omega)⟩
    obtain ⟨x, hxs, rpx⟩ := hds.get hd
    have rvx : RelV x v := by
      obtain ⟨x', g1, g2⟩ := DL.paired_get hvx j v hx
      rw [hxs] at g1
      cases g1
      exact g2
    have Ip := I1.pinned (fp := [kS, a]) (fun b hb => by
      rcases List.mem_cons.mp hb with rfl | hb
      · exact fk
      · rw [List.mem_singleton.mp hb]; exact fa) (fun b hb => by
      rcases List.mem_cons.mp hb with rfl | hb
      · exact ⟨_, gk, fun v z => nomatch z⟩
      · rw [List.mem_singleton.mp hb]; exact ⟨_, ga, fun v z => nomatch z⟩)
    refine wpAny_bind (wpAny_attempt (wpAny_mono (turn _ s1 H1 v x d Ip sm rvx (rpx.mono (DL.Stp.of sm)) (List.mem_of_getElem? hd)) (fun u s2 he => ?_) fun _ _ hF => hF.elim))
    obtain ⟨y, H2, I2, ry, sm2, rp2⟩ := he
    try dsimp only
    have pk := I2.pin (kS, seqObj "list" kA e) (List.mem_append_right _ (List.mem_append_right _ (mem_pinsAt (by simp) gk)))
    have pa := I2.pin (a, seqObj "list" #[] e1) (List.mem_append_right _ (List.mem_append_right _ (mem_pinsAt (by simp) ga)))
    have I3 : Inv X pins σ H2 s2 := I2.pins_of fun p hp => I2.pin p (List.mem_append_right _ (List.mem_append_left _ hp))
    have fk2 : FpOk X pins H2 kS := ⟨pk.2.1, fk.2⟩
    have fa2 : FpOk X pins H2 a := ⟨pa.2.1, fa.2⟩
    have hz : kA.size ≤ vs.length := by
      have h1 : ys.length = kA.size := rv.length.trans Array.length_toList
      have h2 := rp.len
      rw [List.length_take, List.length_map] at h2
      omega
    have sb := Heap.SameBut.update s2.heap kS (Obj.mapSeq (·.push u))
    obtain ⟨c2, hc2⟩ : ∃ c2, (s2.heap.update kS (Obj.mapSeq (·.push u))).get? kS = some (seqObj "list" (kA.push u) c2) := ⟨_, get?_update_seq pk.1 (·.push u)⟩
    refine wpAny_bind (listUpdate_at pk.1 rfl ?_ (Nat.le_trans hz hZ) (by rw [Array.size_push]; omega))
    refine wpAny_pure ⟨rfl, H2, kA.push u, c2, ys ++ [y], ?_, Same.tr sm sm2, fk2, fa2, hc2, (sb.2 a hka.symm).trans pa.1, ?_, ?_⟩
    · exact I3.turned (t' := s2.toks) (fun b o hb e => (sb.2 b hb).trans e) fk2.1 fk2.2.1 fk2.2.2.2.1 fk2.2.2.2.2.1 fk2.2.2.2.2.2
    · rw [Array.toList_push]
      exact rv.append (.cons ry .nil)
    · have ek : (ds.map κ).take (j + 1) = (ds.map κ).take j ++ [κ d] := by rw [List.take_add_one, List.getElem?_map, hd]; rfl
      rw [ek]
      exact (rp_same rp sm2).append (.one rp2)
  case done =>
    rintro s1 ⟨H1, kA, e, ys, I1, sm, fk, fa, gk, ga, rv, rp⟩
    rw [List.take_of_length_le (by rw [List.length_map]; omega)] at rp
    have hk' := reads_all I1 rp hnd rv
    have hsz : kA.size = vs.length := by
      have h1 := hk'.length
      rw [Array.length_toList, List.length_map] at h1
      omega
    try dsimp only
    refine wpAny_bind (listItems_at gk rfl ?_)
    have sb := Heap.SameBut.update s1.heap kS (fun o => { o with data := .freed })
    refine keyH_end (κ := dataKind s1.heap (ds.map κ)) (h₁ := s1.heap.update kS fun o => { o with data := .freed }) (fun b o hb e => ?_) (PyProof.Rows.TI.get?_update_freed _ _) gk ga hka (SortsAt.data hk' hal hsk hu) hsz hZ fun h3 tk3 c k3 n3 => ?_
    · by_cases z : b = kS
      · rw [z, PyProof.Rows.TI.get?_update_freed] at e; cases e
      · exact (sb.2 b z).symm.trans e
    · exact fin s1 H1 h3 tk3 _ c I1 sm fa fk (fun b o h1 h2 e => k3 b o h1 ((sb.2 b h2).trans e)) n3 ⟨s1.heap, kA.toList, hal, rfl, hk'⟩
theorem tree {b : Bool} {a n : Nat} {f : Value} {vs : List Value} {xs : List V} {ds : List PyData} {κ : PyData → PyData} {O : Addr → Prop} {A' : Around} {P : PySem.Fin → Shared → Prop} {E : Value → Shared → Prop}
    (turn : Turn X A' f O σ H ds κ) (hvx : Vals xs vs) (hds : DL.RpA (DL.kx X) O H xs ds) (I : Inv X pins σ H s) (fa : FpOk X pins H a) (ho : s.heap.get? a = some (seqObj "list" vs.toArray n)) (hZ : vs.length ≤ sizeLine) (hal : AllAlike (ds.map κ)) (hsk : Sortable (ds.map κ)) (hnd : ∀ d ∈ ds.map κ, DL.noD d = true)
    (hu : ∀ d, d ∈ ds.map κ → A'.units + d.depth < cLine)
    (fin : ∀ (s' : Shared) (H' : Hp) (out : List Value) (c : Nat), Inv X pins σ H' s' → L2.Same H H' → FpOk X pins H' a → s'.heap.get? a = some (seqObj "list" (List.toArray out) c) → KeyedOut b (ds.map κ) vs out → P (.done (.ret .none)) s') :
    wpAny (model X.prog X.w) A' (ksk_tree a f b) P E s := by
  have lt := Heap.lt_size ho
  obtain ⟨e1, g1⟩ : ∃ e1, (s.heap.update a (Obj.mapSeq fun _ => (#[] : Array Value))).get? a = some (seqObj "list" #[] e1) := ⟨_, get?_update_seq ho fun _ => #[]⟩
  have sb := Heap.SameBut.update s.heap a (Obj.mapSeq fun _ => (#[] : Array Value))
  have I1 : Inv X pins σ H { s with heap := s.heap.update a (Obj.mapSeq fun _ => (#[] : Array Value)), toks := s.toks } := I.turned (fun b o hb e => (sb.2 b hb).trans e) fa.1 fa.2.1 fa.2.2.2.1 fa.2.2.2.2.1 fa.2.2.2.2.2
  have I2 : Inv X pins σ H { s with heap := (s.heap.update a (Obj.mapSeq fun _ => (#[] : Array Value))).push (seqObj "tuple" vs.toArray 0), toks := s.toks } := I1.kept (t' := s.toks) fun b o e => Heap.get?_push_of_some _ e
  have I3 : Inv X pins σ H { s with heap := ((s.heap.update a (Obj.mapSeq fun _ => (#[] : Array Value))).push (seqObj "tuple" vs.toArray 0)).push (seqObj "list" #[] 0), toks := s.toks } := I2.kept (t' := s.toks) fun b o e => Heap.get?_push_of_some _ e
  have fk := I2.fpOk (H' := H) (Nat.le_refl _) (I2.hok.fresh (Nat.le_refl _))
  have szk : ((s.heap.update a (Obj.mapSeq fun _ => (#[] : Array Value))).push (seqObj "tuple" vs.toArray 0)).objs.size = s.heap.objs.size + 1 := by rw [size_push', Heap.size_update]
  unfold ksk_tree
  refine wpAny_bind (listItems_at ho rfl (wpAny_bind (listUpdate_at ho rfl ?_ (by rw [List.size_toArray]; exact hZ) (Nat.zero_le _))))
  refine wpAny_bind (seqEpoch_at g1 rfl (wpAny_bind (wpAny_newTuple (wpAny_bind (wpAny_newList ?_ (Nat.zero_le _))) (by show vs.length ≤ _; exact hZ))))
  refine wpAny_holding (rest (pins := pins) (a := a) (vs := vs) (e1 := e1) (kS := ((s.heap.update a (Obj.mapSeq fun _ => (#[] : Array Value))).push (seqObj "tuple" vs.toArray 0)).objs.size) (s0 := { s with heap := ((s.heap.update a (Obj.mapSeq fun _ => (#[] : Array Value))).push (seqObj "tuple" vs.toArray 0)).push (seqObj "list" #[] 0) }) turn (by rw [szk]; exact Nat.ne_of_gt (Nat.lt_succ_of_lt lt)) hvx hds ?_ hZ hal hsk hnd hu fun s' H' h' tk out c J sm ja jk kp ga ko => ?_)
  · exact ⟨H, #[], 0, [], I3, fun _ _ e => e, fk, fa, Heap.get?_push_size _ rfl, Heap.get?_push_of_some _ (Heap.get?_push_of_some _ g1), .nil, .nil⟩
  · refine fin _ H' out c (J.turnedL (t' := tk) (ch := [a, _]) (fun b o hb e => kp b o (fun z => hb (List.mem_cons.mpr (.inl z))) (fun z => hb (List.mem_cons_of_mem _ (List.mem_singleton.mpr z))) e) fun b hb => ?_) sm ja ga ko
    rcases List.mem_cons.mp hb with rfl | hb
    · exact ja
    · rw [List.mem_singleton.mp hb]; exact jk
theorem out_vals {R : Value → PyData → Prop} {T : V → PyData → Prop} (hR : ∀ v d, R v d → ∃ x, RelV x v ∧ T x d) : ∀ {out : List Value} {ds : List PyData}, EachIs R out ds → ∃ ys : List V, Vals ys out ∧ EachIs T ys ds
  | _, _, .nil => ⟨[], .nil, .nil⟩
  | _, _, .cons h t => by
    obtain ⟨x, h1, h2⟩ := hR _ _ h
    obtain ⟨ys, h3, h4⟩ := out_vals hR t
    exact ⟨x :: ys, .cons h1 h3, .cons h2 h4⟩
theorem rpa_of {K : DL.KW} {O : Addr → Prop} {H : Hp} : ∀ {ys : List V} {ds : List PyData}, EachIs (fun x d => DL.Rp K O H x d) ys ds → DL.RpA K O H ys ds
  | _, _, .nil => .nil
  | _, _, .cons h t => .cons h (rpa_of t)
theorem each_in {K : DL.KW} {O : Addr → Prop} {H : Hp} : ∀ {xs : List V} {vs : List Value} {ds : List PyData}, Vals xs vs → DL.RpA K O H xs ds → EachIs (fun v d => ∃ x, RelV x v ∧ DL.Rp K O H x d) vs ds
  | _, _, _, .nil, .nil => .nil
  | _, _, _, .cons h t, .cons r rs => .cons ⟨_, h, r⟩ (each_in t rs)
def rSrtK (X : Cx) (P : List PyData → (PyData → Prop) → Prop) (f : Addr) (κ : PyData → PyData) : List V → List V → Hp → VK → Prop := fun xs zs H Q => ∃ (O : Addr → Prop) (a : Addr) (ys : List V) (ds : List PyData), xs = [V.ref a] ∧ zs = [V.ref f] ∧ SqL X.K H a ys ∧ DL.RpA (DL.kx X) O H ys ds ∧ (∀ a, O a → ∃ o, H a = some o) ∧ (∀ d ∈ ds, P [d] (fun z => z = κ d)) ∧
      AllAlike (ds.map κ) ∧ Sortable (ds.map κ) ∧ (∀ d ∈ ds.map κ, DL.noD d = true ∧ d.depth ≤ 64) ∧ ∀ H' p ys', L2.Same H H' → H p = none → H' p = some (.lst ys') → DL.RpA (DL.kx X) (fun b => O b ∨ b = p) H' ys' (ds.mergeSort (dataLe false κ)) → Q (.ref p) H'
/-- sorted(xs, key=f), f a def from data to data -/
theorem cr_sortK {k : Nat} {f : Addr} {fd : FuncData} {ps : List Str} {P : List PyData → (PyData → Prop) → Prop} {κ : PyData → PyData} (F : FnOk X.prog X.w X.K X.mg X.base CX0 k f fd ps (DL.spD (DL.kx X) P)) (hr : Room (k + 2) X.A) (hb : Binds X.K fd ps []) :
    CallRK X (.builtin "sorted") [Str.ofString "key"] (rSrtK X P f κ) := by
  intro pins s σ H xs zs us ws Q I r rz h
  obtain ⟨O, a, ys, ds, rfl, rfl, hs, hds, ht, hP, hal, hsk, hnd, q⟩ := h
  obtain ⟨u, rfl, rx⟩ := r.one
  cases rx
  obtain ⟨w1, rfl, rw1⟩ := rz.one
  cases rw1
  obtain ⟨its, rv, hl, hz⟩ := I.list hs
  have hZ : its.length ≤ sizeLine := by rw [← rv.length]; exact hz
  have hr2 : Room k X.A.in1.in1 := hr.in1.in1
  show wpAny _ _ (call (.builtin "sorted") [.ref a] [(Str.ofString "key", .ref f)]) _ _ _
  refine sorted_of_sort hl.isList hZ (ksk_s1 _ _) (fun _ => ksk_l1 _ _) fun E' => ?_
  rw [ksk_t1]
  have I1 : Inv X pins σ H { s with heap := copyHeap s.heap its, toks := s.toks } := I.kept (t' := s.toks) fun b o e => copyHeap_old e
  have hfr : H (s.heap.objs.size + 1) = none := I.hok.fresh (Nat.le_succ _)
  refine tree (s := { s with heap := copyHeap s.heap its }) (κ := κ) (O := O) (fun pins1 s1 H1 v x d J sm rvx rpx hd => ?_) rv hds I1 (I.fpOk (Nat.le_succ _) hfr) (copyHeap_at s.heap its) hZ hal hsk (fun d hd => (hnd d hd).1) (fun d hd => ?_) fun s' H' out c J sm ja ga ko => ⟨rfl, ?_⟩
  · refine call_in F hr2 rfl hb J (.cons rvx .nil) ⟨O, [d], _, .one rpx, fun a ha => ?_, hP d hd, fun v H2 z e2 rp hz => ⟨e2, by rw [← hz]; exact rp⟩⟩
    obtain ⟨o, e⟩ := ht a ha
    exact ⟨o, sm a o e⟩
  · have h1 := (hnd d hd).2
    have h2 := hr.un
    show X.A.units + 1 + 1 + d.depth < cLine
    omega
  · obtain ⟨zs, z1, z2⟩ := out_vals (fun v d h => h) (keyedOut_each κ ko (each_in rv hds))
    have zr := rpa_of z2
    have hlen : zs.length ≤ sizeLine := by
      have h1 := zr.len
      have h2 := hds.len
      rw [List.length_mergeSort] at h1
      omega
    have T := track J ja (Nat.le_trans I.sz (Nat.le_succ _)) (u := .lst zs) ⟨hlen, out, c, z1, ga⟩
    have sm2 : L2.Same H (L2.upd H' (s.heap.objs.size + 1) (.lst zs)) := Same.tr sm (DL.Same.new ja.1)
    exact ⟨.ref _, _, T, rfl, q _ _ zs sm2 hfr upd_same ((zr.more hfr fun b z => z).mono (DL.Stp.of sm2))⟩
end
end SK
namespace DL
open PySem L2

/-! ### more rules -/
section
variable {X : Cx} {e f o a b : Expr} {pos apos cpos p : Pos} {st : Stmt} {rest : List Stmt} {to ti te tb tf ta : DE}
/-- a new list, from a call by values: what a QF wants -/
theorem qf_of {t : TE} {tf : DF} (h : PE X e t) (k : ∀ σ H Q, lamF (kx X) tf σ H Q → t σ H Q) : QF X e tf := pe_less h k
/-- what a call by values of one argument gives as a new list of items ys' -/
theorem fin_F {A : Act} {Ow : Nat → Option Addr} {σ : L2.St} {H H1 : Hp} {ρ1 : Env} {Q : VK} {R : List D → Env → Prop} (k : ∀ p H' xs cs ρ', (Stp (own A.FO Ow) H H' ∧ H p = none) → Nw A Ow p → H' p = some (.lst xs) → Rel (kx X) (A.fo p) Ow σ H' ρ' → RpA (kx X) (own (A.fo p).FO Ow) H' xs cs → R cs ρ' → Q (.ref p) H')
    (e1 : Stp (own A.FO Ow) H H1) (rel1 : Rel (kx X) A Ow σ H1 ρ1) {p : Addr} {ys : List V} {cs : List D} (hp : H1 p = none) (rp : RpA (kx X) (own A.FO Ow) H1 ys cs) (h : R cs ρ1) : Q (.ref p) (L2.upd H1 p (.lst ys)) :=
  k p _ ys cs ρ1 ⟨e1.trans (Stp.of (Same.new hp)), e1.nil0 (rel1.fresh hp) hp⟩ (rel1.nw hp) upd_same (rel1.alloc hp (Same.new hp) ⟨_, upd_same⟩) ((rp.more hp own_fo).mono (Stp.of (Same.new hp))) h
/-! sum, list, tuple -/
theorem rpa_ints {K : KW} {O : Addr → Prop} {H : Hp} : ∀ {ns : List Int} {xs : List V}, RpA K O H xs (ns.map PyData.int) → xs = ns.map V.int
  | [], _, .nil => rfl
  | n :: ns, _, .cons h r => by
    cases h
    rw [List.map_cons, ← rpa_ints r]
def dSum (te : DE) : DE := fun ρ Q => te ρ fun d ρ1 => ∃ ns : List Int, d = .list (ns.map .int) ∧ Q (.int ns.sum) ρ1
theorem q_sum (hc : X.calm = true) (hg : Gl X "sum") (hm : X.mg "sum" = none) (ha : QE X e te) (he : starEach [e] X.env = (false, eval e X.env) :: starEach [] X.env := by rfl) : QE X (.Call (.Name "sum" p) [e] [] pos) (dSum te) :=
  pe_less (pe_callB (cr_sum hc) hg hm (by rfl) (pa_cons ha pa_nil he) (by decide) (by decide) he) fun σ H Q ⟨A, Ow, ρ, R, rel, h, k⟩ => ⟨A, Ow, ρ, _, rel, h, fun x H1 d ρ1 e1 rel1 rp1 ⟨ns, hd, h1⟩ => by
    subst hd
    cases rp1 with
    | lst hs hr =>
      have q := rpa_ints hr
      subst q
      exact ⟨_, ns, rfl, hs.sq, k _ H1 _ ρ1 e1 rel1 (.int _) h1⟩⟩
def dList (te : DE) : DF := fun ρ Q => te ρ fun d ρ1 => ∃ ds, d = .list ds ∧ Q ds ρ1
theorem f_list (hg : Gl X "list") (hm : X.mg "list" = none) (ha : QE X e te) (he : starEach [e] X.env = (false, eval e X.env) :: starEach [] X.env := by rfl) : QF X (.Call (.Name "list" p) [e] [] pos) (dList te) :=
  qf_of (pe_callTy call_list_of hg hm (by rfl) (pa_cons ha pa_nil he) (by decide) (by decide) he) fun σ H Q ⟨A, Ow, ρ, R, rel, h, k⟩ => ⟨A, Ow, ρ, _, rel, h, fun x H1 d ρ1 e1 rel1 rp1 ⟨ds, hd, h1⟩ => by
    subst hd
    cases rp1 with
    | lst hs hr => exact ⟨_, _, rfl, .inl hs.sq, fun l hl => fin_F k e1 rel1 hl hr h1⟩⟩
theorem call_tup_of : CallR X (.type "tuple") (fun xs H Q => ∃ p ys, xs = [.ref p] ∧ SqL X.K H p ys ∧ ∀ l (o : Obj), H l = none → o.dict = none → Q (.ref l) (L2.upd H l (.frz o (.tup ys)))) := by
  intro pins s σ H xs us Q I r h
  obtain ⟨p, ys, rfl, hq, q⟩ := h
  obtain ⟨u, rfl, rx⟩ := vals1 r
  cases rx
  obtain ⟨its, r', pl, hz⟩ := I.list hq
  have hlen : ys.length = its.length := r'.length
  refine call_tuple_list pl.isList (fun h' kp => ?_) (by rw [List.size_toArray]; omega)
  have I1 : Inv X pins σ H { s with heap := h', toks := s.toks } := I.kept (t' := s.toks) kp
  have I2 := I1.laid (a := h'.objs.size) (o := .frz { cls := .type "tuple", data := .seq its.toArray } (.tup ys)) (h' := h'.push { cls := .type "tuple", data := .seq its.toArray }) (t' := s.toks) (fun b o e => Heap.get?_push_of_some _ e) (Nat.le_refl _) ⟨Heap.get?_push_size _ rfl, hz, its, r', ⟨_, Heap.get?_push_size _ rfl, rfl, _, rfl⟩⟩
  exact ⟨.ref h'.objs.size, _, I2, rfl, q _ _ (I1.hok.fresh (Nat.le_refl _)) rfl⟩
def dTupL (te : DE) : DE := fun ρ Q => te ρ fun d ρ1 => ∃ ds, d = .list ds ∧ Q (.tuple ds) ρ1
theorem q_tupL (hg : Gl X "tuple") (hm : X.mg "tuple" = none) (ha : QE X e te) (he : starEach [e] X.env = (false, eval e X.env) :: starEach [] X.env := by rfl) : QE X (.Call (.Name "tuple" p) [e] [] pos) (dTupL te) :=
  pe_less (pe_callTy call_tup_of hg hm (by rfl) (pa_cons ha pa_nil he) (by decide) (by decide) he) fun σ H Q ⟨A, Ow, ρ, R, rel, h, k⟩ => ⟨A, Ow, ρ, _, rel, h, fun x H1 d ρ1 e1 rel1 rp1 ⟨ds, hd, h1⟩ => by
    subst hd
    cases rp1 with
    | lst hs hr => exact ⟨_, _, rfl, hs.sq, fun l o hl ho => k _ _ _ ρ1 (e1.trans (Stp.of (Same.new hl))) (rel1.ext (Same.new hl)) (rel1.newT hl ho hr) h1⟩⟩
/-! list + list, tuple + tuple, slices -/
theorem op_catL : OpR X (binaryOp .Add) (fun x y H Q => ∃ a b xs ys, x = .ref a ∧ y = .ref b ∧ SqL X.K H a xs ∧ SqL X.K H b ys ∧ xs.length + ys.length ≤ sizeLine ∧ ∀ p, H p = none → Q (.ref p) (L2.upd H p (.lst (xs ++ ys)))) := by
  intro pins s σ H x y v u Q I rx ry h
  obtain ⟨a, b, xs, ys, rfl, rfl, ha, hb, hz, q⟩ := h
  cases rx
  cases ry
  obtain ⟨its, r1, ⟨⟨c1, d1, da1, sl1⟩, n1, g1, gc1, gd1, gs1⟩, _⟩ := I.list ha
  obtain ⟨its2, r2, ⟨⟨c2, d2, da2, sl2⟩, n2, g2, gc2, gd2, gs2⟩, _⟩ := I.list hb
  simp only at gc1 gd1 gs1 gc2 gd2 gs2
  subst gc1 gs1 gc2 gs2
  have l1 : xs.length = its.length := r1.length
  have l2 : ys.length = its2.length := r2.length
  have ee : its.toArray ++ its2.toArray = (its ++ its2).toArray := by simp
  refine concat_meets ⟨_, g1, rfl⟩ ⟨_, g2, rfl⟩ noFill_list_add seq_list_add PySem.F.slot_list_add PySem.F.entry_list_add (PySem.F.args_list_add_2 _ _) (PyProof.Rows.list_addW a b its.toArray its2.toArray n1 n2 d1 d2 sl1 sl2 (by simp; omega)) ⟨g1, g2, ?_⟩
  rw [ee]
  exact ⟨.ref _, _, I.lnew (t' := s.toks) (r1.append r2) (by rw [List.length_append]; exact hz), rfl, q _ I.fresh⟩
def dCatL (ta tb : DE) : DF := fun ρ Q => ta ρ fun d ρ1 => tb ρ1 fun e ρ2 => ∃ ds es, d = .list ds ∧ e = .list es ∧ ds.length + es.length ≤ sizeLine ∧ Q (ds ++ es) ρ2
theorem f_catL (ha : QE X a ta) (hb : QE X b tb) : QF X (.BinOp a .Add b pos) (dCatL ta tb) :=
  qf_of (pe_op op_catL ha hb) fun σ H Q ⟨A, Ow, ρ, R, rel, h, k⟩ => ⟨A, Ow, ρ, _, rel, h, fun x H1 d ρ1 e1 rel1 rp1 h1 => ⟨A, Ow, ρ1, _, rel1, h1, fun y H2 e ρ2 e2 rel2 rp2 ⟨ds, es, hd, he, hz, h2⟩ => by
    subst hd he
    have rq := rp1.mono e2
    cases rq with
    | lst hs hr =>
      cases rp2 with
      | lst hs2 hr2 => exact ⟨_, _, _, _, rfl, rfl, hs.sq, hs2.sq, by rw [hr.len, hr2.len]; exact hz, fun p hp => fin_F k (e1.trans e2) rel2 hp (hr.append hr2) h2⟩⟩⟩
theorem op_catT : OpR X (binaryOp .Add) (fun x y H Q => ∃ a b xs ys, x = .ref a ∧ y = .ref b ∧ SqT X.K H a xs ∧ SqT X.K H b ys ∧ xs.length + ys.length ≤ sizeLine ∧
    (xs = [] → Q (.ref b) H) ∧ (xs ≠ [] → ys = [] → Q (.ref a) H) ∧ (xs ≠ [] → ys ≠ [] → ∀ p (o : Obj), H p = none → o.dict = none → Q (.ref p) (L2.upd H p (.frz o (.tup (xs ++ ys)))))) := by
  intro pins s σ H x y v u Q I rx ry h
  obtain ⟨a, b, xs, ys, rfl, rfl, ha, hb, hz, q0, q1, q2⟩ := h
  cases rx
  cases ry
  obtain ⟨its, r1, p1, _⟩ := I.tuple ha
  obtain ⟨its2, r2, p2, _⟩ := I.tuple hb
  by_cases hx : xs = []
  · subst hx
    cases r1
    exact cat_tup0 p1 p2 ⟨.ref b, H, I, rfl, q0 rfl⟩
  · refine HT.cat_tup p1 p2 (fun z => hx (r1.nil_iff.mp z)) (fun z => ⟨.ref a, H, I, rfl, q1 hx (r2.nil_iff.mp z)⟩) (fun z => ?_) (by rw [← r1.length, ← r2.length]; exact hz)
    have I2 := I.laid (a := s.heap.objs.size) (t' := s.toks) (o := .frz { cls := .type "tuple", data := .seq (its ++ its2).toArray } (.tup (xs ++ ys))) (h' := s.heap.push { cls := .type "tuple", data := .seq (its ++ its2).toArray }) (fun b ob q => Heap.get?_push_of_some _ q) (Nat.le_refl _)
      ⟨Heap.get?_push_size _ rfl, by rw [List.length_append]; exact hz, _, r1.append r2, ⟨_, Heap.get?_push_size _ rfl, rfl, _, rfl⟩⟩
    exact ⟨.ref s.heap.objs.size, _, I2, rfl, q2 hx (fun w => z (r2.nil_iff.mpr w)) _ _ (I.hok.fresh (Nat.le_refl _)) rfl⟩
def dCatT (ta tb : DE) : DE := fun ρ Q => ta ρ fun d ρ1 => tb ρ1 fun e ρ2 => ∃ ds es, d = .tuple ds ∧ e = .tuple es ∧ ds.length + es.length ≤ sizeLine ∧ Q (.tuple (ds ++ es)) ρ2
theorem q_catT (ha : QE X a ta) (hb : QE X b tb) : QE X (.BinOp a .Add b pos) (dCatT ta tb) :=
  pe_less (pe_op op_catT ha hb) fun σ H Q ⟨A, Ow, ρ, R, rel, h, k⟩ => ⟨A, Ow, ρ, _, rel, h, fun x H1 d ρ1 e1 rel1 rp1 h1 => ⟨A, Ow, ρ1, _, rel1, h1, fun y H2 e ρ2 e2 rel2 rp2 ⟨ds, es, hd, he, hz, h2⟩ => by
    subst hd he
    have rq := rp1.mono e2
    have rq0 := rq
    have rp0 := rp2
    cases rq with
    | @tup _ xs _ hs hr =>
      cases rp2 with
      | @tup _ ys _ hs2 hr2 =>
        refine ⟨_, _, _, _, rfl, rfl, hs.sq, hs2.sq, by rw [hr.len, hr2.len]; exact hz, fun z => ?_, fun _ z => ?_, fun _ _ p o hp ho => ?_⟩
        · subst z
          cases hr
          exact k _ H2 _ ρ2 (e1.trans e2) rel2 rp0 h2
        · subst z
          cases hr2
          rw [List.append_nil] at h2
          exact k _ H2 _ ρ2 (e1.trans e2) rel2 rq0 h2
        · exact k _ _ _ ρ2 ((e1.trans e2).trans (Stp.of (Same.new hp))) (rel2.ext (Same.new hp)) (rel2.newT hp ho (hr.append hr2)) h2⟩⟩
/-- t[i:] of a tuple -/
theorem sl_tupF : SlR X (fun x lo hi H Q => ∃ a xs, x = .ref a ∧ SqT X.K H a xs ∧ (HT.sIx xs.length 0 lo = 0 ∧ HT.sIx xs.length xs.length hi = xs.length → Q (.ref a) H) ∧
    (¬ (HT.sIx xs.length 0 lo = 0 ∧ HT.sIx xs.length xs.length hi = xs.length) → ∀ p (o : Obj), H p = none → o.dict = none → Q (.ref p) (L2.upd H p (.frz o (.tup (cutV xs lo hi)))))) := by
  intro pins s σ H x v vl vu lo hi sl Q I rx hs pl pu h
  obtain ⟨a, xs, rfl, hx, q1, q2⟩ := h
  by_cases hw : HT.sIx xs.length 0 lo = 0 ∧ HT.sIx xs.length xs.length hi = xs.length
  · exact sl_tupA pins s σ H _ v vl vu lo hi sl Q I rx hs pl pu ⟨a, xs, rfl, hx, q1, fun z => absurd hw z⟩
  · cases rx
    obtain ⟨its, r, ht, hz⟩ := I.tuple hx
    have hlen : its.toArray.size = xs.length := by rw [List.size_toArray]; exact r.length.symm
    refine ⟨"tuple", _, PyProof.Rows.slot_tuple_getitem.lookup, ht.typeIs, HT.getItem_tuple_cut ht hs pl pu (by rw [hlen]; exact hw) ?_ (by rw [hlen]; exact hz)⟩
    rw [hlen]
    have I2 := I.laid (a := s.heap.objs.size) (t' := s.toks) (o := .frz { cls := .type "tuple", data := .seq ((its.toArray.toList.drop (HT.sIx xs.length 0 lo)).take (HT.sIx xs.length xs.length hi - HT.sIx xs.length 0 lo)).toArray } (.tup (cutV xs lo hi))) (fun b ob q => Heap.get?_push_of_some _ q) (Nat.le_refl _)
      ⟨Heap.get?_push_size _ rfl, Nat.le_trans (cutV_length xs lo hi) hz, _, (r.drop (HT.sIx xs.length 0 lo)).take (HT.sIx xs.length xs.length hi - HT.sIx xs.length 0 lo), ⟨_, Heap.get?_push_size _ rfl, rfl, _, rfl⟩⟩
    exact ⟨.ref s.heap.objs.size, _, I2, rfl, q2 hw _ _ (I.hok.fresh (Nat.le_refl _)) rfl⟩
def dSlT (ta tb : DE) : DE := fun ρ Q => ta ρ fun d ρ1 => tb ρ1 fun e ρ2 => ∃ ds, ∃ i : Nat, d = .tuple ds ∧ e = .int (i : Int) ∧ i ≤ ds.length ∧ Q (.tuple (ds.drop i)) ρ2
theorem q_slT {p2 : Pos} (ha : QE X a ta) (hb : QE X b tb) : QE X (.Subscript a (.Slice (some b) none none p2) pos) (dSlT ta tb) :=
  pe_less (pe_slice sl_tupF ha (po_some hb) po_none) fun σ H Q ⟨A, Ow, ρ, R, rel, h, k⟩ => ⟨A, Ow, ρ, _, rel, h, fun x H1 d ρ1 e1 rel1 rp1 h1 => ⟨A, Ow, ρ1, _, rel1, h1, fun y H2 e ρ2 e2 rel2 rp2 ⟨ds, i, hd, he, hi, h2⟩ => by
    subst hd he
    have rq := rp1.mono e2
    have rq0 := rq
    cases rp2
    cases rq with
    | @tup aa xs _ hs hr =>
      have hl : xs.length = ds.length := hr.len
      have ix : HT.sIx xs.length 0 (some (i : Int)) = i := by rw [HT.sIx_nat]; omega
      have iy : HT.sIx xs.length xs.length none = xs.length := HT.sIx_none _ _
      have ecut : cutV xs (some (i : Int)) none = xs.drop i := by
        unfold cutV
        rw [ix, iy, List.take_of_length_le (by rw [List.length_drop]; omega)]
      refine ⟨(i : Int), rfl, aa, xs, rfl, hs.sq, fun z => ?_, fun z p o hp ho => ?_⟩
      · rw [ix] at z
        have z0 := z.1
        subst z0
        exact k _ H2 _ ρ2 (e1.trans e2) rel2 rq0 h2
      · rw [ecut]
        exact k _ _ _ ρ2 ((e1.trans e2).trans (Stp.of (Same.new hp))) (rel2.ext (Same.new hp)) (rel2.newT hp ho (hr.drop i)) h2⟩⟩
/-- xs[::-1] -/
theorem RpA.rev {K : KW} {O : Addr → Prop} {H : Hp} : ∀ {ds : List D} {xs : List V}, RpA K O H xs ds → RpA K O H xs.reverse ds.reverse
  | _, _, .nil => .nil
  | _, _, .cons h r => by
    rw [List.reverse_cons, List.reverse_cons]
    exact r.rev.append (.one h)
def dRev (ta : DE) : DF := fun ρ Q => ta ρ fun d ρ1 => ∃ ds, d = .list ds ∧ Q ds.reverse ρ1
theorem f_rev {k : Nat} {p1 p2 p3 : Pos} (ha : QE X a ta) : QF X (.Subscript a (.Slice none none (some (.UnaryOp .USub (.Constant (.int 1) k p1) p2)) p3) pos) (dRev ta) :=
  qf_of (pe_revL ha) fun σ H Q ⟨A, Ow, ρ, R, rel, h, k⟩ => ⟨A, Ow, ρ, _, rel, h, fun x H1 d ρ1 e1 rel1 rp1 ⟨ds, hd, h1⟩ => by
    subst hd
    cases rp1 with
    | lst hs hr => exact ⟨_, _, rfl, hs.sq, fun p hp => fin_F k e1 rel1 hp hr.rev h1⟩⟩
/-! sorted -/
/-- sorted(xs) by the data -/
theorem cr_sortD (hu : X.A.units + 80 < cLine) : CallR X (.builtin "sorted") (fun xs H Q => ∃ (O : Addr → Prop) (a : Addr) (ys : List V) (ds : List D), xs = [V.ref a] ∧ SqL X.K H a ys ∧ RpA (kx X) O H ys ds ∧ PySem.W.AllAlike ds ∧ PySem.W.Sortable ds ∧ (∀ d ∈ ds, noD d = true ∧ d.depth ≤ 64) ∧
    ∀ p ys', H p = none → RpA (kx X) O H ys' (ds.mergeSort (PySem.W.dataLe false id)) → Q (.ref p) (L2.upd H p (.lst ys'))) := by
  intro pins s σ H xs us Q I r h
  obtain ⟨O, a, ys, ds, rfl, hs, hds, hal, hsk, hnd, q⟩ := h
  obtain ⟨u, rfl, rx⟩ := r.one
  cases rx
  obtain ⟨its, rv, hl, hz⟩ := I.list hs
  have h1 := hds.len
  have h2 : ys.length = its.length := rv.length
  refine PySem.W.sorted_data (enc := id) hl.isList (SK.each_in rv hds) (SK.reads_all I hds (fun d hd => (hnd d hd).1) rv) (by rw [List.map_id]; exact hal) (by rw [List.map_id]; exact hsk) (by omega) (fun d hd => ?_) fun out ho hout => ?_
  · have := (hnd d hd).2
    show X.A.units + 2 + d.depth < cLine
    omega
  · obtain ⟨zs, z1, z2⟩ := SK.out_vals (fun v d h => h) hout
    have zr := SK.rpa_of z2
    obtain ⟨ep, he⟩ := PyProof.Rows.sortedAll_at s.heap its (List.toArray out)
    have hlen : zs.length ≤ sizeLine := by
      have h3 := zr.len
      rw [List.length_mergeSort] at h3
      omega
    exact ⟨.ref _, L2.upd H (s.heap.objs.size + 1) (.lst zs), I.laid (t' := s.toks) (fun _ _ => PyProof.Rows.sortedAll_old) (Nat.le_succ _) ⟨hlen, out, ep, z1, he⟩, rfl, q _ zs (I.hok.fresh (Nat.le_succ _)) zr⟩
def SrtOk (ds : List D) : Prop := PySem.W.AllAlike ds ∧ PySem.W.Sortable ds ∧ ∀ d ∈ ds, noD d = true ∧ d.depth ≤ 64
def dSrt (te : DE) : DF := fun ρ Q => te ρ fun d ρ1 => ∃ ds, d = .list ds ∧ SrtOk ds ∧ Q (ds.mergeSort (PySem.W.dataLe false id)) ρ1
theorem f_sort (hu : X.A.units + 80 < cLine) (hg : Gl X "sorted") (hm : X.mg "sorted" = none) (ha : QE X e te) (he : starEach [e] X.env = (false, eval e X.env) :: starEach [] X.env := by rfl) : QF X (.Call (.Name "sorted" p) [e] [] pos) (dSrt te) :=
  qf_of (pe_callB (cr_sortD hu) hg hm (by rfl) (pa_cons ha pa_nil he) (by decide) (by decide) he) fun σ H Q ⟨A, Ow, ρ, R, rel, h, k⟩ => ⟨A, Ow, ρ, _, rel, h, fun x H1 d ρ1 e1 rel1 rp1 ⟨ds, hd, ⟨s1, s2, s3⟩, h1⟩ => by
    subst hd
    cases rp1 with
    | lst hs hr => exact ⟨own A.FO Ow, _, _, ds, rfl, hs.sq, hr, s1, s2, s3, fun p ys' hp hr' => fin_F k e1 rel1 hp hr' h1⟩⟩
/-- sorted(xs, key=f): κ tells the key -/
def dSrtK (P : List D → (D → Prop) → Prop) (te : DE) : DF := fun ρ Q => te ρ fun d ρ1 => ∃ (κ : D → D) (ds : List D), d = .list ds ∧ (∀ x ∈ ds, P [x] fun z => z = κ x) ∧ SrtOk (ds.map κ) ∧ Q (ds.mergeSort (PySem.W.dataLe false κ)) ρ1
theorem f_sortK {fn : Str} {k : Nat} {P : List D → (D → Prop) → Prop} {pf kp : Pos} (C : Cal X.prog X.w X.K X.mg X.base fn k (spD (kx X) P)) (hr : Room (k + 2) X.A) (hg : Gl X "sorted") (hm : X.mg "sorted" = none) (hgf : Gl X fn) (ha : QE X e te) (hdb : (fn == ("__debug__" : Str)) = false := by decide)
    (he : starEach [e] X.env = (false, eval e X.env) :: starEach [] X.env := by rfl) (he2 : backTo pos (starEach [e] X.env) = (false, eval e X.env) :: backTo pos (starEach [] X.env) := by rfl) (hpl : (backTo pos (starEach [e] X.env)).any (·.1) = false := by rfl)
    (hall : (backToKw pos (keywordEach [⟨some "key", .Name fn pf, kp⟩] X.env)).all (·.1.isSome) = true := by rfl) (hnone : (backToKw pos (keywordEach [⟨some "key", .Name fn pf, kp⟩] X.env)).any (·.1.isNone) = false := by rfl) (hks : (backToKw pos (keywordEach [⟨some "key", .Name fn pf, kp⟩] X.env)).filterMap (·.1) = [Str.ofString "key"] := by rfl) :
    QF X (.Call (.Name "sorted" p) [e] [⟨some "key", .Name fn pf, kp⟩] pos) (dSrtK P te) := by
  obtain ⟨f, fd, ps, h1, h2, h3, h4⟩ := C.ex
  have cr : CallRK X (.builtin "sorted") [Str.ofString "key"] (fun xs zs H Q => ∃ κ : D → D, SK.rSrtK X P f κ xs zs H Q) := fun pins s σ H xs zs us ws Q I r rz h => SK.cr_sortK (κ := h.choose) h4 hr h3 pins s σ H xs zs us ws Q I r rz h.choose_spec
  refine qf_of (pe_callBK cr hg hm (by rfl) (pa_cons ha pa_nil he) (pk_cons (pe_glob (v := .ref f) hgf h1 rfl hdb) pk_nil) (by decide) (by decide) he2 hpl hall hnone hks) fun σ H Q ⟨A, Ow, ρ, R, rel, h, k⟩ => ⟨A, Ow, ρ, _, rel, h, fun x H1 d ρ1 e1 rel1 rp1 ⟨κ, ds, hd, hP, ⟨s1, s2, s3⟩, h5⟩ => ?_⟩
  subst hd
  cases rp1 with
  | lst hs hr' =>
    exact ⟨κ, own A.FO Ow, _, _, ds, rfl, rfl, hs.sq, hr', fun a ha => rel1.tracked ha, hP, s1, s2, s3, fun H' p ys' sm hp h6 rp' => k p H' ys' _ ρ1 ⟨e1.trans (Stp.of sm), e1.nil0 (rel1.fresh hp) hp⟩ (rel1.nw hp) h6 (rel1.alloc hp sm ⟨_, h6⟩) (rp'.less own_or) h5⟩
end

/-! ### an own dict that is read alone for one statement -/
section
variable {K : KW}
mutual
theorem Rp.offD {O O' : Addr → Prop} {H : Hp} {a : Addr} (s : ∀ b, O' b → O b ∨ b = a) (hl : ∀ xs, ¬ Rd H a (.lst xs)) (ht : ∀ o xs, H a ≠ some (.frz o (.tup xs))) : ∀ {d : D} {v : V}, Rp K O H v d → noD d = true → Rp K O' H v d
  | _, _, .non, _ => .non
  | _, _, .bl b, _ => .bl b
  | _, _, .int i, _ => .int i
  | _, _, .str x, _ => .str x
  | _, _, .lst (a := b) h r, q => .lst (by
      rcases h with ⟨n, h⟩ | h
      · exact .inl ⟨fun z => (s _ z).elim n fun z => hl _ (z ▸ h), h⟩
      · exact .inr h) (RpA.offD s hl ht r (by unfold noD at q; exact q))
  | _, _, .tup h r, q => .tup (by
      rcases h with ⟨n, o, hd, h⟩ | h
      · exact .inl ⟨fun z => (s _ z).elim n fun z => ht _ _ (z ▸ h), o, hd, h⟩
      · exact .inr h) (RpA.offD s hl ht r (by unfold noD at q; exact q))
  | _, _, .dct _ _ _, q => by unfold noD at q; cases q
  | _, _, .dik _ _ _ _, q => by unfold noD at q; cases q
theorem RpA.offD {O O' : Addr → Prop} {H : Hp} {a : Addr} (s : ∀ b, O' b → O b ∨ b = a) (hl : ∀ xs, ¬ Rd H a (.lst xs)) (ht : ∀ o xs, H a ≠ some (.frz o (.tup xs))) : ∀ {ds : List D} {vs : List V}, RpA K O H vs ds → noDA ds = true → RpA K O' H vs ds
  | _, _, .nil, _ => .nil
  | _, _, .cons h r, q => by
    unfold noDA at q
    rw [Bool.and_eq_true] at q
    exact .cons (Rp.offD s hl ht h q.1) (RpA.offD s hl ht r q.2)
end
def plainS : Sl → Prop
  | .sh _ => True
  | .no => True
  | _ => False
/-- ρ2 is ρ but for the slot i and for slots that are forgotten; no other slot holds an own thing -/
def heldBy (i : Nat) (ρ ρ2 : Env) : Prop := ρ2.length = ρ.length ∧ ∀ j s, j ≠ i → ρ2[j]? = some s → plainS s ∧ (ρ[j]? = some s ∨ s = .no)
theorem hold_core {A : Act} {Ow : Nat → Option Addr} {σ : L2.St} {H H2 : Hp} {ρ ρ2 : Env} {i : Nat} {c : Ct} {a p : Addr} {u : HO} {od : Obj} {xs : List V} {cs : List D} (rel : Rel K A Ow σ H ρ) (hs : ρ[i]? = some (.od c)) (h1 : Ow i = some a) (ha : H a = some u) (hu : RpC K (own A.FO Ow) H a u c) (hx : σ[i]? = some (some (.ref a))) (hio : ∀ b, (i, b) ∉ A.io)
    (e2 : Stp (own A.FO (off Ow i)) (L2.upd H a (.frz od u)) H2 ∧ L2.upd H a (.frz od u) p = none) (nw : Nw A (off Ow i) p) (hp : H2 p = some (.lst xs)) (rel2 : Rel K (A.fo p) (off Ow i) σ H2 ρ2) (rp2 : RpA K (own (A.fo p).FO (off Ow i)) H2 xs cs) (hc : noDA cs = true) (hh : heldBy i ρ ρ2) :
    H2 a = some (.frz od u) ∧ (Stp (own A.FO Ow) H (L2.upd H2 a u) ∧ H p = none) ∧ Nw A Ow p ∧ L2.upd H2 a u p = some (.lst xs) ∧ Rel K (A.fo p) Ow σ (L2.upd H2 a u) (ρ2.set i (.od c)) ∧ RpA K (own (A.fo p).FO Ow) (L2.upd H2 a u) xs cs := by
  have hi : i < ρ.length := (List.getElem?_eq_some_iff.mp hs).1
  have na : ¬ own A.FO (off Ow i) a := fun z => by
    rcases z with z | ⟨j, z⟩
    · rcases rel.nofo i a h1 with q | q
      · exact hio a q
      · exact q z
    · exact (off_some z).1 (rel.uniq j i a (off_some z).2 h1)
  have h2a : H2 a = some (.frz od u) := e2.1 a _ na upd_same
  have pa : p ≠ a := fun z => by rw [z, h2a] at hp; cases hp
  have hpn : H p = none := by have q := e2.2; rw [upd_ne pa] at q; exact q
  have stp : Stp (own A.FO Ow) H (L2.upd H2 a u) := fun b o n q => by
    have ba : b ≠ a := fun z => n (by rw [z]; exact .inr ⟨i, h1⟩)
    rw [upd_ne ba]
    exact e2.1 b o (fun z => n (own_off b z)) (by rw [upd_ne ba]; exact q)
  have nw' : Nw A Ow p := ⟨nw.h0, fun z => by
    rcases z with z | ⟨j, z⟩
    · exact nw.no (.inl z)
    · by_cases q : j = i
      · rw [q, h1] at z
        exact pa (Option.some.inj z).symm
      · exact nw.no (.inr ⟨j, by rw [off_ne q]; exact z⟩), nw.kp⟩
  have lessA : Stp (own (A.fo p).FO Ow) H (L2.upd H2 a u) := stp.weak own_fo'
  have stp2 : Stp (own (A.fo p).FO Ow) H2 (L2.upd H2 a u) := fun b o n q => by
    rw [upd_ne (fun z => n (by rw [z]; exact .inr ⟨i, h1⟩))]
    exact q
  have nl : ∀ ys, ¬ Rd H2 a (.lst ys) := fun ys z => by
    rcases z with z | ⟨o, z⟩
    · rw [h2a] at z; cases z
    · rw [h2a] at z; cases z; cases hu
  have nt : ∀ o ys, H2 a ≠ some (.frz o (.tup ys)) := fun o ys z => by
    rw [h2a] at z; cases z; cases hu
  have moreA : ∀ b, own (A.fo p).FO Ow b → own (A.fo p).FO (off Ow i) b ∨ b = a := fun b z => by
    rcases z with z | ⟨j, z⟩
    · exact .inl (.inl z)
    · by_cases q : j = i
      · rw [q, h1] at z
        exact .inr (Option.some.inj z).symm
      · exact .inl (.inr ⟨j, by rw [off_ne q]; exact z⟩)
  refine ⟨h2a, ⟨stp, hpn⟩, nw', by rw [upd_ne pa]; exact hp, ⟨?_, fun j s hj => ?_, fun j hj => ?_, rel.uniq, fun b o n q => ?_, fun b h => ?_, rel.new, fun j b h => ?_, fun q hq => ?_, rel.one, fun q hq => ⟨?_, (rel.keep q hq).2⟩, fun q hq => ((rel.pin q hq).more hpn own_fo).mono lessA⟩, (rp2.offD moreA nl nt hc).mono stp2⟩
  · rw [List.length_set]; exact rel2.len
  · by_cases ij : i = j
    · subst ij
      rw [List.getElem?_set_self (by rw [hh.1]; exact hi)] at hj
      cases hj
      exact ⟨a, u, h1, hx, upd_same, (hu.more hpn own_fo).mono lessA, hio⟩
    · rw [List.getElem?_set_ne ij] at hj
      obtain ⟨g1, g2⟩ := hh.2 j s (Ne.symm ij) hj
      cases s with
      | no =>
        have q := rel2.sl j _ hj
        have q' : off Ow i j = none := q
        rw [off_ne (Ne.symm ij)] at q'
        exact q'
      | sh d =>
        rcases g2 with g2 | g2
        · obtain ⟨w1, v, w2, w3⟩ := rel.sl j _ g2
          exact ⟨w1, v, w2, (w3.more hpn own_fo).mono lessA⟩
        · cases g2
      | ol _ => exact g1.elim
      | io _ => exact g1.elim
      | od _ => exact g1.elim
      | va _ => exact g1.elim
  · rw [List.length_set, hh.1] at hj
    exact rel.out j hj
  · rw [upd_ne (io_of_new rel h1 n q)]
    exact rel2.kept b o n q
  · by_cases z : b = a
    · exact ⟨u, by rw [z]; exact upd_same⟩
    · obtain ⟨o, q⟩ := rel2.fo b h
      exact ⟨o, by rw [upd_ne z]; exact q⟩
  · rcases rel.nofo j b h with q | q
    · exact .inl q
    · refine .inr fun z => ?_
      rcases z with z | z
      · exact q z
      · obtain ⟨o, w, _⟩ := rel.at h
        rw [z, hpn] at w
        cases w
  · obtain ⟨ds, w⟩ := rel2.io q hq
    by_cases z : i = q.1
    · exact absurd hq (by rw [show q = (i, q.2) from by rw [z]]; exact hio q.2)
    · exact ⟨ds, by rw [List.getElem?_set_ne z]; exact w⟩
  · have w := (rel2.keep q hq).1
    rw [upd_ne (fun z => (rel.keep q hq).2 i (by rw [z]; exact h1))]
    exact w
end
def dHold (i : Nat) (tf : DF) : DF := fun ρ Q => ∃ c, ρ[i]? = some (.od c) ∧ tf (ρ.set i (.sh c.dat)) fun cs ρ1 => noDA cs = true ∧ heldBy i ρ ρ1 ∧ Q cs (ρ1.set i (.od c))
section
variable {X : Cx} {e : Expr} {pos : Pos} {tf : DF}
theorem qs_ownLcH (i j v : Nat) {elt iter : Expr} {x y : Str} {p py spos : Pos} {ifs : List Expr} {scope : Scope} {ti : DI} {tt : DT} {te : DE} (hc : X.calm = true) (hN : X.N.Nodup) (hsw : swapsWith (.ListComp elt [⟨.Name x p, iter, ifs, 0⟩] scope pos) (some (.Name y py)) spos.line X.env = pure true) (hi : QI X (.Name x p) iter ti) (ok : BlkOk X.N X.env.scope scope [(x, v)])
    (hg : ∀ (s : Shared) (H : Hp) (C : Addr) (cl : List (Str × Addr)) (fp : List Addr), PG (X.blk s H scope (compEnvC scope cl C X.env) fp) (.Name x p) (gName v)) (ht : ∀ (s : Shared) (H : Hp) (C : Addr) (cl : List (Str × Addr)) (fp : List Addr), QTs (X.blk s H scope (compEnvC scope cl C X.env) fp) ifs tt)
    (he : ∀ (s : Shared) (H : Hp) (C : Addr) (cl : List (Str × Addr)) (fp : List Addr), QE (X.blk s H scope (compEnvC scope cl C X.env) fp) elt te) (hy : X.N[j]? = some y := by rfl) (hyl : X.env.scope.names.lookup y = some .local := by rfl) (hs : ∀ x, foldedSetIterable iter X.env x = pure x := by intro _; rfl) :
    QS X (.Assign [.Name y py] (.ListComp elt [⟨.Name x p, iter, ifs, 0⟩] scope pos) spos) (dOwn (dHold i (dLc ti (gL v) tt te [v])) j) :=
  ps_less (ps_lock (ps_setLc (i := j) (own := [(x, v)]) (tt := lamT (kx X) tt) (te := lam (kx X) te) hc hN hy hyl hsw hi ok hg ht he hs)) fun D σ H ⟨A, Ow, ρ, DD, rel, ⟨c, hc0, h⟩, n, b, cc, r⟩ => by
    obtain ⟨a, u, h1, h2, h3, h4, h5⟩ := rel.sl i _ hc0
    refine ⟨a, u, h3, h4.mut, fun od => ?_⟩
    have e0 : Stp (fun b => b = a) H (L2.upd H a (.frz od u)) := fun b o n q => by rw [upd_ne n]; exact q
    have eo : Stp (own A.FO Ow) H (L2.upd H a (.frz od u)) := e0.weak fun b z => by subst z; exact .inr ⟨i, h1⟩
    have na : ¬ own A.FO (off Ow i) a := fun z => by
      rcases z with z | ⟨k, z⟩
      · rcases rel.nofo i a h1 with q | q
        · exact h5 a q
        · exact q z
      · exact (off_some z).1 (rel.uniq k i a (off_some z).2 h1)
    have rel1 := rel.mutOff (s := .sh c.dat) h1 e0 (upd_same (o := .frz od u)) ⟨rfl, _, h2, ((h4.mono eo).less own_off).dat na upd_same⟩ h5 (List.getElem?_eq_some_iff.mp hc0).1
    exact lam_lc (lct_name v) σ _ _ ⟨A, off Ow i, _, _, rel1, h, fun p H2 xs cs ρ2 e2 nw hp rel2 rp2 ⟨g1, g2, g3, g4⟩ => by
      obtain ⟨q1, q2, q3, q4, q5, q6⟩ := hold_core rel hc0 h1 h3 h4 h2 h5 e2 nw hp rel2 rp2 g1 g2
      exact ⟨q1, n (onn Ow j p) _ _ _ (q5.take g3.ne g3.lt q3 q4 q6) g4⟩⟩
end
/-! ### pairs, ints as keys, two targets -/
def prsN (kvs : List (D × D)) : List D := kvs.map fun e => .tuple [e.1, e.2]
def prsI (kvs : List (Int × D)) : List D := kvs.map fun e => .tuple [.int e.1, e.2]
section
variable {K : KW} {O : Addr → Prop} {H : Hp}
theorem pairs_N : ∀ {kvs : List (D × D)} {xs : List V}, RpA K O H xs (prsN kvs) → (∀ e ∈ kvs, KeyOk e.1) → ∃ (ps : List Addr) (es : List ND.Ent), xs = ps.map V.ref ∧ Paired (fun p (e : ND.Ent) => SqT K.fr H p [.ref e.2.1, e.2.2]) ps es ∧ RpE K O H es kvs
  | [], _, .nil, _ => ⟨[], [], rfl, .nil, .nil⟩
  | kv :: kvs, _, .cons h r, g => by
    obtain ⟨ps, es, e1, e2, e3⟩ := pairs_N r fun e he => g e (List.mem_cons_of_mem _ he)
    have g0 := g kv List.mem_cons_self
    cases h with
    | @tup p _ _ hs hr =>
      cases hr with
      | cons r1 hr =>
        cases hr with
        | @cons v _ _ _ r2 hr =>
          cases hr
          obtain ⟨b, rfl, rb⟩ := key_ref r1 g0
          exact ⟨p :: ps, (kv.1, b, v) :: es, by rw [e1]; rfl, .cons hs.sq e2, .cons rb g0.1 g0.2.1 r2 e3⟩
theorem pairs_I : ∀ {kvs : List (Int × D)} {xs : List V}, RpA K O H xs (prsI kvs) → ∃ (ps : List Addr) (es : List (L2.Key × V)), xs = ps.map V.ref ∧ Paired (fun p (e : L2.Key × V) => SqT K.fr H p [kV e.1, e.2]) ps es ∧ RpK K O H es kvs
  | [], _, .nil => ⟨[], [], rfl, .nil, .nil⟩
  | kv :: kvs, _, .cons h r => by
    obtain ⟨ps, es, e1, e2, e3⟩ := pairs_I r
    cases h with
    | @tup p _ _ hs hr =>
      cases hr with
      | cons r1 hr =>
        cases hr with
        | @cons v _ _ _ r2 hr =>
          cases hr
          cases r1
          exact ⟨p :: ps, (.inl kv.1, v) :: es, by rw [e1]; rfl, .cons hs.sq e2, .cons r2 e3⟩
theorem RpK.fst : ∀ {kvs : List (Int × D)} {es : List (L2.Key × V)}, RpK K O H es kvs → es.map (·.1) = kvs.map fun e => Sum.inl e.1
  | _, _, .nil => rfl
  | _, _, .cons _ r => by rw [List.map_cons, List.map_cons, r.fst]
theorem nodup_inl {l : List Int} (h : l.Nodup) : (l.map (Sum.inl : Int → L2.Key)).Nodup := by
  rw [List.Nodup, List.pairwise_map]
  exact h.imp fun n z => n (Sum.inl.inj z)
end
section
variable {X : Cx} {e f o : Expr} {pos apos cpos p : Pos} {st : Stmt} {rest : List Stmt} {to ti te tb tf ta : DE}
def dPrsN (te : DE) : DN := fun ρ Q => te ρ fun d ρ1 => ∃ kvs, d = .list (prsN kvs) ∧ (∀ e ∈ kvs, KeyOk e.1) ∧ (kvs.map fun e => ND.keyOf e.1).Nodup ∧ Q (.nd kvs) ρ1
theorem fin_N {A : Act} {Ow : Nat → Option Addr} {σ : L2.St} {H H1 : Hp} {ρ1 : Env} {Q : VK} {R : Ct → Env → Prop} (k : ∀ p H' u c ρ', (Stp (own A.FO Ow) H H' ∧ H p = none) → Nw A Ow p → H' p = some u → Rel (kx X) (A.fo p) Ow σ H' ρ' → RpC (kx X) (own (A.fo p).FO Ow) H' p u c → R c ρ' → Q (.ref p) H')
    (e1 : Stp (own A.FO Ow) H H1) (rel1 : Rel (kx X) A Ow σ H1 ρ1) {p : Addr} {u : HO} {c : Ct} (hp : H1 p = none) (rp : RpC (kx X) (own A.FO Ow) H1 p u c) (h : R c ρ1) : Q (.ref p) (L2.upd H1 p u) :=
  k p _ u c ρ1 ⟨e1.trans (Stp.of (Same.new hp)), e1.nil0 (rel1.fresh hp) hp⟩ (rel1.nw hp) upd_same (rel1.alloc hp (Same.new hp) ⟨_, upd_same⟩) ((rp.more hp own_fo).mono (Stp.of (Same.new hp))) h
theorem qn_prsN (hc : X.calm = true) (hu : X.A.units + 16 < cLine) (hg : Gl X "dict") (hm : X.mg "dict" = none) (ha : QE X e te) (he : starEach [e] X.env = (false, eval e X.env) :: starEach [] X.env := by rfl) : QN X (.Call (.Name "dict" p) [e] [] pos) (dPrsN te) :=
  QN.mk (pe_callTy (call_dict_ndp hc (by show X.A.units + 1 + 1 + 8 < cLine; omega)) hg hm (by rfl) (pa_cons ha pa_nil he) (by decide) (by decide) he) fun σ H Q ⟨A, Ow, ρ, R, rel, h, k⟩ => ⟨A, Ow, ρ, _, rel, h, fun x H1 d ρ1 e1 rel1 rp1 ⟨kvs, hd, hk, hn, h1⟩ => by
    subst hd
    cases rp1 with
    | @lst a _ _ hs hr =>
      obtain ⟨ps, es, rfl, q2, q3⟩ := pairs_N hr hk
      exact ⟨a, ps, es, rfl, hs.sq, q2, q3.keysAt, by rw [q3.fst ND.keyOf]; exact hn, fun p hp => fin_N k e1 rel1 hp (.nd q3) h1⟩⟩
def dPrsI (te : DE) : DN := fun ρ Q => te ρ fun d ρ1 => ∃ kvs : List (Int × D), d = .tuple (prsI kvs) ∧ (kvs.map (·.1)).Nodup ∧ Q (.ik kvs) ρ1
theorem qn_prsI (hc : X.calm = true) (hg : Gl X "dict") (hm : X.mg "dict" = none) (ha : QE X e te) (he : starEach [e] X.env = (false, eval e X.env) :: starEach [] X.env := by rfl) : QN X (.Call (.Name "dict" p) [e] [] pos) (dPrsI te) :=
  QN.mk (pe_callTy (call_dict_ikp hc) hg hm (by rfl) (pa_cons ha pa_nil he) (by decide) (by decide) he) fun σ H Q ⟨A, Ow, ρ, R, rel, h, k⟩ => ⟨A, Ow, ρ, _, rel, h, fun x H1 d ρ1 e1 rel1 rp1 ⟨kvs, hd, hn, h1⟩ => by
    subst hd
    cases rp1 with
    | @tup a _ _ hs hr =>
      obtain ⟨ps, es, rfl, q2, q3⟩ := pairs_I hr
      refine ⟨a, ps, es, rfl, hs.sq, fun pins σ s I => hs.plain I, q2, ?_, fun p hp => fin_N k e1 rel1 hp (.ik q3) h1⟩
      have hn' := nodup_inl hn
      rw [List.map_map] at hn'
      rw [q3.fst]
      exact hn'⟩
def dPutI (i : Nat) (te tb : DE) : DS := fun D ρ => te ρ fun d ρ1 => (∃ c, isI ρ1 i c) ∧ tb ρ1 fun k ρ2 => ∃ kvs j, isI ρ2 i kvs ∧ k = .int j ∧ kvs.length < sizeLine ∧ D.nx (ρ2.set i (.od (.ik (putI kvs j d))))
theorem qs_putI (i : Nat) {x : Str} {b : Expr} {px spos : Pos} (hu : X.A.units + 16 < cLine) (he : QE X e te) (hb : QE X b tb) (hN : X.N[i]? = some x := by rfl) (hv : Vis X.env.scope x := by first | exact Or.inl rfl | exact Or.inr (Or.inl rfl) | exact Or.inr (Or.inr rfl)) (hd : (x == ("__debug__" : Str)) = false := by decide) (hcd : (x == ("__classdict__" : Str)) = false := by decide)
    (hs : swapsWith e (some (.Subscript (.Name x px) b spos)) pos.line X.env = pure false := by rfl) : QS X (.Assign [.Subscript (.Name x px) b spos] e pos) (dPutI i te tb) := by
  refine ps_less (ps_dput (by omega) (pv i hN hv hd hcd) hb he hs) fun D σ H ⟨A, Ow, ρ, DD, rel, h, n, _⟩ => ?_
  refine ⟨A, Ow, ρ, _, rel, h, fun v H1 d ρ1 e1 rel1 rp1 ⟨⟨c, h0⟩, h'⟩ => ?_⟩
  obtain ⟨a, u, h1, h2, h3, h4, _⟩ := rel1.ownD h0
  refine ⟨.ref a, h2, A, Ow, ρ1, _, rel1, h', fun y H2 k ρ2 e2 rel2 rp2 ⟨kvs, j, g1, g2, g4, g5⟩ => ?_⟩
  obtain ⟨a', u', k1, k2, k3, k4, k5⟩ := rel2.ownD g1
  rw [h1] at k1
  cases k1
  subst g2
  cases rp2
  cases k4 with
  | @ik es _ r =>
    exact ⟨a, _, rfl, .inl ⟨es, .inl j, k3, rfl, by rw [r.len]; exact g4, rfl⟩, n _ _ _ _ (k5 _ _ _ Stp.upd upd_same (.ik ((r.put (rp1.mono e2)).mono (stp_own (A := A) h1 Stp.upd)))) g5⟩
def dGet2I (i : Nat) (te tf : DE) : DE := fun ρ Q => (∃ c, isI ρ i c) ∧ te ρ fun k ρ1 => tf ρ1 fun z ρ2 => ∃ kvs j, isI ρ2 i kvs ∧ k = .int j ∧ Q ((getI kvs j).getD z) ρ2
theorem q_get2I (i : Nat) {x : Str} {px : Pos} (hu : X.A.units + 16 < cLine) (he : QE X e te) (hf : QE X f tf) (hN : X.N[i]? = some x := by rfl) (hv : Vis X.env.scope x := by first | exact Or.inl rfl | exact Or.inr (Or.inl rfl) | exact Or.inr (Or.inr rfl)) (hd : (x == ("__debug__" : Str)) = false := by decide) (hcd : (x == ("__classdict__" : Str)) = false := by decide)
    (m : M2 X (.Name x px) "get" apos e f cpos := by exact ⟨rfl, rfl, rfl, rfl⟩) : QE X (.Call (.Attribute (.Name x px) "get" apos) [e, f] [] cpos) (dGet2I i te tf) := by
  refine pe_less (pe_dget2 (by omega) (pv i hN hv hd hcd) he hf m) fun σ H Q ⟨A, Ow, ρ, R, rel, ⟨⟨c, h0⟩, h⟩, k⟩ => ?_
  obtain ⟨a, u, h1, h2, h3, h4, _⟩ := rel.ownD h0
  cases h4 with
  | @ik es0 _ r0 =>
  refine ⟨.ref a, h2, a, rfl, .inl ⟨es0, .inl h3⟩, A, Ow, ρ, _, rel, h, fun y H1 key ρ1 e1 rel1 rp1 h' => ⟨A, Ow, ρ1, _, rel1, h', fun z H2 d ρ2 e2 rel2 rp2 ⟨kvs, j, g1, g2, g3⟩ => ?_⟩⟩
  obtain ⟨a', u', k1, k2, k3, k4, k5⟩ := rel2.ownD g1
  rw [h1] at k1
  cases k1
  subst g2
  cases rp1
  cases k4 with
  | @ik es _ r => exact ⟨_, .inl ⟨es, .inl j, .inl k3, rfl, rfl⟩, k _ H2 _ ρ2 (e1.trans e2) rel2 (r.getD j rp2) g3⟩
theorem getN_tagE {K : KW} {O : Addr → Prop} {H : Hp} {kvs : List (Int × D)} {es : List ND.Ent} (r : RpE K O H es (tagI kvs)) : False := by
  cases r with
  | cons _ h _ _ _ => unfold ND.isKey at h; cases h
theorem tagI_inj {a b : List (Int × D)} (h : tagI a = tagI b) : a = b := by
  unfold tagI at h
  replace h := (List.cons.inj h).2
  induction a generalizing b with
  | nil => cases b with
    | nil => rfl
    | cons _ _ => cases h
  | cons x xs ih => cases b with
    | nil => cases h
    | cons y ys =>
      rw [List.map_cons, List.map_cons] at h
      obtain ⟨h1, h2⟩ := List.cons.inj h
      have h3 := Prod.mk.inj h1
      rw [ih h2, show x = y from Prod.ext (PyData.int.inj h3.1) h3.2]
def dIxI (to ti : DE) : DE := fun ρ Q => to ρ fun d ρ1 => ti ρ1 fun k ρ2 => ∃ (kvs : List (Int × D)) (j : Int) (z : D), d = .dict (tagI kvs) ∧ k = .int j ∧ getI kvs j = some z ∧ Q z ρ2
theorem q_ixI (hu : X.A.units + 16 < cLine) (ho : QE X o to) (hi : QE X e ti) (hs : NoSl e := by exact fun _ _ => rfl) : QE X (.Subscript o e pos) (dIxI to ti) :=
  pe_less (pe_dget (by omega) ho hi hs) fun σ H Q ⟨A, Ow, ρ, R, rel, h, k⟩ => ⟨A, Ow, ρ, _, rel, h, fun x H1 d ρ1 e1 rel1 rp1 h1 => ⟨A, Ow, ρ1, _, rel1, h1, fun y H2 key ρ2 e2 rel2 rp2 ⟨kvs, j, z, hd, g2, g3, g4⟩ => by
    subst hd g2
    cases rp2
    have rq := rp1.mono e2
    cases rq with
    | dct n ea r => exact (getN_tagE r).elim
    | @dik a od es kvs' _ n ea r hz =>
      have hz' := tagI_inj hz
      subst hz'
      rcases r.get j with ⟨q, _⟩ | ⟨d', v, q1, q, q3⟩
      · rw [q] at g3; cases g3
      · rw [q1] at g3
        cases g3
        exact ⟨a, v, rfl, .inl ⟨es, .inl j, .inr ⟨od, ea⟩, rfl, q.symm⟩, k v H2 _ ρ2 (e1.trans e2) rel2 q3 g4⟩⟩⟩
def iKeyI (te : DE) : DI := fun ρ Q => te ρ fun d ρ1 => ∃ kvs : List (Int × D), d = .dict (tagI kvs) ∧ Q (kvs.map fun e => .int e.1) ρ1
theorem qi_keyI {tg : Expr} (he : QE X e te) : QI X tg e (iKeyI te) := pi_less (pi_keys he) fun σ H Q ⟨A, Ow, ρ, R, rel, h, k⟩ => ⟨A, Ow, ρ, _, rel, h, fun v H1 d ρ1 e1 rel1 rp1 ⟨kvs, hd, h1⟩ => by
  subst hd
  cases rp1 with
  | dct n ea r => exact (getN_tagE r).elim
  | @dik a od es kvs' _ n ea r hz =>
    have hz' := tagI_inj hz
    subst hz'
    refine ⟨a, od, rfl, .inl ⟨es, ea, k _ [] [(a, .frz od (.dK es))] H1 _ ρ1 e1 (rel1.wth (fun _ z => nomatch z) fun p hp => ?_) (fun O H2 hp hl i => ?_) h1⟩⟩
    · cases List.mem_singleton.mp hp
      exact ⟨ea, fun i z => n (.inr ⟨i, z⟩)⟩
    · have hL : H2 a = some (.frz od (.dK es)) := hl _ List.mem_cons_self
      have hlen : es.length = kvs.length := r.len
      rw [List.length_map]
      refine ⟨fun hi => ⟨hL, by omega⟩, fun hi => ⟨⟨hL, by omega⟩, fun x H' y => ?_⟩⟩
      obtain ⟨rfl, q, w, he, rfl⟩ := y
      obtain ⟨pr, hp1, hp2, _⟩ := r.at he
      refine ⟨.int pr.1, by rw [List.getElem?_map, hp1]; rfl, Same.refl _, ?_⟩
      have hq : q = Sum.inl pr.1 := hp2
      rw [hq]
      exact .int _⟩
/-- [.. for x, y in ..] -/
theorem qf_lc2 (i j : Nat) {elt iter : Expr} {x y : Str} {px py pt : Pos} {kt : Nat} {ifs : List Expr} {scope : Scope} {ti : DI} {tt : DT} {te : DE} (hij : i ≠ j) (hc : X.calm = true) (hN : X.N.Nodup) (hi : QI X (.Tuple [.Name x px, .Name y py] kt pt) iter ti) (ok : BlkOk X.N X.env.scope scope [(x, i), (y, j)])
    (hg : ∀ (s : Shared) (H : Hp) (C : Addr) (cl : List (Str × Addr)) (fp : List Addr), PG (X.blk s H scope (compEnvC scope cl C X.env) fp) (.Tuple [.Name x px, .Name y py] kt pt) (gTup X.K 2 (gCons (gName i) (gCons (gName j) gNil)))) (ht : ∀ (s : Shared) (H : Hp) (C : Addr) (cl : List (Str × Addr)) (fp : List Addr), QTs (X.blk s H scope (compEnvC scope cl C X.env) fp) ifs tt)
    (he : ∀ (s : Shared) (H : Hp) (C : Addr) (cl : List (Str × Addr)) (fp : List Addr), QE (X.blk s H scope (compEnvC scope cl C X.env) fp) elt te) (hs : ∀ x, foldedSetIterable iter X.env x = pure x := by intro _; rfl) : QF X (.ListComp elt [⟨.Tuple [.Name x px, .Name y py] kt pt, iter, ifs, 0⟩] scope pos) (dLc ti (gL2 i j) tt te [i, j]) :=
  pe_less (pe_lc (own := [(x, i), (y, j)]) (tt := lamT (kx X) tt) (te := lam (kx X) te) hc hN hi ok hg ht he hs) (lam_lc (lct_two hij))
theorem qs_ownLc2 (k i j : Nat) {elt iter : Expr} {x y z : Str} {px py pt pz spos : Pos} {kt : Nat} {ifs : List Expr} {scope : Scope} {ti : DI} {tt : DT} {te : DE} (hij : i ≠ j) (hc : X.calm = true) (hN : X.N.Nodup) (hsw : swapsWith (.ListComp elt [⟨.Tuple [.Name x px, .Name y py] kt pt, iter, ifs, 0⟩] scope pos) (some (.Name z pz)) spos.line X.env = pure true)
    (hi : QI X (.Tuple [.Name x px, .Name y py] kt pt) iter ti) (ok : BlkOk X.N X.env.scope scope [(x, i), (y, j)])
    (hg : ∀ (s : Shared) (H : Hp) (C : Addr) (cl : List (Str × Addr)) (fp : List Addr), PG (X.blk s H scope (compEnvC scope cl C X.env) fp) (.Tuple [.Name x px, .Name y py] kt pt) (gTup X.K 2 (gCons (gName i) (gCons (gName j) gNil)))) (ht : ∀ (s : Shared) (H : Hp) (C : Addr) (cl : List (Str × Addr)) (fp : List Addr), QTs (X.blk s H scope (compEnvC scope cl C X.env) fp) ifs tt)
    (he : ∀ (s : Shared) (H : Hp) (C : Addr) (cl : List (Str × Addr)) (fp : List Addr), QE (X.blk s H scope (compEnvC scope cl C X.env) fp) elt te) (hy : X.N[k]? = some z := by rfl) (hyl : X.env.scope.names.lookup z = some .local := by rfl) (hs : ∀ x, foldedSetIterable iter X.env x = pure x := by intro _; rfl) :
    QS X (.Assign [.Name z pz] (.ListComp elt [⟨.Tuple [.Name x px, .Name y py] kt pt, iter, ifs, 0⟩] scope pos) spos) (dOwn (dLc ti (gL2 i j) tt te [i, j]) k) :=
  ps_less (ps_setLc (i := k) (own := [(x, i), (y, j)]) (tt := lamT (kx X) tt) (te := lam (kx X) te) hc hN hy hyl hsw hi ok hg ht he hs) fun D σ H ⟨A, Ow, ρ, DD, rel, h, n, b, c, r⟩ =>
    lam_lc (lct_two hij) σ H _ ⟨A, Ow, ρ, _, rel, h, fun p H' xs cs ρ' e' nw hp rel' rp' ⟨h0, h'⟩ => n (onn Ow k p) _ H' _ (rel'.take h0.ne h0.lt nw hp rp') h'⟩
/-- a <= b < c, as a test -/
def dChainT (r r' : D → D → (D → Prop) → Prop) (ta tb tc : DE) : DT := fun ρ Q => ta ρ fun d ρ1 => tb ρ1 fun e ρ2 => r d e fun z => ∃ k, z = .bool k ∧ (k = true → tc ρ2 fun g ρ3 => r' e g fun z' => ∃ k', z' = .bool k' ∧ Q k' ρ3) ∧ (k = false → Q false ρ2)
theorem t_chain {op op' : CmpOp} {r r' : R2} {rd rd' : D → D → (D → Prop) → Prop} {a b c : Expr} {ta tb tc : DE} (ho : OpR X (compareOp op) r) (ho' : OpR X (compareOp op') r') (hr : Lift2 (kx X) r rd) (hr' : Lift2 (kx X) r' rd') (ha : QE X a ta) (hb : QE X b tb) (hc : QE X c tc)
    (hm : lastMarks [op, op'] [b, c] = false := by with_unfolding_all rfl) : QT X (.Compare a [op, op'] [b, c] pos) (dChainT rd rd' ta tb tc) :=
  pt_less (pt_chain ho ho' ha hb hc hm) fun σ H Q ⟨A, Ow, ρ, R, rel, h, k⟩ => ⟨A, Ow, ρ, _, rel, h, fun x H1 d ρ1 e1 rel1 rp1 h1 => ⟨A, Ow, ρ1, _, rel1, h1, fun y H2 e ρ2 e2 rel2 rp2 h2 =>
    hr (own A.FO Ow) H2 x y d e _ _ (fun a ha => rel2.tracked ha) (rp1.mono e2) rp2 h2 fun v H3 z e3 rp3 ⟨kk, hz, g1, g2⟩ => by
      subst hz
      refine ⟨kk, rp_bool rp3, ?_⟩
      have rel3 := rel2.ext e3
      cases kk with
      | true => exact (if_pos rfl).mpr ⟨A, Ow, ρ2, _, rel3, g1 rfl, fun w H4 g ρ4 e4 rel4 rp4 h4 =>
          hr' (own A.FO Ow) H4 y w e g _ _ (fun a ha => rel4.tracked ha) ((rp2.mono (Stp.of e3)).mono e4) rp4 h4 fun v5 H5 z5 e5 rp5 ⟨k5, hz5, g5⟩ => by
            subst hz5
            exact ⟨k5, rp_bool rp5, k k5 H5 ρ4 (((e1.trans e2).trans (Stp.of e3)).trans (e4.trans (Stp.of e5))) (rel4.ext e5) g5⟩⟩
      | false => exact (if_neg Bool.false_ne_true).mpr ⟨false, rfl, k false H3 ρ2 ((e1.trans e2).trans (Stp.of e3)) rel3 (g2 rfl)⟩⟩⟩
theorem t_leltI {a b c : Expr} {ta tb tc : DE} (hu : X.A.units + 64 < cLine) (ha : QE X a ta) (hb : QE X b tb) (hc : QE X c tc) (hm : lastMarks [.LtE, .Lt] [b, c] = false := by with_unfolding_all rfl) : QT X (.Compare a [.LtE, .Lt] [b, c] pos) (dChainT dLe dLt ta tb tc) :=
  t_chain (op_le.or (op_leD hu)) (op_lt.or (op_ltD hu)) lift_cm lift_cm ha hb hc hm
end



/-! ### the law -/

def top (i : Nat) : Stmt := PySem.Challenge.pw_drawntrue_k03_letters_and_values.main.body.getD i (.Pass ⟨0, 0, 0, 0⟩)
abbrev st_common_divisor : Stmt := top 4
abbrev N_common_divisor : List Str := ["one", "two"]
theorem sc_common_divisor : FnScope N_common_divisor ["one", "two"] (defScope st_common_divisor) := ⟨rfl, rfl, rfl, by decide +kernel, rfl, by decide +kernel, by decide +kernel⟩
abbrev st_ratio : Stmt := top 5
abbrev N_ratio : List Str := ["numerator", "denominator", "divisor"]
theorem sc_ratio : FnScope N_ratio ["numerator", "denominator"] (defScope st_ratio) := ⟨rfl, rfl, rfl, by decide +kernel, rfl, by decide +kernel, by decide +kernel⟩
abbrev st_plus : Stmt := top 6
abbrev N_plus : List Str := ["one", "two"]
theorem sc_plus : FnScope N_plus ["one", "two"] (defScope st_plus) := ⟨rfl, rfl, rfl, by decide +kernel, rfl, by decide +kernel, by decide +kernel⟩
abbrev st_times : Stmt := top 7
abbrev N_times : List Str := ["one", "two"]
theorem sc_times : FnScope N_times ["one", "two"] (defScope st_times) := ⟨rfl, rfl, rfl, by decide +kernel, rfl, by decide +kernel, by decide +kernel⟩
abbrev st_degree_of : Stmt := top 9
abbrev N_degree_of : List Str := ["monomial", "_", "exponent"]
theorem sc_degree_of : FnScope N_degree_of ["monomial"] (defScope st_degree_of) := ⟨rfl, rfl, rfl, by decide +kernel, rfl, by decide +kernel, by decide +kernel⟩
abbrev st_order_key : Stmt := top 10
abbrev N_order_key : List Str := ["pair"]
theorem sc_order_key : FnScope N_order_key ["pair"] (defScope st_order_key) := ⟨rfl, rfl, rfl, by decide +kernel, rfl, by decide +kernel, by decide +kernel⟩
abbrev st_from_table : Stmt := top 11
abbrev N_from_table : List Str := ["table", "monomial"]
theorem sc_from_table : FnScope N_from_table ["table"] (defScope st_from_table) := ⟨rfl, rfl, rfl, by decide +kernel, rfl, by decide +kernel, by decide +kernel⟩
abbrev st_as_table : Stmt := top 12
abbrev N_as_table : List Str := ["one", "found", "monomial", "number"]
theorem sc_as_table : FnScope N_as_table ["one"] (defScope st_as_table) := ⟨rfl, rfl, rfl, by decide +kernel, rfl, by decide +kernel, by decide +kernel⟩
abbrev st_exponent_in : Stmt := top 13
abbrev N_exponent_in : List Str := ["monomial", "number", "place", "exponent"]
theorem sc_exponent_in : FnScope N_exponent_in ["monomial", "number"] (defScope st_exponent_in) := ⟨rfl, rfl, rfl, by decide +kernel, rfl, by decide +kernel, by decide +kernel⟩
abbrev st_degree_in : Stmt := top 14
abbrev N_degree_in : List Str := ["one", "number", "monomial", "_"]
theorem sc_degree_in : FnScope N_degree_in ["one", "number"] (defScope st_degree_in) := ⟨rfl, rfl, rfl, by decide +kernel, rfl, by decide +kernel, by decide +kernel⟩
abbrev st_letters_in : Stmt := top 15
abbrev N_letters_in : List Str := ["one", "found", "monomial", "_", "place"]
theorem sc_letters_in : FnScope N_letters_in ["one"] (defScope st_letters_in) := ⟨rfl, rfl, rfl, by decide +kernel, rfl, by decide +kernel, by decide +kernel⟩
abbrev st_rows_by_letter : Stmt := top 16
abbrev N_rows_by_letter : List Str := ["table", "number", "found", "monomial", "exponent", "rest", "pair"]
theorem sc_rows_by_letter : FnScope N_rows_by_letter ["table", "number"] (defScope st_rows_by_letter) := ⟨rfl, rfl, rfl, by decide +kernel, rfl, by decide +kernel, by decide +kernel⟩
abbrev st_by_letter : Stmt := top 17
abbrev N_by_letter : List Str := ["one", "number", "row"]
theorem sc_by_letter : FnScope N_by_letter ["one", "number"] (defScope st_by_letter) := ⟨rfl, rfl, rfl, by decide +kernel, rfl, by decide +kernel, by decide +kernel⟩
abbrev st_value : Stmt := top 18
abbrev N_value : List Str := ["one", "values", "found", "monomial", "number", "part", "place", "exponent", "_"]
theorem sc_value : FnScope N_value ["one", "values"] (defScope st_value) := ⟨rfl, rfl, rfl, by decide +kernel, rfl, by decide +kernel, by decide +kernel⟩
abbrev st_value_modulo : Stmt := top 19
abbrev N_value_modulo : List Str := ["one", "values", "prime", "found", "monomial", "number", "part", "place", "exponent", "_"]
theorem sc_value_modulo : FnScope N_value_modulo ["one", "values", "prime"] (defScope st_value_modulo) := ⟨rfl, rfl, rfl, by decide +kernel, rfl, by decide +kernel, by decide +kernel⟩
abbrev st_content : Stmt := top 20
abbrev N_content : List Str := ["one", "found", "_", "number"]
theorem sc_content : FnScope N_content ["one"] (defScope st_content) := ⟨rfl, rfl, rfl, by decide +kernel, rfl, by decide +kernel, by decide +kernel⟩
abbrev st_divided : Stmt := top 21
abbrev N_divided : List Str := ["one", "number", "monomial", "entry"]
theorem sc_divided : FnScope N_divided ["one", "number"] (defScope st_divided) := ⟨rfl, rfl, rfl, by decide +kernel, rfl, by decide +kernel, by decide +kernel⟩
abbrev st__law_cell : Stmt := top 23
abbrev N__law_cell : List Str := ["script", "k", "cell"]
theorem sc__law_cell : FnScope N__law_cell ["script", "k"] (defScope st__law_cell) := ⟨rfl, rfl, rfl, by decide +kernel, rfl, by decide +kernel, by decide +kernel⟩
abbrev st__law_take : Stmt := top 24
abbrev N__law_take : List Str := ["state", "m", "x"]
theorem sc__law_take : FnScope N__law_take ["state", "m"] (defScope st__law_take) := ⟨rfl, rfl, rfl, by decide +kernel, rfl, by decide +kernel, by decide +kernel⟩
abbrev st__law_big : Stmt := top 25
abbrev N__law_big : List Str := ["script", "at", "count", "found", "k"]
theorem sc__law_big : FnScope N__law_big ["script", "at", "count"] (defScope st__law_big) := ⟨rfl, rfl, rfl, by decide +kernel, rfl, by decide +kernel, by decide +kernel⟩
abbrev st__law_divisor : Stmt := top 26
abbrev N__law_divisor : List Str := ["one", "two", "turn"]
theorem sc__law_divisor : FnScope N__law_divisor ["one", "two"] (defScope st__law_divisor) := ⟨rfl, rfl, rfl, by decide +kernel, rfl, by decide +kernel, by decide +kernel⟩
abbrev st__law_ratio : Stmt := top 27
abbrev N__law_ratio : List Str := ["p", "q", "divisor"]
theorem sc__law_ratio : FnScope N__law_ratio ["p", "q"] (defScope st__law_ratio) := ⟨rfl, rfl, rfl, by decide +kernel, rfl, by decide +kernel, by decide +kernel⟩
abbrev st__law_is_ratio : Stmt := top 28
abbrev N__law_is_ratio : List Str := ["pair", "x"]
theorem sc__law_is_ratio : FnScope N__law_is_ratio ["pair"] (defScope st__law_is_ratio) := ⟨rfl, rfl, rfl, by decide +kernel, rfl, by decide +kernel, by decide +kernel⟩
abbrev st__law_monomial : Stmt := top 29
abbrev N__law_monomial : List Str := ["state", "letters", "most", "found", "k", "exponent"]
theorem sc__law_monomial : FnScope N__law_monomial ["state", "letters", "most"] (defScope st__law_monomial) := ⟨rfl, rfl, rfl, by decide +kernel, rfl, by decide +kernel, by decide +kernel⟩
abbrev st__law_drawn : Stmt := top 30
abbrev N__law_drawn : List Str := ["state", "letters", "most", "size", "table", "turn", "key"]
theorem sc__law_drawn : FnScope N__law_drawn ["state", "letters", "most", "size"] (defScope st__law_drawn) := ⟨rfl, rfl, rfl, by decide +kernel, rfl, by decide +kernel, by decide +kernel⟩
abbrev st__law_listed : Stmt := top 31
abbrev N__law_listed : List Str := ["table", "found", "key", "pair", "k", "e"]
theorem sc__law_listed : FnScope N__law_listed ["table"] (defScope st__law_listed) := ⟨rfl, rfl, rfl, by decide +kernel, rfl, by decide +kernel, by decide +kernel⟩
abbrev st__law_join : Stmt := top 32
abbrev N__law_join : List Str := ["one", "two", "found", "letter", "exponent"]
theorem sc__law_join : FnScope N__law_join ["one", "two"] (defScope st__law_join) := ⟨rfl, rfl, rfl, by decide +kernel, rfl, by decide +kernel, by decide +kernel⟩
abbrev st__law_table_product : Stmt := top 33
abbrev N__law_table_product : List Str := ["one", "two", "found", "left", "right", "key"]
theorem sc__law_table_product : FnScope N__law_table_product ["one", "two"] (defScope st__law_table_product) := ⟨rfl, rfl, rfl, by decide +kernel, rfl, by decide +kernel, by decide +kernel⟩
abbrev st__law_table_sum : Stmt := top 34
abbrev N__law_table_sum : List Str := ["one", "two", "factor", "found", "key"]
theorem sc__law_table_sum : FnScope N__law_table_sum ["one", "two", "factor"] (defScope st__law_table_sum) := ⟨rfl, rfl, rfl, by decide +kernel, rfl, by decide +kernel, by decide +kernel⟩
abbrev st__law_is_poly : Stmt := top 35
abbrev N__law_is_poly : List Str := ["one", "count", "keys", "pair", "letters", "entry", "k"]
theorem sc__law_is_poly : FnScope N__law_is_poly ["one", "count"] (defScope st__law_is_poly) := ⟨rfl, rfl, rfl, by decide +kernel, rfl, by decide +kernel, by decide +kernel⟩
abbrev st__law_mul : Stmt := top 36
abbrev N__law_mul : List Str := ["one", "two"]
theorem sc__law_mul : FnScope N__law_mul ["one", "two"] (defScope st__law_mul) := ⟨rfl, rfl, rfl, by decide +kernel, rfl, by decide +kernel, by decide +kernel⟩
abbrev st__law_values : Stmt := top 37
abbrev N__law_values : List Str := ["table", "spots", "found", "key", "part", "letter", "exponent", "turn"]
theorem sc__law_values : FnScope N__law_values ["table", "spots"] (defScope st__law_values) := ⟨rfl, rfl, rfl, by decide +kernel, rfl, by decide +kernel, by decide +kernel⟩
abbrev st_law : Stmt := top 38
abbrev N_law : List Str := ["script", "state", "factor", "table", "one", "given", "letters", "key", "entry", "letter", "exponents", "degree", "rows", "whole", "k", "power", "due", "told", "number", "many", "spots", "prime", "plain"]
theorem sc_law : FnScope N_law ["script"] (defScope st_law) := ⟨rfl, rfl, rfl, by decide +kernel, rfl, by decide +kernel, by decide +kernel⟩


/-! ### monomials, tables and polynomials as data -/
def enc (z : Int × Int) : D := .tuple [.int z.1, .int z.2]
abbrev Mon := List (Int × Int)
abbrev Tab := List (Mon × Int)
def encM (m : Mon) : D := .tuple (m.map enc)
def encE (e : Mon × Int) : D := .tuple [encM e.1, .int e.2]
def encP (t : Tab) : D := .list (t.map encE)
def encT (t : Tab) : List (D × D) := t.map fun e => (encM e.1, .int e.2)
def tget (t : Tab) (m : Mon) : Option Int := (t.find? fun e => decide (e.1 = m)).map (·.2)
def tput (t : Tab) (m : Mon) (c : Int) : Tab := if (tget t m).isSome then t.map fun e => if e.1 = m then (e.1, c) else e else t ++ [(m, c)]
def tdrop (t : Tab) (m : Mon) : Tab := t.filter fun e => decide (e.1 ≠ m)
def keyM (m : Mon) : NestedKey := .tup (m.map fun z => .tup [.num z.1, .num z.2])
theorem key_enc (m : Mon) : ND.keyOf (encM m) = keyM m := by
  unfold encM keyM
  rw [ND.keyOf, List.map_map]
  congr 1
  apply List.map_congr_left
  intro z _
  show ND.keyOf (enc z) = _
  unfold enc
  simp [ND.keyOf]
theorem keyM_inj {a b : Mon} (h : keyM a = keyM b) : a = b := by
  unfold keyM at h
  have h1 := NestedKey.tup.inj h
  clear h
  induction a generalizing b with
  | nil => cases b with
    | nil => rfl
    | cons _ _ => cases h1
  | cons x xs ih => cases b with
    | nil => cases h1
    | cons y ys =>
      rw [List.map_cons, List.map_cons] at h1
      obtain ⟨h2, h3⟩ := List.cons.inj h1
      have h4 := NestedKey.tup.inj h2
      have h5 := List.cons.inj h4
      have h6 := (List.cons.inj h5.2).1
      rw [ih h3, show x = y from Prod.ext (NestedKey.num.inj h5.1) (NestedKey.num.inj h6)]
theorem key_iff (a b : Mon) : (ND.keyOf (encM a) = ND.keyOf (encM b)) ↔ a = b := by
  rw [key_enc, key_enc]
  exact ⟨keyM_inj, fun h => by rw [h]⟩
theorem keyM_depth (m : Mon) : (keyM m).depth ≤ 8 := by
  have h : ∀ m : Mon, NestedKey.depthAll (m.map fun z => NestedKey.tup [.num z.1, .num z.2]) ≤ 1 := fun m => by
    induction m with
    | nil => exact Nat.zero_le _
    | cons z m ih =>
      show max (NestedKey.depth (.tup [.num z.1, .num z.2])) (NestedKey.depthAll _) ≤ 1
      exact Nat.max_le.mpr ⟨Nat.le_refl 1, ih⟩
  have h1 := h m
  show NestedKey.depthAll _ + 1 ≤ 8
  omega
theorem isKeys_enc (m : Mon) : ND.isKeys (m.map enc) = true := by
  induction m with
  | nil => rfl
  | cons z m ih => exact ih
theorem keyOk (m : Mon) : KeyOk (encM m) := ⟨isKeys_enc m, by rw [key_enc]; exact keyM_depth m, _, rfl⟩
theorem isND_enc (t : Tab) : isND (encT t) := fun p hp => by
  obtain ⟨e, _, rfl⟩ := List.mem_map.mp hp
  exact ⟨_, rfl⟩
theorem getN_enc (m : Mon) : ∀ t : Tab, getN (encT t) (encM m) = (tget t m).map PyData.int
  | [] => rfl
  | e :: t => by
    unfold getN tget encT
    rw [List.map_cons, List.find?_cons, List.find?_cons]
    by_cases c : e.1 = m
    · have c' : ND.keyOf (encM e.1) = ND.keyOf (encM m) := (key_iff _ _).mpr c
      simp only [c, c', decide_true]
      rfl
    · have c' : ¬ ND.keyOf (encM e.1) = ND.keyOf (encM m) := fun z => c ((key_iff _ _).mp z)
      simp only [c, c', decide_false]
      exact getN_enc m t
theorem getN_some {t : Tab} {m : Mon} {c : Int} (h : tget t m = some c) : getN (encT t) (encM m) = some (.int c) := by rw [getN_enc, h]; rfl
theorem getN_D (t : Tab) (m : Mon) (z : Int) : (getN (encT t) (encM m)).getD (.int z) = .int ((tget t m).getD z) := by
  rw [getN_enc]
  cases tget t m <;> rfl
theorem putN_enc (t : Tab) (m : Mon) (c : Int) : putN (encT t) (encM m) (.int c) = encT (tput t m c) := by
  unfold putN tput
  rw [getN_enc, Option.isSome_map]
  by_cases h : (tget t m).isSome = true
  · rw [if_pos h, if_pos h]
    unfold encT
    rw [List.map_map, List.map_map]
    apply List.map_congr_left
    intro e _
    by_cases c : e.1 = m
    · simp only [Function.comp, c, if_pos]
    · have c' : ¬ ND.keyOf (encM e.1) = ND.keyOf (encM m) := fun z => c ((key_iff _ _).mp z)
      simp only [Function.comp, if_neg c, if_neg c']
  · rw [if_neg h, if_neg h]
    unfold encT
    rw [List.map_append]
    rfl
theorem dropN_enc (m : Mon) : ∀ t : Tab, dropN (encT t) (encM m) = encT (tdrop t m)
  | [] => rfl
  | e :: t => by
    have ih := dropN_enc m t
    unfold dropN tdrop encT at ih ⊢
    rw [List.map_cons, List.filter_cons, List.filter_cons]
    by_cases c : e.1 = m
    · have c' : ND.keyOf (encM e.1) = ND.keyOf (encM m) := (key_iff _ _).mpr c
      simp only [c, c', ne_eq, not_true_eq_false, decide_false, Bool.false_eq_true, if_false]
      exact ih
    · have c' : ¬ ND.keyOf (encM e.1) = ND.keyOf (encM m) := fun z => c ((key_iff _ _).mp z)
      simp only [c, c', ne_eq, not_false_eq_true, decide_true, if_true, List.map_cons]
      rw [ih]
theorem encT_len (t : Tab) : (encT t).length = t.length := List.length_map _
theorem encT_keys (t : Tab) : (encT t).map (·.1) = t.map fun e => encM e.1 := by unfold encT; rw [List.map_map]; rfl
theorem encT_at {t : Tab} {i : Nat} {d : D} (h : ((encT t).map (·.1))[i]? = some d) : ∃ e, t[i]? = some e ∧ d = encM e.1 := by
  rw [encT_keys, List.getElem?_map] at h
  obtain ⟨e, h1, h2⟩ := Option.map_eq_some_iff.mp h
  exact ⟨e, h1, h2.symm⟩
theorem map_at {α : Type} {f : α → D} {t : List α} {i : Nat} {d : D} (h : (t.map f)[i]? = some d) : ∃ e, t[i]? = some e ∧ d = f e := by
  rw [List.getElem?_map] at h
  obtain ⟨e, h1, h2⟩ := Option.map_eq_some_iff.mp h
  exact ⟨e, h1, h2.symm⟩
/-- keys without doubles -/
def Nd (t : Tab) : Prop := (t.map (·.1)).Nodup
theorem tget_mem : ∀ {t : Tab} {e : Mon × Int}, Nd t → e ∈ t → tget t e.1 = some e.2
  | f :: t, e, hn, he => by
    unfold tget
    rw [List.find?_cons]
    have hn' := List.nodup_cons.mp hn
    rcases List.mem_cons.mp he with rfl | he
    · simp
    · have c : ¬ f.1 = e.1 := fun z => hn'.1 (List.mem_map.mpr ⟨e, he, z.symm⟩)
      simp only [c, decide_false]
      exact tget_mem hn'.2 he
/-! shapes -/
theorem canLay_M (m : Mon) : PyData.canLayAll0 (m.map enc) = true := by
  induction m with
  | nil => rfl
  | cons z m ih => exact ih
theorem depthA_M (m : Mon) : PyData.depthAll (m.map enc) ≤ 1 := by
  induction m with
  | nil => exact Nat.zero_le _
  | cons z m ih =>
    show max (PyData.depth (enc z)) (PyData.depthAll (m.map enc)) ≤ 1
    exact Nat.max_le.mpr ⟨Nat.le_refl 1, ih⟩
theorem depth_M (m : Mon) : PyData.depth (encM m) ≤ 2 := by
  have := depthA_M m
  show PyData.depthAll _ + 1 ≤ 2
  omega
theorem shaped_M (m : Mon) : SeqAt.shaped (encM m) = true := by
  have h := depth_M m
  unfold SeqAt.shaped
  rw [Bool.and_eq_true]
  exact ⟨canLay_M m, decide_eq_true (by omega)⟩
theorem canLay_P (t : Tab) : PyData.canLayAll0 (t.map encE) = true := by
  induction t with
  | nil => rfl
  | cons e t ih =>
    show ((PyData.canLayAll0 (e.1.map enc) && _) && PyData.canLayAll0 (t.map encE)) = true
    rw [canLay_M, ih]
    rfl
theorem depthA_P (t : Tab) : PyData.depthAll (t.map encE) ≤ 3 := by
  induction t with
  | nil => exact Nat.zero_le _
  | cons e t ih =>
    show max (PyData.depth (encE e)) (PyData.depthAll (t.map encE)) ≤ 3
    refine Nat.max_le.mpr ⟨?_, ih⟩
    have := depth_M e.1
    show max (PyData.depth (encM e.1)) (max 0 0) + 1 ≤ 3
    omega
theorem shaped_P (t : Tab) : SeqAt.shaped (encP t) = true := by
  have h := depthA_P t
  unfold SeqAt.shaped
  rw [Bool.and_eq_true]
  exact ⟨canLay_P t, decide_eq_true (by show PyData.depthAll _ + 1 ≤ 64; omega)⟩
theorem canLay_PP (ts : List Tab) : PyData.canLayAll0 (ts.map encP) = true := by
  induction ts with
  | nil => rfl
  | cons e t ih =>
    show (PyData.canLayAll0 (e.map encE) && PyData.canLayAll0 (t.map encP)) = true
    rw [canLay_P, ih]
    rfl
theorem shaped_PP (ts : List Tab) : SeqAt.shaped (.list (ts.map encP)) = true := by
  have h : PyData.depthAll (ts.map encP) ≤ 4 := by
    induction ts with
    | nil => exact Nat.zero_le _
    | cons e t ih =>
      have := depthA_P e
      exact Nat.max_le.mpr ⟨by show PyData.depthAll _ + 1 ≤ 4; omega, ih⟩
  unfold SeqAt.shaped
  rw [Bool.and_eq_true]
  exact ⟨canLay_PP ts, decide_eq_true (by show PyData.depthAll _ + 1 ≤ 64; omega)⟩
mutual
theorem eqv_self : ∀ {d : D}, noD d = true → PyData.eqv d d = true
  | .none, _ => rfl
  | .bool b, _ => by cases b <;> rfl
  | .int i, _ => by show (i == i) = true; simp
  | .str x, _ => by show (x == x) = true; simp
  | .list xs, h => by unfold noD at h; show PyData.eqvAll xs xs = true; exact eqvA_self h
  | .tuple xs, h => by unfold noD at h; show PyData.eqvAll xs xs = true; exact eqvA_self h
  | .dict _, h => by unfold noD at h; cases h
theorem eqvA_self : ∀ {ds : List D}, noDA ds = true → PyData.eqvAll ds ds = true
  | [], _ => rfl
  | x :: xs, h => by
    unfold noDA at h
    rw [Bool.and_eq_true] at h
    show (PyData.eqv x x && PyData.eqvAll xs xs) = true
    rw [eqv_self h.1, eqvA_self h.2]
    rfl
end
theorem eqv_sh {d : D} (h : SeqAt.shaped d = true) : PyData.eqv d d = true := eqv_self (noD_shaped h)
theorem eqv_nil (ds : List D) : PyData.eqv (.list ds) (.list []) = ds.isEmpty := by cases ds <;> rfl
theorem eqv_nilT (ds : List D) : PyData.eqv (.tuple ds) (.tuple []) = ds.isEmpty := by cases ds <;> rfl
theorem noD_M (m : Mon) : noD (encM m) = true := noD_shaped (shaped_M m)
theorem atI_nat {α : Type} (xs : List α) (k : Nat) : atI xs (k : Int) = xs[k]? := by
  unfold atI ixN
  by_cases h : k < xs.length
  · have h1 : (0 : Int) ≤ (k : Int) := by omega
    simp [h1, h]
  · have e : xs[k]? = none := List.getElem?_eq_none (by omega)
    rw [e]
    have h1 : (0 : Int) ≤ (k : Int) := by omega
    simp [h1, h]
theorem u16 {k : Nat} {A : Around} (r : Room k A) : A.units + 16 < cLine := by have := r.un; omega
theorem u8 {k : Nat} {A : Around} {P : Program} {w : World} (r : Room k A) : (nestedKind P w).room A := show A.units + 8 < cLine from by have := r.un; omega
theorem u65 {k : Nat} {A : Around} (r : Room k A) : A.units + 65 < cLine := by have := r.un; omega
theorem u80 {k : Nat} {A : Around} (r : Room k A) : A.units + 80 < cLine := by have := r.un; omega
theorem sl0 : 0 ≤ sizeLine := by decide
theorem sl1 : 1 ≤ sizeLine := by decide
theorem sl2 : 2 ≤ sizeLine := by decide
theorem sl4 : 4 ≤ sizeLine := by decide
theorem sl6 : 6 ≤ sizeLine := by decide
def nio (s : Sl) : Prop := noIo [s] 0
theorem cmL {i j : Int} (h1 : -(2 ^ 64) < i) (h2 : i < 2 ^ 64) : CMulA i j := .inl (.inl ⟨h1, h2⟩)
theorem cmR {i j : Int} (h1 : -(2 ^ 64) < j) (h2 : j < 2 ^ 64) : CMulA i j := .inl (.inr ⟨h1, h2⟩)
/-- a comprehension whose steps leave nothing behind -/
theorem lc_fm {ti : DI} {g : DG} {tt : DT} {te : DE} {vs : List Nat} {ρ : Env} {Q : List D → Env → Prop} (ds : List D) (f : D → Option D) (hti : ∀ K : List D → Env → Prop, K ds ρ → ti ρ K) (hsh : ∀ v ∈ vs, shAt ρ v) (hlen : ds.length ≤ sizeLine)
    (step : ∀ d ∈ ds, ∀ (Y : D → Env → Prop) (Z : Env → Prop), (∀ z ρ5, f d = some z → (∀ v ∈ vs, shAt ρ5 v) → clr ρ5 vs = clr ρ vs → Y z ρ5) → (∀ ρ4, f d = none → (∀ v ∈ vs, shAt ρ4 v) → clr ρ4 vs = clr ρ vs → Z ρ4) → g d (clr ρ vs) fun ρ3 => tt ρ3 fun b ρ4 => (b = true → te ρ4 Y) ∧ (b = false → Z ρ4))
    (k : Q (ds.filterMap f) (clr ρ vs)) : dLc ti g tt te vs ρ Q := by
  refine hti _ ⟨hsh, fun i acc ρ2 => ρ2 = clr ρ vs ∧ acc = (ds.take i).filterMap f, ⟨rfl, by simp⟩, ?_, ?_⟩
  · rintro i acc d _ hd ⟨rfl, rfl⟩
    have hi : i < ds.length := (List.getElem?_eq_some_iff.mp hd).1
    have hl : ((ds.take i).filterMap f).length < sizeLine := by
      have h1 := List.length_filterMap_le f (ds.take i)
      rw [List.length_take] at h1
      omega
    have ht : ds.take (i + 1) = ds.take i ++ [d] := by rw [List.take_add_one, hd]; rfl
    refine step d (List.mem_of_getElem? hd) _ _ (fun z ρ5 hz hs he => ⟨hl, hs, he, ?_⟩) (fun ρ4 hz hs he => ⟨hs, he, ?_⟩)
    · rw [ht, List.filterMap_append]
      simp [hz]
    · rw [ht, List.filterMap_append]
      simp [hz]
  · rintro acc _ ⟨rfl, rfl⟩
    rw [List.take_length]
    exact k
theorem fz_go {i : Nat} {t : DS} {D : DEnds} {ρ : Env} {cs : List DL.D} (h : ρ[i]? = some (.ol cs)) (k : t D (ρ.set i (.sh (.list cs)))) : dFz i t D ρ := by
  unfold dFz
  rw [h]
  exact k
theorem fzD_go {i : Nat} {t : DS} {D : DEnds} {ρ : Env} {c : Ct} (h : ρ[i]? = some (.od c)) (k : t D (ρ.set i (.sh c.dat))) : dFzD i t D ρ := by
  unfold dFzD
  rw [h]
  exact k
theorem seq_go {t u : DS} {D : DEnds} {ρ : Env} (k : t { D with nx := u D } ρ) : dSeq t u D ρ := k
theorem own_go {tf : DF} {i : Nat} {D : DEnds} {ρ : Env} (k : tf ρ fun c ρ1 => noIo ρ1 i ∧ D.nx (ρ1.set i (.ol c))) : dOwn tf i D ρ := k
theorem ret_go {te : DE} {D : DEnds} {ρ : Env} (k : te ρ D.rt) : dRet te D ρ := k
theorem var_go {i : Nat} {d : DL.D} {Q : DL.D → Env → Prop} {ρ : Env} (h : ρ[i]? = some (.sh d)) (k : Q d ρ) : dVar i ρ Q := by
  unfold dVar
  rw [h]
  exact k
theorem c_go {d : DL.D} {Q : DL.D → Env → Prop} {ρ : Env} (k : Q d ρ) : dC d ρ Q := k
theorem ifs_go {tc : DT} {t u : DS} {D : DEnds} {ρ : Env} (k : tc ρ fun c ρ1 => (c = true → t D ρ1) ∧ (c = false → u D ρ1)) : dIfS tc t u D ρ := k
theorem or_go {t u : DT} {ρ : Env} {Q : Bool → Env → Prop} (k : t ρ fun c ρ1 => (c = true → Q true ρ1) ∧ (c = false → u ρ1 Q)) : dOr t u ρ Q := k
theorem test_go {te : DE} {ρ : Env} {Q : Bool → Env → Prop} (k : te ρ fun d ρ' => ∃ b, d = .bool b ∧ Q b ρ') : dTest te ρ Q := k
theorem op_go {rd : DL.D → DL.D → (DL.D → Prop) → Prop} {ta tb : DE} {ρ : Env} {Q : DL.D → Env → Prop} (k : ta ρ fun d ρ1 => tb ρ1 fun e ρ2 => rd d e fun z => Q z ρ2) : dOp rd ta tb ρ Q := k
theorem fr_go {tf : DF} {ρ : Env} {Q : DL.D → Env → Prop} (k : tf ρ fun ds ρ1 => Q (.list ds) ρ1) : dFr tf ρ Q := k
theorem asg_go {te : DE} {g : DG} {D : DEnds} {ρ : Env} (k : te ρ fun d ρ1 => g d ρ1 D.nx) : dAsg te g D ρ := k
theorem catL_go {ta tb : DE} {ρ : Env} {Q : List DL.D → Env → Prop} (k : ta ρ fun d ρ1 => tb ρ1 fun e ρ2 => ∃ ds es, d = .list ds ∧ e = .list es ∧ ds.length + es.length ≤ sizeLine ∧ Q (ds ++ es) ρ2) : dCatL ta tb ρ Q := k
theorem sh1 {ρ : Env} {i : Nat} (h : shAt ρ i) : ∀ v ∈ [i], shAt ρ v := fun v hv => by rw [List.mem_singleton.mp hv]; exact h
theorem sh2 {ρ : Env} {i j : Nat} (h : shAt ρ i) (h' : shAt ρ j) : ∀ v ∈ [i, j], shAt ρ v := fun v hv => by
  rcases List.mem_cons.mp hv with rfl | hv
  · exact h
  · rw [List.mem_singleton.mp hv]; exact h'


/-! ### more rules: max of a list, sorted(d), d.get of any d -/
section
variable {X : Cx} {e f o : Expr} {pos apos cpos : Pos} {te tf to : DE}
def dMaxL (te : DE) : DE := fun ρ Q => te ρ fun d ρ1 => ∃ (ns : List Int) (m : Int), d = .list (ns.map .int) ∧ m ∈ ns ∧ (∀ y ∈ ns, y ≤ m) ∧ Q (.int m) ρ1
theorem q_maxL {p : Pos} (hc : X.calm = true) (hg : Gl X "max") (hm : X.mg "max" = none) (ha : QE X e te) (he : starEach [e] X.env = (false, eval e X.env) :: starEach [] X.env := by rfl) : QE X (.Call (.Name "max" p) [e] [] pos) (dMaxL te) :=
  pe_less (pe_callB (cr_max hc) hg hm (by rfl) (pa_cons ha pa_nil he) (by decide) (by decide) he) fun σ H Q ⟨A, Ow, ρ, R, rel, h, k⟩ => ⟨A, Ow, ρ, _, rel, h, fun x H1 d ρ1 e1 rel1 rp1 ⟨ns, m, hd, hm, hle, h1⟩ => by
    subst hd
    cases rp1 with
    | lst hs hr =>
      obtain rfl := rpa_ints hr
      refine ⟨_, ns, rfl, hs.sq, List.length_pos_of_mem hm, fun m' q1 q2 => ?_⟩
      have e : m' = m := Int.le_antisymm (hle m' q1) (q2 m hm)
      subst e
      exact k _ H1 _ ρ1 e1 rel1 (.int _) h1⟩
theorem RpK.keys1 {K : KW} {O : Addr → Prop} {H : Hp} : ∀ {kvs : List (Int × D)} {es : List (L2.Key × V)}, RpK K O H es kvs → es.map (·.1) = (kvs.map (·.1)).map Sum.inl
  | _, _, .nil => rfl
  | _, _, .cons _ r => by rw [List.map_cons, List.map_cons, List.map_cons, r.keys1]
/-- sorted(d), d a dict with ints as keys -/
def dSrtI (te : DE) : DF := fun ρ Q => te ρ fun d ρ1 => ∃ kvs, d = .dict (tagI kvs) ∧ kvs.length < 64 ∧ ∀ ys : List Int, ys.Perm (kvs.map (·.1)) → ys.Pairwise (· ≤ ·) → Q (ys.map .int) ρ1
theorem f_sortDI {p : Pos} (hc : X.calm = true) (hg : Gl X "sorted") (hm : X.mg "sorted" = none) (ha : QE X e te) (he : starEach [e] X.env = (false, eval e X.env) :: starEach [] X.env := by rfl) : QF X (.Call (.Name "sorted" p) [e] [] pos) (dSrtI te) :=
  qf_of (pe_callB (call_sortedDI hc) hg hm (by rfl) (pa_cons ha pa_nil he) (by decide) (by decide) he) fun σ H Q ⟨A, Ow, ρ, R, rel, h, k⟩ => ⟨A, Ow, ρ, _, rel, h, fun x H1 d ρ1 e1 rel1 rp1 ⟨kvs, hd, h64, h1⟩ => by
    subst hd
    cases rp1 with
    | dct n ea r => exact (getN_tagE r).elim
    | @dik a od es kvs' _ n ea r hz =>
      have hz' := tagI_inj hz
      subst hz'
      exact ⟨a, es, kvs.map (·.1), rfl, .inr ⟨od, ea⟩, r.keys1, by rw [List.length_map]; exact h64, fun ys p hp hs hn => fin_F k e1 rel1 hn RpA.ints (h1 ys hp hs)⟩⟩
/-- x.get(k, z), x any dict with ints as keys -/
def dGetI (to te tf : DE) : DE := fun ρ Q => to ρ fun d ρ1 => (∃ kvs, d = .dict (tagI kvs)) ∧ te ρ1 fun k ρ2 => tf ρ2 fun z ρ3 => ∃ kvs j, d = .dict (tagI kvs) ∧ k = .int j ∧ Q ((getI kvs j).getD z) ρ3
theorem q_getI (hu : X.A.units + 16 < cLine) (ho : QE X o to) (he : QE X e te) (hf : QE X f tf) (m : M2 X o "get" apos e f cpos := by exact ⟨rfl, rfl, rfl, rfl⟩) : QE X (.Call (.Attribute o "get" apos) [e, f] [] cpos) (dGetI to te tf) :=
  pe_less (pe_dget2 (by omega) ho he hf m) fun σ H Q ⟨A, Ow, ρ, R, rel, h, k⟩ => ⟨A, Ow, ρ, _, rel, h, fun x H0 d ρ0 e0 rel0 rp0 ⟨hd0, h0⟩ => by
    obtain ⟨kvs0, rfl⟩ := hd0
    cases rp0 with
    | dct n ea r => exact (getN_tagE r).elim
    | @dik a od es kvs' _ n ea r hz =>
      have hz' := tagI_inj hz
      subst hz'
      refine ⟨a, rfl, .inl ⟨es, .inr ⟨od, ea⟩⟩, A, Ow, ρ0, _, rel0, h0, fun y H1 key ρ1 e1 rel1 rp1 h' => ⟨A, Ow, ρ1, _, rel1, h', fun z H2 d ρ2 e2 rel2 rp2 ⟨kvs, j, g1, g2, g3⟩ => ?_⟩⟩
      subst g2
      cases rp1
      have hz2 := tagI_inj (PyData.dict.inj g1)
      subst hz2
      exact ⟨_, .inl ⟨es, .inl j, .inr ⟨od, e2 _ _ n (e1 _ _ n ea)⟩, rfl, rfl⟩, k _ H2 _ ρ2 (e0.trans (e1.trans e2)) rel2 (((r.mono e1).mono e2).getD j rp2) g3⟩⟩
end
/-! ### stretches of a def that are read as data, between others -/
abbrev nO : Nat → Option Addr := fun _ => none
def flat (ρ : Env) : Prop := ∀ s ∈ ρ, match s with | .no => True | .sh _ => True | .va _ => True | _ => False
theorem Rel.flatOw {K : KW} {A : Act} {Ow : Nat → Option Addr} {σ : L2.St} {H : Hp} {ρ : Env} (R : Rel K A Ow σ H ρ) (h : flat ρ) : Ow = nO := by
  funext i
  by_cases hi : i < ρ.length
  · have q := R.sl i _ (List.getElem?_eq_getElem hi)
    have f := h _ (List.getElem_mem hi)
    cases e : ρ[i] with
    | no => rw [e] at q; exact q
    | sh d => rw [e] at q; exact q.1
    | va v => rw [e] at q; exact q.1
    | ol _ => rw [e] at f; exact f.elim
    | io _ => rw [e] at f; exact f.elim
    | od _ => rw [e] at f; exact f.elim
  · exact R.out i (by omega)
theorem own_nO {O : Addr → Prop} {b : Addr} (h : own O nO b) : O b := by
  rcases h with h | ⟨i, h⟩
  · exact h
  · cases h
theorem RelS.flat {K : KW} {O O' : Addr → Prop} {H H' : Hp} {io : List (Nat × Addr)} {i : Nat} {x : Option (Option V)} {s : Sl} (h : RelS K O H io i x none s) (k : ∀ v d, Rp K O H v d → Rp K O' H' v d) : RelS K O' H' [] i x none s := by
  cases s with
  | no => exact rfl
  | sh d => exact ⟨rfl, let ⟨v, h1, h2⟩ := h.2; ⟨v, h1, k _ _ h2⟩⟩
  | va v => exact h
  | ol _ => obtain ⟨_, _, h, _⟩ := h; cases h
  | io _ => obtain ⟨_, _, h, _⟩ := h; cases h
  | od _ => obtain ⟨_, _, h, _⟩ := h; cases h
/-- another heap, other owners -/
theorem Rel.flatMap {K : KW} {A : Act} {σ : L2.St} {H H' : Hp} {ρ : Env} {O' : Addr → Prop} (R : Rel K A nO σ H ρ) (k : ∀ v d, Rp K (own A.FO nO) H v d → Rp K (own O' nO) H' v d) (fo : ∀ b, O' b → ∃ o, H' b = some o) : Rel K ⟨H', O', [], [], []⟩ nO σ H' ρ :=
  ⟨R.len, fun i s h => (R.sl i s h).flat k, fun _ _ => rfl, fun i j a h => (nomatch h), fun b o _ q => q, fo, fun i a h => (nomatch h), fun i a h => (nomatch h), fun p hp => (nomatch hp), fun i a b h => (nomatch h), fun p hp => (nomatch hp), fun p hp => (nomatch hp)⟩
theorem lam_nx {K : KW} {ts : DS} {O : Addr → Prop} {σ : L2.St} {H : Hp} {ρ : Env} {D : L2.Ends} (N : Env → Prop) (R : Rel K ⟨H, O, [], [], []⟩ nO σ H ρ) (h : ts { nx := N, rt := fun _ _ => False } ρ) (fl : ∀ ρ', N ρ' → flat ρ') (k : ∀ σ' H' ρ', Same H H' → Rel K ⟨H', O, [], [], []⟩ nO σ' H' ρ' → N ρ' → D.nx σ' H') : lamS K ts D σ H :=
  ⟨_, _, ρ, { nx := N, rt := fun _ _ => False }, R, h, fun Ow' σ' H' ρ' rel' h' => by
    have e := rel'.flatOw (fl _ h')
    subst e
    exact k _ _ _ (fun b o q => rel'.kept b o (fun i z => nomatch z) q) (rel'.flatMap (fun _ _ q => q) rel'.fo) h',
  fun _ _ _ _ _ z => z.elim, fun _ _ _ _ _ z => z.elim, fun _ _ _ _ _ _ _ _ z => z.elim, fun _ _ _ _ _ _ _ _ _ _ _ z => z.elim⟩
theorem nodup_at {α : Type} : ∀ {l : List α} {i j : Nat} {x : α}, l.Nodup → l[i]? = some x → l[j]? = some x → i = j
  | [], _, _, _, _, h, _ => by simp at h
  | y :: l, 0, 0, _, _, _, _ => rfl
  | y :: l, 0, j + 1, x, n, h1, h2 => by
    rw [List.getElem?_cons_zero] at h1
    rw [List.getElem?_cons_succ] at h2
    cases h1
    exact absurd (List.mem_of_getElem? h2) (List.nodup_cons.mp n).1
  | y :: l, i + 1, 0, x, n, h1, h2 => by
    rw [List.getElem?_cons_zero] at h2
    rw [List.getElem?_cons_succ] at h1
    cases h2
    exact absurd (List.mem_of_getElem? h1) (List.nodup_cons.mp n).1
  | y :: l, i + 1, j + 1, x, n, h1, h2 => by
    rw [List.getElem?_cons_succ] at h1 h2
    rw [nodup_at (List.nodup_cons.mp n).2 h1 h2]
/-! ### a list of dicts, each of the def's own -/
def O2 (O : Addr → Prop) (a : Addr) (ps : List Addr) : Addr → Prop := fun b => O b ∨ b = a ∨ b ∈ ps
structure Rw (K : KW) (O : Addr → Prop) (σ : L2.St) (H : Hp) (ρ : Env) (a : Addr) (ps : List Addr) (cs : List (List (D × D))) : Prop where
  rel : Rel K ⟨H, O2 O a ps, [], [], []⟩ nO σ H ρ
  li : H a = some (.lst (ps.map V.ref))
  len : ps.length = cs.length
  di : ∀ (j : Nat) (p : Addr) (kvs : List (D × D)), ps[j]? = some p → cs[j]? = some kvs → ∃ es, H p = some (ND.ndO K.P K.w p es) ∧ RpE K (own (O2 O a ps) nO) H es kvs
  nd : (a :: ps).Nodup
  noa : ¬ O a
  nop : ∀ p ∈ ps, ¬ O p
section
variable {K : KW} {O : Addr → Prop} {σ σ' : L2.St} {H H' : Hp} {ρ ρ' : Env} {a : Addr} {ps : List Addr} {cs : List (List (D × D))}
theorem Rw.same (w : Rw K O σ H ρ a ps cs) (e : Same H H') (R : Rel K ⟨H', O2 O a ps, [], [], []⟩ nO σ' H' ρ') : Rw K O σ' H' ρ' a ps cs :=
  ⟨R, e _ _ w.li, w.len, fun j p kvs h1 h2 => let ⟨es, q1, q2⟩ := w.di j p kvs h1 h2; ⟨es, e _ _ q1, q2.mono (Stp.of e)⟩, w.nd, w.noa, w.nop⟩
theorem Rw.ne {p : Addr} (w : Rw K O σ H ρ a ps cs) (hp : p ∈ ps) : p ≠ a := fun z => (List.nodup_cons.mp w.nd).1 (z ▸ hp)
/-- an empty dict behind the others -/
theorem Rw.app (w : Rw K O σ H ρ a ps cs) {p : Addr} (hp : H p = none) : Rw K O σ (upd (upd H p (ND.ndO K.P K.w p [])) a (.lst (ps.map V.ref ++ [.ref p]))) ρ a (ps ++ [p]) (cs ++ [[]]) := by
  have pa : p ≠ a := fun z => by rw [z, w.li] at hp; cases hp
  have pn : p ∉ ps := fun z => by
    obtain ⟨j, hj⟩ := List.getElem?_of_mem z
    have hj' : j < cs.length := by rw [← w.len]; exact (List.getElem?_eq_some_iff.mp hj).1
    obtain ⟨es, q, _⟩ := w.di j p _ hj (List.getElem?_eq_getElem hj')
    rw [hp] at q
    cases q
  have po : ¬ O p := fun z => by
    obtain ⟨o, q⟩ := w.rel.fo p (.inl z)
    rw [hp] at q
    cases q
  have e1 : Same H (upd H p (ND.ndO K.P K.w p [])) := Same.new hp
  have sub : ∀ b, own (O2 O a (ps ++ [p])) nO b → own (O2 O a ps) nO b ∨ b = p := fun b z => by
    rcases own_nO z with z | z | z
    · exact .inl (.inl (.inl z))
    · exact .inl (.inl (.inr (.inl z)))
    · rcases List.mem_append.mp z with z | z
      · exact .inl (.inl (.inr (.inr z)))
      · exact .inr (List.mem_singleton.mp z)
  have st : Stp (own (O2 O a (ps ++ [p])) nO) H (upd (upd H p (ND.ndO K.P K.w p [])) a (.lst (ps.map V.ref ++ [.ref p]))) := fun b o n q => by
    rw [upd_ne (show b ≠ a from fun z => n (.inl (.inr (.inl z))))]
    exact e1 b o q
  refine ⟨w.rel.flatMap (fun v d h => (h.more hp sub).mono st) fun b z => ?_, by rw [upd_same, List.map_append]; rfl, by rw [List.length_append, List.length_append, w.len]; rfl, fun j q kvs h1 h2 => ?_, ?_, w.noa, fun q hq => ?_⟩
  · by_cases ba : b = a
    · rw [ba]; exact ⟨_, upd_same⟩
    · rw [upd_ne ba]
      by_cases bp : b = p
      · rw [bp]; exact ⟨_, upd_same⟩
      · rw [upd_ne bp]
        rcases z with z | z | z
        · exact w.rel.fo b (.inl z)
        · exact (ba z).elim
        · rcases List.mem_append.mp z with z | z
          · exact w.rel.fo b (.inr (.inr z))
          · exact (bp (List.mem_singleton.mp z)).elim
  · by_cases hj : j < ps.length
    · rw [List.getElem?_append_left hj] at h1
      rw [List.getElem?_append_left (by rw [← w.len]; exact hj)] at h2
      obtain ⟨es, q1, q2⟩ := w.di j q kvs h1 h2
      have hq : q ∈ ps := List.mem_of_getElem? h1
      exact ⟨es, by rw [upd_ne (w.ne hq), upd_ne (show q ≠ p from fun z => pn (z ▸ hq))]; exact q1, (q2.map (Stay.more hp sub)).mono st⟩
    · rw [List.getElem?_append_right (by omega)] at h1
      rw [List.getElem?_append_right (by rw [← w.len]; omega)] at h2
      have e0 : j - ps.length = 0 := by
        have := (List.getElem?_eq_some_iff.mp h1).1
        rw [List.length_singleton] at this
        omega
      rw [e0] at h1
      rw [← w.len, e0] at h2
      cases h1
      cases h2
      exact ⟨[], by rw [upd_ne pa]; exact upd_same, .nil⟩
  · obtain ⟨q1, q2⟩ := List.nodup_cons.mp w.nd
    refine List.nodup_cons.mpr ⟨fun z => ?_, List.nodup_append.mpr ⟨q2, List.pairwise_singleton _ _, fun x hx y hy => ?_⟩⟩
    · rcases List.mem_append.mp z with z | z
      · exact q1 z
      · exact pa (List.mem_singleton.mp z).symm
    · rw [List.mem_singleton.mp hy]
      exact fun z => pn (z ▸ hx)
  · rcases List.mem_append.mp hq with hq | hq
    · exact w.nop q hq
    · rw [List.mem_singleton.mp hq]; exact po
/-- the j-th dict is changed -/
theorem Rw.put (w : Rw K O σ H ρ a ps cs) {j : Nat} {p : Addr} {es : List ND.Ent} {kvs : List (D × D)} (hj : ps[j]? = some p) (r : RpE K (own (O2 O a ps) nO) H es kvs) : Rw K O σ (upd H p (ND.ndO K.P K.w p es)) ρ a ps (cs.set j kvs) := by
  have hp : p ∈ ps := List.mem_of_getElem? hj
  have pa := w.ne hp
  have st : Stp (own (O2 O a ps) nO) H (upd H p (ND.ndO K.P K.w p es)) := fun b o n q => by
    rw [upd_ne (show b ≠ p from fun z => n (.inl (.inr (.inr (z.symm ▸ hp)))))]
    exact q
  refine ⟨w.rel.flatMap (fun v d h => h.mono st) fun b z => ?_, by rw [upd_ne pa.symm]; exact w.li, by rw [List.length_set]; exact w.len, fun i q kvs' h1 h2 => ?_, w.nd, w.noa, w.nop⟩
  · by_cases bp : b = p
    · rw [bp]; exact ⟨_, upd_same⟩
    · rw [upd_ne bp]; exact w.rel.fo b z
  · by_cases ij : j = i
    · subst ij
      rw [hj] at h1
      cases h1
      rw [List.getElem?_set_self (by rw [← w.len]; exact (List.getElem?_eq_some_iff.mp hj).1)] at h2
      cases h2
      exact ⟨es, upd_same, r.mono st⟩
    · rw [List.getElem?_set_ne ij] at h2
      obtain ⟨es', q1, q2⟩ := w.di i q kvs' h1 h2
      refine ⟨es', ?_, q2.mono st⟩
      rw [upd_ne (show q ≠ p from fun z => ij (nodup_at (List.nodup_cons.mp w.nd).2 hj (z ▸ h1)))]
      exact q1
end
/-- things are locked, from here on -/
def tLk (t : TS) : TS := fun D σ H => ∃ ps : List Addr, ps.Nodup ∧ (∀ p ∈ ps, ∃ u, H p = some u ∧ Mut (some u)) ∧ ∀ H' : Hp, (∀ p ∈ ps, ∃ od u, H p = some u ∧ H' p = some (.frz od u)) → (∀ b, b ∉ ps → H' b = H b) → t D σ H'
theorem pss_lk {X : Cx} {rest : List Stmt} {t : TS} (h : PSs X rest t) : PSs X rest (tLk t) := by
  refine ⟨fun pins s σ H D I hw => ?_⟩
  obtain ⟨ps, nd, hu, k⟩ := hw
  induction ps generalizing H with
  | nil => exact h.run pins s σ H D I (k H (fun p hp => nomatch hp) fun _ _ => rfl)
  | cons p ps ih =>
    obtain ⟨n1, n2⟩ := List.nodup_cons.mp nd
    obtain ⟨u, e1, mu⟩ := hu p List.mem_cons_self
    obtain ⟨od, I1⟩ := I.lock e1 mu
    refine ih _ I1 n2 (fun q hq => ?_) fun H' h1 h2 => k H' (fun q hq => ?_) fun b hb => ?_
    · obtain ⟨u', e2, mu'⟩ := hu q (List.mem_cons_of_mem _ hq)
      exact ⟨u', by rw [upd_ne (show q ≠ p from fun z => n1 (z ▸ hq))]; exact e2, mu'⟩
    · rcases List.mem_cons.mp hq with rfl | hq
      · exact ⟨od, u, e1, by rw [h2 q n1]; exact upd_same⟩
      · obtain ⟨od', u', e2, e3⟩ := h1 q hq
        rw [upd_ne (show q ≠ p from fun z => n1 (z ▸ hq))] at e2
        exact ⟨od', u', e2, e3⟩
    · rw [h2 b fun z => hb (List.mem_cons_of_mem _ z), upd_ne (show b ≠ p from fun z => hb (by rw [z]; exact List.mem_cons_self))]


/-! ### the program's defs -/
def deg (m : Mon) : Int := (m.map (·.2)).sum
def p_degree_of (ds : List D) (R : D → Prop) : Prop := ∃ m : Mon, ds = [encM m] ∧ m.length ≤ 1000 ∧ R (.int (deg m))
theorem len_degree_of : ∀ ds R, p_degree_of ds R → ds.length = (["monomial"] : List Str).length := fun ds R ⟨_, h, _⟩ => by rw [h]; rfl
def sndD : D → Option D
  | .tuple [_, x] => some x
  | _ => none
def fstD : D → Option D
  | .tuple [x, _] => some x
  | _ => none
theorem snd_enc (m : Mon) : (m.map enc).filterMap sndD = (m.map (·.2)).map PyData.int := by
  induction m with
  | nil => rfl
  | cons z m ih => exact congrArg (PyData.int z.2 :: ·) ih
theorem fst_enc (m : Mon) : (m.map enc).filterMap fstD = (m.map (·.1)).map PyData.int := by
  induction m with
  | nil => rfl
  | cons z m ih => exact congrArg (PyData.int z.1 :: ·) ih
theorem big_le : (1000000 : Nat) ≤ sizeLine := by decide

theorem body_degree_of {P : Program} {w : World} {K : PySem.W.Frag} {mg : Str → Option Value} {base : Heap} (z_sum : mg "sum" = none) :
  Body P w K mg base N_degree_of "degree_of" st_degree_of 0 fun ts => ∀ ds R, p_degree_of ds R → ts { nx := fun _ => R .none, rt := fun d _ => R d } (startD N_degree_of ds) := fun f cdv A outer s H E hr => by
  refine ⟨_, (qss_one (qs_ret (q_sum (by rfl) (by rfl) z_sum (qe_fr (qf_lc2 1 2 (by decide) (by rfl) sc_degree_of.nd (qi_tup (qe_var 0)) (blkOk_by (own := [("_", 1), ("exponent", 2)]) (N := N_degree_of) (sc := defScope st_degree_of) (by decide +kernel)) (fun _ _ _ _ _ => pg_tup (by rfl) (pgs_cons (pg_name (i := 1) sc_degree_of.nd rfl (by first | exact Or.inl rfl | exact Or.inr rfl)) (pgs_cons (pg_name (i := 2) sc_degree_of.nd rfl (by first | exact Or.inl rfl | exact Or.inr rfl)) pgs_nil))) (fun _ _ _ _ _ => qts_nil) (fun _ _ _ _ _ => (qe_var 2))))))), ?_⟩
  intro ds R h
  obtain ⟨m, rfl, hm, h⟩ := h
  have hl := big_le
  refine lc_fm (m.map enc) sndD (fun K h => h) (sh2 (by exact trivial) (by exact trivial)) (by rw [List.length_map]; omega) ?_ ?_
  · intro d hd Y Z hY hZ
    obtain ⟨z, _, rfl⟩ := List.mem_map.mp hd
    exact ⟨_, _, rfl, trivial, trivial, fun _ => hY _ _ rfl (sh2 (by exact trivial) (by exact trivial)) rfl, fun h => nomatch h⟩
  · exact ⟨(m.map fun z : Int × Int => z.2 : List Int), by rw [snd_enc], h⟩
theorem ok_degree_of {P : Program} {w : World} {K : PySem.W.Frag} {mg : Str → Option Value} {base : Heap} {f : Addr} {fd : FuncData} (F : Fun K "degree_of" "degree_of" st_degree_of f fd) (z_sum : mg "sum" = none) :
  FnOk P w K mg base CX0 1 f fd ["monomial"] (spD ⟨K, P, w⟩ p_degree_of) := fn_D F sc_degree_of len_degree_of (body_degree_of z_sum)

def ordK (m : Mon) : D := .tuple [.int (-(deg m)), encM m]
def p_order_key (ds : List D) (R : D → Prop) : Prop := ∃ (m : Mon) (c : Int), ds = [encE (m, c)] ∧ m.length ≤ 1000 ∧ R (ordK m)
theorem len_order_key : ∀ ds R, p_order_key ds R → ds.length = (["pair"] : List Str).length := fun ds R ⟨_, _, h, _⟩ => by rw [h]; rfl

theorem body_order_key {P : Program} {w : World} {K : PySem.W.Frag} {mg : Str → Option Value} {base : Heap} (C_degree_of : Cal P w K mg base "degree_of" 1 (spD ⟨K, P, w⟩ p_degree_of)) :
  Body P w K mg base N_order_key "order_key" st_order_key 1 fun ts => ∀ ds R, p_order_key ds R → ts { nx := fun _ => R .none, rt := fun d _ => R d } (startD N_order_key ds) := fun f cdv A outer s H E hr => by
  refine ⟨_, (qss_one (qs_ret (qe_tup (qa_cons (q_neg (qe_call C_degree_of (hr.mono (by decide)) (by rfl) (qa_cons (qe_ix (qe_var 0) qe_int) qa_nil))) (qa_cons (qe_ix (qe_var 0) qe_int) qa_nil))))), ?_⟩
  intro ds R h
  obtain ⟨m, c, rfl, hm, h⟩ := h
  exact ⟨encM m, rfl, m, rfl, hm, encM m, rfl, sl2, h⟩
theorem ok_order_key {P : Program} {w : World} {K : PySem.W.Frag} {mg : Str → Option Value} {base : Heap} {f : Addr} {fd : FuncData} (F : Fun K "order_key" "order_key" st_order_key f fd) (C_degree_of : Cal P w K mg base "degree_of" 1 (spD ⟨K, P, w⟩ p_degree_of)) :
  FnOk P w K mg base CX0 2 f fd ["pair"] (spD ⟨K, P, w⟩ p_order_key) := fn_D F sc_order_key len_order_key (body_order_key C_degree_of)

def nz (e : Mon × Int) : Bool := decide (e.2 ≠ 0)
def leK (m m' : Mon) : Bool := !(PySem.W.dataLt (ordK m') (ordK m))
def listed (t : Tab) : Tab := (t.filter nz).mergeSort fun a b => leK a.1 b.1
structure TabOk (t : Tab) : Prop where
  len : t.length ≤ 100000
  nd : Nd t
  mon : ∀ e ∈ t, e.1.length ≤ 1000
def p_from_table (ds : List D) (R : D → Prop) : Prop := ∃ t : Tab, ds = [.dict (encT t)] ∧ TabOk t ∧ R (encP (listed t))
theorem len_from_table : ∀ ds R, p_from_table ds R → ds.length = (["table"] : List Str).length := fun ds R ⟨_, h, _⟩ => by rw [h]; rfl
theorem fm_filter {α : Type} {g : α → D} {f : D → Option D} {p : α → Bool} {h : α → D} : ∀ {t : List α}, (∀ e ∈ t, f (g e) = if p e = true then some (h e) else none) → (t.map g).filterMap f = (t.filter p).map h
  | [], _ => rfl
  | e :: t, q => by
    have q0 := q e List.mem_cons_self
    rw [List.map_cons, List.filterMap_cons, List.filter_cons]
    by_cases c : p e = true
    · rw [q0, if_pos c, if_pos c, fm_filter fun x hx => q x (List.mem_cons_of_mem _ hx)]
      rfl
    · rw [q0, if_neg c, if_neg c]
      exact fm_filter fun x hx => q x (List.mem_cons_of_mem _ hx)
def entF (t : Tab) (d : D) : Option D := match getN (encT t) d with
  | some (.int c) => if c = 0 then none else some (.tuple [d, .int c])
  | _ => none
theorem ent_fm {t : Tab} (h : Nd t) : ((encT t).map (·.1)).filterMap (entF t) = (t.filter nz).map encE := by
  rw [encT_keys]
  refine fm_filter fun e he => ?_
  unfold entF nz
  rw [getN_some (tget_mem h he)]
  by_cases c : e.2 = 0
  · simp [c]
  · simp [c, encE]
def sndI : D → Int
  | .tuple [_, .int i] => i
  | _ => 0
def degD : D → Int
  | .tuple xs => (xs.map sndI).sum
  | _ => 0
def kapD : D → D
  | .tuple [k, _] => .tuple [.int (-(degD k)), k]
  | _ => .none
theorem degD_enc (m : Mon) : degD (encM m) = deg m := by
  show ((m.map enc).map sndI).sum = (m.map (·.2)).sum
  rw [List.map_map]
  rfl
theorem kap_enc (e : Mon × Int) : kapD (encE e) = ordK e.1 := by
  show PyData.tuple [.int (-(degD (encM e.1))), encM e.1] = ordK e.1
  rw [degD_enc]
  rfl
theorem alike_z (a b : Int × Int) : PySem.W.alike (enc a) (enc b) = true := rfl
theorem alikes : ∀ a b : Mon, PySem.W.alikeAll (a.map enc) (b.map enc) = true
  | [], _ => by rw [List.map_nil]; unfold PySem.W.alikeAll; rfl
  | _ :: _, [] => rfl
  | x :: a, y :: b => by
    show (PySem.W.alike (enc x) (enc y) && PySem.W.alikeAll (a.map enc) (b.map enc)) = true
    rw [alikes a b]
    rfl
theorem alike_M (a b : Mon) : PySem.W.alike (encM a) (encM b) = true := alikes a b
theorem alike_K (a b : Mon) : PySem.W.alike (ordK a) (ordK b) = true := by
  show (PySem.W.alike (.int (-(deg a))) (.int (-(deg b))) && (PySem.W.alike (encM a) (encM b) && true)) = true
  rw [alike_M]
  rfl
theorem noD_K (m : Mon) : noD (ordK m) = true := by
  show (true && (noD (encM m) && true)) = true
  rw [noD_M]
  rfl
theorem depth_K (m : Mon) : (ordK m).depth ≤ 64 := by
  have := depth_M m
  show max 0 (max (PyData.depth (encM m)) 0) + 1 ≤ 64
  omega
theorem srtOk_K (ms : List Mon) : SrtOk (ms.map ordK) := by
  refine ⟨fun d hd d' hd' => ?_, .inl fun d hd => ?_, fun d hd => ?_⟩
  · obtain ⟨a, _, rfl⟩ := List.mem_map.mp hd
    obtain ⟨b, _, rfl⟩ := List.mem_map.mp hd'
    exact alike_K a b
  · obtain ⟨a, _, rfl⟩ := List.mem_map.mp hd
    exact ⟨_, _, rfl⟩
  · obtain ⟨a, _, rfl⟩ := List.mem_map.mp hd
    exact ⟨noD_K a, depth_K a⟩
theorem listed_enc (t : Tab) : ((t.filter nz).map encE).mergeSort (PySem.W.dataLe false kapD) = (listed t).map encE := by
  unfold listed
  rw [List.map_mergeSort]
  intro a _ b _
  show leK a.1 b.1 = !(PySem.W.dataLt (kapD (encE b)) (kapD (encE a)))
  rw [kap_enc, kap_enc]
  rfl

theorem body_from_table {P : Program} {w : World} {K : PySem.W.Frag} {mg : Str → Option Value} {base : Heap} (z_sorted : mg "sorted" = none) (C_order_key : Cal P w K mg base "order_key" 2 (spD ⟨K, P, w⟩ p_order_key)) :
  Body P w K mg base N_from_table "from_table" st_from_table 4 fun ts => ∀ ds R, p_from_table ds R → ts { nx := fun _ => R .none, rt := fun d _ => R d } (startD N_from_table ds) := fun f cdv A outer s H E hr => by
  refine ⟨_, (qss_one (qs_ret (qe_fr (f_sortK C_order_key (hr.mono (by decide)) (by rfl) z_sorted (by rfl) (qe_fr (qf_lc1 1 (by rfl) sc_from_table.nd (qi_keyN (qe_var 0)) (blkOk_by (own := [("monomial", 1)]) (N := N_from_table) (sc := defScope st_from_table) (by decide +kernel)) (fun _ _ _ _ _ => pg_name (i := 1) sc_from_table.nd rfl (by first | exact Or.inl rfl | exact Or.inr rfl)) (fun _ _ _ _ _ => (qts_one (t_ne hr.units (q_ixN (u16 hr) (qe_var 0) (qe_var 1)) qe_int))) (fun _ _ _ _ _ => (qe_tup (qa_cons (qe_var 1) (qa_cons (q_ixN (u16 hr) (qe_var 0) (qe_var 1)) qa_nil)))))))))), ?_⟩
  intro ds R h
  obtain ⟨t, rfl, ok, h⟩ := h
  have hl := big_le
  have h1 := ok.len
  refine lc_fm ((encT t).map (·.1)) (entF t) (fun K h => ⟨encT t, rfl, isND_enc t, h⟩) (sh1 (by exact trivial)) (by rw [List.length_map, encT_len]; omega) ?_ ?_
  · intro d hd Y Z hY hZ
    rw [encT_keys] at hd
    obtain ⟨e, he, rfl⟩ := List.mem_map.mp hd
    have g := getN_some (tget_mem ok.nd he)
    refine ⟨trivial, encT t, .int e.2, rfl, keyOk _, g, _, rfl, fun hb => ⟨encT t, .int e.2, rfl, keyOk _, g, sl2, ?_⟩, fun hb => ?_⟩
    · refine hY _ _ ?_ ?_ rfl
      · unfold entF
        rw [g]
        have hb' : (!(e.2 == 0)) = true := hb
        have : e.2 ≠ 0 := by simpa using hb'
        simp [this]
      · exact sh1 trivial
    · refine hZ _ ?_ ?_ rfl
      · unfold entF
        rw [g]
        have hb' : (!(e.2 == 0)) = false := hb
        have : e.2 = 0 := by simpa using hb'
        simp [this]
      · exact sh1 trivial
  · rw [ent_fm ok.nd]
    refine ⟨kapD, _, rfl, fun x hx => ?_, ?_, ?_⟩
    · obtain ⟨e, he, rfl⟩ := List.mem_map.mp hx
      exact ⟨e.1, e.2, rfl, ok.mon e (List.mem_filter.mp he).1, (kap_enc e).symm⟩
    · have e : ((t.filter nz).map encE).map kapD = ((t.filter nz).map fun e => e.1).map ordK := by
        rw [List.map_map, List.map_map]
        exact List.map_congr_left fun e _ => kap_enc e
      rw [e]
      exact srtOk_K _
    · rw [listed_enc]
      exact h
theorem ok_from_table {P : Program} {w : World} {K : PySem.W.Frag} {mg : Str → Option Value} {base : Heap} {f : Addr} {fd : FuncData} (F : Fun K "from_table" "from_table" st_from_table f fd) (z_sorted : mg "sorted" = none) (C_order_key : Cal P w K mg base "order_key" 2 (spD ⟨K, P, w⟩ p_order_key)) :
  FnOk P w K mg base CX0 5 f fd ["table"] (spD ⟨K, P, w⟩ p_from_table) := fn_D F sc_from_table len_from_table (body_from_table z_sorted C_order_key)

def p_as_table (ds : List D) (R : D → Prop) : Prop := ∃ t : Tab, ds = [encP t] ∧ TabOk t ∧ R (.dict (encT t))
theorem len_as_table : ∀ ds R, p_as_table ds R → ds.length = (["one"] : List Str).length := fun ds R ⟨_, h, _⟩ => by rw [h]; rfl
theorem tget_none {t : Tab} {m : Mon} (h : ∀ e ∈ t, e.1 ≠ m) : tget t m = none := by
  unfold tget
  rw [Option.map_eq_none_iff, List.find?_eq_none]
  intro e he
  simpa using h e he
theorem tput_new {t : Tab} {m : Mon} {c : Int} (h : tget t m = none) : tput t m c = t ++ [(m, c)] := by
  unfold tput
  rw [h]
  exact if_neg (by decide)
theorem take_one {α : Type} {t : List α} {i : Nat} {e : α} (h : t[i]? = some e) : t.take (i + 1) = t.take i ++ [e] := by rw [List.take_add_one, h]; rfl
theorem tput_take {t : Tab} {i : Nat} {e : Mon × Int} (hn : Nd t) (h : t[i]? = some e) : tput (t.take i) e.1 e.2 = t.take (i + 1) := by
  rw [take_one h, tput_new]
  refine tget_none fun f hf z => ?_
  have hs : Nd (t.take (i + 1)) := by
    unfold Nd at hn ⊢
    rw [List.map_take]
    exact hn.sublist (List.take_sublist _ _)
  unfold Nd at hs
  rw [take_one h, List.map_append, List.nodup_append] at hs
  exact hs.2.2 f.1 (List.mem_map.mpr ⟨f, hf, rfl⟩) e.1 (by simp) z

theorem body_as_table {P : Program} {w : World} {K : PySem.W.Frag} {mg : Str → Option Value} {base : Heap}  :
  Body P w K mg base N_as_table "as_table" st_as_table 0 fun ts => ∀ ds R, p_as_table ds R → ts { nx := fun _ => R .none, rt := fun d _ => R d } (startD N_as_table ds) := fun f cdv A outer s H E hr => by
  refine ⟨_, (qss_cons (qs_ownN 1 sc_as_table.nd qn_empN)
 (qss_cons (qs_for PassesOwn.never (by rfl) (qi_list (qe_var 0)) (qg_tup (by rfl) (qgs_cons (qg_name 2 sc_as_table.nd) (qgs_cons (qg_name 3 sc_as_table.nd) qgs_nil)))
 (qss_one (qs_putN 1 (u16 hr) (qe_var 3) (qe_var 2))))
 (qss_fzD 1 (qss_one (qs_ret (qe_var 1)))))), ?_⟩
  intro ds R h
  obtain ⟨t, rfl, ok, h⟩ := h
  have hl := big_le
  have h1 := ok.len
  refine ⟨trivial, fun i ρ => ∃ s2 s3 : Sl, ρ = [.sh (encP t), .od (.nd (encT (t.take i))), s2, s3] ∧ nio s2 ∧ nio s3, ⟨.no, .no, rfl, trivial, trivial⟩, ?_, ?_⟩
  · rintro i d ρ hi ⟨s2, s3, rfl, k2, k3⟩
    obtain ⟨e, he, rfl⟩ := map_at hi
    refine ⟨rfl, k2, k3, rfl, ⟨_, rfl⟩, _, rfl, keyOk _, ?_, .sh (encM e.1), .sh (.int e.2), ?_, trivial, trivial⟩
    · rw [encT_len, List.length_take]; omega
    · show [Sl.sh (encP t), .od (.nd (putN (encT (t.take i)) (encM e.1) (.int e.2))), .sh (encM e.1), .sh (.int e.2)] = _
      rw [putN_enc, tput_take ok.nd he]
  · rintro ρ ⟨s2, s3, rfl, k2, k3⟩
    show R (.dict (encT (t.take (t.map encE).length)))
    rw [List.length_map, List.take_length]
    exact h
theorem ok_as_table {P : Program} {w : World} {K : PySem.W.Frag} {mg : Str → Option Value} {base : Heap} {f : Addr} {fd : FuncData} (F : Fun K "as_table" "as_table" st_as_table f fd)  :
  FnOk P w K mg base CX0 1 f fd ["one"] (spD ⟨K, P, w⟩ p_as_table) := fn_D F sc_as_table len_as_table (body_as_table )

def tadd (t : Tab) (m : Mon) (c : Int) : Tab := tput t m ((tget t m).getD 0 + c)
def gath (ps : Tab) : Tab := ps.foldl (fun t e => tadd t e.1 e.2) []
def p_gathered (ds : List D) (R : D → Prop) : Prop := ∃ t : Tab, ds = [encP t] ∧ t.length ≤ 1000 ∧ (∀ e ∈ t, e.1.length ≤ 1000) ∧ R (encP (listed (gath t)))
theorem len_gathered : ∀ ds R, p_gathered ds R → ds.length = (["pairs"] : List Str).length := fun ds R ⟨_, h, _⟩ => by rw [h]; rfl
theorem tput_len (t : Tab) (m : Mon) (c : Int) : (tput t m c).length ≤ t.length + 1 := by
  unfold tput
  split <;> simp
theorem tput_keys (t : Tab) (m : Mon) (c : Int) : ∀ e ∈ tput t m c, (∃ f ∈ t, f.1 = e.1) ∨ e.1 = m := fun e he => by
  unfold tput at he
  split at he
  · obtain ⟨f, hf, rfl⟩ := List.mem_map.mp he
    refine .inl ⟨f, hf, ?_⟩
    split <;> rfl
  · rcases List.mem_append.mp he with h | h
    · exact .inl ⟨e, h, rfl⟩
    · exact .inr (by rw [List.mem_singleton.mp h])
theorem tget_some {t : Tab} {m : Mon} {c : Int} (h : tget t m = some c) : ∃ e ∈ t, e.1 = m ∧ e.2 = c := by
  unfold tget at h
  obtain ⟨e, h1, h2⟩ := Option.map_eq_some_iff.mp h
  exact ⟨e, List.mem_of_find?_eq_some h1, by simpa using List.find?_some h1, h2⟩
theorem tput_nd {t : Tab} (m : Mon) (c : Int) (h : Nd t) : Nd (tput t m c) := by
  unfold tput
  by_cases q : (tget t m).isSome = true
  · rw [if_pos q]
    unfold Nd at h ⊢
    rw [List.map_map]
    have e : ((fun e : Mon × Int => e.1) ∘ fun e : Mon × Int => if e.1 = m then (e.1, c) else e) = fun e => e.1 := by
      funext e
      simp only [Function.comp]
      split <;> rfl
    rw [e]
    exact h
  · rw [if_neg q]
    unfold Nd at h ⊢
    rw [List.map_append, List.nodup_append]
    refine ⟨h, by simp, fun x hx y hy z => q ?_⟩
    simp at hy
    obtain ⟨e, he, rfl⟩ := List.mem_map.mp hx
    have g := tget_mem h he
    rw [z, hy] at g
    rw [g]
    rfl
theorem tadd_ok {t : Tab} {m : Mon} {c : Int} {n : Nat} (h : Nd t ∧ t.length ≤ n ∧ ∀ e ∈ t, e.1.length ≤ 1000) (hm : m.length ≤ 1000) : Nd (tadd t m c) ∧ (tadd t m c).length ≤ n + 1 ∧ ∀ e ∈ tadd t m c, e.1.length ≤ 1000 := by
  refine ⟨tput_nd _ _ h.1, Nat.le_trans (tput_len _ _ _) (by omega), fun e he => ?_⟩
  rcases tput_keys _ _ _ e he with ⟨f, hf, q⟩ | q
  · rw [← q]; exact h.2.2 f hf
  · rw [q]; exact hm
theorem gath_snoc (ps : Tab) (e : Mon × Int) : gath (ps ++ [e]) = tadd (gath ps) e.1 e.2 := by unfold gath; rw [List.foldl_append]; rfl
theorem gath_take {ps : Tab} (hm : ∀ e ∈ ps, e.1.length ≤ 1000) : ∀ i, i ≤ ps.length → Nd (gath (ps.take i)) ∧ (gath (ps.take i)).length ≤ i ∧ ∀ e ∈ gath (ps.take i), e.1.length ≤ 1000
  | 0, _ => ⟨List.nodup_nil, Nat.le_refl 0, fun e h => nomatch h⟩
  | i + 1, hi => by
    obtain ⟨e, he⟩ : ∃ e, ps[i]? = some e := ⟨_, List.getElem?_eq_getElem (by omega)⟩
    rw [take_one he, gath_snoc]
    exact tadd_ok (gath_take hm i (by omega)) (hm e (List.mem_of_getElem? he))


/-! is_monomial, is_poly -/
def ascB : List Int → Bool
  | a :: b :: r => decide (a < b) && ascB (b :: r)
  | _ => true
/-- a monomial -/
def isMon (m : Mon) : Bool := ascB (m.map (·.1)) && m.all fun z => decide (0 ≤ z.1) && decide (1 ≤ z.2)
/-- the places at which le says that the next one isn't greater -/
def badAt {α : Type} (lt : α → α → Bool) : List α → Bool
  | a :: b :: r => !lt a b || badAt lt (b :: r)
  | _ => false
theorem asc_bad : ∀ l : List Int, ascB l = !badAt (fun a b => decide (a < b)) l
  | [] => rfl
  | [_] => rfl
  | a :: b :: r => by
    show (decide (a < b) && ascB (b :: r)) = !(!decide (a < b) || badAt _ (b :: r))
    rw [asc_bad (b :: r)]
    cases decide (a < b) <;> rfl
theorem bad_get {α : Type} (lt : α → α → Bool) : ∀ l : List α, badAt lt l = true ↔ ∃ i a b, l[i]? = some a ∧ l[i + 1]? = some b ∧ lt a b = false
  | [] => by simp [badAt]
  | [x] => by
    constructor
    · intro h
      cases h
    · rintro ⟨i, a, b, _, h, _⟩
      simp at h
  | x :: y :: r => by
    have ih := bad_get lt (y :: r)
    show (!lt x y || badAt lt (y :: r)) = true ↔ _
    rw [Bool.or_eq_true, ih]
    constructor
    · rintro (h | ⟨i, a, b, h1, h2, h3⟩)
      · exact ⟨0, x, y, rfl, rfl, by simpa using h⟩
      · exact ⟨i + 1, a, b, by simpa using h1, by simpa using h2, h3⟩
    · rintro ⟨i, a, b, h1, h2, h3⟩
      cases i with
      | zero =>
        simp at h1 h2
        subst h1 h2
        exact .inl (by simpa using h3)
      | succ i => exact .inr ⟨i, a, b, by simpa using h1, by simpa using h2, h3⟩
def p_is_monomial (ds : List D) (R : D → Prop) : Prop := ∃ m : Mon, ds = [encM m] ∧ m.length ≤ 1000 ∧ R (.bool (isMon m))
theorem len_is_monomial : ∀ ds R, p_is_monomial ds R → ds.length = (["monomial"] : List Str).length := fun ds R ⟨_, h, _⟩ => by rw [h]; rfl
/-- the filter of places k from 1 on whose item isn't greater than the one ahead -/
def badF (xs : List D) (lt : D → D → Bool) (d : D) : Option D := match d with
  | .int k => match xs[k.toNat]?, xs[k.toNat - 1]? with
    | some a, some b => if lt b a = true then none else some d
    | _, _ => none
  | _ => none
theorem bad_fm (xs : List D) (lt : D → D → Bool) : ((rgD 1 (((xs.length : Nat) : Int) - 1).toNat).filterMap (badF xs lt)).isEmpty = !badAt lt xs := by
  have key : ((rgD 1 (((xs.length : Nat) : Int) - 1).toNat).filterMap (badF xs lt)) = [] ↔ ¬ badAt lt xs = true := by
    rw [List.filterMap_eq_nil_iff, bad_get]
    constructor
    · rintro h ⟨i, a, b, h1, h2, h3⟩
      have hl : i + 1 < xs.length := (List.getElem?_eq_some_iff.mp h2).1
      have hm : PyData.int (1 + (i : Int)) ∈ rgD 1 (((xs.length : Nat) : Int) - 1).toNat := List.mem_of_getElem? (rgD_get (by omega))
      have q := h _ hm
      unfold badF at q
      have e1 : (1 + (i : Int)).toNat = i + 1 := by omega
      simp only [e1, Nat.add_sub_cancel, h2, h1, h3] at q
      simp at q
    · intro h d hd
      obtain ⟨k, hk⟩ := List.mem_iff_getElem?.mp hd
      obtain ⟨hk', rfl⟩ := rgD_at hk
      unfold badF
      have e1 : (1 + (k : Int)).toNat = k + 1 := by omega
      simp only [e1, Nat.add_sub_cancel]
      cases q1 : xs[k + 1]? with
      | none => rfl
      | some a =>
        cases q2 : xs[k]? with
        | none => rfl
        | some b =>
          by_cases z : lt b a = true
          · simp [z]
          · exact absurd ⟨k, b, a, q2, q1, by simpa using z⟩ h
  cases q : badAt lt xs with
  | true =>
    cases w : ((rgD 1 (((xs.length : Nat) : Int) - 1).toNat).filterMap (badF xs lt)) with
    | nil => exact absurd q (key.mp w)
    | cons _ _ => rfl
  | false =>
    rw [key.mpr (by rw [q]; decide)]
    rfl
def ltI (a b : D) : Bool := match a, b with
  | .int i, .int j => decide (i < j)
  | _, _ => false
theorem bad_int (l : List Int) : badAt ltI (l.map PyData.int) = badAt (fun a b => decide (a < b)) l := by
  induction l with
  | nil => rfl
  | cons a l ih => cases l with
    | nil => rfl
    | cons b r => exact congrArg (!decide (a < b) || ·) ih
theorem canLay_ints (l : List Int) : PyData.canLayAll0 (l.map PyData.int) = true := by
  induction l with
  | nil => rfl
  | cons z m ih => exact ih
theorem depthA_ints (l : List Int) : PyData.depthAll (l.map PyData.int) ≤ 0 := by
  induction l with
  | nil => exact Nat.le_refl 0
  | cons z m ih => exact Nat.max_le.mpr ⟨Nat.le_refl 0, ih⟩
theorem shaped_nil : SeqAt.shaped (.list []) = true := rfl
theorem mem_rgD {lo : Int} {n : Nat} {d : D} (h : d ∈ rgD lo n) : ∃ i : Nat, i < n ∧ d = .int (lo + (i : Int)) := by
  obtain ⟨k, hk⟩ := List.mem_iff_getElem?.mp h
  obtain ⟨h1, h2⟩ := rgD_at hk
  exact ⟨k, h1, h2⟩
theorem shaped_list {ds : List D} {n : Nat} (h1 : PyData.canLayAll0 ds = true) (h2 : PyData.depthAll ds ≤ n) (h3 : n ≤ 60) : SeqAt.shaped (.list ds) = true := by
  unfold SeqAt.shaped
  rw [Bool.and_eq_true]
  exact ⟨h1, decide_eq_true (by show PyData.depthAll ds + 1 ≤ 64; omega)⟩
theorem canLay_sub {ds es : List D} (h : PyData.canLayAll0 ds = true) (s : ∀ e ∈ es, e ∈ ds) : PyData.canLayAll0 es = true := by
  have one : ∀ {ds : List D} {e : D}, PyData.canLayAll0 ds = true → e ∈ ds → PyData.canLay0 e = true := fun {ds e} h he => PyData.canLay0_of_mem ds e h he
  induction es with
  | nil => rfl
  | cons e es ih =>
    show (PyData.canLay0 e && PyData.canLayAll0 es) = true
    rw [one h (s e List.mem_cons_self), ih fun x hx => s x (List.mem_cons_of_mem _ hx)]
    rfl
theorem depth_mem : ∀ {ds : List D} {e : D}, e ∈ ds → e.depth ≤ PyData.depthAll ds
  | d :: ds, e, h => by
    show e.depth ≤ max d.depth (PyData.depthAll ds)
    rcases List.mem_cons.mp h with rfl | h
    · exact Nat.le_max_left _ _
    · exact Nat.le_trans (depth_mem h) (Nat.le_max_right _ _)
theorem depthA_sub {ds es : List D} (s : ∀ e ∈ es, e ∈ ds) : PyData.depthAll es ≤ PyData.depthAll ds := by
  induction es with
  | nil => exact Nat.zero_le _
  | cons e es ih => exact Nat.max_le.mpr ⟨depth_mem (s e List.mem_cons_self), ih fun x hx => s x (List.mem_cons_of_mem _ hx)⟩
theorem canLay_rg (lo : Int) (n : Nat) : PyData.canLayAll0 (rgD lo n) = true := by
  have e : rgD lo n = ((List.range n).map fun (k : Nat) => lo + (k : Int)).map PyData.int := by unfold rgD; rw [List.map_map]; rfl
  rw [e]
  exact canLay_ints _
theorem depthA_rg (lo : Int) (n : Nat) : PyData.depthAll (rgD lo n) ≤ 0 := by
  have e : rgD lo n = ((List.range n).map fun (k : Nat) => lo + (k : Int)).map PyData.int := by unfold rgD; rw [List.map_map]; rfl
  rw [e]
  exact depthA_ints _
theorem fm_mem {f : D → Option D} (hf : ∀ d z, f d = some z → z = d) {ds : List D} : ∀ e ∈ ds.filterMap f, e ∈ ds := fun e he => by
  obtain ⟨d, h1, h2⟩ := List.mem_filterMap.mp he
  rw [hf d e h2]
  exact h1
theorem badF_self (xs : List D) (lt : D → D → Bool) : ∀ d z, badF xs lt d = some z → z = d := fun d z h => by
  unfold badF at h
  split at h
  · split at h
    · split at h
      · cases h
      · exact (Option.some.inj h).symm
    · cases h
  · cases h
theorem shaped_bad (xs : List D) (lt : D → D → Bool) (n : Nat) : SeqAt.shaped (.list ((rgD 1 n).filterMap (badF xs lt))) = true :=
  shaped_list (n := 0) (canLay_sub (canLay_rg 1 n) (fm_mem (badF_self xs lt))) (Nat.le_trans (depthA_sub (fm_mem (badF_self xs lt))) (depthA_rg 1 n)) (by omega)
/-- the pairs with a bad letter or exponent -/
def wrongZ (d : D) : Option D := match d with
  | .tuple [.int a, .int b] => if a < 0 ∨ b < 1 then some d else none
  | _ => none
theorem wrongZ_self : ∀ d z, wrongZ d = some z → z = d := fun d z h => by
  unfold wrongZ at h
  split at h
  · split at h
    · exact (Option.some.inj h).symm
    · cases h
  · cases h
theorem wrongZ_fm (m : Mon) : ((m.map enc).filterMap wrongZ).isEmpty = m.all fun z => decide (0 ≤ z.1) && decide (1 ≤ z.2) := by
  induction m with
  | nil => rfl
  | cons z m ih =>
    have e : wrongZ (enc z) = if z.1 < 0 ∨ z.2 < 1 then some (enc z) else none := rfl
    rw [List.map_cons, List.filterMap_cons, List.all_cons, e]
    by_cases c : z.1 < 0 ∨ z.2 < 1
    · rw [if_pos c]
      have : (decide (0 ≤ z.1) && decide (1 ≤ z.2)) = false := by
        rw [Bool.and_eq_false_iff]
        rcases c with c | c
        · exact .inl (by simpa using c)
        · exact .inr (by simpa using c)
      rw [this]
      rfl
    · rw [if_neg c]
      have : (decide (0 ≤ z.1) && decide (1 ≤ z.2)) = true := by
        rw [Bool.and_eq_true]
        exact ⟨by simp; omega, by simp; omega⟩
      rw [this, Bool.true_and]
      exact ih


/-- the keys of a polynomial's terms -/
def ltD (a b : D) : Bool := PySem.W.dataLt a b
def isPoly (t : Tab) : Bool := (t.all fun e => decide (e.2 ≠ 0) && isMon e.1) && !badAt ltD (t.map fun e => ordK e.1)
def p_is_poly (ds : List D) (R : D → Prop) : Prop := ∃ t : Tab, ds = [encP t] ∧ t.length ≤ 100000 ∧ (∀ e ∈ t, e.1.length ≤ 1000) ∧ R (.bool (isPoly t))
theorem len_is_poly : ∀ ds R, p_is_poly ds R → ds.length = (["pairs"] : List Str).length := fun ds R ⟨_, h, _⟩ => by rw [h]; rfl
theorem fm_isEmpty {α : Type} {g : α → D} {f : D → Option D} {p : α → Bool} : ∀ {t : List α}, (∀ e ∈ t, f (g e) = if p e = true then none else some (g e)) → ((t.map g).filterMap f).isEmpty = t.all p
  | [], _ => rfl
  | e :: t, q => by
    have q0 := q e List.mem_cons_self
    rw [List.map_cons, List.filterMap_cons, List.all_cons]
    by_cases c : p e = true
    · rw [q0, if_pos c, c, Bool.true_and]
      exact fm_isEmpty fun x hx => q x (List.mem_cons_of_mem _ hx)
    · rw [q0, if_neg c]
      have c' : p e = false := by simpa using c
      rw [c']
      rfl
def monOf (z : D) : Int × Int := match z with
  | .tuple [.int a, .int b] => (a, b)
  | _ => (0, 0)
def badE (d : D) : Option D := match d with
  | .tuple [.tuple xs, .int c] => if c ≠ 0 ∧ isMon (xs.map monOf) = true then none else some d
  | _ => none
theorem mon_enc (m : Mon) : (m.map enc).map monOf = m := by
  rw [List.map_map]
  exact (List.map_congr_left fun z _ => rfl).trans (List.map_id m)
theorem badE_enc (e : Mon × Int) : badE (encE e) = if (decide (e.2 ≠ 0) && isMon e.1) = true then none else some (encE e) := by
  show (if e.2 ≠ 0 ∧ isMon ((e.1.map enc).map monOf) = true then none else some (encE e)) = _
  rw [mon_enc]
  simp only [Bool.and_eq_true, decide_eq_true_eq]
theorem badE_self : ∀ d z, badE d = some z → z = d := fun d z h => by
  unfold badE at h
  split at h
  · split at h
    · cases h
    · exact (Option.some.inj h).symm
  · cases h
def keyF (d : D) : Option D := some (kapD d)
theorem keys_fm (t : Tab) : (t.map encE).filterMap keyF = t.map fun e => ordK e.1 := by
  induction t with
  | nil => rfl
  | cons e t ih =>
    rw [List.map_cons, List.filterMap_cons, List.map_cons, ← ih]
    show kapD (encE e) :: _ = _
    rw [kap_enc]
theorem lt_self_K (m : Mon) : True := trivial


def p_letter (ds : List D) (R : D → Prop) : Prop := ∃ i : Int, ds = [.int i] ∧ R (encP [([(i, 1)], 1)])
theorem len_letter : ∀ ds R, p_letter ds R → ds.length = (["number"] : List Str).length := fun ds R ⟨_, h, _⟩ => by rw [h]; rfl
def p_constant (ds : List D) (R : D → Prop) : Prop := ∃ i : Int, ds = [.int i] ∧ R (encP (if i = 0 then [] else [([], i)]))
theorem len_constant : ∀ ds R, p_constant ds R → ds.length = (["number"] : List Str).length := fun ds R ⟨_, h, _⟩ => by rw [h]; rfl


/-! monomial_product -/
def mprod : Mon → Mon → Mon
  | [], b => b
  | a, [] => a
  | x :: a, y :: b => if x.1 = y.1 then (x.1, x.2 + y.2) :: mprod a b else if x.1 < y.1 then x :: mprod a (y :: b) else y :: mprod (x :: a) b
termination_by a b => a.length + b.length
theorem mprod_nil (a : Mon) : mprod a [] = a := by
  cases a <;> simp [mprod]
theorem nil_mprod (a : Mon) : mprod [] a = a := by simp [mprod]
theorem mprod_cons (x y : Int × Int) (a b : Mon) : mprod (x :: a) (y :: b) = if x.1 = y.1 then (x.1, x.2 + y.2) :: mprod a b else if x.1 < y.1 then x :: mprod a (y :: b) else y :: mprod (x :: a) b := by rw [mprod]
theorem mprod_len : ∀ a b : Mon, (mprod a b).length ≤ a.length + b.length
  | [], b => by rw [nil_mprod]; simp
  | x :: a, [] => by rw [mprod_nil]; simp
  | x :: a, y :: b => by
    have h1 := mprod_len a b
    have h2 := mprod_len a (y :: b)
    have h3 := mprod_len (x :: a) b
    rw [mprod_cons]
    simp only [List.length_cons] at h2 h3 ⊢
    split
    · simp only [List.length_cons]; omega
    · split
      · simp only [List.length_cons]; omega
      · simp only [List.length_cons]; omega
termination_by a b => a.length + b.length
def p_monomial_product (ds : List D) (R : D → Prop) : Prop := ∃ a b : Mon, ds = [encM a, encM b] ∧ a.length ≤ 1000 ∧ b.length ≤ 1000 ∧ R (encM (mprod a b))
theorem len_monomial_product : ∀ ds R, p_monomial_product ds R → ds.length = (["one", "two"] : List Str).length := fun ds R ⟨_, _, h, _⟩ => by rw [h]; rfl
theorem nilM (a : Mon) : PyData.eqv (encM a) (.tuple []) = a.isEmpty := by
  cases a <;> rfl
theorem atM {a : Mon} {i : Nat} (h : i < a.length) : atI (a.map enc) (i : Int) = some (enc a[i]) := by rw [atI_nat, List.getElem?_map, List.getElem?_eq_getElem h]; rfl
theorem drop_at {α : Type} {a : List α} {i : Nat} (h : i < a.length) : a.drop i = a[i] :: a.drop (i + 1) := List.drop_eq_getElem_cons h


/-! table_sum, table_product -/
def tstep (f : Int) (t : Tab) (e : Mon × Int) : Tab := if (tget t e.1).getD 0 + f * e.2 = 0 then tdrop t e.1 else tput t e.1 ((tget t e.1).getD 0 + f * e.2)
def tsum (a b : Tab) (f : Int) : Tab := b.foldl (tstep f) a
/-- the keys may be copied -/
def HashOk (t : Tab) : Prop := hOk (encT t)
/-- bounds for products -/
def Sm (c : Int) : Prop := c.natAbs.log2 < 100000
def p_table_sum (ds : List D) (R : D → Prop) : Prop := ∃ (a b : Tab) (f : Int), ds = [.dict (encT a), .dict (encT b), .int f] ∧ TabOk a ∧ TabOk b ∧ a.length ≤ 1000 ∧ b.length ≤ 1000 ∧ HashOk a ∧ -100 < f ∧ f < 100 ∧ R (.dict (encT (tsum a b f)))
theorem len_table_sum : ∀ ds R, p_table_sum ds R → ds.length = (["one", "two", "factor"] : List Str).length := fun ds R ⟨_, _, _, h, _⟩ => by rw [h]; rfl
theorem tdrop_len (t : Tab) (m : Mon) : (tdrop t m).length ≤ t.length := List.length_filter_le _ _
theorem tdrop_nd {t : Tab} (m : Mon) (h : Nd t) : Nd (tdrop t m) := by
  unfold Nd tdrop at *
  exact h.sublist (List.Sublist.map _ List.filter_sublist)
def GoodT (n : Nat) (t : Tab) : Prop := Nd t ∧ t.length ≤ n ∧ ∀ e ∈ t, e.1.length ≤ 1000
theorem tstep_ok {f : Int} {t : Tab} {e : Mon × Int} {n : Nat} (h : GoodT n t) (hm : e.1.length ≤ 1000) : GoodT (n + 1) (tstep f t e) := by
  unfold tstep
  split
  · exact ⟨tdrop_nd _ h.1, Nat.le_trans (tdrop_len _ _) (Nat.le_succ_of_le h.2.1), fun x hx => h.2.2 x (List.mem_filter.mp hx).1⟩
  · refine ⟨tput_nd _ _ h.1, Nat.le_trans (tput_len _ _ _) (by have := h.2.1; omega), fun x hx => ?_⟩
    rcases tput_keys _ _ _ x hx with ⟨g, hg, q⟩ | q
    · rw [← q]; exact h.2.2 g hg
    · rw [q]; exact hm
theorem tsum_take {a b : Tab} {f : Int} (ha : TabOk a) (hb : TabOk b) : ∀ i, i ≤ b.length → GoodT (a.length + i) (tsum a (b.take i) f)
  | 0, _ => ⟨ha.nd, Nat.le_refl _, ha.mon⟩
  | i + 1, hi => by
    obtain ⟨e, he⟩ : ∃ e, b[i]? = some e := ⟨_, List.getElem?_eq_getElem (by omega)⟩
    have q : tsum a (b.take (i + 1)) f = tstep f (tsum a (b.take i) f) e := by
      unfold tsum
      rw [take_one he, List.foldl_append]
      rfl
    rw [q]
    exact tstep_ok (tsum_take ha hb i (by omega)) (hb.mon e (List.mem_of_getElem? he))
theorem tsum_snoc {a b : Tab} {f : Int} {i : Nat} {e : Mon × Int} (he : b[i]? = some e) : tsum a (b.take (i + 1)) f = tstep f (tsum a (b.take i) f) e := by
  unfold tsum
  rw [take_one he, List.foldl_append]
  rfl


def MB (n : Nat) (t : Tab) : Prop := ∀ e ∈ t, e.1.length ≤ n
def trow (b : Tab) (t : Tab) (e : Mon × Int) : Tab := b.foldl (fun t g => tadd t (mprod e.1 g.1) (e.2 * g.2)) t
def tprod0 (a b : Tab) : Tab := a.foldl (trow b) []
def tprod1 (a b : Tab) : Tab := if a.length > b.length then tprod0 b a else tprod0 a b
def tprod (a b : Tab) : Tab := (tprod1 a b).filter nz
theorem sm_mul {i j : Int} (h : Sm i) (k : Sm j) : CMulA i j := .inr (show i.natAbs.log2 + j.natAbs.log2 < 1000000 from by unfold Sm at h k; omega)
def p_table_product (ds : List D) (R : D → Prop) : Prop := ∃ a b : Tab, ds = [.dict (encT a), .dict (encT b)] ∧ TabOk a ∧ TabOk b ∧ MB 100 a ∧ MB 100 b ∧ a.length * b.length ≤ 50000 ∧ (∀ e ∈ a, Sm e.2) ∧ (∀ e ∈ b, Sm e.2) ∧ R (.dict (encT (tprod a b)))
theorem len_table_product : ∀ ds R, p_table_product ds R → ds.length = (["one", "two"] : List Str).length := fun ds R ⟨_, _, h, _⟩ => by rw [h]; rfl
theorem trow_snoc {b : Tab} {t : Tab} {e g : Mon × Int} {j : Nat} (h : b[j]? = some g) : trow (b.take (j + 1)) t e = tadd (trow (b.take j) t e) (mprod e.1 g.1) (e.2 * g.2) := by
  unfold trow
  rw [take_one h, List.foldl_append]
  rfl
theorem tprod0_snoc {a b : Tab} {e : Mon × Int} {i : Nat} (h : a[i]? = some e) : tprod0 (a.take (i + 1)) b = trow b (tprod0 (a.take i) b) e := by
  unfold tprod0
  rw [take_one h, List.foldl_append]
  rfl
theorem trow_ok {b : Tab} {t : Tab} {e : Mon × Int} {n : Nat} (ht : GoodT n t) (hb : MB 100 b) (he : e.1.length ≤ 100) : ∀ j, j ≤ b.length → GoodT (n + j) (trow (b.take j) t e)
  | 0, _ => ht
  | j + 1, hj => by
    obtain ⟨g, hg⟩ : ∃ g, b[j]? = some g := ⟨_, List.getElem?_eq_getElem (by omega)⟩
    rw [trow_snoc hg]
    have h1 := mprod_len e.1 g.1
    have h2 := hb g (List.mem_of_getElem? hg)
    exact tadd_ok (trow_ok ht hb he j (by omega)) (by omega)
theorem tprod0_ok {a b : Tab} (ha : MB 100 a) (hb : MB 100 b) : ∀ i, i ≤ a.length → GoodT (i * b.length) (tprod0 (a.take i) b)
  | 0, _ => ⟨List.nodup_nil, Nat.zero_le _, fun e h => nomatch h⟩
  | i + 1, hi => by
    obtain ⟨e, he⟩ : ∃ e, a[i]? = some e := ⟨_, List.getElem?_eq_getElem (by omega)⟩
    rw [tprod0_snoc he]
    have q := trow_ok (tprod0_ok ha hb i (by omega)) hb (ha e (List.mem_of_getElem? he)) b.length (Nat.le_refl _)
    rw [List.take_length] at q
    rw [Nat.succ_mul]
    exact q
def z0 (e : Mon × Int) : Bool := decide (e.2 = 0)
def zeroF (t : Tab) (d : D) : Option D := match getN (encT t) d with
  | some (.int c) => if c = 0 then some d else none
  | _ => none
theorem zero_fm {t : Tab} (h : Nd t) : ((encT t).map (·.1)).filterMap (zeroF t) = ((t.filter z0).map (·.1)).map encM := by
  rw [encT_keys, List.map_map]
  refine fm_filter fun e he => ?_
  unfold zeroF z0
  rw [getN_some (tget_mem h he)]
  by_cases c : e.2 = 0
  · simp [c]
  · simp [c]
theorem noDA_M (ms : List Mon) : noDA (ms.map encM) = true := by
  induction ms with
  | nil => rfl
  | cons m ms ih =>
    show (noD (encM m) && noDA (ms.map encM)) = true
    rw [noD_M, ih]
    rfl
def without (t : Tab) (ks : List Mon) : Tab := t.filter fun e => decide (e.1 ∉ ks)
theorem without_snoc (t : Tab) (ks : List Mon) (k : Mon) : tdrop (without t ks) k = without t (ks ++ [k]) := by
  unfold tdrop without
  rw [List.filter_filter]
  refine List.filter_congr fun e _ => ?_
  rw [← Bool.decide_and]
  refine decide_eq_decide.mpr ?_
  rw [List.mem_append, List.mem_singleton]
  exact ⟨fun ⟨h1, h2⟩ h => h.elim h2 h1, fun h => ⟨fun z => h (.inr z), fun z => h (.inl z)⟩⟩
theorem without_zero {t : Tab} (h : Nd t) : without t ((t.filter z0).map (·.1)) = t.filter nz := by
  unfold without
  refine List.filter_congr fun e he => ?_
  unfold nz
  refine decide_eq_decide.mpr ⟨fun q z => q (List.mem_map.mpr ⟨e, List.mem_filter.mpr ⟨he, decide_eq_true z⟩, rfl⟩), fun q z => ?_⟩
  obtain ⟨g, hg, eg⟩ := List.mem_map.mp z
  obtain ⟨g1, g2⟩ := List.mem_filter.mp hg
  have k1 := tget_mem h he
  have k2 := tget_mem h g1
  rw [eg, k1] at k2
  exact q ((Option.some.inj k2).trans (of_decide_eq_true g2))
theorem plain_nio {s : Sl} (h : plainS s) : nio s := by
  cases s <;> first | trivial | exact h.elim
theorem plain_sh {s : Sl} (h : plainS s) {ρ : Env} {i : Nat} (e : ρ[i]? = some s) : shAt ρ i := by
  unfold shAt
  rw [e]
  cases s <;> first | trivial | exact h.elim
theorem without_nil (t : Tab) : without t [] = t := by
  unfold without
  rw [List.filter_eq_self]
  intro e _
  simp
theorem zero_get {t : Tab} (h : Nd t) {i : Nat} {k : Mon} (hk : ((t.filter z0).map (·.1))[i]? = some k) : (tget (without t (((t.filter z0).map (·.1)).take i)) k).isSome = true := by
  have hs : ((t.filter z0).map (·.1)).Nodup := (show Nd t from h).sublist (List.Sublist.map _ List.filter_sublist)
  have hm := List.mem_of_getElem? hk
  obtain ⟨e, he, rfl⟩ := List.mem_map.mp hm
  have he' := (List.mem_filter.mp he).1
  have hw : e ∈ without t (((t.filter z0).map (·.1)).take i) := by
    refine List.mem_filter.mpr ⟨he', decide_eq_true fun z => ?_⟩
    have hn : (((t.filter z0).map (·.1)).take (i + 1)).Nodup := hs.sublist (List.take_sublist _ _)
    rw [take_one hk, List.nodup_append] at hn
    exact hn.2.2 _ z e.1 (by simp) rfl
  have hwn : Nd (without t (((t.filter z0).map (·.1)).take i)) := (show Nd t from h).sublist (List.Sublist.map _ List.filter_sublist)
  rw [tget_mem hwn hw]
  rfl


def tpRest : DS := dSeq (dOwnN dEmpN 2)
    (dSeq
      (dFor (iKeyN (dVar 0)) (gN 3)
        (dSeq (dAsg (dIxN (dVar 0) (dVar 3)) (gN 4))
          (dFor (iKeyN (dVar 1)) (gN 5)
            (dSeq (dAsg (dCall p_monomial_product (dCons (dVar 3) (dCons (dVar 5) dNil))) (gN 6))
              (dPutN 2 (dOp dAdd (dGet2N 2 (dVar 6) (dC (PyData.int 0))) (dOp dMul (dVar 4) (dIxN (dVar 1) (dVar 5))))
                (dVar 6))))))
      (dSeq
        (dOwn
          (dHold 2
            (dLc (iKeyN (dVar 2)) (gL 3) (dTest (dOp dEq (dIxN (dVar 2) (dVar 3)) (dC (PyData.int 0)))) (dVar 3) [3]))
          7)
        (dFz 7 (dSeq (dFor (iSeq (dVar 7)) (gN 3) (dPop1N 2 (dVar 3))) (dFzD 2 (dRet (dVar 2)))))))
theorem tp_rest {R : D → Prop} {nx : Env → Prop} (a b : Tab) (oa : TabOk a) (ob : TabOk b) (ma : MB 100 a) (mb : MB 100 b) (hlen : a.length * b.length ≤ 50000) (sa : ∀ e ∈ a, Sm e.2) (sb : ∀ e ∈ b, Sm e.2) (h : R (.dict (encT ((tprod0 a b).filter nz)))) :
    tpRest { nx := nx, rt := fun d _ => R d } [.sh (.dict (encT a)), .sh (.dict (encT b)), .no, .no, .no, .no, .no, .no] := by
  have hl := big_le
  refine ⟨trivial, encT a, rfl, isND_enc a, fun i ρ => i ≤ a.length ∧ ∃ s3 s4 s5 s6 : Sl, ρ = [.sh (.dict (encT a)), .sh (.dict (encT b)), .od (.nd (encT (tprod0 (a.take i) b))), s3, s4, s5, s6, .no] ∧ plainS s3 ∧ plainS s4 ∧ plainS s5 ∧ plainS s6, ⟨Nat.zero_le _, .no, .no, .no, .no, rfl, trivial, trivial, trivial, trivial⟩, ?_, ?_⟩
  · rintro i d ρ hi ⟨hia, s3, s4, s5, s6, rfl, k3, k4, k5, k6⟩
    obtain ⟨e, he, rfl⟩ := encT_at hi
    have hil : i < a.length := (List.getElem?_eq_some_iff.mp he).1
    have hem := List.mem_of_getElem? he
    have g0 := tprod0_ok ma mb i hia
    have ge := getN_some (tget_mem oa.nd hem)
    refine ⟨plain_nio k3, encT a, .int e.2, rfl, keyOk _, ge, plain_nio k4, encT b, rfl, isND_enc b, fun j ρ => j ≤ b.length ∧ ∃ s5 s6 : Sl, ρ = [.sh (.dict (encT a)), .sh (.dict (encT b)), .od (.nd (encT (trow (b.take j) (tprod0 (a.take i) b) e))), .sh (encM e.1), .sh (.int e.2), s5, s6, .no] ∧ plainS s5 ∧ plainS s6, ⟨Nat.zero_le _, s5, s6, rfl, k5, k6⟩, ?_, ?_⟩
    · rintro j d ρ hj ⟨hjb, s5, s6, rfl, k5, k6⟩
      obtain ⟨g, hg, rfl⟩ := encT_at hj
      have hjl : j < b.length := (List.getElem?_eq_some_iff.mp hg).1
      have hgm := List.mem_of_getElem? hg
      have g1 := trow_ok g0 mb (ma e hem) j hjb
      have gg := getN_some (tget_mem ob.nd hgm)
      have l1 := ma e hem
      have l2 := mb g hgm
      refine ⟨plain_nio k5, e.1, g.1, rfl, by omega, by omega, plain_nio k6, ⟨_, rfl⟩, _, rfl, keyOk _, ?_⟩
      rw [getN_D]
      refine ⟨encT b, .int g.2, rfl, keyOk _, gg, sm_mul (sa e hem) (sb g hgm), ⟨_, rfl⟩, _, rfl, keyOk _, ?_, hjl, .sh (encM g.1), .sh (encM (mprod e.1 g.1)), ?_, trivial, trivial⟩
      · have h1 : i * b.length + j ≤ 50000 := by
          have : (i + 1) * b.length ≤ a.length * b.length := Nat.mul_le_mul_right _ hil
          rw [Nat.succ_mul] at this
          omega
        have h2 := g1.2.1
        rw [encT_len]; omega
      · rw [trow_snoc hg]
        show [Sl.sh (.dict (encT a)), .sh (.dict (encT b)), .od (.nd (putN (encT (trow (b.take j) (tprod0 (a.take i) b) e)) (encM (mprod e.1 g.1)) (.int ((tget (trow (b.take j) (tprod0 (a.take i) b) e) (mprod e.1 g.1)).getD 0 + e.2 * g.2)))), .sh (encM e.1), .sh (.int e.2), .sh (encM g.1), .sh (encM (mprod e.1 g.1)), .no] = _
        rw [putN_enc]
        rfl
    · rintro ρ ⟨_, s5, s6, rfl, k5, k6⟩
      refine ⟨hil, .sh (encM e.1), .sh (.int e.2), s5, s6, ?_, trivial, trivial, k5, k6⟩
      rw [List.length_map, encT_len, List.take_length, tprod0_snoc he]
  · rintro ρ ⟨_, s3, s4, s5, s6, rfl, k3, k4, k5, k6⟩
    rw [List.length_map, encT_len, List.take_length]
    have g0 := tprod0_ok ma mb a.length (Nat.le_refl _)
    rw [List.take_length] at g0
    have hP := g0.2.1
    dsimp only
    refine seq_go (own_go ?_)
    refine ⟨_, rfl, ?_⟩
    refine lc_fm ((encT (tprod0 a b)).map (·.1)) (zeroF (tprod0 a b)) (fun K h => ⟨encT (tprod0 a b), rfl, isND_enc _, h⟩) (sh1 (plain_sh k3 rfl)) (by rw [List.length_map, encT_len]; omega) ?_ ?_
    · intro d hd Y Z hY hZ
      rw [encT_keys] at hd
      obtain ⟨e, he, rfl⟩ := List.mem_map.mp hd
      have g := getN_some (tget_mem g0.1 he)
      refine ⟨trivial, encT (tprod0 a b), .int e.2, rfl, keyOk _, g, _, rfl, fun hb => ?_, fun hb => ?_⟩
      · have hb' : (e.2 == 0) = true := hb
        exact hY _ _ (by unfold zeroF; rw [g]; simp at hb'; simp [hb']) (sh1 (by exact trivial)) rfl
      · have hb' : (e.2 == 0) = false := hb
        exact hZ _ (by unfold zeroF; rw [g]; simp at hb'; simp [hb']) (sh1 (by exact trivial)) rfl
    rw [zero_fm g0.1]
    refine ⟨noDA_M _, ⟨rfl, fun j s hj hs => ?_⟩, trivial, ?_⟩
    · have hs' : ([.sh (.dict (encT a)), .sh (.dict (encT b)), .sh (.dict (encT (tprod0 a b))), .no, s4, s5, s6, .no] : Env)[j]? = some s := hs
      match j, hj, hs' with
      | 0, _, hs' => cases hs'; exact ⟨trivial, .inl rfl⟩
      | 1, _, hs' => cases hs'; exact ⟨trivial, .inl rfl⟩
      | 2, hj, _ => exact absurd rfl hj
      | 3, _, hs' => cases hs'; exact ⟨trivial, .inr rfl⟩
      | 4, _, hs' => cases hs'; exact ⟨k4, .inl rfl⟩
      | 5, _, hs' => cases hs'; exact ⟨k5, .inl rfl⟩
      | 6, _, hs' => cases hs'; exact ⟨k6, .inl rfl⟩
      | 7, _, hs' => cases hs'; exact ⟨trivial, .inl rfl⟩
      | j + 8, _, hs' => cases hs'
    dsimp only
    refine fz_go rfl (seq_go ?_)
    have hlenG : ((((tprod0 a b).filter z0).map (·.1)).map encM).length = (((tprod0 a b).filter z0).map (·.1)).length := List.length_map _
    refine ⟨fun i ρ => i ≤ (((tprod0 a b).filter z0).map (·.1)).length ∧ ∃ s3 : Sl, ρ = [.sh (.dict (encT a)), .sh (.dict (encT b)), .od (.nd (encT (without (tprod0 a b) ((((tprod0 a b).filter z0).map (·.1)).take i)))), s3, s4, s5, s6, .sh (.list ((((tprod0 a b).filter z0).map (·.1)).map encM))] ∧ plainS s3, ⟨Nat.zero_le _, .no, ?_, trivial⟩, ?_, ?_⟩
    · rw [List.take_zero, without_nil]
      rfl
    · rintro i d ρ hi ⟨hig, s3, rfl, k3⟩
      obtain ⟨k, hk, rfl⟩ := map_at hi
      have hil := (List.getElem?_eq_some_iff.mp hk).1
      refine ⟨plain_nio k3, ⟨_, rfl⟩, _, rfl, keyOk _, ?_, hil, .sh (encM k), ?_, trivial⟩
      · rw [getN_enc, Option.isSome_map]
        exact zero_get g0.1 hk
      · rw [take_one hk, ← without_snoc]
        show [Sl.sh (.dict (encT a)), .sh (.dict (encT b)), .od (.nd (dropN (encT (without (tprod0 a b) ((((tprod0 a b).filter z0).map (·.1)).take i))) (encM k))), .sh (encM k), s4, s5, s6, .sh (.list ((((tprod0 a b).filter z0).map (·.1)).map encM))] = _
        rw [dropN_enc]
    · rintro ρ ⟨_, s3, rfl, k3⟩
      rw [hlenG, List.take_length, without_zero g0.1]
      dsimp only
      refine fzD_go rfl (ret_go ?_)
      exact h


theorem GoodT.ok {n : Nat} {t : Tab} (h : GoodT n t) (hn : n ≤ 100000) : TabOk t := ⟨Nat.le_trans h.2.1 hn, h.1, h.2.2⟩
theorem tsum_good {a b : Tab} {f : Int} (oa : TabOk a) (ob : TabOk b) : GoodT (a.length + b.length) (tsum a b f) := by
  have q := tsum_take (f := f) oa ob b.length (Nat.le_refl _)
  rw [List.take_length] at q
  exact q
theorem tprod0_good {a b : Tab} (ha : MB 100 a) (hb : MB 100 b) : GoodT (a.length * b.length) (tprod0 a b) := by
  have q := tprod0_ok ha hb a.length (Nat.le_refl _)
  rw [List.take_length] at q
  exact q
theorem GoodT.filter {n : Nat} {t : Tab} (p : Mon × Int → Bool) (h : GoodT n t) : GoodT n (t.filter p) :=
  ⟨(show Nd t from h.1).sublist (List.Sublist.map _ List.filter_sublist), Nat.le_trans (List.length_filter_le _ _) h.2.1, fun e he => h.2.2 e (List.mem_filter.mp he).1⟩
theorem tprod_good {a b : Tab} (ha : MB 100 a) (hb : MB 100 b) : GoodT (a.length * b.length) (tprod a b) := by
  unfold tprod tprod1
  split
  · rw [Nat.mul_comm]
    exact (tprod0_good hb ha).filter _
  · exact (tprod0_good ha hb).filter _
def p_added (ds : List D) (R : D → Prop) : Prop := ∃ a b : Tab, ds = [encP a, encP b] ∧ TabOk a ∧ TabOk b ∧ a.length ≤ 1000 ∧ b.length ≤ 1000 ∧ HashOk a ∧ R (encP (listed (tsum a b 1)))
theorem len_added : ∀ ds R, p_added ds R → ds.length = (["one", "two"] : List Str).length := fun ds R ⟨_, _, h, _⟩ => by rw [h]; rfl
def p_taken (ds : List D) (R : D → Prop) : Prop := ∃ a b : Tab, ds = [encP a, encP b] ∧ TabOk a ∧ TabOk b ∧ a.length ≤ 1000 ∧ b.length ≤ 1000 ∧ HashOk a ∧ R (encP (listed (tsum a b (-1))))
theorem len_taken : ∀ ds R, p_taken ds R → ds.length = (["one", "two"] : List Str).length := fun ds R ⟨_, _, h, _⟩ => by rw [h]; rfl
def p_multiplied (ds : List D) (R : D → Prop) : Prop := ∃ a b : Tab, ds = [encP a, encP b] ∧ TabOk a ∧ TabOk b ∧ MB 100 a ∧ MB 100 b ∧ a.length * b.length ≤ 50000 ∧ (∀ e ∈ a, Sm e.2) ∧ (∀ e ∈ b, Sm e.2) ∧ R (encP (listed (tprod a b)))
theorem len_multiplied : ∀ ds R, p_multiplied ds R → ds.length = (["one", "two"] : List Str).length := fun ds R ⟨_, _, h, _⟩ => by rw [h]; rfl


def tscale (a : Tab) (n : Int) : Tab := if n = 0 then [] else a.map fun e => (e.1, e.2 * n)
def p_scaled (ds : List D) (R : D → Prop) : Prop := ∃ (a : Tab) (n : Int), ds = [encP a, .int n] ∧ a.length ≤ 1000 ∧ -100 < n ∧ n < 100 ∧ R (encP (tscale a n))
theorem len_scaled : ∀ ds R, p_scaled ds R → ds.length = (["one", "number"] : List Str).length := fun ds R ⟨_, _, h, _⟩ => by rw [h]; rfl
def sclF (n : Int) (d : D) : Option D := match d with
  | .tuple [m, .int c] => some (.tuple [m, .int (c * n)])
  | _ => none
theorem scl_fm (t : Tab) (n : Int) : (t.map encE).filterMap (sclF n) = (t.map fun e => (e.1, e.2 * n)).map encE := by
  induction t with
  | nil => rfl
  | cons e t ih =>
    rw [List.map_cons, List.filterMap_cons, List.map_cons, List.map_cons, ← ih]
    rfl


def CB (B : Nat) (t : Tab) : Prop := ∀ e ∈ t, e.2.natAbs ≤ B
theorem tput_cb {t : Tab} {m : Mon} {c : Int} {B : Nat} (h : CB B t) (hc : c.natAbs ≤ B) : CB B (tput t m c) := fun e he => by
  unfold tput at he
  split at he
  · obtain ⟨g, hg, rfl⟩ := List.mem_map.mp he
    split
    · exact hc
    · exact h g hg
  · rcases List.mem_append.mp he with he | he
    · exact h e he
    · rw [List.mem_singleton.mp he]; exact hc
theorem tadd_cb {t : Tab} {m : Mon} {c : Int} {B C : Nat} (h : CB B t) (hc : c.natAbs ≤ C) : CB (B + C) (tadd t m c) := by
  refine tput_cb (fun e he => Nat.le_trans (h e he) (Nat.le_add_right _ _)) ?_
  have h1 : ((tget t m).getD 0).natAbs ≤ B := by
    cases q : tget t m with
    | none => exact Nat.zero_le _
    | some d =>
      obtain ⟨e, he, _, rfl⟩ := tget_some q
      exact h e he
  omega
theorem trow_cb {b t : Tab} {e : Mon × Int} {X A B : Nat} (ht : CB X t) (he : e.2.natAbs ≤ A) (hb : CB B b) : ∀ j, j ≤ b.length → CB (X + j * (A * B)) (trow (b.take j) t e)
  | 0, _ => by rw [Nat.zero_mul]; exact ht
  | j + 1, hj => by
    obtain ⟨g, hg⟩ : ∃ g, b[j]? = some g := ⟨_, List.getElem?_eq_getElem (by omega)⟩
    rw [trow_snoc hg, Nat.succ_mul, ← Nat.add_assoc]
    refine tadd_cb (trow_cb ht he hb j (by omega)) ?_
    rw [Int.natAbs_mul]
    exact Nat.mul_le_mul he (hb g (List.mem_of_getElem? hg))
theorem tprod0_cb {a b : Tab} {A B : Nat} (ha : CB A a) (hb : CB B b) : CB (a.length * (b.length * (A * B))) (tprod0 a b) := by
  have key : ∀ i, i ≤ a.length → CB (i * (b.length * (A * B))) (tprod0 (a.take i) b) := fun i => by
    induction i with
    | zero => intro _ e he; cases he
    | succ i ih =>
      intro hi
      obtain ⟨e, he⟩ : ∃ e, a[i]? = some e := ⟨_, List.getElem?_eq_getElem (by omega)⟩
      rw [tprod0_snoc he, Nat.succ_mul]
      have q := trow_cb (ih (by omega)) (ha e (List.mem_of_getElem? he)) hb b.length (Nat.le_refl _)
      rw [List.take_length] at q
      exact q
  have q := key a.length (Nat.le_refl _)
  rw [List.take_length] at q
  exact q
theorem tprod_cb {a b : Tab} {A B C : Nat} (ha : CB A a) (hb : CB B b) (hC : a.length * (b.length * (A * B)) ≤ C) : CB C (tprod a b) := by
  unfold tprod tprod1
  split
  · intro e he
    refine Nat.le_trans (tprod0_cb hb ha e (List.mem_filter.mp he).1) (Nat.le_trans (Nat.le_of_eq ?_) hC)
    rw [Nat.mul_comm B A, ← Nat.mul_assoc, Nat.mul_comm b.length a.length, Nat.mul_assoc]
  · intro e he
    exact Nat.le_trans (tprod0_cb ha hb e (List.mem_filter.mp he).1) hC
theorem tadd_mb {t : Tab} {m : Mon} {c : Int} {n : Nat} (h : MB n t) (hm : m.length ≤ n) : MB n (tadd t m c) := fun e he => by
  rcases tput_keys _ _ _ e he with ⟨g, hg, q⟩ | q
  · rw [← q]; exact h g hg
  · rw [q]; exact hm
theorem trow_mb {b t : Tab} {e : Mon × Int} {n k : Nat} (ht : MB n t) (hb : MB k b) (he : e.1.length + k ≤ n) : ∀ j, j ≤ b.length → MB n (trow (b.take j) t e)
  | 0, _ => ht
  | j + 1, hj => by
    obtain ⟨g, hg⟩ : ∃ g, b[j]? = some g := ⟨_, List.getElem?_eq_getElem (by omega)⟩
    rw [trow_snoc hg]
    have h1 := mprod_len e.1 g.1
    have h2 := hb g (List.mem_of_getElem? hg)
    exact tadd_mb (trow_mb ht hb he j (by omega)) (by omega)
theorem tprod0_mb {a b : Tab} {n k : Nat} (ha : MB n a) (hb : MB k b) : MB (n + k) (tprod0 a b) := by
  have key : ∀ i, i ≤ a.length → MB (n + k) (tprod0 (a.take i) b) := fun i => by
    induction i with
    | zero => intro _ e he; cases he
    | succ i ih =>
      intro hi
      obtain ⟨e, he⟩ : ∃ e, a[i]? = some e := ⟨_, List.getElem?_eq_getElem (by omega)⟩
      rw [tprod0_snoc he]
      have q := trow_mb (e := e) (ih (by omega)) hb (by have := ha e (List.mem_of_getElem? he); omega) b.length (Nat.le_refl _)
      rw [List.take_length] at q
      exact q
  have q := key a.length (Nat.le_refl _)
  rw [List.take_length] at q
  exact q
theorem tprod_mb {a b : Tab} {n k : Nat} (ha : MB n a) (hb : MB k b) : MB (n + k) (tprod a b) := by
  unfold tprod tprod1
  split
  · intro e he
    have := tprod0_mb hb ha e (List.mem_filter.mp he).1
    omega
  · intro e he
    exact tprod0_mb ha hb e (List.mem_filter.mp he).1
def tpow (a : Tab) : Nat → Tab
  | 0 => [([], 1)]
  | k + 1 => tprod (tpow a k) a
theorem sm_of {c : Int} {n : Nat} (h : c.natAbs ≤ 2 ^ n) (hn : n < 99000) : Sm c := by
  unfold Sm
  by_cases z : c.natAbs = 0
  · rw [z]; decide
  · refine (Nat.log2_lt z).mpr (Nat.lt_of_le_of_lt h ?_)
    exact Nat.pow_lt_pow_right (by decide) (by omega)
/-- what is raised -/
structure PowOk (a : Tab) : Prop where
  ok : TabOk a
  len : a.length ≤ 8
  mb : MB 10 a
  cb : CB (2 ^ 110) a
theorem tpow_ok {a : Tab} (h : PowOk a) : ∀ k, k ≤ 4 → Nd (tpow a k) ∧ (tpow a k).length ≤ 8 ^ k ∧ MB (10 * k) (tpow a k) ∧ CB (2 ^ (125 * k)) (tpow a k)
  | 0, _ => ⟨by unfold Nd tpow; simp, Nat.le_refl _, fun e he => by rw [List.mem_singleton.mp he]; exact Nat.le_refl _, fun e he => by rw [List.mem_singleton.mp he]; exact Nat.le_refl _⟩
  | k + 1, hk => by
    obtain ⟨q1, q2, q3, q4⟩ := tpow_ok h k (by omega)
    have m1 : MB 100 (tpow a k) := fun e he => by have := q3 e he; omega
    have m2 : MB 100 a := fun e he => by have := h.mb e he; omega
    have g := tprod_good m1 m2
    have hl : (tpow a k).length * a.length ≤ 8 ^ k * 8 := Nat.mul_le_mul q2 h.len
    refine ⟨g.1, Nat.le_trans g.2.1 (by rw [Nat.pow_succ]; exact hl), by rw [Nat.mul_succ]; exact tprod_mb q3 h.mb, tprod_cb q4 h.cb ?_⟩
    have e1 : (tpow a k).length * (a.length * (2 ^ (125 * k) * 2 ^ 110)) = ((tpow a k).length * a.length) * (2 ^ (125 * k) * 2 ^ 110) := by rw [Nat.mul_assoc]
    rw [e1]
    refine Nat.le_trans (Nat.mul_le_mul_right _ hl) ?_
    have e2 : 8 ^ k * 8 * (2 ^ (125 * k) * 2 ^ 110) = 2 ^ (3 * k + 3 + (125 * k + 110)) := by
      rw [Nat.pow_add 2 (3 * k + 3), Nat.pow_add 2 (125 * k), Nat.pow_add 2 (3 * k), Nat.pow_mul 2 3 k]
    rw [e2]
    exact Nat.pow_le_pow_right (by decide) (by omega)
def p_table_power (ds : List D) (R : D → Prop) : Prop := ∃ (a : Tab) (n : Nat), ds = [.dict (encT a), .int n] ∧ n ≤ 4 ∧ PowOk a ∧ R (.dict (encT (tpow a n)))
theorem len_table_power : ∀ ds R, p_table_power ds R → ds.length = (["one", "count"] : List Str).length := fun ds R ⟨_, _, h, _⟩ => by rw [h]; rfl
def p_raised (ds : List D) (R : D → Prop) : Prop := ∃ (a : Tab) (n : Nat), ds = [encP a, .int n] ∧ n ≤ 4 ∧ PowOk a ∧ R (encP (listed (tpow a n)))
theorem len_raised : ∀ ds R, p_raised ds R → ds.length = (["one", "count"] : List Str).length := fun ds R ⟨_, _, h, _⟩ => by rw [h]; rfl
theorem pow8 {k : Nat} (h : k ≤ 4) : 8 ^ k ≤ 4096 := Nat.le_trans (Nat.pow_le_pow_right (by decide) h) (by decide)
theorem tpow_tab {a : Tab} (h : PowOk a) {k : Nat} (hk : k ≤ 4) : TabOk (tpow a k) := by
  obtain ⟨q1, q2, q3, _⟩ := tpow_ok h k hk
  have := pow8 hk
  exact ⟨by omega, q1, fun e he => by have := q3 e he; omega⟩


theorem fmod_nat (x y : Nat) : Int.fmod (x : Int) (y : Int) = ((x % y : Nat) : Int) := by
  rw [Int.fmod_eq_emod_of_nonneg _ (Int.natCast_nonneg y)]
  exact (Int.natCast_emod x y).symm
theorem cdS {i j : Int} (h1 : 0 < j) (h2 : j < 1073741824) : CDivG i j := ⟨by omega, PyProof.noPylong_small (by omega)⟩
theorem cdW {i j : Int} (h1 : 0 < j) (h2 : j < 1000000000000000000000000000000000000000000) : CDivG i j := ⟨by omega, PyProof.noPylong_of_log2 (by
  have h : j.natAbs < 2 ^ 200 := Nat.lt_of_lt_of_le (show j.natAbs < 1000000000000000000000000000000000000000000 by omega) (by decide)
  have := (Nat.log2_lt (n := j.natAbs) (by omega)).mpr h
  omega)⟩
def p__law_cell (ds : List D) (R : D → Prop) : Prop := ∃ (ns : List Int) (k : Nat), ds = [.list (ns.map .int), .int k] ∧ k ≤ 1000 ∧ ∀ c : Int, 0 ≤ c → R (.int c)
theorem len__law_cell : ∀ ds R, p__law_cell ds R → ds.length = (["script", "k"] : List Str).length := fun ds R ⟨_, _, h, _⟩ => by rw [h]; rfl

theorem body__law_cell {P : Program} {w : World} {K : PySem.W.Frag} {mg : Str → Option Value} {base : Heap} (z_len : mg "len" = none) (z_int : mg "int" = none) :
  Body P w K mg base N__law_cell "_law_cell" st__law_cell 0 fun ts => ∀ ds R, p__law_cell ds R → ts { nx := fun _ => R .none, rt := fun d _ => R d } (startD N__law_cell ds) := fun f cdv A outer s H E hr => by
  refine ⟨_, (qss_cons (qs_if (qt_bool (qw_and (t_lt hr.units (qe_var 1) (q_len (by rfl) z_len (qa_cons (qe_var 0) qa_nil))) (qw_and1 (t_ge hr.units (qe_ix (qe_var 0) (qe_var 1)) (q_pow qe_int qe_int)))))
 (qss_one (qs_ret (qe_ix (qe_var 0) (qe_var 1))))
 qss_nil)
 (qss_cons (qs_set 2 sc__law_cell.nd (q_add (q_mul qe_int (qe_var 1)) qe_int))
 (qss_cons (qs_if (t_gt hr.units (q_len (by rfl) z_len (qa_cons (qe_var 0) qa_nil)) qe_int)
 (qss_one (qs_set 2 sc__law_cell.nd (q_add (qe_var 2) (q_mul qe_int (qe_ix (qe_var 0) (q_mod (q_int (by rfl) z_int (qa_cons (qe_var 1) qa_nil)) (q_len (by rfl) z_len (qa_cons (qe_var 0) qa_nil))))))))
 qss_nil)
 (qss_cons (qs_set 2 sc__law_cell.nd (q_mod (q_int (by rfl) z_int (qa_cons (q_add (q_mul (qe_var 2) qe_int) (q_mul qe_int (qe_var 1))) qa_nil)) qe_int))
 (qss_one (qs_ret (q_mod (q_int (by rfl) z_int (qa_cons (q_add (q_mul (qe_var 2) qe_int) (q_mul qe_int (q_fdv (qe_var 2) qe_int))) qa_nil)) qe_int))))))), ?_⟩
  intro ds R h
  obtain ⟨ns, k, rfl, hk, h⟩ := h
  refine ⟨_, rfl, fun hb => ?_, fun hb => ⟨(fun z => nomatch z), fun _ => ?_⟩⟩
  · have hb' : decide ((k : Int) < (((ns.map PyData.int).length : Nat) : Int)) = true := hb
    have hlt := of_decide_eq_true hb'
    rw [List.length_map] at hlt
    have hk1 : k < ns.length := by omega
    have e : atI (ns.map PyData.int) (k : Int) = some (.int ns[k]) := by
      rw [atI_nat, List.getElem?_map, List.getElem?_eq_getElem hk1]
      rfl
    refine ⟨.int ns[k], e, ⟨by decide, by decide, by decide⟩, _, rfl, fun hv => ⟨.int ns[k], e, ?_⟩, fun hv => ?_⟩
    · have hv' : decide ((10 : Int) ^ (9 : Int).toNat ≤ ns[k]) = true := hv
      have hv2 := of_decide_eq_true hv'
      have e9 : (10 : Int) ^ (9 : Int).toNat = 1000000000 := by decide
      rw [e9] at hv2
      exact h _ (by omega)
    · refine ⟨cmL (by decide) (by decide), trivial, _, rfl, fun hg => ?_, fun hg => ?_⟩
      · have hl : 0 < ns.length := by
          have hg' : decide ((0 : Int) < (((ns.map PyData.int).length : Nat) : Int)) = true := hg
          have := of_decide_eq_true hg'
          rw [List.length_map] at this
          omega
        have hk : k % ns.length < ns.length := Nat.mod_lt _ hl
        have hl2 : (((ns.map PyData.int).length : Nat) : Int) ≠ 0 := by rw [List.length_map]; omega
        refine ⟨hl2, .int ns[k % ns.length], ?_, cmL (by decide) (by decide), trivial, cmR (by decide) (by decide), cmL (by decide) (by decide), (show (2147483647 : Int) ≠ 0 by decide), trivial, cmR (by decide) (by decide), cdS (by decide) (by decide), cmL (by decide) (by decide), (show (2147483629 : Int) ≠ 0 by decide), ?_⟩
        · rw [List.length_map, fmod_nat, atI_nat, List.getElem?_map, List.getElem?_eq_getElem hk]
          rfl
        · exact h _ (Int.fmod_nonneg_of_pos _ (by decide))
      · refine ⟨cmR (by decide) (by decide), cmL (by decide) (by decide), (show (2147483647 : Int) ≠ 0 by decide), trivial, cmR (by decide) (by decide), cdS (by decide) (by decide), cmL (by decide) (by decide), (show (2147483629 : Int) ≠ 0 by decide), ?_⟩
        exact h _ (Int.fmod_nonneg_of_pos _ (by decide))
  · refine ⟨cmL (by decide) (by decide), trivial, _, rfl, fun hg => ?_, fun hg => ?_⟩
    · have hl : 0 < ns.length := by
        have hg' : decide ((0 : Int) < (((ns.map PyData.int).length : Nat) : Int)) = true := hg
        have := of_decide_eq_true hg'
        rw [List.length_map] at this
        omega
      have hk : k % ns.length < ns.length := Nat.mod_lt _ hl
      have hl2 : (((ns.map PyData.int).length : Nat) : Int) ≠ 0 := by rw [List.length_map]; omega
      refine ⟨hl2, .int ns[k % ns.length], ?_, cmL (by decide) (by decide), trivial, cmR (by decide) (by decide), cmL (by decide) (by decide), (show (2147483647 : Int) ≠ 0 by decide), trivial, cmR (by decide) (by decide), cdS (by decide) (by decide), cmL (by decide) (by decide), (show (2147483629 : Int) ≠ 0 by decide), ?_⟩
      · rw [List.length_map, fmod_nat, atI_nat, List.getElem?_map, List.getElem?_eq_getElem hk]
        rfl
      · exact h _ (Int.fmod_nonneg_of_pos _ (by decide))
    · refine ⟨cmR (by decide) (by decide), cmL (by decide) (by decide), (show (2147483647 : Int) ≠ 0 by decide), trivial, cmR (by decide) (by decide), cdS (by decide) (by decide), cmL (by decide) (by decide), (show (2147483629 : Int) ≠ 0 by decide), ?_⟩
      exact h _ (Int.fmod_nonneg_of_pos _ (by decide))
theorem ok__law_cell {P : Program} {w : World} {K : PySem.W.Frag} {mg : Str → Option Value} {base : Heap} {f : Addr} {fd : FuncData} (F : Fun K "_law_cell" "_law_cell" st__law_cell f fd) (z_len : mg "len" = none) (z_int : mg "int" = none) :
  FnOk P w K mg base CX0 1 f fd ["script", "k"] (spD ⟨K, P, w⟩ p__law_cell) := fn_D F sc__law_cell len__law_cell (body__law_cell z_len z_int)

def p__law_take (cs ds : List D) (R : D → List D → Prop) : Prop := ∃ c m : Int, cs = [.int c] ∧ ds = [.int m] ∧ 0 < m ∧ m < 1000000000000000000000000000000000000000000 ∧ 0 ≤ c ∧ ∀ x c' : Int, 0 ≤ x → x < m → 0 ≤ c' → R (.int x) [.int c']
theorem len__law_take : ∀ cs ds R, p__law_take cs ds R → ds.length + 1 = (["state", "m"] : List Str).length := fun cs ds R ⟨_, _, _, h, _⟩ => by rw [h]; rfl

theorem body__law_take {P : Program} {w : World} {K : PySem.W.Frag} {mg : Str → Option Value} {base : Heap} (z_int : mg "int" = none) :
  Body P w K mg base N__law_take "_law_take" st__law_take 0 fun ts => ∀ cs ds R, p__law_take cs ds R → ts { nx := fun ρ => ∃ cs', ρ[0]? = some (.io cs') ∧ R .none cs', rt := fun d ρ => ∃ cs', ρ[0]? = some (.io cs') ∧ R d cs' } (startI N__law_take cs ds) := fun f cdv A outer s H E hr => by
  refine ⟨_, (qss_cons (qs_set 2 sc__law_take.nd (q_mod (q_int (by rfl) z_int (qa_cons (qe_ixO 0 qe_int) qa_nil)) (qe_var 1)))
 (qss_cons (qs_setI 0 (q_int (by rfl) z_int (qa_cons (q_fdv (qe_ixO 0 qe_int) (qe_var 1)) qa_nil)) qe_int)
 (qss_one (qs_ret (qe_var 2))))), ?_⟩
  intro cs ds R h
  obtain ⟨c, m, rfl, rfl, h0, h1, hc, h⟩ := h
  refine ⟨rfl, _, 0, _, rfl, rfl, rfl, by omega, trivial, rfl, _, 0, _, rfl, rfl, rfl, cdW h0 h1, rfl, _, 0, 0, rfl, rfl, rfl, _, rfl, ?_⟩
  exact h _ _ (Int.fmod_nonneg_of_pos _ h0) (Int.fmod_lt_of_pos _ h0) (by
    rw [Int.fdiv_eq_ediv_of_nonneg _ (by omega)]
    exact Int.ediv_nonneg hc (by omega))
theorem ok__law_take {P : Program} {w : World} {K : PySem.W.Frag} {mg : Str → Option Value} {base : Heap} {f : Addr} {fd : FuncData} (F : Fun K "_law_take" "_law_take" st__law_take f fd) (z_int : mg "int" = none) :
  FnOk P w K mg base CX0 1 f fd ["state", "m"] (spI ⟨K, P, w⟩ p__law_take) := fn_I F sc__law_take (by decide) len__law_take (body__law_take z_int)

def p__law_big (ds : List D) (R : List D → Prop) : Prop := ∃ (ns : List Int) (a n : Nat), ds = [.list (ns.map .int), .int a, .int n] ∧ a + n ≤ 1000 ∧ ∀ c : Int, 0 ≤ c → R [.int c]
theorem len__law_big : ∀ ds R, p__law_big ds R → ds.length = (["script", "at", "count"] : List Str).length := fun ds R ⟨_, _, _, h, _⟩ => by rw [h]; rfl

theorem body__law_big {P : Program} {w : World} {K : PySem.W.Frag} {mg : Str → Option Value} {base : Heap} (z_range : mg "range" = none) (C__law_cell : Cal P w K mg base "_law_cell" 1 (spD ⟨K, P, w⟩ p__law_cell)) :
  Body P w K mg base N__law_big "_law_big" st__law_big 1 fun ts => ∀ ds R, p__law_big ds R → ts { nx := fun _ => False, rt := fun _ _ => False, rf := fun cs _ => R cs } (startD N__law_big ds) := fun f cdv A outer s H E hr => by
  refine ⟨_, (qss_cons (qs_set 3 sc__law_big.nd qe_int)
 (qss_cons (qs_for PassesOwn.never (by rfl) (qi_range1 (by rfl) z_range (qa_cons (qe_var 2) qa_nil)) (qg_name 4 sc__law_big.nd)
 (qss_one (qs_set 3 sc__law_big.nd (q_add (q_mul (qe_var 3) qe_int) (qe_call C__law_cell (hr.mono (by decide)) (by rfl) (qa_cons (qe_var 0) (qa_cons (q_add (qe_var 1) (qe_var 4)) qa_nil)))))))
 (qss_one (qs_retF (qf_lst (qa_cons (qe_var 3) qa_nil)))))), ?_⟩
  intro ds R h
  obtain ⟨ns, a, n, rfl, hn, h⟩ := h
  refine ⟨trivial, (n : Int), rfl, by omega, by omega, fun i ρ => ∃ (c : Int) (s4 : Sl), ρ = [.sh (.list (ns.map .int)), .sh (.int a), .sh (.int n), .sh (.int c), s4] ∧ 0 ≤ c ∧ nio s4, ⟨0, .no, rfl, by decide, trivial⟩, ?_, ?_⟩
  · rintro i d ρ hi ⟨c, s4, rfl, hc, k4⟩
    obtain ⟨hi', rfl⟩ := rgD_at hi
    refine ⟨k4, cmR (by decide) (by decide), ns, a + i, ?_, by omega, fun c' hc' => ⟨trivial, c * 2147483648 + c', .sh (.int (0 + (i : Int))), rfl, by omega, trivial⟩⟩
    show ([PyData.list (ns.map .int), .int ((a : Int) + (0 + (i : Int)))] : List D) = _
    rw [show (a : Int) + (0 + (i : Int)) = ((a + i : Nat) : Int) by omega]
  · rintro ρ ⟨c, s4, rfl, hc, k4⟩
    exact ⟨sl1, h c hc⟩
theorem ok__law_big {P : Program} {w : World} {K : PySem.W.Frag} {mg : Str → Option Value} {base : Heap} {f : Addr} {fd : FuncData} (F : Fun K "_law_big" "_law_big" st__law_big f fd) (z_range : mg "range" = none) (C__law_cell : Cal P w K mg base "_law_cell" 1 (spD ⟨K, P, w⟩ p__law_cell)) :
  FnOk P w K mg base CX0 2 f fd ["script", "at", "count"] (spF ⟨K, P, w⟩ p__law_big) := fn_F F sc__law_big len__law_big (body__law_big z_range C__law_cell)

/-! ### the drawn monomials -/
def mkM : Nat → List Nat → Mon
  | _, [] => []
  | k, x :: xs => if x = 0 then mkM (k + 1) xs else ((k : Int), (x : Int)) :: mkM (k + 1) xs
theorem mkM_snoc (x : Nat) : ∀ (es : List Nat) (k : Nat), mkM k (es ++ [x]) = mkM k es ++ (if x = 0 then [] else [(((k + es.length : Nat) : Int), (x : Int))])
  | [], k => by
    show (if x = 0 then [] else ((k : Int), (x : Int)) :: []) = _
    by_cases h : x = 0 <;> simp [h, mkM]
  | y :: es, k => by
    have ih := mkM_snoc x es (k + 1)
    have e : k + 1 + es.length = k + (y :: es).length := by rw [List.length_cons]; omega
    rw [e] at ih
    show (if y = 0 then mkM (k + 1) (es ++ [x]) else ((k : Int), (y : Int)) :: mkM (k + 1) (es ++ [x])) = (if y = 0 then mkM (k + 1) es else ((k : Int), (y : Int)) :: mkM (k + 1) es) ++ _
    by_cases h : y = 0
    · rw [if_pos h, if_pos h, ih]
    · rw [if_neg h, if_neg h, ih]
      rfl
theorem mkM_len : ∀ (es : List Nat) (k : Nat), (mkM k es).length ≤ es.length
  | [], _ => Nat.le_refl _
  | y :: es, k => by
    have ih := mkM_len es (k + 1)
    show (if y = 0 then mkM (k + 1) es else ((k : Int), (y : Int)) :: mkM (k + 1) es).length ≤ es.length + 1
    split
    · omega
    · rw [List.length_cons]; omega
def DrM (m : Mon) : Prop := ∃ es : List Nat, es.length = 5 ∧ (∀ x ∈ es, x ≤ 4) ∧ m = mkM 0 es
theorem DrM.len {m : Mon} (h : DrM m) : m.length ≤ 5 := by
  obtain ⟨es, h1, _, rfl⟩ := h
  rw [← h1]
  exact mkM_len es 0
def p__law_monomial (cs ds : List D) (R : D → List D → Prop) : Prop := ∃ c : Int, cs = [.int c] ∧ ds = [.int 5, .int 4] ∧ 0 ≤ c ∧ ∀ (m : Mon) (c' : Int), DrM m → 0 ≤ c' → R (encM m) [.int c']
theorem len__law_monomial : ∀ cs ds R, p__law_monomial cs ds R → ds.length + 1 = (["state", "letters", "most"] : List Str).length := fun cs ds R ⟨_, _, h, _⟩ => by rw [h]; rfl

theorem body__law_monomial {P : Program} {w : World} {K : PySem.W.Frag} {mg : Str → Option Value} {base : Heap} (z_range : mg "range" = none) (z_tuple : mg "tuple" = none) (C__law_take : Cal P w K mg base "_law_take" 1 (spI ⟨K, P, w⟩ p__law_take)) :
  Body P w K mg base N__law_monomial "_law_monomial" st__law_monomial 1 fun ts => ∀ cs ds R, p__law_monomial cs ds R → ts { nx := fun ρ => ∃ cs', ρ[0]? = some (.io cs') ∧ R .none cs', rt := fun d ρ => ∃ cs', ρ[0]? = some (.io cs') ∧ R d cs' } (startI N__law_monomial cs ds) := fun f cdv A outer s H E hr => by
  refine ⟨_, (qss_cons (qs_own 3 sc__law_monomial.nd (qf_lst qa_nil))
 (qss_cons (qs_for PassesOwn.never (by rfl) (qi_range1 (by rfl) z_range (qa_cons (qe_var 1) qa_nil)) (qg_name 4 sc__law_monomial.nd)
 (qss_cons (qs_set 5 sc__law_monomial.nd (qe_if (t_eq hr.units (qe_callI 0 C__law_take (hr.mono (by decide)) (by rfl) (qa_cons qe_int qa_nil)) qe_int) (qe_callI 0 C__law_take (hr.mono (by decide)) (by rfl) (qa_cons (q_add (qe_var 2) qe_int) qa_nil)) qe_int))
 (qss_one (qs_if (t_gt hr.units (qe_var 5) qe_int)
 (qss_one (qs_app 3 (qe_tup (qa_cons (qe_var 4) (qa_cons (qe_var 5) qa_nil)))))
 qss_nil))))
 (qss_fz 3 (qss_one (qs_ret (q_tupL (by rfl) z_tuple (qe_var 3))))))), ?_⟩
  intro cs ds R h
  obtain ⟨c, rfl, rfl, hc, h⟩ := h
  refine ⟨sl0, trivial, 5, rfl, by omega, by omega, fun i ρ => ∃ (c : Int) (es : List Nat) (s4 s5 : Sl), ρ = [.io [.int c], .sh (.int 5), .sh (.int 4), .ol ((mkM 0 es).map enc), s4, s5] ∧ 0 ≤ c ∧ es.length = i ∧ (∀ x ∈ es, x ≤ 4) ∧ nio s4 ∧ nio s5, ⟨c, [], .no, .no, rfl, hc, rfl, (fun x h => nomatch h), trivial, trivial⟩, ?_, ?_⟩
  · rintro i d ρ hi ⟨c, es, s4, s5, rfl, hc, hes, hx, k4, k5⟩
    obtain ⟨hi', rfl⟩ := rgD_at hi
    have hi5 : i < 5 := hi'
    have hll := mkM_len es 0
    refine ⟨k4, rfl, _, rfl, c, 2, rfl, rfl, by decide, by decide, hc, fun x c1 x0 x1 hc1 => ⟨_, rfl, fun hb => ⟨rfl, _, rfl, c1, 5, rfl, rfl, by decide, by decide, hc1, fun y c2 y0 y1 hc2 => ?_⟩, fun hb => ?_⟩⟩
    · obtain ⟨n, rfl⟩ := Int.eq_ofNat_of_zero_le y0
      refine ⟨k5, _, rfl, fun hp => ?_, fun hp => ?_⟩
      · have hp' : decide ((0 : Int) < (n : Int)) = true := hp
        have hn : n ≠ 0 := by have := of_decide_eq_true hp'; omega
        refine ⟨rfl, sl2, _, rfl, by rw [List.length_map]; have := sl6; omega, c2, es ++ [n], .sh (.int (0 + (i : Int))), .sh (.int (n : Int)), ?_, hc2, by simp [hes], ?_, trivial, trivial⟩
        · rw [mkM_snoc, if_neg hn, List.map_append]
          show [Sl.io [.int c2], .sh (.int 5), .sh (.int 4), .ol ((mkM 0 es).map enc ++ [.tuple [.int (0 + (i : Int)), .int (n : Int)]]), .sh (.int (0 + (i : Int))), .sh (.int (n : Int))] = _
          rw [hes, show ((0 + i : Nat) : Int) = 0 + (i : Int) by omega]
          rfl
        · intro x hx'
          rcases List.mem_append.mp hx' with q | q
          · exact hx x q
          · rw [List.mem_singleton.mp q]; omega
      · have hp' : decide ((0 : Int) < (n : Int)) = false := hp
        have hn : n = 0 := by have := of_decide_eq_false hp'; omega
        subst hn
        refine ⟨c2, es ++ [0], .sh (.int (0 + (i : Int))), .sh (.int 0), ?_, hc2, by simp [hes], ?_, trivial, trivial⟩
        · rw [mkM_snoc, if_pos rfl, List.append_nil]
          rfl
        · intro x hx'
          rcases List.mem_append.mp hx' with q | q
          · exact hx x q
          · rw [List.mem_singleton.mp q]; omega
    · refine ⟨k5, false, rfl, ?_⟩
      refine ⟨fun hp => (nomatch hp), fun hp => ?_⟩
      refine ⟨c1, es ++ [0], .sh (.int (0 + (i : Int))), .sh (.int 0), ?_, hc1, by simp [hes], ?_, trivial, trivial⟩
      · rw [mkM_snoc, if_pos rfl, List.append_nil]
        rfl
      · intro x hx'
        rcases List.mem_append.mp hx' with q | q
        · exact hx x q
        · rw [List.mem_singleton.mp q]; omega
  · rintro ρ ⟨c, es, s4, s5, rfl, hc, hes, hx, k4, k5⟩
    have h5 : es.length = 5 := hes
    dsimp only
    refine fz_go rfl (ret_go ?_)
    exact ⟨_, rfl, _, rfl, h (mkM 0 es) c ⟨es, h5, hx, rfl⟩ hc⟩
theorem ok__law_monomial {P : Program} {w : World} {K : PySem.W.Frag} {mg : Str → Option Value} {base : Heap} {f : Addr} {fd : FuncData} (F : Fun K "_law_monomial" "_law_monomial" st__law_monomial f fd) (z_range : mg "range" = none) (z_tuple : mg "tuple" = none) (C__law_take : Cal P w K mg base "_law_take" 1 (spI ⟨K, P, w⟩ p__law_take)) :
  FnOk P w K mg base CX0 2 f fd ["state", "letters", "most"] (spI ⟨K, P, w⟩ p__law_monomial) := fn_I F sc__law_monomial (by decide) len__law_monomial (body__law_monomial z_range z_tuple C__law_take)

/-- a drawn table -/
structure DrT (t : Tab) : Prop where
  nd : Nd t
  len : t.length ≤ 6
  mon : ∀ e ∈ t, DrM e.1
  cb : CB (2 ^ 110) t
def p__law_drawn (cs ds : List D) (R : D → List D → Prop) : Prop := ∃ c size : Int, cs = [.int c] ∧ ds = [.int 5, .int 4, .int size] ∧ 0 ≤ c ∧ 0 < size ∧ size ≤ 1000000000000000000000000000000 ∧ ∀ (t : Tab) (c' : Int), DrT t → 0 ≤ c' → R (.dict (encT t)) [.int c']
theorem len__law_drawn : ∀ cs ds R, p__law_drawn cs ds R → ds.length + 1 = (["state", "letters", "most", "size"] : List Str).length := fun cs ds R ⟨_, _, _, h, _⟩ => by rw [h]; rfl
theorem tput_dr {t : Tab} {m : Mon} {c : Int} (h : ∀ e ∈ t, DrM e.1) (hm : DrM m) : ∀ e ∈ tput t m c, DrM e.1 := fun e he => by
  rcases tput_keys _ _ _ e he with ⟨g, hg, q⟩ | q
  · rw [← q]; exact h g hg
  · rw [q]; exact hm
theorem big110 : 6 * 1000000000000000000000000000000 ≤ 2 ^ 110 := by decide

theorem body__law_drawn {P : Program} {w : World} {K : PySem.W.Frag} {mg : Str → Option Value} {base : Heap} (z_range : mg "range" = none) (C__law_take : Cal P w K mg base "_law_take" 1 (spI ⟨K, P, w⟩ p__law_take)) (C__law_monomial : Cal P w K mg base "_law_monomial" 2 (spI ⟨K, P, w⟩ p__law_monomial)) :
  Body P w K mg base N__law_drawn "_law_drawn" st__law_drawn 2 fun ts => ∀ cs ds R, p__law_drawn cs ds R → ts { nx := fun ρ => ∃ cs', ρ[0]? = some (.io cs') ∧ R .none cs', rt := fun d ρ => ∃ cs', ρ[0]? = some (.io cs') ∧ R d cs' } (startI N__law_drawn cs ds) := fun f cdv A outer s H E hr => by
  refine ⟨_, (qss_cons (qs_ownN 4 sc__law_drawn.nd qn_empN)
 (qss_cons (qs_for PassesOwn.never (by rfl) (qi_range1 (by rfl) z_range (qa_cons (qe_callI 0 C__law_take (hr.mono (by decide)) (by rfl) (qa_cons qe_int qa_nil)) qa_nil)) (qg_name 5 sc__law_drawn.nd)
 (qss_cons (qs_set 6 sc__law_drawn.nd (qe_callI 0 C__law_monomial (hr.mono (by decide)) (by rfl) (qa_cons (qe_var 1) (qa_cons (qe_var 2) qa_nil))))
 (qss_one (qs_putN 4 (u16 hr) (q_sub (q_add (q_get2N 4 (u16 hr) (qe_var 6) qe_int) (qe_callI 0 C__law_take (hr.mono (by decide)) (by rfl) (qa_cons (q_add (q_mul qe_int (qe_var 3)) qe_int) qa_nil))) (qe_var 3)) (qe_var 6)))))
 (qss_fzD 4 (qss_one (qs_ret (qe_var 4)))))), ?_⟩
  intro cs ds R h
  obtain ⟨c, size, rfl, rfl, hc, z0', z1, h⟩ := h
  have hl := big_le
  refine ⟨trivial, rfl, _, rfl, c, 7, rfl, rfl, by decide, by decide, hc, fun x c1 x0 x1 hc1 => ⟨x, rfl, by omega, by omega, ?_⟩⟩
  refine ⟨fun i ρ => i ≤ x.toNat ∧ ∃ (c : Int) (t : Tab) (s5 s6 : Sl), ρ = [.io [.int c], .sh (.int 5), .sh (.int 4), .sh (.int size), .od (.nd (encT t)), s5, s6] ∧ 0 ≤ c ∧ Nd t ∧ t.length ≤ i ∧ (∀ e ∈ t, DrM e.1) ∧ CB (i * 1000000000000000000000000000000) t ∧ nio s5 ∧ nio s6, ⟨Nat.zero_le _, c1, [], .no, .no, rfl, hc1, List.nodup_nil, Nat.le_refl _, (fun e h => nomatch h), (fun e h => nomatch h), trivial, trivial⟩, ?_, ?_⟩
  · rintro i d ρ hi ⟨_, c, t, s5, s6, rfl, hc, nd, hlen, hdr, hcb, k5, k6⟩
    obtain ⟨hi', rfl⟩ := rgD_at hi
    refine ⟨k5, rfl, _, rfl, c, rfl, rfl, hc, fun m c2 hm hc2 => ⟨k6, ⟨_, rfl⟩, _, rfl, keyOk m, ?_⟩⟩
    rw [getN_D]
    refine ⟨rfl, cmL (by decide) (by decide), _, rfl, c2, 2 * size + 1, rfl, rfl, by omega, by omega, hc2, fun y c3 y0 y1 hc3 => ⟨⟨_, rfl⟩, _, rfl, keyOk m, by rw [encT_len]; omega, ?_⟩⟩
    refine ⟨by omega, c3, tput t m ((tget t m).getD 0 + y - size), .sh (.int (0 + (i : Int))), .sh (encM m), ?_, hc3, tput_nd _ _ nd, Nat.le_trans (tput_len _ _ _) (by omega), tput_dr hdr hm, ?_, trivial, trivial⟩
    · show [Sl.io [.int c3], .sh (.int 5), .sh (.int 4), .sh (.int size), .od (.nd (putN (encT t) (encM m) (.int ((tget t m).getD 0 + y - size)))), .sh (.int (0 + (i : Int))), .sh (encM m)] = _
      rw [putN_enc]
    · have q : CB (i * 1000000000000000000000000000000 + 1000000000000000000000000000000) (tadd t m (y - size)) := tadd_cb hcb (by omega)
      unfold tadd at q
      rw [show (tget t m).getD 0 + (y - size) = (tget t m).getD 0 + y - size by omega] at q
      rw [Nat.succ_mul]
      exact q
  · rintro ρ ⟨_, c, t, s5, s6, rfl, hc, nd, hlen, hdr, hcb, k5, k6⟩
    rw [rgD_len] at hlen hcb
    have hx : x.toNat ≤ 6 := by omega
    dsimp only
    refine fzD_go rfl (ret_go ?_)
    exact ⟨_, rfl, h t c ⟨nd, by omega, hdr, fun e he => Nat.le_trans (hcb e he) (Nat.le_trans (Nat.mul_le_mul_right _ hx) big110)⟩ hc⟩
theorem ok__law_drawn {P : Program} {w : World} {K : PySem.W.Frag} {mg : Str → Option Value} {base : Heap} {f : Addr} {fd : FuncData} (F : Fun K "_law_drawn" "_law_drawn" st__law_drawn f fd) (z_range : mg "range" = none) (C__law_take : Cal P w K mg base "_law_take" 1 (spI ⟨K, P, w⟩ p__law_take)) (C__law_monomial : Cal P w K mg base "_law_monomial" 2 (spI ⟨K, P, w⟩ p__law_monomial)) :
  FnOk P w K mg base CX0 3 f fd ["state", "letters", "most", "size"] (spI ⟨K, P, w⟩ p__law_drawn) := fn_I F sc__law_drawn (by decide) len__law_drawn (body__law_drawn z_range C__law_take C__law_monomial)

/-! listed, of the law -/
def wrapL (e : Mon × Int) : D := .tuple [ordK e.1, encE e]
def wrapF (d : D) : Option D := some (.tuple [kapD d, d])
def p__law_listed (ds : List D) (R : D → Prop) : Prop := ∃ t : Tab, ds = [.dict (encT t)] ∧ TabOk t ∧ R (encP (listed t))
theorem len__law_listed : ∀ ds R, p__law_listed ds R → ds.length = (["table"] : List Str).length := fun ds R ⟨_, h, _⟩ => by rw [h]; rfl
theorem wrap_fm (l : Tab) : (l.map encE).filterMap wrapF = l.map wrapL := by
  induction l with
  | nil => rfl
  | cons e l ih =>
    rw [List.map_cons, List.filterMap_cons, List.map_cons, ← ih]
    show PyData.tuple [kapD (encE e), encE e] :: _ = _
    rw [kap_enc]
    rfl
theorem eqv_enc {a b : Mon} (h : PyData.eqvAll (a.map enc) (b.map enc) = true) : a = b := by
  induction a generalizing b with
  | nil => cases b with
    | nil => rfl
    | cons _ _ => cases h
  | cons x a ih => cases b with
    | nil => cases h
    | cons y b =>
      have h' : (((x.1 == y.1) && ((x.2 == y.2) && true)) && PyData.eqvAll (a.map enc) (b.map enc)) = true := h
      rw [Bool.and_eq_true, Bool.and_eq_true, Bool.and_true, beq_iff_eq, beq_iff_eq] at h'
      rw [ih h'.2, show x = y from Prod.ext h'.1.1 h'.1.2]
theorem eqv_K {a b : Mon} (h : PyData.eqv (ordK a) (ordK b) = true) : a = b := by
  have h' : ((-(deg a) == -(deg b)) && (PyData.eqvAll (a.map enc) (b.map enc) && true)) = true := h
  rw [Bool.and_eq_true, Bool.and_true] at h'
  exact eqv_enc h'.2
theorem lt_irr (d : D) : PySem.W.dataLt d d = false := PyProof.Rows.lex_irrefl _
theorem lt_wrap {a b : Mon × Int} (h : a.1 = b.1 → a = b) : PySem.W.dataLt (wrapL a) (wrapL b) = PySem.W.dataLt (ordK a.1) (ordK b.1) := by
  by_cases c : a.1 = b.1
  · rw [h c, lt_irr, lt_irr]
  · have e : PyData.eqv (ordK a.1) (ordK b.1) = false := by
      cases q : PyData.eqv (ordK a.1) (ordK b.1) with
      | false => rfl
      | true => exact absurd (eqv_K q) c
    show PySem.W.dataLt (.tuple _) (.tuple _) = _
    rw [PySem.W.dataLt_tuple]
    exact PySem.W.dataLt_all_no (alike_K _ _) e
theorem nd_inj {t : Tab} (h : Nd t) {a b : Mon × Int} (ha : a ∈ t) (hb : b ∈ t) (e : a.1 = b.1) : a = b := by
  have h1 := tget_mem h ha
  have h2 := tget_mem h hb
  rw [e, h2] at h1
  exact Prod.ext e (Option.some.inj h1).symm
theorem wrap_sort {t : Tab} (h : Nd t) : (((t.filter nz).map wrapL).mergeSort (PySem.W.dataLe false id)) = (listed t).map wrapL := by
  unfold listed
  rw [List.map_mergeSort]
  intro a ha b hb
  show leK a.1 b.1 = !(PySem.W.dataLt (wrapL b) (wrapL a))
  rw [lt_wrap fun e => nd_inj h (List.mem_filter.mp hb).1 (List.mem_filter.mp ha).1 e]
  rfl
theorem alike_E (a b : Mon × Int) : PySem.W.alike (encE a) (encE b) = true := by
  show (PySem.W.alike (encM a.1) (encM b.1) && true) = true
  rw [alike_M]
  rfl
theorem srtOk_W (l : Tab) : SrtOk (l.map wrapL) := by
  refine ⟨fun d hd d' hd' => ?_, .inl fun d hd => ?_, fun d hd => ?_⟩
  · obtain ⟨a, _, rfl⟩ := List.mem_map.mp hd
    obtain ⟨b, _, rfl⟩ := List.mem_map.mp hd'
    show (PySem.W.alike (ordK a.1) (ordK b.1) && (PySem.W.alike (encE a) (encE b) && true)) = true
    rw [alike_K, alike_E]
    rfl
  · obtain ⟨a, _, rfl⟩ := List.mem_map.mp hd
    exact ⟨_, _, rfl⟩
  · obtain ⟨a, _, rfl⟩ := List.mem_map.mp hd
    have h1 := depth_M a.1
    refine ⟨?_, ?_⟩
    · show (noD (ordK a.1) && ((noD (encM a.1) && true) && true)) = true
      rw [noD_K, noD_M]
      rfl
    · show max (PyData.depth (ordK a.1)) (max (PyData.depth (encE a)) 0) + 1 ≤ 64
      have h2 : PyData.depth (ordK a.1) ≤ 3 := by show max 0 (max (PyData.depth (encM a.1)) 0) + 1 ≤ 3; omega
      have h3 : PyData.depth (encE a) ≤ 3 := by show max (PyData.depth (encM a.1)) (max 0 0) + 1 ≤ 3; omega
      omega
theorem unwrap_fm (l : Tab) : (l.map wrapL).filterMap sndD = l.map encE := by
  induction l with
  | nil => rfl
  | cons e l ih => exact congrArg (encE e :: ·) ih
theorem filter_take {t : Tab} {i : Nat} {e : Mon × Int} (h : t[i]? = some e) : (t.take (i + 1)).filter nz = (t.take i).filter nz ++ (if nz e = true then [e] else []) := by
  rw [take_one h, List.filter_append]
  congr 1
  by_cases c : nz e = true
  · rw [if_pos c, List.filter_cons_of_pos c]; rfl
  · rw [if_neg c, List.filter_cons_of_neg c]; rfl

theorem body__law_listed {P : Program} {w : World} {K : PySem.W.Frag} {mg : Str → Option Value} {base : Heap} (z_sorted : mg "sorted" = none) (z_sum : mg "sum" = none) :
  Body P w K mg base N__law_listed "_law_listed" st__law_listed 0 fun ts => ∀ ds R, p__law_listed ds R → ts { nx := fun _ => R .none, rt := fun d _ => R d } (startD N__law_listed ds) := fun f cdv A outer s H E hr => by
  refine ⟨_, (qss_cons (qs_own 1 sc__law_listed.nd (qf_lst qa_nil))
 (qss_cons (qs_for PassesOwn.never (by rfl) (qi_keyN (qe_var 0)) (qg_name 2 sc__law_listed.nd)
 (qss_one (qs_if (t_ne hr.units (q_ixN (u16 hr) (qe_var 0) (qe_var 2)) qe_int)
 (qss_one (qs_app 1 (qe_tup (qa_cons (qe_var 2) (qa_cons (q_ixN (u16 hr) (qe_var 0) (qe_var 2)) qa_nil)))))
 qss_nil)))
 (qss_fz 1 (qss_one (qs_ret (qe_fr (qf_lc1 3 (by rfl) sc__law_listed.nd (qi_list (qe_fr (f_sort (u80 hr) (by rfl) z_sorted (qe_fr (qf_lc1 3 (by rfl) sc__law_listed.nd (qi_list (qe_var 1)) (blkOk_by (own := [("pair", 3)]) (N := N__law_listed) (sc := defScope st__law_listed) (by decide +kernel)) (fun _ _ _ _ _ => pg_name (i := 3) sc__law_listed.nd rfl (by first | exact Or.inl rfl | exact Or.inr rfl)) (fun _ _ _ _ _ => qts_nil) (fun _ _ _ _ _ => (qe_tup (qa_cons (qe_tup (qa_cons (q_neg (q_sum (by rfl) (by rfl) z_sum (qe_fr (qf_lc2 4 5 (by decide) (by rfl) sc__law_listed.nd (qi_tup (qe_ix (qe_var 3) qe_int)) (blkOk_by (own := [("k", 4), ("e", 5)]) (N := N__law_listed) (by first | rfl | kernel_rfl)) (fun _ _ _ _ _ => pg_tup (by rfl) (pgs_cons (pg_name (i := 4) sc__law_listed.nd rfl (by first | exact Or.inl rfl | exact Or.inr rfl)) (pgs_cons (pg_name (i := 5) sc__law_listed.nd rfl (by first | exact Or.inl rfl | exact Or.inr rfl)) pgs_nil))) (fun _ _ _ _ _ => qts_nil) (fun _ _ _ _ _ => (qe_var 5)))))) (qa_cons (qe_ix (qe_var 3) qe_int) qa_nil))) (qa_cons (qe_var 3) qa_nil))))))))) (blkOk_by (own := [("pair", 3)]) (N := N__law_listed) (sc := defScope st__law_listed) (by decide +kernel)) (fun _ _ _ _ _ => pg_name (i := 3) sc__law_listed.nd rfl (by first | exact Or.inl rfl | exact Or.inr rfl)) (fun _ _ _ _ _ => qts_nil) (fun _ _ _ _ _ => (qe_ix (qe_var 3) qe_int))))))))), ?_⟩
  intro ds R h
  obtain ⟨t, rfl, ok, h⟩ := h
  have hl := big_le
  have hlen := ok.len
  refine ⟨sl0, trivial, encT t, rfl, isND_enc t, fun i ρ => i ≤ t.length ∧ ∃ s2 : Sl, ρ = [.sh (.dict (encT t)), .ol (((t.take i).filter nz).map encE), s2, .no, .no, .no] ∧ nio s2, ⟨Nat.zero_le _, .no, rfl, trivial⟩, ?_, ?_⟩
  · rintro i d ρ hi ⟨_, s2, rfl, k2⟩
    obtain ⟨e, he, rfl⟩ := encT_at hi
    have hil : i < t.length := (List.getElem?_eq_some_iff.mp he).1
    have g := getN_some (tget_mem ok.nd (List.mem_of_getElem? he))
    refine ⟨k2, encT t, .int e.2, rfl, keyOk _, g, _, rfl, fun hb => ⟨rfl, encT t, .int e.2, rfl, keyOk _, g, sl2, _, rfl, ?_, hil, .sh (encM e.1), ?_, trivial⟩, fun hb => ⟨hil, .sh (encM e.1), ?_, trivial⟩⟩
    · have := List.length_filter_le nz (t.take i)
      rw [List.length_map]
      rw [List.length_take] at this
      omega
    · have hb' : (!(e.2 == 0)) = true := hb
      have c : nz e = true := by unfold nz; simpa using hb'
      rw [filter_take he, if_pos c, List.map_append]
      rfl
    · have hb' : (!(e.2 == 0)) = false := hb
      have c : ¬ nz e = true := by unfold nz; simpa using hb'
      rw [filter_take he, if_neg c, List.append_nil]
      rfl
  · rintro ρ ⟨_, s2, rfl, k2⟩
    rw [List.length_map, encT_len, List.take_length]
    have hfl := List.length_filter_le nz t
    dsimp only
    refine fz_go rfl (ret_go ?_)
    refine lc_fm ((listed t).map wrapL) sndD (fun K hK => ?_) (sh1 (by exact trivial)) (by rw [List.length_map]; unfold listed; rw [List.length_mergeSort]; omega) ?_ ?_
    · refine lc_fm ((t.filter nz).map encE) wrapF (fun K h => h) (sh1 (by exact trivial)) (by rw [List.length_map]; omega) ?_ ?_
      · intro d hd Y Z hY hZ
        obtain ⟨e, he, rfl⟩ := List.mem_map.mp hd
        have hm := ok.mon e (List.mem_filter.mp he).1
        refine ⟨trivial, fun _ => ?_, fun h => nomatch h⟩
        refine lc_fm (e.1.map enc) sndD (fun K h => ⟨encM e.1, rfl, h⟩) (sh2 (by exact trivial) (by exact trivial)) (by rw [List.length_map]; omega) ?_ ?_
        · intro d hd Y Z hY hZ
          obtain ⟨z, _, rfl⟩ := List.mem_map.mp hd
          exact ⟨_, _, rfl, trivial, trivial, fun _ => hY _ _ rfl (sh2 (by exact trivial) (by exact trivial)) rfl, fun h => nomatch h⟩
        · rw [snd_enc]
          refine ⟨(e.1.map fun z : Int × Int => z.2 : List Int), rfl, encM e.1, rfl, sl2, sl2, ?_⟩
          refine hY _ _ ?_ ?_ rfl
          · show some (PyData.tuple [kapD (encE e), encE e]) = _
            rw [kap_enc]
            rfl
          · exact sh1 (by exact trivial)
      · rw [wrap_fm]
        refine ⟨_, rfl, srtOk_W _, ?_⟩
        rw [wrap_sort ok.nd]
        exact hK
    · intro d hd Y Z hY hZ
      obtain ⟨e, he, rfl⟩ := List.mem_map.mp hd
      exact ⟨trivial, fun _ => ⟨encE e, rfl, hY _ _ rfl (sh1 (by exact trivial)) rfl⟩, fun h => nomatch h⟩
    · rw [unwrap_fm]
      exact h
theorem ok__law_listed {P : Program} {w : World} {K : PySem.W.Frag} {mg : Str → Option Value} {base : Heap} {f : Addr} {fd : FuncData} (F : Fun K "_law_listed" "_law_listed" st__law_listed f fd) (z_sorted : mg "sorted" = none) (z_sum : mg "sum" = none) :
  FnOk P w K mg base CX0 1 f fd ["table"] (spD ⟨K, P, w⟩ p__law_listed) := fn_D F sc__law_listed len__law_listed (body__law_listed z_sorted z_sum)

/-! products and sums of the law's tables -/
def ltsum (a b : Tab) (f : Int) : Tab := b.foldl (fun t e => tadd t e.1 (f * e.2)) a
def p__law_table_sum (ds : List D) (R : D → Prop) : Prop := ∃ (a b : Tab) (f : Int), ds = [.dict (encT a), .dict (encT b), .int f] ∧ TabOk a ∧ TabOk b ∧ a.length ≤ 1000 ∧ b.length ≤ 1000 ∧ HashOk a ∧ -100 < f ∧ f < 100 ∧ R (.dict (encT (ltsum a b f)))
theorem len__law_table_sum : ∀ ds R, p__law_table_sum ds R → ds.length = (["one", "two", "factor"] : List Str).length := fun ds R ⟨_, _, _, h, _⟩ => by rw [h]; rfl
theorem ltsum_snoc {a b : Tab} {f : Int} {i : Nat} {e : Mon × Int} (he : b[i]? = some e) : ltsum a (b.take (i + 1)) f = tadd (ltsum a (b.take i) f) e.1 (f * e.2) := by
  unfold ltsum
  rw [take_one he, List.foldl_append]
  rfl
theorem ltsum_take {a b : Tab} {f : Int} (ha : TabOk a) (hb : TabOk b) : ∀ i, i ≤ b.length → GoodT (a.length + i) (ltsum a (b.take i) f)
  | 0, _ => ⟨ha.nd, Nat.le_refl _, ha.mon⟩
  | i + 1, hi => by
    obtain ⟨e, he⟩ : ∃ e, b[i]? = some e := ⟨_, List.getElem?_eq_getElem (by omega)⟩
    rw [ltsum_snoc he]
    exact tadd_ok (ltsum_take ha hb i (by omega)) (hb.mon e (List.mem_of_getElem? he))
theorem ltsum_good {a b : Tab} {f : Int} (oa : TabOk a) (ob : TabOk b) : GoodT (a.length + b.length) (ltsum a b f) := by
  have q := ltsum_take (f := f) oa ob b.length (Nat.le_refl _)
  rw [List.take_length] at q
  exact q

theorem body__law_table_sum {P : Program} {w : World} {K : PySem.W.Frag} {mg : Str → Option Value} {base : Heap} (z_dict : mg "dict" = none) :
  Body P w K mg base N__law_table_sum "_law_table_sum" st__law_table_sum 0 fun ts => ∀ ds R, p__law_table_sum ds R → ts { nx := fun _ => R .none, rt := fun d _ => R d } (startD N__law_table_sum ds) := fun f cdv A outer s H E hr => by
  refine ⟨_, (qss_cons (qs_ownN 3 sc__law_table_sum.nd (qn_copyN (u16 hr) (by rfl) z_dict (qe_var 0)))
 (qss_cons (qs_for PassesOwn.never (by rfl) (qi_keyN (qe_var 1)) (qg_name 4 sc__law_table_sum.nd)
 (qss_one (qs_putN 3 (u16 hr) (q_add (q_get2N 3 (u16 hr) (qe_var 4) qe_int) (q_mul (qe_var 2) (q_ixN (u16 hr) (qe_var 1) (qe_var 4)))) (qe_var 4))))
 (qss_fzD 3 (qss_one (qs_ret (qe_var 3)))))), ?_⟩
  intro ds R h
  obtain ⟨a, b, f, rfl, oa, ob, h1, h2, hh, f1, f2, h⟩ := h
  have hl := big_le
  refine ⟨encT a, rfl, isND_enc a, hh, trivial, encT b, rfl, isND_enc b, fun i ρ => i ≤ b.length ∧ ∃ s4 : Sl, ρ = [.sh (.dict (encT a)), .sh (.dict (encT b)), .sh (.int f), .od (.nd (encT (ltsum a (b.take i) f))), s4] ∧ nio s4, ⟨Nat.zero_le _, .no, rfl, trivial⟩, ?_, ?_⟩
  · rintro i d ρ hi ⟨hib, s4, rfl, k4⟩
    obtain ⟨e, he, rfl⟩ := encT_at hi
    have hil : i < b.length := (List.getElem?_eq_some_iff.mp he).1
    have g := ltsum_take (f := f) oa ob i hib
    have ge := getN_some (tget_mem ob.nd (List.mem_of_getElem? he))
    refine ⟨k4, ⟨_, rfl⟩, _, rfl, keyOk _, ?_⟩
    rw [getN_D]
    refine ⟨encT b, .int e.2, rfl, keyOk _, ge, cmL (by omega) (by omega), ⟨_, rfl⟩, _, rfl, keyOk _, by rw [encT_len]; have := g.2.1; omega, hil, .sh (encM e.1), ?_, trivial⟩
    rw [ltsum_snoc he]
    show [Sl.sh (.dict (encT a)), .sh (.dict (encT b)), .sh (.int f), .od (.nd (putN (encT (ltsum a (b.take i) f)) (encM e.1) (.int ((tget (ltsum a (b.take i) f) e.1).getD 0 + f * e.2)))), .sh (encM e.1)] = _
    rw [putN_enc]
    rfl
  · rintro ρ ⟨_, s4, rfl, k4⟩
    show R (.dict (encT (ltsum a (b.take ((encT b).map (·.1)).length) f)))
    rw [List.length_map, encT_len, List.take_length]
    exact h
theorem ok__law_table_sum {P : Program} {w : World} {K : PySem.W.Frag} {mg : Str → Option Value} {base : Heap} {f : Addr} {fd : FuncData} (F : Fun K "_law_table_sum" "_law_table_sum" st__law_table_sum f fd) (z_dict : mg "dict" = none) :
  FnOk P w K mg base CX0 1 f fd ["one", "two", "factor"] (spD ⟨K, P, w⟩ p__law_table_sum) := fn_D F sc__law_table_sum len__law_table_sum (body__law_table_sum z_dict)

def Asc (m : Mon) : Prop := (m.map (·.1)).Pairwise (· < ·)
def p__law_join (ds : List D) (R : D → Prop) : Prop := ∃ a b : Mon, ds = [encM a, encM b] ∧ Asc a ∧ Asc b ∧ a.length ≤ 100 ∧ b.length ≤ 100 ∧ R (encM (mprod a b))
theorem len__law_join : ∀ ds R, p__law_join ds R → ds.length = (["one", "two"] : List Str).length := fun ds R ⟨_, _, h, _⟩ => by rw [h]; rfl
def p__law_table_product (ds : List D) (R : D → Prop) : Prop := ∃ a b : Tab, ds = [.dict (encT a), .dict (encT b)] ∧ TabOk a ∧ TabOk b ∧ MB 100 a ∧ MB 100 b ∧ a.length * b.length ≤ 50000 ∧ (∀ e ∈ a, Sm e.2) ∧ (∀ e ∈ b, Sm e.2) ∧ (∀ e ∈ a, Asc e.1) ∧ (∀ e ∈ b, Asc e.1) ∧ R (.dict (encT (tprod0 a b)))
theorem len__law_table_product : ∀ ds R, p__law_table_product ds R → ds.length = (["one", "two"] : List Str).length := fun ds R ⟨_, _, h, _⟩ => by rw [h]; rfl

theorem body__law_table_product {P : Program} {w : World} {K : PySem.W.Frag} {mg : Str → Option Value} {base : Heap} (C__law_join : Cal P w K mg base "_law_join" 1 (spD ⟨K, P, w⟩ p__law_join)) :
  Body P w K mg base N__law_table_product "_law_table_product" st__law_table_product 1 fun ts => ∀ ds R, p__law_table_product ds R → ts { nx := fun _ => R .none, rt := fun d _ => R d } (startD N__law_table_product ds) := fun f cdv A outer s H E hr => by
  refine ⟨_, (qss_cons (qs_ownN 2 sc__law_table_product.nd qn_empN)
 (qss_cons (qs_for PassesOwn.never (by rfl) (qi_keyN (qe_var 0)) (qg_name 3 sc__law_table_product.nd)
 (qss_one (qs_for PassesOwn.never (by rfl) (qi_keyN (qe_var 1)) (qg_name 4 sc__law_table_product.nd)
 (qss_cons (qs_set 5 sc__law_table_product.nd (qe_call C__law_join (hr.mono (by decide)) (by rfl) (qa_cons (qe_var 3) (qa_cons (qe_var 4) qa_nil))))
 (qss_one (qs_putN 2 (u16 hr) (q_add (q_get2N 2 (u16 hr) (qe_var 5) qe_int) (q_mul (q_ixN (u16 hr) (qe_var 0) (qe_var 3)) (q_ixN (u16 hr) (qe_var 1) (qe_var 4)))) (qe_var 5)))))))
 (qss_fzD 2 (qss_one (qs_ret (qe_var 2)))))), ?_⟩
  intro ds R h
  obtain ⟨a, b, rfl, oa, ob, ma, mb, hlen, sa, sb, ca, cb, h⟩ := h
  have hl := big_le
  refine ⟨trivial, encT a, rfl, isND_enc a, fun i ρ => i ≤ a.length ∧ ∃ s3 s4 s5 : Sl, ρ = [.sh (.dict (encT a)), .sh (.dict (encT b)), .od (.nd (encT (tprod0 (a.take i) b))), s3, s4, s5] ∧ nio s3 ∧ nio s4 ∧ nio s5, ⟨Nat.zero_le _, .no, .no, .no, rfl, trivial, trivial, trivial⟩, ?_, ?_⟩
  · rintro i d ρ hi ⟨hia, s3, s4, s5, rfl, k3, k4, k5⟩
    obtain ⟨e, he, rfl⟩ := encT_at hi
    have hil : i < a.length := (List.getElem?_eq_some_iff.mp he).1
    have hem := List.mem_of_getElem? he
    have g0 := tprod0_ok ma mb i hia
    have ge := getN_some (tget_mem oa.nd hem)
    refine ⟨k3, encT b, rfl, isND_enc b, fun j ρ => j ≤ b.length ∧ ∃ s4 s5 : Sl, ρ = [.sh (.dict (encT a)), .sh (.dict (encT b)), .od (.nd (encT (trow (b.take j) (tprod0 (a.take i) b) e))), .sh (encM e.1), s4, s5] ∧ nio s4 ∧ nio s5, ⟨Nat.zero_le _, s4, s5, rfl, k4, k5⟩, ?_, ?_⟩
    · rintro j d ρ hj ⟨hjb, s4, s5, rfl, k4, k5⟩
      obtain ⟨g, hg, rfl⟩ := encT_at hj
      have hjl : j < b.length := (List.getElem?_eq_some_iff.mp hg).1
      have hgm := List.mem_of_getElem? hg
      have g1 := trow_ok g0 mb (ma e hem) j hjb
      have gg := getN_some (tget_mem ob.nd hgm)
      refine ⟨k4, e.1, g.1, rfl, ca e hem, cb g hgm, ma e hem, mb g hgm, k5, ⟨_, rfl⟩, _, rfl, keyOk _, ?_⟩
      rw [getN_D]
      refine ⟨encT a, .int e.2, rfl, keyOk _, ge, encT b, .int g.2, rfl, keyOk _, gg, sm_mul (sa e hem) (sb g hgm), ⟨_, rfl⟩, _, rfl, keyOk _, ?_, hjl, .sh (encM g.1), .sh (encM (mprod e.1 g.1)), ?_, trivial, trivial⟩
      · have h1 : i * b.length + j ≤ 50000 := by
          have : (i + 1) * b.length ≤ a.length * b.length := Nat.mul_le_mul_right _ hil
          rw [Nat.succ_mul] at this
          omega
        have h2 := g1.2.1
        rw [encT_len]; omega
      · rw [trow_snoc hg]
        show [Sl.sh (.dict (encT a)), .sh (.dict (encT b)), .od (.nd (putN (encT (trow (b.take j) (tprod0 (a.take i) b) e)) (encM (mprod e.1 g.1)) (.int ((tget (trow (b.take j) (tprod0 (a.take i) b) e) (mprod e.1 g.1)).getD 0 + e.2 * g.2)))), .sh (encM e.1), .sh (encM g.1), .sh (encM (mprod e.1 g.1))] = _
        rw [putN_enc]
        rfl
    · rintro ρ ⟨_, s4, s5, rfl, k4, k5⟩
      refine ⟨hil, .sh (encM e.1), s4, s5, ?_, trivial, k4, k5⟩
      rw [List.length_map, encT_len, List.take_length, tprod0_snoc he]
  · rintro ρ ⟨_, s3, s4, s5, rfl, k3, k4, k5⟩
    show R (.dict (encT (tprod0 (a.take ((encT a).map (·.1)).length) b)))
    rw [List.length_map, encT_len, List.take_length]
    exact h
theorem ok__law_table_product {P : Program} {w : World} {K : PySem.W.Frag} {mg : Str → Option Value} {base : Heap} {f : Addr} {fd : FuncData} (F : Fun K "_law_table_product" "_law_table_product" st__law_table_product f fd) (C__law_join : Cal P w K mg base "_law_join" 1 (spD ⟨K, P, w⟩ p__law_join)) :
  FnOk P w K mg base CX0 2 f fd ["one", "two"] (spD ⟨K, P, w⟩ p__law_table_product) := fn_D F sc__law_table_product len__law_table_product (body__law_table_product C__law_join)

/-! the join of two monomials -/
def lget (l : Mon) (x : Int) : Option Int := (l.find? fun z => decide (z.1 = x)).map (·.2)
def lput (l : Mon) (x c : Int) : Mon := if (lget l x).isSome then l.map fun z => if z.1 = x then (z.1, c) else z else l ++ [(x, c)]
def ladd (l : Mon) (x c : Int) : Mon := lput l x ((lget l x).getD 0 + c)
def ljoin (a b : Mon) : Mon := b.foldl (fun t z => ladd t z.1 z.2) a
def encI (l : Mon) : List (Int × D) := l.map fun z => (z.1, .int z.2)
theorem prs_I (l : Mon) : prsI (encI l) = l.map enc := by
  unfold prsI encI
  rw [List.map_map]
  rfl
theorem encI_len (l : Mon) : (encI l).length = l.length := List.length_map _
theorem getI_enc (x : Int) : ∀ l : Mon, getI (encI l) x = (lget l x).map PyData.int
  | [] => rfl
  | z :: l => by
    unfold getI lget encI
    rw [List.map_cons, List.find?_cons, List.find?_cons]
    by_cases c : z.1 = x
    · simp only [c, decide_true]
      rfl
    · simp only [c, decide_false]
      exact getI_enc x l
theorem getI_D (l : Mon) (x z : Int) : (getI (encI l) x).getD (.int z) = .int ((lget l x).getD z) := by
  rw [getI_enc]
  cases lget l x <;> rfl
theorem putI_enc (l : Mon) (x c : Int) : putI (encI l) x (.int c) = encI (lput l x c) := by
  unfold putI lput
  rw [getI_enc, Option.isSome_map]
  by_cases h : (lget l x).isSome = true
  · rw [if_pos h, if_pos h]
    unfold encI
    rw [List.map_map, List.map_map]
    apply List.map_congr_left
    intro z _
    by_cases c : z.1 = x
    · simp only [Function.comp, if_pos c]
    · simp only [Function.comp, if_neg c]
  · rw [if_neg h, if_neg h]
    unfold encI
    rw [List.map_append]
    rfl
def Ln (l : Mon) : Prop := (l.map (·.1)).Nodup
theorem Asc.ln {l : Mon} (h : Asc l) : Ln l := by
  unfold Ln List.Nodup
  exact h.imp fun q => Int.ne_of_lt q
theorem lget_cons (z : Int × Int) (l : Mon) (x : Int) : lget (z :: l) x = if z.1 = x then some z.2 else lget l x := by
  unfold lget
  rw [List.find?_cons]
  by_cases c : z.1 = x
  · simp [c]
  · simp [c]
theorem lget_none {l : Mon} {x : Int} (h : ∀ z ∈ l, z.1 ≠ x) : lget l x = none := by
  unfold lget
  rw [Option.map_eq_none_iff, List.find?_eq_none]
  intro z hz
  simpa using h z hz
theorem lget_some {l : Mon} {x c : Int} (h : lget l x = some c) : (x, c) ∈ l := by
  unfold lget at h
  obtain ⟨e, h1, h2⟩ := Option.map_eq_some_iff.mp h
  have h3 : e.1 = x := by simpa using List.find?_some h1
  rw [← h3, ← h2]
  exact List.mem_of_find?_eq_some h1
theorem lget_mem {l : Mon} (h : Ln l) {z : Int × Int} (hz : z ∈ l) : lget l z.1 = some z.2 := by
  induction l with
  | nil => cases hz
  | cons y l ih =>
    have h' := List.nodup_cons.mp h
    rw [lget_cons]
    rcases List.mem_cons.mp hz with rfl | hz
    · rw [if_pos rfl]
    · rw [if_neg fun q => h'.1 (List.mem_map.mpr ⟨z, hz, q.symm⟩)]
      exact ih h'.2 hz
theorem lput_len (l : Mon) (x c : Int) : (lput l x c).length ≤ l.length + 1 := by
  unfold lput
  split <;> simp
theorem lput_ln {l : Mon} (x c : Int) (h : Ln l) : Ln (lput l x c) := by
  unfold lput
  by_cases q : (lget l x).isSome = true
  · rw [if_pos q]
    unfold Ln at h ⊢
    rw [List.map_map]
    have e : ((fun e : Int × Int => e.1) ∘ fun z : Int × Int => if z.1 = x then (z.1, c) else z) = fun e => e.1 := by
      funext e
      simp only [Function.comp]
      split <;> rfl
    rw [e]
    exact h
  · rw [if_neg q]
    unfold Ln at h ⊢
    rw [List.map_append, List.nodup_append]
    refine ⟨h, by simp, fun y hy w hw z => q ?_⟩
    simp at hw
    obtain ⟨e, he, rfl⟩ := List.mem_map.mp hy
    have g := lget_mem h he
    rw [z, hw] at g
    rw [g]
    rfl
theorem lget_lput (l : Mon) (x c y : Int) : lget (lput l x c) y = if y = x then some c else lget l y := by
  unfold lput
  by_cases q : (lget l x).isSome = true
  · rw [if_pos q]
    have key : ∀ l : Mon, lget (l.map fun z => if z.1 = x then (z.1, c) else z) y = if y = x then (lget l x).map fun _ => c else lget l y := fun l => by
      induction l with
      | nil => by_cases h : y = x <;> simp [h, lget]
      | cons z l ih =>
        rw [List.map_cons, lget_cons, lget_cons, lget_cons, ih]
        by_cases h1 : z.1 = x
        · by_cases h2 : y = x
          · simp [h1, h2]
          · have : ¬ x = y := fun w => h2 w.symm
            simp [h1, h2, this]
        · by_cases h2 : y = x
          · simp [h1, h2]
          · simp [h1, h2]
    rw [key]
    by_cases h : y = x
    · rw [if_pos h, if_pos h]
      obtain ⟨d, hd⟩ := Option.isSome_iff_exists.mp q
      rw [hd]
      rfl
    · rw [if_neg h, if_neg h]
  · rw [if_neg q]
    have hn : lget l x = none := by
      cases h : lget l x with
      | none => rfl
      | some d => rw [h] at q; exact absurd rfl q
    have key : ∀ l : Mon, lget l x = none → lget (l ++ [(x, c)]) y = if y = x then some c else lget l y := fun l => by
      induction l with
      | nil =>
        intro _
        rw [List.nil_append, lget_cons]
        by_cases h : y = x
        · rw [if_pos h, if_pos h.symm]
        · rw [if_neg h, if_neg fun w => h w.symm]
      | cons z l ih =>
        intro h0
        rw [lget_cons] at h0
        have hz : z.1 ≠ x := fun w => by rw [if_pos w] at h0; cases h0
        rw [if_neg hz] at h0
        rw [List.cons_append, lget_cons, lget_cons, ih h0]
        by_cases h2 : y = x
        · rw [if_pos h2, if_neg (by rw [h2]; exact hz)]
          rw [if_pos h2]
        · rw [if_neg h2, if_neg h2]
    exact key l hn
/-- exponents added -/
def comb (p q : Option Int) : Option Int := match q with
  | none => p
  | some c => some (p.getD 0 + c)
theorem lget_ladd (l : Mon) (x c y : Int) : lget (ladd l x c) y = if y = x then some ((lget l x).getD 0 + c) else lget l y := lget_lput _ _ _ _
theorem lget_ljoin {b : Mon} (hb : Ln b) (y : Int) : ∀ a : Mon, lget (ljoin a b) y = comb (lget a y) (lget b y) := by
  induction b with
  | nil => intro a; rfl
  | cons z b ih =>
    intro a
    have hb' := List.nodup_cons.mp hb
    show lget (ljoin (ladd a z.1 z.2) b) y = _
    rw [ih hb'.2, lget_ladd, lget_cons]
    by_cases h : y = z.1
    · have hn : lget b y = none := lget_none fun w hw q => hb'.1 (List.mem_map.mpr ⟨w, hw, q.trans h⟩)
      rw [hn, if_pos h, if_pos h.symm, ← h]
      rfl
    · rw [if_neg h, if_neg fun w => h w.symm]
theorem ljoin_ln {b : Mon} : ∀ {a : Mon}, Ln a → Ln (ljoin a b) := by
  induction b with
  | nil => intro a h; exact h
  | cons z b ih => intro a h; exact ih (lput_ln _ _ h)
theorem ljoin_len {b : Mon} : ∀ a : Mon, (ljoin a b).length ≤ a.length + b.length := by
  induction b with
  | nil => intro a; exact Nat.le_refl _
  | cons z b ih =>
    intro a
    have h1 := ih (ladd a z.1 z.2)
    have h2 := lput_len a z.1 ((lget a z.1).getD 0 + z.2)
    show (ljoin (ladd a z.1 z.2) b).length ≤ a.length + (b.length + 1)
    unfold ladd at h1 ⊢
    omega
theorem ljoin_snoc {a b : Mon} {i : Nat} {z : Int × Int} (h : b[i]? = some z) : ljoin a (b.take (i + 1)) = ladd (ljoin a (b.take i)) z.1 z.2 := by
  unfold ljoin
  rw [take_one h, List.foldl_append]
  rfl
theorem asc_cons {z : Int × Int} {l : Mon} : Asc (z :: l) ↔ (∀ w ∈ l, z.1 < w.1) ∧ Asc l := by
  unfold Asc
  rw [List.map_cons, List.pairwise_cons]
  exact ⟨fun ⟨h1, h2⟩ => ⟨fun w hw => h1 _ (List.mem_map.mpr ⟨w, hw, rfl⟩), h2⟩, fun ⟨h1, h2⟩ => ⟨fun x hx => by
    obtain ⟨w, hw, rfl⟩ := List.mem_map.mp hx
    exact h1 w hw, h2⟩⟩
theorem mprod_keys : ∀ (a b : Mon) (w : Int × Int), w ∈ mprod a b → (∃ z ∈ a, z.1 = w.1) ∨ ∃ z ∈ b, z.1 = w.1
  | [], b, w, h => by rw [nil_mprod] at h; exact .inr ⟨w, h, rfl⟩
  | x :: a, [], w, h => by rw [mprod_nil] at h; exact .inl ⟨w, h, rfl⟩
  | x :: a, y :: b, w, h => by
    rw [mprod_cons] at h
    split at h
    · rcases List.mem_cons.mp h with rfl | h
      · exact .inl ⟨x, List.mem_cons_self, rfl⟩
      · rcases mprod_keys a b w h with ⟨z, hz, q⟩ | ⟨z, hz, q⟩
        · exact .inl ⟨z, List.mem_cons_of_mem _ hz, q⟩
        · exact .inr ⟨z, List.mem_cons_of_mem _ hz, q⟩
    · split at h
      · rcases List.mem_cons.mp h with rfl | h
        · exact .inl ⟨_, List.mem_cons_self, rfl⟩
        · rcases mprod_keys a (y :: b) w h with ⟨z, hz, q⟩ | q
          · exact .inl ⟨z, List.mem_cons_of_mem _ hz, q⟩
          · exact .inr q
      · rcases List.mem_cons.mp h with rfl | h
        · exact .inr ⟨_, List.mem_cons_self, rfl⟩
        · rcases mprod_keys (x :: a) b w h with q | ⟨z, hz, q⟩
          · exact .inl q
          · exact .inr ⟨z, List.mem_cons_of_mem _ hz, q⟩
termination_by a b => a.length + b.length
theorem mprod_asc : ∀ (a b : Mon), Asc a → Asc b → Asc (mprod a b)
  | [], b, _, h => by rw [nil_mprod]; exact h
  | x :: a, [], h, _ => by rw [mprod_nil]; exact h
  | x :: a, y :: b, ha, hb => by
    have ha' := asc_cons.mp ha
    have hb' := asc_cons.mp hb
    rw [mprod_cons]
    split
    · rename_i e
      refine asc_cons.mpr ⟨fun w hw => ?_, mprod_asc a b ha'.2 hb'.2⟩
      rcases mprod_keys a b w hw with ⟨z, hz, q⟩ | ⟨z, hz, q⟩
      · rw [← q]; exact ha'.1 z hz
      · rw [← q]; show x.1 < z.1; rw [e]; exact hb'.1 z hz
    · rename_i e
      split
      · rename_i l
        refine asc_cons.mpr ⟨fun w hw => ?_, mprod_asc a (y :: b) ha'.2 hb⟩
        rcases mprod_keys a (y :: b) w hw with ⟨z, hz, q⟩ | ⟨z, hz, q⟩
        · rw [← q]; exact ha'.1 z hz
        · rw [← q]
          rcases List.mem_cons.mp hz with rfl | hz
          · exact l
          · exact Int.lt_trans l (hb'.1 z hz)
      · rename_i l
        refine asc_cons.mpr ⟨fun w hw => ?_, mprod_asc (x :: a) b ha hb'.2⟩
        rcases mprod_keys (x :: a) b w hw with ⟨z, hz, q⟩ | ⟨z, hz, q⟩
        · rw [← q]
          have hl : y.1 < x.1 := by omega
          rcases List.mem_cons.mp hz with rfl | hz
          · exact hl
          · exact Int.lt_trans hl (ha'.1 z hz)
        · rw [← q]; exact hb'.1 z hz
termination_by a b => a.length + b.length
theorem lget_mprod (k : Int) : ∀ (a b : Mon), Asc a → Asc b → lget (mprod a b) k = comb (lget a k) (lget b k)
  | [], b, _, _ => by
    rw [nil_mprod]
    show lget b k = comb none (lget b k)
    cases lget b k with
    | none => rfl
    | some c => show some c = some (0 + c); rw [Int.zero_add]
  | x :: a, [], _, _ => by rw [mprod_nil]; rfl
  | x :: a, y :: b, ha, hb => by
    have ha' := asc_cons.mp ha
    have hb' := asc_cons.mp hb
    rw [mprod_cons]
    split
    · rename_i e
      rw [lget_cons, lget_cons, lget_cons, lget_mprod k a b ha'.2 hb'.2, ← e]
      by_cases h : x.1 = k
      · rw [if_pos h, if_pos h, if_pos h]
        rfl
      · rw [if_neg h, if_neg h, if_neg h]
    · rename_i e
      split
      · rename_i l
        rw [lget_cons, lget_cons x, lget_mprod k a (y :: b) ha'.2 hb]
        by_cases h : x.1 = k
        · have hn : lget (y :: b) k = none := lget_none fun z hz => by
            rcases List.mem_cons.mp hz with rfl | hz
            · omega
            · have := hb'.1 z hz
              omega
          rw [if_pos h, if_pos h, hn]
          rfl
        · rw [if_neg h, if_neg h]
      · rename_i l
        rw [lget_cons, lget_cons y, lget_mprod k (x :: a) b ha hb'.2]
        by_cases h : y.1 = k
        · have hn : lget (x :: a) k = none := lget_none fun z hz => by
            rcases List.mem_cons.mp hz with rfl | hz
            · omega
            · have := ha'.1 z hz
              omega
          rw [if_pos h, if_pos h, hn]
          show some y.2 = some (0 + y.2)
          rw [Int.zero_add]
        · rw [if_neg h, if_neg h]
termination_by a b => a.length + b.length
/-- sorted lists of the same members, in an order in which two members are never alike -/
theorem sorted_unique {α : Type} (le : α → α → Bool) : ∀ (l1 l2 : List α), l1.Perm l2 → l1.Pairwise (fun a b => le a b = true) → l2.Pairwise (fun a b => le a b = true) → (∀ a ∈ l1, ∀ b ∈ l1, le a b = true → le b a = true → a = b) → l1 = l2
  | [], l2, p, _, _, _ => (List.Perm.nil_eq p)
  | x :: l1, [], p, _, _, _ => absurd p.symm.nil_eq (by simp)
  | x :: l1, y :: l2, p, s1, s2, anti => by
    have h1 := List.pairwise_cons.mp s1
    have h2 := List.pairwise_cons.mp s2
    have e : x = y := by
      have hx : x ∈ y :: l2 := p.subset List.mem_cons_self
      have hy : y ∈ x :: l1 := p.symm.subset List.mem_cons_self
      rcases List.mem_cons.mp hx with e | hx
      · exact e
      · rcases List.mem_cons.mp hy with e | hy
        · exact e.symm
        · exact anti x List.mem_cons_self y (List.mem_cons_of_mem _ hy) (h1.1 y hy) (h2.1 x hx)
    subst e
    rw [sorted_unique le l1 l2 (List.Perm.cons_inv p) h1.2 h2.2 fun a ha b hb => anti a (List.mem_cons_of_mem _ ha) b (List.mem_cons_of_mem _ hb)]
def leZ (x y : Int × Int) : Bool := !(PySem.W.dataLt (enc y) (enc x))
theorem lt_z {x y : Int × Int} (h : x.1 ≠ y.1) : PySem.W.dataLt (enc x) (enc y) = decide (x.1 < y.1) := by
  show PySem.W.dataLt (.tuple _) (.tuple _) = _
  rw [PySem.W.dataLt_tuple]
  refine (PySem.W.dataLt_all_no rfl ?_).trans (PySem.W.dataLt_int _ _)
  show (x.1 == y.1) = false
  simpa using h
theorem join_sort {a b : Mon} (ha : Asc a) (hb : Asc b) : (ljoin a b).mergeSort leZ = mprod a b := by
  have n1 : Ln (ljoin a b) := ljoin_ln ha.ln
  have n2 : Ln (mprod a b) := (mprod_asc a b ha hb).ln
  have nd : ∀ {l : Mon}, Ln l → l.Nodup := fun {l} h => (List.pairwise_map.mp h).imp fun q z => q (by rw [z])
  have mem : ∀ z : Int × Int, z ∈ ljoin a b ↔ z ∈ mprod a b := fun z => by
    have e : lget (ljoin a b) z.1 = lget (mprod a b) z.1 := by rw [lget_ljoin hb.ln, lget_mprod _ a b ha hb]
    constructor
    · intro h
      have q := lget_mem n1 h
      rw [e] at q
      exact lget_some q
    · intro h
      have q := lget_mem n2 h
      rw [← e] at q
      exact lget_some q
  have perm : (ljoin a b).Perm (mprod a b) := (List.perm_ext_iff_of_nodup (nd n1) (nd n2)).mpr mem
  have tot := PySem.W.sortLe_total (PyProof.Rows.listOrd PyProof.Rows.itemOrd) false fun z : Int × Int => PySem.W.keyToks (enc z)
  refine sorted_unique leZ _ _ ((List.mergeSort_perm _ _).trans perm) (List.pairwise_mergeSort (fun x y z => tot.trans x y z) (fun x y => Bool.or_eq_true_iff.mpr (tot.total x y)) _) ?_ ?_
  · have q := mprod_asc a b ha hb
    unfold Asc at q
    rw [List.pairwise_map] at q
    refine q.imp fun {x y} h => ?_
    unfold leZ
    rw [lt_z (by omega)]
    simp
    omega
  · intro x hx y hy h1 h2
    have hx' : x ∈ ljoin a b := (List.mergeSort_perm _ _).subset hx
    have hy' : y ∈ ljoin a b := (List.mergeSort_perm _ _).subset hy
    by_cases c : x.1 = y.1
    · have q1 := lget_mem n1 hx'
      have q2 := lget_mem n1 hy'
      rw [c, q2] at q1
      exact Prod.ext c (Option.some.inj q1).symm
    · unfold leZ at h1 h2
      rw [lt_z fun w => c w.symm] at h1
      rw [lt_z c] at h2
      simp at h1 h2
      omega
theorem enc_sort (l : Mon) : (l.map enc).mergeSort (PySem.W.dataLe false id) = (l.mergeSort leZ).map enc := by
  rw [List.map_mergeSort]
  intro a _ b _
  rfl
theorem srtOk_Z (l : Mon) : SrtOk (l.map enc) := by
  refine ⟨fun d hd d' hd' => ?_, .inl fun d hd => ?_, fun d hd => ?_⟩
  · obtain ⟨a, _, rfl⟩ := List.mem_map.mp hd
    obtain ⟨b, _, rfl⟩ := List.mem_map.mp hd'
    rfl
  · obtain ⟨a, _, rfl⟩ := List.mem_map.mp hd
    exact ⟨_, _, rfl⟩
  · obtain ⟨a, _, rfl⟩ := List.mem_map.mp hd
    exact ⟨rfl, by show max 0 (max 0 0) + 1 ≤ 64; omega⟩
def itmF (l : Mon) (d : D) : Option D := match d with
  | .int x => (getI (encI l) x).map fun c => .tuple [d, c]
  | _ => none
theorem itm_fm {l : Mon} (h : Ln l) : ((encI l).map fun e => PyData.int e.1).filterMap (itmF l) = l.map enc := by
  have e : ((encI l).map fun e => PyData.int e.1) = l.map fun z => PyData.int z.1 := by
    unfold encI
    rw [List.map_map]
    rfl
  rw [e]
  have k := fm_filter (g := fun z : Int × Int => PyData.int z.1) (f := itmF l) (p := fun _ => true) (h := enc) (t := l) fun z hz => by
    rw [if_pos rfl]
    show (getI (encI l) z.1).map _ = _
    rw [getI_enc, lget_mem h hz]
    rfl
  rw [k, List.filter_eq_self.mpr fun _ _ => rfl]

theorem body__law_join {P : Program} {w : World} {K : PySem.W.Frag} {mg : Str → Option Value} {base : Heap} (z_dict : mg "dict" = none) (z_tuple : mg "tuple" = none) (z_sorted : mg "sorted" = none) :
  Body P w K mg base N__law_join "_law_join" st__law_join 0 fun ts => ∀ ds R, p__law_join ds R → ts { nx := fun _ => R .none, rt := fun d _ => R d } (startD N__law_join ds) := fun f cdv A outer s H E hr => by
  refine ⟨_, (qss_cons (qs_ownN 2 sc__law_join.nd (qn_prsI (by rfl) (by rfl) z_dict (qe_var 0)))
 (qss_cons (qs_for PassesOwn.never (by rfl) (qi_tup (qe_var 1)) (qg_tup (by rfl) (qgs_cons (qg_name 3 sc__law_join.nd) (qgs_cons (qg_name 4 sc__law_join.nd) qgs_nil)))
 (qss_one (qs_putI 2 (u16 hr) (q_add (q_get2I 2 (u16 hr) (qe_var 3) qe_int) (qe_var 4)) (qe_var 3))))
 (qss_fzD 2 (qss_one (qs_ret (q_tupL (by rfl) z_tuple (qe_fr (f_sort (u80 hr) (by rfl) z_sorted (qe_fr (qf_lc1 3 (by rfl) sc__law_join.nd (qi_keyI (qe_var 2)) (blkOk_by (own := [("letter", 3)]) (N := N__law_join) (sc := defScope st__law_join) (by decide +kernel)) (fun _ _ _ _ _ => pg_name (i := 3) sc__law_join.nd rfl (by first | exact Or.inl rfl | exact Or.inr rfl)) (fun _ _ _ _ _ => qts_nil) (fun _ _ _ _ _ => (qe_tup (qa_cons (qe_var 3) (qa_cons (q_ixI (u16 hr) (qe_var 2) (qe_var 3)) qa_nil)))))))))))))), ?_⟩
  intro ds R h
  obtain ⟨a, b, rfl, ha, hb, la, lb, h⟩ := h
  have hl := big_le
  refine ⟨encI a, by show encM a = .tuple _; rw [prs_I]; rfl, ?_, trivial, fun i ρ => i ≤ b.length ∧ ∃ s3 s4 : Sl, ρ = [.sh (encM a), .sh (encM b), .od (.ik (encI (ljoin a (b.take i)))), s3, s4] ∧ plainS s3 ∧ plainS s4, ⟨Nat.zero_le _, .no, .no, rfl, trivial, trivial⟩, ?_, ?_⟩
  · have q := ha.ln
    unfold Ln at q
    unfold encI
    rw [List.map_map]
    exact q
  · rintro i d ρ hi ⟨hib, s3, s4, rfl, k3, k4⟩
    obtain ⟨z, hz, rfl⟩ := map_at hi
    have hil : i < b.length := (List.getElem?_eq_some_iff.mp hz).1
    have hlen := ljoin_len (b := b.take i) a
    refine ⟨rfl, plain_nio k3, plain_nio k4, rfl, ⟨_, rfl⟩, _, z.1, rfl, rfl, ?_⟩
    rw [getI_D]
    refine ⟨⟨_, rfl⟩, _, z.1, rfl, rfl, by rw [encI_len]; rw [List.length_take] at hlen; omega, hil, .sh (.int z.1), .sh (.int z.2), ?_, trivial, trivial⟩
    rw [ljoin_snoc hz]
    show [Sl.sh (encM a), .sh (encM b), .od (.ik (putI (encI (ljoin a (b.take i))) z.1 (.int ((lget (ljoin a (b.take i)) z.1).getD 0 + z.2)))), .sh (.int z.1), .sh (.int z.2)] = _
    rw [putI_enc]
    rfl
  · rintro ρ ⟨_, s3, s4, rfl, k3, k4⟩
    rw [List.length_map, List.take_length]
    have hln : Ln (ljoin a b) := ljoin_ln ha.ln
    have hlen := ljoin_len (b := b) a
    dsimp only
    refine fzD_go rfl (ret_go ?_)
    refine lc_fm ((encI (ljoin a b)).map fun e => PyData.int e.1) (itmF (ljoin a b)) (fun K h => ⟨encI (ljoin a b), rfl, h⟩) (sh1 (plain_sh k3 rfl)) (by rw [List.length_map, encI_len]; omega) ?_ ?_
    · intro d hd Y Z hY hZ
      unfold encI at hd
      rw [List.map_map] at hd
      obtain ⟨z, hz, rfl⟩ := List.mem_map.mp hd
      have g : getI (encI (ljoin a b)) z.1 = some (.int z.2) := by rw [getI_enc, lget_mem hln hz]; rfl
      refine ⟨trivial, fun _ => ⟨encI (ljoin a b), z.1, .int z.2, rfl, rfl, g, sl2, hY _ _ ?_ (sh1 (by exact trivial)) rfl⟩, fun h => nomatch h⟩
      show (getI (encI (ljoin a b)) z.1).map _ = _
      rw [g]
      rfl
    · rw [itm_fm hln]
      refine ⟨_, rfl, srtOk_Z _, _, rfl, ?_⟩
      rw [enc_sort, join_sort ha hb]
      exact h
theorem ok__law_join {P : Program} {w : World} {K : PySem.W.Frag} {mg : Str → Option Value} {base : Heap} {f : Addr} {fd : FuncData} (F : Fun K "_law_join" "_law_join" st__law_join f fd) (z_dict : mg "dict" = none) (z_tuple : mg "tuple" = none) (z_sorted : mg "sorted" = none) :
  FnOk P w K mg base CX0 1 f fd ["one", "two"] (spD ⟨K, P, w⟩ p__law_join) := fn_D F sc__law_join len__law_join (body__law_join z_dict z_tuple z_sorted)

theorem kitLL : kitB "list" "list" = some true := by decide +kernel
theorem kitTT : kitB "tuple" "tuple" = some true := by decide +kernel
theorem kitII : kitB "int" "int" = some true := by decide +kernel
theorem kitIB : kitB "int" "bool" = some false := by decide +kernel
theorem kitBB : kitB "bool" "bool" = some true := by decide +kernel
def goodE (e : Mon × Int) : Bool := decide (e.2 ≠ 0) && isMon e.1
def p__law_is_poly (ds : List D) (R : D → Prop) : Prop := ∃ (t : Tab) (n : Int), ds = [encP t, .int n] ∧ t.length ≤ 100000 ∧ (∀ e ∈ t, e.1.length ≤ 1000) ∧ (∀ e ∈ t, ∀ z ∈ e.1, z.1 < n) ∧ R (.bool (isPoly t))
theorem len__law_is_poly : ∀ ds R, p__law_is_poly ds R → ds.length = (["one", "count"] : List Str).length := fun ds R ⟨_, _, h, _⟩ => by rw [h]; rfl
theorem bad_poly {t : Tab} {e : Mon × Int} (he : e ∈ t) (hb : goodE e = false) : isPoly t = false := by
  unfold isPoly
  have : (t.all fun e => decide (e.2 ≠ 0) && isMon e.1) = false := by
    rw [Bool.eq_false_iff]
    intro h
    have := List.all_eq_true.mp h e he
    unfold goodE at hb
    rw [hb] at this
    cases this
  rw [this, Bool.false_and]
theorem good_poly {t : Tab} (h : ∀ e ∈ t, goodE e = true) : isPoly t = !badAt ltD (t.map fun e => ordK e.1) := by
  unfold isPoly
  have : (t.all fun e => decide (e.2 ≠ 0) && isMon e.1) = true := List.all_eq_true.mpr h
  rw [this, Bool.true_and]

theorem body__law_is_poly {P : Program} {w : World} {K : PySem.W.Frag} {mg : Str → Option Value} {base : Heap} (z_isinstance : mg "isinstance" = none) (z_list : mg "list" = none) (z_bool : mg "bool" = none) (z_tuple : mg "tuple" = none) (z_len : mg "len" = none) (z_int : mg "int" = none) (z_range : mg "range" = none) (z_sum : mg "sum" = none) :
  Body P w K mg base N__law_is_poly "_law_is_poly" st__law_is_poly 0 fun ts => ∀ ds R, p__law_is_poly ds R → ts { nx := fun _ => R .none, rt := fun d _ => R d } (startD N__law_is_poly ds) := fun f cdv A outer s H E hr => by
  refine ⟨_, (qss_cons (qs_if (qt_not (qt_val (q_isi (by rfl) z_isinstance (by rfl) z_list (qe_var 0))))
 (qss_one (qs_ret qe_bl))
 qss_nil)
 (qss_cons (qs_own 2 sc__law_is_poly.nd (qf_lst qa_nil))
 (qss_cons (qs_for PassesOwn.never (by rfl) (qi_list (qe_var 0)) (qg_name 3 sc__law_is_poly.nd)
 (qss_cons (qs_if (qt_bool (qw_or (qt_not (qt_val (q_isi (by rfl) z_isinstance (by rfl) z_tuple (qe_var 3)))) (qw_or (t_ne hr.units (q_len (by rfl) z_len (qa_cons (qe_var 3) qa_nil)) qe_int) (qw_or (qt_not (qt_val (q_isi (by rfl) z_isinstance (by rfl) z_tuple (qe_ix (qe_var 3) qe_int)))) (qw_or (qt_val (q_isi (by rfl) z_isinstance (by rfl) z_bool (qe_ix (qe_var 3) qe_int))) (qw_or1 (qt_not (qt_val (q_isi (by rfl) z_isinstance (by rfl) z_int (qe_ix (qe_var 3) qe_int))))))))))
 (qss_one (qs_ret qe_bl))
 qss_nil)
 (qss_cons (qs_own 4 sc__law_is_poly.nd (qf_lc1 5 (by rfl) sc__law_is_poly.nd (qi_tup (qe_ix (qe_var 3) qe_int)) (blkOk_by (own := [("entry", 5)]) (N := N__law_is_poly) (sc := defScope st__law_is_poly) (by decide +kernel)) (fun _ _ _ _ _ => pg_name (i := 5) sc__law_is_poly.nd rfl (by first | exact Or.inl rfl | exact Or.inr rfl)) (fun _ _ _ _ _ => qts_nil) (fun _ _ _ _ _ => (qe_ix (qe_var 5) qe_int))))
 (qss_fz 4 (qss_cons (qs_if (qt_bool (qw_or (t_eq hr.units (qe_ix (qe_var 3) qe_int) qe_int) (qw_or1 (t_ne hr.units (qe_fr (qf_lc1 6 (by rfl) sc__law_is_poly.nd (qi_range2 (by rfl) z_range (qa_cons qe_int (qa_cons (q_len (by rfl) z_len (qa_cons (qe_var 4) qa_nil)) qa_nil))) (blkOk_by (own := [("k", 6)]) (N := N__law_is_poly) (sc := defScope st__law_is_poly) (by decide +kernel)) (fun _ _ _ _ _ => pg_name (i := 6) sc__law_is_poly.nd rfl (by first | exact Or.inl rfl | exact Or.inr rfl)) (fun _ _ _ _ _ => (qts_one (t_le hr.units (qe_ix (qe_var 4) (qe_var 6)) (qe_ix (qe_var 4) (q_sub (qe_var 6) qe_int))))) (fun _ _ _ _ _ => (qe_var 6)))) (qe_fr (qf_lst qa_nil))))))
 (qss_one (qs_ret qe_bl))
 qss_nil)
 (qss_cons (qs_if (t_ne hr.units (qe_fr (qf_lc1 5 (by rfl) sc__law_is_poly.nd (qi_tup (qe_ix (qe_var 3) qe_int)) (blkOk_by (own := [("entry", 5)]) (N := N__law_is_poly) (sc := defScope st__law_is_poly) (by decide +kernel)) (fun _ _ _ _ _ => pg_name (i := 5) sc__law_is_poly.nd rfl (by first | exact Or.inl rfl | exact Or.inr rfl)) (fun _ _ _ _ _ => (qts_one (qt_bool (qw_or (qt_not (t_leltI hr.units qe_int (qe_ix (qe_var 5) qe_int) (qe_var 1))) (qw_or (t_lt hr.units (qe_ix (qe_var 5) qe_int) qe_int) (qw_or1 (qt_val (q_isi (by rfl) z_isinstance (by rfl) z_bool (qe_ix (qe_var 5) qe_int))))))))) (fun _ _ _ _ _ => (qe_var 5)))) (qe_fr (qf_lst qa_nil)))
 (qss_one (qs_ret qe_bl))
 qss_nil)
 (qss_one (qs_app 2 (qe_tup (qa_cons (q_neg (q_sum (by rfl) (by rfl) z_sum (qe_fr (qf_lc1 5 (by rfl) sc__law_is_poly.nd (qi_tup (qe_ix (qe_var 3) qe_int)) (blkOk_by (own := [("entry", 5)]) (N := N__law_is_poly) (sc := defScope st__law_is_poly) (by decide +kernel)) (fun _ _ _ _ _ => pg_name (i := 5) sc__law_is_poly.nd rfl (by first | exact Or.inl rfl | exact Or.inr rfl)) (fun _ _ _ _ _ => qts_nil) (fun _ _ _ _ _ => (qe_ix (qe_var 5) qe_int)))))) (qa_cons (qe_ix (qe_var 3) qe_int) qa_nil)))))))))))
 (qss_fz 2 (qss_one (qs_ret (q_eq hr.units (qe_fr (qf_lc1 6 (by rfl) sc__law_is_poly.nd (qi_range2 (by rfl) z_range (qa_cons qe_int (qa_cons (q_len (by rfl) z_len (qa_cons (qe_var 2) qa_nil)) qa_nil))) (blkOk_by (own := [("k", 6)]) (N := N__law_is_poly) (sc := defScope st__law_is_poly) (by decide +kernel)) (fun _ _ _ _ _ => pg_name (i := 6) sc__law_is_poly.nd rfl (by first | exact Or.inl rfl | exact Or.inr rfl)) (fun _ _ _ _ _ => (qts_one (t_le hr.units (qe_ix (qe_var 2) (qe_var 6)) (qe_ix (qe_var 2) (q_sub (qe_var 6) qe_int))))) (fun _ _ _ _ _ => (qe_var 6)))) (qe_fr (qf_lst qa_nil))))))))), ?_⟩
  intro ds R h
  obtain ⟨t, n, rfl, hlen, hm, hz, h⟩ := h
  have hl := big_le
  refine ⟨true, (fun z q => nomatch q), kitLL, true, rfl, ?_⟩
  refine ⟨(fun z => nomatch z), fun _ => ?_⟩
  try unfold dNext
  dsimp only
  refine seq_go ?_
  refine ⟨sl0, trivial, ?_⟩
  dsimp only
  refine seq_go ?_
  refine ⟨fun i ρ => i ≤ t.length ∧ (∀ e ∈ t.take i, goodE e = true) ∧ ∃ s3 s4 : Sl, ρ = [.sh (encP t), .sh (.int n), .ol ((t.take i).map fun e => ordK e.1), s3, s4, .no, .no] ∧ nio s3 ∧ nio s4, ⟨Nat.zero_le _, (fun e h => nomatch h), .no, .no, rfl, trivial, trivial⟩, ?_, ?_⟩
  · rintro i d ρ hi ⟨_, hg, s3, s4, rfl, k3, k4⟩
    obtain ⟨e, he, rfl⟩ := map_at hi
    have hil : i < t.length := (List.getElem?_eq_some_iff.mp he).1
    have hem := List.mem_of_getElem? he
    have hme := hm e hem
    refine ⟨k3, ?_⟩
    refine ⟨true, (fun z q => nomatch q), kitTT, true, rfl, (fun z => nomatch z), fun _ => ⟨false, rfl, (fun z => nomatch z), fun _ => ⟨encM e.1, rfl, true, (fun z q => nomatch q), kitTT, true, rfl, (fun z => nomatch z), fun _ => ⟨.int e.2, rfl, false, (fun z q => nomatch q), kitIB, false, rfl, (fun z => nomatch z), fun _ => ⟨.int e.2, rfl, true, (fun z q => nomatch q), kitII, true, rfl, (fun z => nomatch z), fun _ => ?_⟩⟩⟩⟩⟩
    try unfold dNext
    dsimp only
    refine seq_go (own_go ?_)
    refine lc_fm (e.1.map enc) fstD (fun K h => ⟨encM e.1, rfl, h⟩) (sh1 (by exact trivial)) (by rw [List.length_map]; omega) ?_ ?_
    · intro d hd Y Z hY hZ
      obtain ⟨z, _, rfl⟩ := List.mem_map.mp hd
      exact ⟨trivial, fun _ => ⟨.int z.1, rfl, hY _ _ rfl (sh1 (by exact trivial)) rfl⟩, fun h => nomatch h⟩
    rw [fst_enc]
    refine ⟨k4, ?_⟩
    dsimp only
    refine fz_go rfl (seq_go ?_)
    have hL : ((e.1.map (·.1)).map PyData.int).length = e.1.length := by rw [List.length_map, List.length_map]
    have hat : ∀ k : Nat, atI ((e.1.map (·.1)).map PyData.int) (k : Int) = (e.1.map (·.1))[k]?.map PyData.int := fun k => by rw [atI_nat, List.getElem?_map]
    -- the end of a bad term
    have fail : goodE e = false → R (.bool false) := fun q => by rw [bad_poly hem q] at h; exact h
    refine ⟨.int e.2, rfl, _, rfl, fun hc => ?_, fun hc => ?_⟩
    · have hc' : (e.2 == 0) = true := hc
      refine ⟨fun _ => fail ?_, fun z => nomatch z⟩
      unfold goodE
      rw [show decide (e.2 ≠ 0) = false by simpa using hc', Bool.false_and]
    have hc' : (e.2 == 0) = false := hc
    have he2 : decide (e.2 ≠ 0) = true := by simpa using hc'
    refine lc_fm (rgD 1 ((((e.1.map (·.1)).map PyData.int).length : Nat) - 1 : Int).toNat) (badF ((e.1.map (·.1)).map PyData.int) ltI) (fun K h => ⟨1, _, rfl, ⟨by decide, by decide, by omega, by omega⟩, h⟩) (sh1 (by exact trivial)) (by rw [rgD_len]; omega) ?_ ?_
    · intro d hd Y Z hY hZ
      obtain ⟨i, hi, rfl⟩ := mem_rgD hd
      rw [hL] at hi
      obtain ⟨a, ha⟩ : ∃ a, e.1[i + 1]? = some a := ⟨_, List.getElem?_eq_getElem (by omega)⟩
      obtain ⟨b, hb⟩ : ∃ b, e.1[i]? = some b := ⟨_, List.getElem?_eq_getElem (by omega)⟩
      have ea : atI ((e.1.map (·.1)).map PyData.int) (1 + (i : Int)) = some (.int a.1) := by rw [show (1 + (i : Int)) = ((i + 1 : Nat) : Int) by omega, hat, List.getElem?_map, ha]; rfl
      have eb : atI ((e.1.map (·.1)).map PyData.int) (1 + (i : Int) - 1) = some (.int b.1) := by rw [show (1 + (i : Int) - 1) = (i : Int) by omega, hat, List.getElem?_map, hb]; rfl
      have eF : badF ((e.1.map (·.1)).map PyData.int) ltI (.int (1 + (i : Int))) = if b.1 < a.1 then none else some (.int (1 + (i : Int))) := by
        unfold badF
        have e1 : (1 + (i : Int)).toNat = i + 1 := by omega
        simp only [e1, Nat.add_sub_cancel, List.getElem?_map, ha, hb, Option.map_some]
        show (if decide (b.1 < a.1) = true then none else _) = _
        simp only [decide_eq_true_eq]
      refine ⟨trivial, .int a.1, ea, .int b.1, eb, _, rfl, fun hx => ?_, fun hx => ?_⟩
      · have hx' : decide (a.1 ≤ b.1) = true := hx
        have := of_decide_eq_true hx'
        exact hY _ _ (by rw [eF, if_neg (by omega)]) (sh1 (by exact trivial)) rfl
      · have hx' : decide (a.1 ≤ b.1) = false := hx
        have := of_decide_eq_false hx'
        exact hZ _ (by rw [eF, if_pos (by omega)]) (sh1 (by exact trivial)) rfl
    refine ⟨sl0, shaped_bad _ _ _, shaped_nil, _, rfl, fun hd => ?_, fun hd => ?_⟩
    · have hd' : (!PyData.eqv (.list _) (.list [])) = true := hd
      rw [eqv_nil, bad_fm, bad_int, ← asc_bad] at hd'
      refine fail ?_
      unfold goodE isMon
      rw [show ascB (e.1.map (·.1)) = false by simpa using hd', Bool.false_and, Bool.and_false]
    have hd' : (!PyData.eqv (.list _) (.list [])) = false := hd
    rw [eqv_nil, bad_fm, bad_int, ← asc_bad] at hd'
    have hasc : ascB (e.1.map (·.1)) = true := by simpa using hd'
    try unfold dNext
    dsimp only
    refine seq_go ?_
    refine lc_fm (e.1.map enc) wrongZ (fun K h => ⟨encM e.1, rfl, h⟩) (sh1 (by exact trivial)) (by rw [List.length_map]; omega) ?_ ?_
    · intro d hd Y Z hY hZ
      obtain ⟨z, hz', rfl⟩ := List.mem_map.mp hd
      have e0 : wrongZ (enc z) = if z.1 < 0 ∨ z.2 < 1 then some (enc z) else none := rfl
      have hzn := hz e hem z hz'
      refine ⟨trivial, .int z.1, rfl, _, rfl, fun h1 => ⟨_, rfl, fun q => ?_, fun _ => ⟨.int z.2, rfl, _, rfl, fun h2 => ⟨fun _ => ?_, fun z => nomatch z⟩, fun h2 => ⟨.int z.2, rfl, false, (fun z q => nomatch q), kitIB, false, rfl, (fun z => nomatch z), fun _ => ?_⟩⟩⟩, fun h1 => ⟨fun _ => ⟨fun _ => ?_, fun z => nomatch z⟩, fun z => nomatch z⟩⟩
      · have q' : (!decide (z.1 < n)) = true := q
        simp at q'
        omega
      · have h2' : decide (z.2 < 1) = true := h2
        exact hY _ _ (by rw [e0, if_pos (.inr (of_decide_eq_true h2'))]) (sh1 (by exact trivial)) rfl
      · have h1' : decide ((0 : Int) ≤ z.1) = true := h1
        have h2' : decide (z.2 < 1) = false := h2
        exact hZ _ (by rw [e0, if_neg (by have := of_decide_eq_true h1'; have := of_decide_eq_false h2'; omega)]) (sh1 (by exact trivial)) rfl
      · have h1' : decide ((0 : Int) ≤ z.1) = false := h1
        exact hY _ _ (by rw [e0, if_pos (.inl (by have := of_decide_eq_false h1'; omega))]) (sh1 (by exact trivial)) rfl
    refine ⟨sl0, shaped_list (n := 1) (canLay_sub (canLay_M e.1) (fm_mem wrongZ_self)) (Nat.le_trans (depthA_sub (fm_mem wrongZ_self)) (depthA_M e.1)) (by omega), shaped_nil, _, rfl, fun hw => ?_, fun hw => ?_⟩
    · have hw' : (!PyData.eqv (.list _) (.list [])) = true := hw
      rw [eqv_nil, wrongZ_fm] at hw'
      refine fail ?_
      unfold goodE isMon
      rw [show (e.1.all fun z => decide (0 ≤ z.1) && decide (1 ≤ z.2)) = false by simpa using hw', Bool.and_false, Bool.and_false]
    have hw' : (!PyData.eqv (.list _) (.list [])) = false := hw
    rw [eqv_nil, wrongZ_fm] at hw'
    have hge : goodE e = true := by
      unfold goodE isMon
      rw [he2, hasc, Bool.true_and, Bool.true_and]
      simpa using hw'
    try unfold dNext
    dsimp only
    refine ⟨rfl, ?_⟩
    refine lc_fm (e.1.map enc) sndD (fun K h => ⟨encM e.1, rfl, h⟩) (sh1 (by exact trivial)) (by rw [List.length_map]; omega) ?_ ?_
    · intro d hd Y Z hY hZ
      obtain ⟨z, _, rfl⟩ := List.mem_map.mp hd
      exact ⟨trivial, fun _ => ⟨.int z.2, rfl, hY _ _ rfl (sh1 (by exact trivial)) rfl⟩, fun h => nomatch h⟩
    rw [snd_enc]
    refine ⟨(e.1.map fun z : Int × Int => z.2 : List Int), rfl, encM e.1, rfl, sl2, _, rfl, ?_, hil, ?_, .sh (encE e), .sh (.list ((e.1.map (·.1)).map PyData.int)), ?_, trivial, trivial⟩
    · rw [List.length_map, List.length_take]; omega
    · intro x hx
      rw [take_one he] at hx
      rcases List.mem_append.mp hx with q | q
      · exact hg x q
      · rw [List.mem_singleton.mp q]; exact hge
    · rw [take_one he, List.map_append]
      rfl
  · rintro ρ ⟨_, hg, s3, s4, rfl, k3, k4⟩
    rw [List.length_map, List.take_length] at hg ⊢
    have hk : isPoly t = !badAt ltD (t.map fun e => ordK e.1) := good_poly hg
    dsimp only
    refine fz_go rfl (ret_go ?_)
    have hL : (t.map fun e => ordK e.1).length = t.length := List.length_map _
    refine lc_fm (rgD 1 (((t.map fun e => ordK e.1).length : Nat) - 1 : Int).toNat) (badF (t.map fun e => ordK e.1) ltD) (fun K h => ⟨1, _, rfl, ⟨by decide, by decide, by omega, by omega⟩, h⟩) (sh1 (by exact trivial)) (by rw [rgD_len]; omega) ?_ ?_
    · intro d hd Y Z hY hZ
      obtain ⟨i, hi, rfl⟩ := mem_rgD hd
      rw [hL] at hi
      obtain ⟨a, ha⟩ : ∃ a, t[i + 1]? = some a := ⟨_, List.getElem?_eq_getElem (by omega)⟩
      obtain ⟨b, hb⟩ : ∃ b, t[i]? = some b := ⟨_, List.getElem?_eq_getElem (by omega)⟩
      have ea : atI (t.map fun e => ordK e.1) (1 + (i : Int)) = some (ordK a.1) := by rw [show (1 + (i : Int)) = ((i + 1 : Nat) : Int) by omega, atI_nat, List.getElem?_map, ha]; rfl
      have eb : atI (t.map fun e => ordK e.1) (1 + (i : Int) - 1) = some (ordK b.1) := by rw [show (1 + (i : Int) - 1) = (i : Int) by omega, atI_nat, List.getElem?_map, hb]; rfl
      have eF : badF (t.map fun e => ordK e.1) ltD (.int (1 + (i : Int))) = if ltD (ordK b.1) (ordK a.1) = true then none else some (.int (1 + (i : Int))) := by
        unfold badF
        have e1 : (1 + (i : Int)).toNat = i + 1 := by omega
        simp only [e1, Nat.add_sub_cancel, List.getElem?_map, ha, hb, Option.map_some]
      refine ⟨trivial, ordK a.1, ea, ordK b.1, eb, ⟨noD_K _, noD_K _, alike_K _ _, (fun z => nomatch z), depth_K _, _, rfl, fun hx => ?_, fun hx => ?_⟩⟩
      · have hx' : (!ltD (ordK b.1) (ordK a.1)) = true := hx
        exact hY _ _ (by rw [eF, if_neg (by simpa using hx')]) (sh1 (by exact trivial)) rfl
      · have hx' : (!ltD (ordK b.1) (ordK a.1)) = false := hx
        exact hZ _ (by rw [eF, if_pos (by simpa using hx')]) (sh1 (by exact trivial)) rfl
    refine ⟨sl0, shaped_bad _ _ _, shaped_nil, ?_⟩
    show R (.bool (PyData.eqv (.list _) (.list [])))
    rw [eqv_nil, bad_fm, ← hk]
    exact h
theorem ok__law_is_poly {P : Program} {w : World} {K : PySem.W.Frag} {mg : Str → Option Value} {base : Heap} {f : Addr} {fd : FuncData} (F : Fun K "_law_is_poly" "_law_is_poly" st__law_is_poly f fd) (z_isinstance : mg "isinstance" = none) (z_list : mg "list" = none) (z_bool : mg "bool" = none) (z_tuple : mg "tuple" = none) (z_len : mg "len" = none) (z_int : mg "int" = none) (z_range : mg "range" = none) (z_sum : mg "sum" = none) :
  FnOk P w K mg base CX0 1 f fd ["one", "count"] (spD ⟨K, P, w⟩ p__law_is_poly) := fn_D F sc__law_is_poly len__law_is_poly (body__law_is_poly z_isinstance z_list z_bool z_tuple z_len z_int z_range z_sum)

/-! ### the plain law -/
section
variable {κ : Type} [DecidableEq κ]
def kget (t : List (κ × Int)) (m : κ) : Option Int := (t.find? fun e => decide (e.1 = m)).map (·.2)
def kput (t : List (κ × Int)) (m : κ) (c : Int) : List (κ × Int) := if (kget t m).isSome then t.map fun e => if e.1 = m then (e.1, c) else e else t ++ [(m, c)]
theorem kget_cons (z : κ × Int) (l : List (κ × Int)) (x : κ) : kget (z :: l) x = if z.1 = x then some z.2 else kget l x := by
  unfold kget
  rw [List.find?_cons]
  by_cases c : z.1 = x
  · simp [c]
  · simp [c]
theorem kget_kput (l : List (κ × Int)) (x : κ) (c : Int) (y : κ) : kget (kput l x c) y = if y = x then some c else kget l y := by
  unfold kput
  by_cases q : (kget l x).isSome = true
  · rw [if_pos q]
    have key : ∀ l : List (κ × Int), kget (l.map fun z => if z.1 = x then (z.1, c) else z) y = if y = x then (kget l x).map fun _ => c else kget l y := fun l => by
      induction l with
      | nil => by_cases h : y = x <;> simp [h, kget]
      | cons z l ih =>
        rw [List.map_cons, kget_cons, kget_cons, kget_cons, ih]
        by_cases h1 : z.1 = x
        · by_cases h2 : y = x
          · simp [h1, h2]
          · have : ¬ x = y := fun w => h2 w.symm
            simp [h1, h2, this]
        · by_cases h2 : y = x
          · simp [h1, h2]
          · simp [h1, h2]
    rw [key]
    by_cases h : y = x
    · rw [if_pos h, if_pos h]
      obtain ⟨d, hd⟩ := Option.isSome_iff_exists.mp q
      rw [hd]
      rfl
    · rw [if_neg h, if_neg h]
  · rw [if_neg q]
    have hn : kget l x = none := by
      cases h : kget l x with
      | none => rfl
      | some d => rw [h] at q; exact absurd rfl q
    have key : ∀ l : List (κ × Int), kget l x = none → kget (l ++ [(x, c)]) y = if y = x then some c else kget l y := fun l => by
      induction l with
      | nil =>
        intro _
        rw [List.nil_append, kget_cons]
        by_cases h : y = x
        · rw [if_pos h, if_pos h.symm]
        · rw [if_neg h, if_neg fun w => h w.symm]
      | cons z l ih =>
        intro h0
        rw [kget_cons] at h0
        have hz : z.1 ≠ x := fun w => by rw [if_pos w] at h0; cases h0
        rw [if_neg hz] at h0
        rw [List.cons_append, kget_cons, kget_cons, ih h0]
        by_cases h2 : y = x
        · rw [if_pos h2, if_neg (by rw [h2]; exact hz)]
          rw [if_pos h2]
        · rw [if_neg h2, if_neg h2]
    exact key l hn
end
theorem tget_tput (t : Tab) (m : Mon) (c : Int) (x : Mon) : tget (tput t m c) x = if x = m then some c else tget t x := kget_kput t m c x
theorem tget_cons (e : Mon × Int) (t : Tab) (x : Mon) : tget (e :: t) x = if e.1 = x then some e.2 else tget t x := kget_cons e t x
/-- the coefficient -/
def co (t : Tab) (x : Mon) : Int := (tget t x).getD 0
theorem co_tadd (t : Tab) (m : Mon) (c : Int) (x : Mon) : co (tadd t m c) x = co t x + if x = m then c else 0 := by
  unfold co tadd
  rw [tget_tput]
  by_cases h : x = m
  · rw [if_pos h, if_pos h, h]
    rfl
  · rw [if_neg h, if_neg h, Int.add_zero]
theorem tget_tdrop (m x : Mon) : ∀ t : Tab, tget (tdrop t m) x = if x = m then none else tget t x
  | [] => by by_cases h : x = m <;> simp [h, tget, tdrop]
  | e :: t => by
    have ih := tget_tdrop m x t
    unfold tdrop at ih ⊢
    rw [List.filter_cons]
    by_cases c : e.1 = m
    · have : ¬ decide (e.1 ≠ m) = true := by simp [c]
      rw [if_neg this, ih, tget_cons]
      by_cases h : x = m
      · rw [if_pos h, if_pos h]
      · rw [if_neg h, if_neg h, if_neg fun w => h (w.symm.trans c)]
    · have : decide (e.1 ≠ m) = true := by simp [c]
      rw [if_pos this, tget_cons, tget_cons, ih]
      by_cases h : x = m
      · rw [if_pos h, if_pos h, if_neg fun w => c (w.trans h)]
      · rw [if_neg h, if_neg h]
theorem co_tstep (f : Int) (t : Tab) (e : Mon × Int) (x : Mon) : co (tstep f t e) x = co t x + if x = e.1 then f * e.2 else 0 := by
  unfold tstep
  by_cases c : (tget t e.1).getD 0 + f * e.2 = 0
  · rw [if_pos c]
    unfold co
    rw [tget_tdrop]
    by_cases h : x = e.1
    · rw [if_pos h, if_pos h, h]
      exact c.symm
    · rw [if_neg h, if_neg h, Int.add_zero]
  · rw [if_neg c]
    exact co_tadd t e.1 (f * e.2) x
theorem co_nil (x : Mon) : co [] x = 0 := rfl
theorem tget_nil (x : Mon) : tget [] x = none := rfl
theorem co_mem {t : Tab} (h : Nd t) {e : Mon × Int} (he : e ∈ t) : co t e.1 = e.2 := by
  unfold co
  rw [tget_mem h he]
  rfl
theorem co_notin {t : Tab} {x : Mon} (h : ∀ e ∈ t, e.1 ≠ x) : co t x = 0 := by
  unfold co
  rw [tget_none h]
  rfl
theorem co_cons {e : Mon × Int} {t : Tab} (h : Nd (e :: t)) (x : Mon) : co (e :: t) x = co t x + if x = e.1 then e.2 else 0 := by
  have h' := List.nodup_cons.mp h
  unfold co
  rw [tget_cons]
  by_cases c : x = e.1
  · have hn : tget t x = none := tget_none fun w hw q => h'.1 (List.mem_map.mpr ⟨w, hw, q.trans c⟩)
    rw [if_pos c.symm, if_pos c, hn]
    simp
  · rw [if_neg fun w => c w.symm, if_neg c, Int.add_zero]
theorem nd_tail {e : Mon × Int} {t : Tab} (h : Nd (e :: t)) : Nd t := (List.nodup_cons.mp h).2
theorem co_foldl (step : Tab → Mon × Int → Tab) (f : Int) (hs : ∀ t e x, co (step t e) x = co t x + if x = e.1 then f * e.2 else 0) (x : Mon) : ∀ {b : Tab}, Nd b → ∀ a : Tab, co (b.foldl step a) x = co a x + f * co b x
  | [], _, a => by rw [co_nil, Int.mul_zero, Int.add_zero]; rfl
  | e :: b, h, a => by
    rw [List.foldl_cons, co_foldl step f hs x (nd_tail h), hs, co_cons h]
    by_cases c : x = e.1
    · rw [if_pos c, if_pos c, Int.mul_add]
      omega
    · rw [if_neg c, if_neg c, Int.add_zero, Int.add_zero]
theorem co_tsum {a b : Tab} {f : Int} (h : Nd b) (x : Mon) : co (tsum a b f) x = co a x + f * co b x := co_foldl (tstep f) f (co_tstep f) x h a
theorem co_ltsum {a b : Tab} {f : Int} (h : Nd b) (x : Mon) : co (ltsum a b f) x = co a x + f * co b x := co_foldl (fun t e => tadd t e.1 (f * e.2)) f (fun t e x => co_tadd t e.1 (f * e.2) x) x h a
/-! products -/
def dl (m x : Mon) : Int := if m = x then 1 else 0
def TT (h : Mon → Int) (t : Tab) : Int := (t.map fun e => h e.1 * e.2).sum
theorem TT_cons (h : Mon → Int) (e : Mon × Int) (t : Tab) : TT h (e :: t) = h e.1 * e.2 + TT h t := by unfold TT; rw [List.map_cons, List.sum_cons]
theorem co_trow {e : Mon × Int} (x : Mon) : ∀ (b t : Tab), co (trow b t e) x = co t x + e.2 * TT (fun m' => dl (mprod e.1 m') x) b
  | [], t => by unfold trow TT; simp
  | g :: b, t => by
    have ih := co_trow (e := e) x b (tadd t (mprod e.1 g.1) (e.2 * g.2))
    show co (trow b (tadd t (mprod e.1 g.1) (e.2 * g.2)) e) x = _
    rw [ih, co_tadd, TT_cons]
    unfold dl
    by_cases c : x = mprod e.1 g.1
    · rw [if_pos c, if_pos c.symm, Int.one_mul, Int.mul_add]
      omega
    · rw [if_neg c, if_neg fun w => c w.symm, Int.zero_mul, Int.zero_add]
      omega
def PP (a b : Tab) (x : Mon) : Int := TT (fun m => TT (fun m' => dl (mprod m m') x) b) a
theorem co_tprodF (b : Tab) (x : Mon) : ∀ (a t : Tab), co (a.foldl (trow b) t) x = co t x + PP a b x
  | [], t => by unfold PP TT; simp
  | e :: a, t => by
    rw [List.foldl_cons, co_tprodF b x a, co_trow]
    unfold PP
    rw [TT_cons, Int.mul_comm e.2]
    omega
theorem co_tprod0 (a b : Tab) (x : Mon) : co (tprod0 a b) x = PP a b x := by
  unfold tprod0
  rw [co_tprodF, co_nil, Int.zero_add]
theorem co_filter {t : Tab} (h : Nd t) (x : Mon) : co (t.filter nz) x = co t x := by
  have hf : Nd (t.filter nz) := (show Nd t from h).sublist (List.Sublist.map _ List.filter_sublist)
  cases q : tget t x with
  | none =>
    have h1 : co t x = 0 := by unfold co; rw [q]; rfl
    rw [h1]
    refine co_notin fun e he w => ?_
    have := tget_mem h (List.mem_filter.mp he).1
    rw [w, q] at this
    cases this
  | some c =>
    obtain ⟨e, he, rfl, rfl⟩ := tget_some q
    rw [co_mem h he]
    by_cases z : e.2 = 0
    · rw [z]
      refine co_notin fun g hg w => ?_
      have h1 := (List.mem_filter.mp hg)
      have h2 := nd_inj h h1.1 he w
      rw [h2] at h1
      have h3 := h1.2
      unfold nz at h3
      simp [z] at h3
    · exact co_mem hf (List.mem_filter.mpr ⟨he, by unfold nz; simpa using z⟩)
theorem sum_perm {l m : List Int} (p : l.Perm m) : l.sum = m.sum := by
  induction p with
  | nil => rfl
  | cons x _ ih => rw [List.sum_cons, List.sum_cons, ih]
  | swap x y l => simp only [List.sum_cons]; omega
  | trans _ _ i1 i2 => exact i1.trans i2
theorem nodup_of_nd {t : Tab} (h : Nd t) : t.Nodup := (List.pairwise_map.mp h).imp fun q z => q (by rw [z])
theorem nz_perm {t u : Tab} (ht : Nd t) (hu : Nd u) (h : ∀ x, co t x = co u x) : (t.filter nz).Perm (u.filter nz) := by
  have ft : Nd (t.filter nz) := (show Nd t from ht).sublist (List.Sublist.map _ List.filter_sublist)
  have fu : Nd (u.filter nz) := (show Nd u from hu).sublist (List.Sublist.map _ List.filter_sublist)
  have one : ∀ {t u : Tab}, Nd t → Nd u → (∀ x, co t x = co u x) → ∀ e ∈ t.filter nz, e ∈ u.filter nz := fun {t u} ht hu h e he => by
    obtain ⟨h1, h2⟩ := List.mem_filter.mp he
    have q := h e.1
    rw [co_mem ht h1] at q
    have hz : e.2 ≠ 0 := by unfold nz at h2; simpa using h2
    cases w : tget u e.1 with
    | none => unfold co at q; rw [w] at q; exact absurd q hz
    | some c =>
      unfold co at q
      rw [w] at q
      obtain ⟨g, hg, g1, g2⟩ := tget_some w
      have : g = e := Prod.ext g1 (g2.trans q.symm)
      rw [← this]
      exact List.mem_filter.mpr ⟨hg, by rw [this]; exact h2⟩
  exact (List.perm_ext_iff_of_nodup (nodup_of_nd ft) (nodup_of_nd fu)).mpr fun e => ⟨one ht hu h e, one hu ht (fun x => (h x).symm) e⟩
theorem TT_filter (h : Mon → Int) : ∀ t : Tab, TT h (t.filter nz) = TT h t
  | [] => rfl
  | e :: t => by
    rw [List.filter_cons]
    by_cases c : nz e = true
    · rw [if_pos c, TT_cons, TT_cons, TT_filter h t]
    · rw [if_neg c, TT_cons, TT_filter h t]
      have z : e.2 = 0 := by unfold nz at c; simpa using c
      rw [z, Int.mul_zero, Int.zero_add]
theorem TT_co {t u : Tab} (ht : Nd t) (hu : Nd u) (h : ∀ x, co t x = co u x) (g : Mon → Int) : TT g t = TT g u := by
  rw [← TT_filter g t, ← TT_filter g u]
  exact sum_perm ((nz_perm ht hu h).map _)
theorem TT_congr {g h : Mon → Int} (e : ∀ m, g m = h m) (t : Tab) : TT g t = TT h t := by
  have : g = h := funext e
  rw [this]
theorem PP_co {a b a' b' : Tab} (ha : Nd a) (ha' : Nd a') (hb : Nd b) (hb' : Nd b') (h1 : ∀ x, co a x = co a' x) (h2 : ∀ x, co b x = co b' x) (x : Mon) : PP a b x = PP a' b' x := by
  unfold PP
  rw [TT_co ha ha' h1]
  exact TT_congr (fun m => TT_co hb hb' h2 _) _
theorem TT_add (g h : Mon → Int) (t : Tab) : TT (fun m => g m + h m) t = TT g t + TT h t := by
  induction t with
  | nil => rfl
  | cons e t ih =>
    rw [TT_cons, TT_cons, TT_cons, ih, Int.add_mul]
    omega
theorem TT_mul (g : Mon → Int) (c : Int) (t : Tab) : TT (fun m => g m * c) t = TT g t * c := by
  induction t with
  | nil => show (0 : Int) = 0 * c; rw [Int.zero_mul]
  | cons e t ih =>
    rw [TT_cons, TT_cons, ih, Int.add_mul, Int.mul_assoc, Int.mul_assoc, Int.mul_comm c]
theorem TT_swap (F : Mon → Mon → Int) (b : Tab) : ∀ a : Tab, TT (fun m => TT (F m) b) a = TT (fun m' => TT (fun m => F m m') a) b
  | [] => by
    show (0 : Int) = TT (fun _ => 0) b
    induction b with
    | nil => rfl
    | cons e b ih => rw [TT_cons, ← ih, Int.zero_mul]; rfl
  | e :: a => by
    rw [TT_cons, TT_swap F b a]
    have h : TT (fun m' => TT (fun m => F m m') (e :: a)) b = TT (fun m' => F e.1 m' * e.2 + TT (fun m => F m m') a) b := TT_congr (fun m' => TT_cons _ e a) b
    rw [h, TT_add, TT_mul]
theorem mprod_comm : ∀ a b : Mon, mprod a b = mprod b a
  | [], b => by rw [nil_mprod, mprod_nil]
  | x :: a, [] => by rw [nil_mprod, mprod_nil]
  | x :: a, y :: b => by
    rw [mprod_cons, mprod_cons]
    by_cases h : x.1 = y.1
    · rw [if_pos h, if_pos h.symm, mprod_comm a b, h, Int.add_comm]
    · rw [if_neg h, if_neg fun w => h (Eq.symm w)]
      by_cases l : x.1 < y.1
      · rw [if_pos l, if_neg (by omega), mprod_comm a (y :: b)]
      · rw [if_neg l, if_pos (by omega), mprod_comm (x :: a) b]
termination_by a b => a.length + b.length
theorem PP_comm (a b : Tab) (x : Mon) : PP a b x = PP b a x := by
  unfold PP
  rw [TT_swap]
  exact TT_congr (fun m => TT_congr (fun m' => by rw [mprod_comm]) _) _
theorem tprod0_nd {a b : Tab} (ha : MB 100 a) (hb : MB 100 b) : Nd (tprod0 a b) := (tprod0_good ha hb).1
theorem co_tprod {a b : Tab} (ha : MB 100 a) (hb : MB 100 b) (x : Mon) : co (tprod a b) x = PP a b x := by
  unfold tprod tprod1
  split
  · rw [co_filter (tprod0_nd hb ha), co_tprod0, PP_comm]
  · rw [co_filter (tprod0_nd ha hb), co_tprod0]
/-! listed -/
theorem toks_inj {a b : Mon} (h : PySem.W.keyToks (ordK a) = PySem.W.keyToks (ordK b)) : a = b := by
  cases q : PyData.eqv (ordK a) (ordK b) with
  | true => exact eqv_K q
  | false =>
    have k := (PySem.W.toks_eqv (ordK a) (ordK b) (alike_K a b)).2 q [] [.inl 0]
    rw [h] at k
    rw [PySem.W.lex_pre] at k
    have k2 : PyProof.Rows.lexLt PyProof.Rows.itemOrd (PySem.W.keyToks (ordK b)) (PySem.W.keyToks (ordK b)) = false := PyProof.Rows.lex_irrefl _
    first
      | (rw [k2] at k; exact nomatch k)
      | (unfold PySem.W.dataLt at k; rw [h, k2] at k; exact nomatch k)
theorem leK_anti {a b : Mon} (h1 : leK a b = true) (h2 : leK b a = true) : a = b := by
  unfold leK at h1 h2
  refine toks_inj (PyProof.Rows.lex_total (O := PyProof.Rows.itemOrd) _ _ ?_ ?_)
  · have q : PySem.W.dataLt (ordK a) (ordK b) = false := by simpa using h2
    exact q
  · have q : PySem.W.dataLt (ordK b) (ordK a) = false := by simpa using h1
    exact q
theorem leK_tot : PySem.W.TotalLe (fun a b : Mon × Int => leK a.1 b.1) := PySem.W.sortLe_total (PyProof.Rows.listOrd PyProof.Rows.itemOrd) false fun e : Mon × Int => PySem.W.keyToks (ordK e.1)
theorem listed_perm (t : Tab) : (listed t).Perm (t.filter nz) := List.mergeSort_perm _ _
theorem listed_sorted (t : Tab) : (listed t).Pairwise (fun a b => leK a.1 b.1 = true) := List.pairwise_mergeSort (le := fun a b : Mon × Int => leK a.1 b.1) (fun x y z => leK_tot.trans x y z) (fun x y => Bool.or_eq_true_iff.mpr (leK_tot.total x y)) _
theorem listed_co {t u : Tab} (ht : Nd t) (hu : Nd u) (h : ∀ x, co t x = co u x) : listed t = listed u := by
  refine sorted_unique (fun a b => leK a.1 b.1) _ _ ((listed_perm t).trans ((nz_perm ht hu h).trans (listed_perm u).symm)) (listed_sorted t) (listed_sorted u) fun a ha b hb h1 h2 => ?_
  have ha' := (List.mem_filter.mp ((listed_perm t).subset ha)).1
  have hb' := (List.mem_filter.mp ((listed_perm t).subset hb)).1
  exact nd_inj ht ha' hb' (leK_anti h1 h2)
theorem listed_nd {t : Tab} (h : Nd t) : Nd (listed t) := by
  have hf : Nd (t.filter nz) := (show Nd t from h).sublist (List.Sublist.map _ List.filter_sublist)
  exact ((listed_perm t).map _).nodup_iff.mpr hf
theorem listed_mem {t : Tab} {e : Mon × Int} (h : e ∈ listed t) : e ∈ t ∧ e.2 ≠ 0 := by
  obtain ⟨h1, h2⟩ := List.mem_filter.mp ((listed_perm t).subset h)
  exact ⟨h1, by unfold nz at h2; simpa using h2⟩
theorem listed_len (t : Tab) : (listed t).length ≤ t.length := by
  rw [(listed_perm t).length_eq]
  exact List.length_filter_le _ _
theorem co_listed {t : Tab} (h : Nd t) (x : Mon) : co (listed t) x = co t x := by
  rw [← co_filter h x]
  have hf : Nd (t.filter nz) := (show Nd t from h).sublist (List.Sublist.map _ List.filter_sublist)
  have hl := listed_nd h
  cases q : tget (t.filter nz) x with
  | none =>
    have h1 : co (t.filter nz) x = 0 := by unfold co; rw [q]; rfl
    rw [h1]
    refine co_notin fun e he w => ?_
    have := tget_mem hf ((listed_perm t).subset he)
    rw [w, q] at this
    cases this
  | some c =>
    obtain ⟨e, he, rfl, rfl⟩ := tget_some q
    rw [co_mem hf he, co_mem hl ((listed_perm t).symm.subset he)]
/-! good monomials -/
def Mg (m : Mon) : Prop := Asc m ∧ ∀ z ∈ m, 0 ≤ z.1 ∧ z.1 < 5 ∧ 1 ≤ z.2
theorem mkM_good : ∀ (es : List Nat) (k : Nat), k + es.length ≤ 5 → Asc (mkM k es) ∧ ∀ z ∈ mkM k es, (k : Int) ≤ z.1 ∧ z.1 < 5 ∧ 1 ≤ z.2
  | [], k, _ => ⟨List.Pairwise.nil, fun z h => nomatch h⟩
  | x :: es, k, h => by
    rw [List.length_cons] at h
    obtain ⟨h1, h2⟩ := mkM_good es (k + 1) (by omega)
    show Asc (if x = 0 then mkM (k + 1) es else ((k : Int), (x : Int)) :: mkM (k + 1) es) ∧ ∀ z ∈ (if x = 0 then mkM (k + 1) es else ((k : Int), (x : Int)) :: mkM (k + 1) es), _
    by_cases c : x = 0
    · rw [if_pos c]
      exact ⟨h1, fun z hz => by have := h2 z hz; omega⟩
    · rw [if_neg c]
      refine ⟨asc_cons.mpr ⟨fun w hw => by have := h2 w hw; show (k : Int) < w.1; omega, h1⟩, fun z hz => ?_⟩
      rcases List.mem_cons.mp hz with rfl | hz
      · show (k : Int) ≤ (k : Int) ∧ (k : Int) < 5 ∧ 1 ≤ (x : Int)
        omega
      · have := h2 z hz
        omega
theorem DrM.good {m : Mon} (h : DrM m) : Mg m := by
  obtain ⟨es, h1, _, rfl⟩ := h
  obtain ⟨q1, q2⟩ := mkM_good es 0 (by omega)
  exact ⟨q1, fun z hz => by have := q2 z hz; omega⟩
theorem mprod_mem : ∀ (a b : Mon) (P : Int × Int → Prop), (∀ z ∈ a, P z) → (∀ z ∈ b, P z) → (∀ x y : Int × Int, P x → P y → x.1 = y.1 → P (x.1, x.2 + y.2)) → ∀ z ∈ mprod a b, P z
  | [], b, P, _, h2, _, z, hz => by rw [nil_mprod] at hz; exact h2 z hz
  | x :: a, [], P, h1, _, _, z, hz => by rw [mprod_nil] at hz; exact h1 z hz
  | x :: a, y :: b, P, h1, h2, h3, z, hz => by
    rw [mprod_cons] at hz
    have i1 : ∀ z ∈ a, P z := fun z hz => h1 z (List.mem_cons_of_mem _ hz)
    have i2 : ∀ z ∈ b, P z := fun z hz => h2 z (List.mem_cons_of_mem _ hz)
    split at hz
    · rename_i e
      rcases List.mem_cons.mp hz with rfl | hz
      · exact h3 x y (h1 x List.mem_cons_self) (h2 y List.mem_cons_self) e
      · exact mprod_mem a b P i1 i2 h3 z hz
    · split at hz
      · rcases List.mem_cons.mp hz with rfl | hz
        · exact h1 _ List.mem_cons_self
        · exact mprod_mem a (y :: b) P i1 h2 h3 z hz
      · rcases List.mem_cons.mp hz with rfl | hz
        · exact h2 _ List.mem_cons_self
        · exact mprod_mem (x :: a) b P h1 i2 h3 z hz
termination_by a b => a.length + b.length
theorem Mg.mul {a b : Mon} (ha : Mg a) (hb : Mg b) : Mg (mprod a b) := ⟨mprod_asc a b ha.1 hb.1, mprod_mem a b (fun z => 0 ≤ z.1 ∧ z.1 < 5 ∧ 1 ≤ z.2) ha.2 hb.2 fun x y h1 h2 _ => ⟨h1.1, h1.2.1, by show 1 ≤ x.2 + y.2; omega⟩⟩
def TMg (t : Tab) : Prop := ∀ e ∈ t, Mg e.1
theorem tadd_mg {t : Tab} {m : Mon} {c : Int} (h : TMg t) (hm : Mg m) : TMg (tadd t m c) := fun e he => by
  rcases tput_keys _ _ _ e he with ⟨g, hg, q⟩ | q
  · rw [← q]; exact h g hg
  · rw [q]; exact hm
theorem foldl_mg {β : Type} (step : Tab → β → Tab) {l : List β} (hs : ∀ t, TMg t → ∀ e ∈ l, TMg (step t e)) : ∀ t, TMg t → TMg (l.foldl step t) := by
  induction l with
  | nil => intro t h; exact h
  | cons e l ih => intro t h; exact ih (fun t h g hg => hs t h g (List.mem_cons_of_mem _ hg)) _ (hs t h e List.mem_cons_self)
theorem ltsum_mg {a b : Tab} {f : Int} (ha : TMg a) (hb : TMg b) : TMg (ltsum a b f) := foldl_mg _ (fun t h e he => tadd_mg h (hb e he)) a ha
theorem tprod0_mg {a b : Tab} (ha : TMg a) (hb : TMg b) : TMg (tprod0 a b) := foldl_mg _ (fun t h e he => foldl_mg _ (fun t h g hg => tadd_mg h ((ha e he).mul (hb g hg))) t h) [] fun e h => nomatch h
theorem isMon_of {m : Mon} (h : Mg m) : isMon m = true := by
  unfold isMon
  rw [Bool.and_eq_true]
  refine ⟨?_, List.all_eq_true.mpr fun z hz => ?_⟩
  · have key : ∀ l : List Int, l.Pairwise (· < ·) → ascB l = true := fun l => by
      induction l with
      | nil => intro _; rfl
      | cons x l ih => cases l with
        | nil => intro _; rfl
        | cons y r =>
          intro h
          have h' := List.pairwise_cons.mp h
          show (decide (x < y) && ascB (y :: r)) = true
          rw [ih h'.2, decide_eq_true (h'.1 y List.mem_cons_self)]
          rfl
    exact key _ h.1
  · have := h.2 z hz
    rw [Bool.and_eq_true]
    exact ⟨decide_eq_true (by omega), decide_eq_true (by omega)⟩
theorem isPoly_listed {t : Tab} (hn : Nd t) (h : TMg t) : isPoly (listed t) = true := by
  have hg : ∀ e ∈ listed t, goodE e = true := fun e he => by
    obtain ⟨h1, h2⟩ := listed_mem he
    unfold goodE
    rw [isMon_of (h e h1), Bool.and_true]
    exact decide_eq_true h2
  rw [good_poly hg]
  cases q : badAt ltD ((listed t).map fun e => ordK e.1) with
  | false => rfl
  | true =>
    exfalso
    obtain ⟨i, a, b, h1, h2, h3⟩ := (bad_get _ _).mp q
    rw [List.getElem?_map] at h1 h2
    obtain ⟨x, hx, rfl⟩ := Option.map_eq_some_iff.mp h1
    obtain ⟨y, hy, rfl⟩ := Option.map_eq_some_iff.mp h2
    obtain ⟨hi1, ex⟩ := List.getElem?_eq_some_iff.mp hx
    obtain ⟨hi2, ey⟩ := List.getElem?_eq_some_iff.mp hy
    have hs := List.pairwise_iff_getElem.mp (listed_sorted t) i (i + 1) hi1 hi2 (by omega)
    rw [ex, ey] at hs
    have hl : leK y.1 x.1 = true := by
      unfold leK
      have h3' : PySem.W.dataLt (ordK x.1) (ordK y.1) = false := h3
      rw [h3']
      rfl
    have e := leK_anti hs hl
    have hnl := List.pairwise_iff_getElem.mp (show ((listed t).map (·.1)).Pairwise (· ≠ ·) from listed_nd hn) i (i + 1) (by rw [List.length_map]; exact hi1) (by rw [List.length_map]; exact hi2) (by omega)
    rw [List.getElem_map, List.getElem_map, ex, ey] at hnl
    exact hnl e


/-! copies: no two drawn monomials have the same hash -/
def allE : Nat → List (List Nat)
  | 0 => [[]]
  | n + 1 => (allE n).flatMap fun es => [0 :: es, 1 :: es, 2 :: es, 3 :: es, 4 :: es]
theorem allE_mem : ∀ (es : List Nat), (∀ x ∈ es, x ≤ 4) → es ∈ allE es.length
  | [], _ => List.mem_singleton.mpr rfl
  | x :: es, h => by
    have ih := allE_mem es fun y hy => h y (List.mem_cons_of_mem _ hy)
    have hx := h x List.mem_cons_self
    refine List.mem_flatMap.mpr ⟨es, ih, ?_⟩
    match x, hx with
    | 0, _ => simp
    | 1, _ => simp
    | 2, _ => simp
    | 3, _ => simp
    | 4, _ => simp


def hM (m : Mon) : Int := reduceHash (Builtin.Tuple.tupleHashOf (m.map fun z => reduceHash (Builtin.Tuple.tupleHashOf [hashInt z.1, hashInt z.2])))
theorem hash_keyM (w : World) (m : Mon) : NestedKey.hash w (keyM m) = hM m := by
  have h : ∀ m : Mon, NestedKey.hashes w (m.map fun z => NestedKey.tup [.num z.1, .num z.2]) = m.map fun z => reduceHash (Builtin.Tuple.tupleHashOf [hashInt z.1, hashInt z.2]) := fun m => by
    induction m with
    | nil => rfl
    | cons z m ih => exact congrArg (_ :: ·) ih
  show reduceHash (Builtin.Tuple.tupleHashOf (NestedKey.hashes w _)) = _
  rw [h]
  rfl
inductive BT where
  | lf
  | nd (l : BT) (x : Int) (r : BT)
def BT.ins : BT → Int → Option BT
  | .lf, x => some (.nd .lf x .lf)
  | .nd l y r, x => if x < y then (l.ins x).map fun l' => .nd l' y r else if y < x then (r.ins x).map fun r' => .nd l y r' else none
def BT.look : BT → Int → Bool
  | .lf, _ => false
  | .nd l y r, x => if x < y then l.look x else if y < x then r.look x else true
theorem BT.ins_ok : ∀ {t t' : BT} {x : Int}, t.ins x = some t' → t.look x = false ∧ t'.look x = true ∧ ∀ y, t.look y = true → t'.look y = true
  | .lf, t', x, h => by
    cases h
    refine ⟨rfl, ?_, fun y h => nomatch h⟩
    show (if x < x then _ else if x < x then _ else true) = true
    rw [if_neg (Int.lt_irrefl x), if_neg (Int.lt_irrefl x)]
  | .nd l z r, t', x, h => by
    unfold BT.ins at h
    by_cases c : x < z
    · rw [if_pos c] at h
      obtain ⟨l', h1, rfl⟩ := Option.map_eq_some_iff.mp h
      obtain ⟨q1, q2, q3⟩ := BT.ins_ok h1
      refine ⟨?_, ?_, fun y hy => ?_⟩
      · unfold BT.look; rw [if_pos c]; exact q1
      · unfold BT.look; rw [if_pos c]; exact q2
      · unfold BT.look at hy ⊢
        by_cases d : y < z
        · rw [if_pos d] at hy ⊢; exact q3 y hy
        · rw [if_neg d] at hy ⊢; exact hy
    · rw [if_neg c] at h
      by_cases c2 : z < x
      · rw [if_pos c2] at h
        obtain ⟨r', h1, rfl⟩ := Option.map_eq_some_iff.mp h
        obtain ⟨q1, q2, q3⟩ := BT.ins_ok h1
        refine ⟨?_, ?_, fun y hy => ?_⟩
        · unfold BT.look; rw [if_neg c, if_pos c2]; exact q1
        · unfold BT.look; rw [if_neg c, if_pos c2]; exact q2
        · unfold BT.look at hy ⊢
          by_cases d : y < z
          · rw [if_pos d] at hy ⊢; exact hy
          · rw [if_neg d] at hy ⊢
            by_cases d2 : z < y
            · rw [if_pos d2] at hy ⊢; exact q3 y hy
            · rw [if_neg d2]
      · rw [if_neg c2] at h; cases h
def chkL : List Int → BT → Bool
  | [], _ => true
  | x :: l, t => match t.ins x with
    | none => false
    | some t' => chkL l t'
theorem chk_ok : ∀ {l : List Int} {t : BT}, chkL l t = true → l.Nodup ∧ ∀ x ∈ l, t.look x = false
  | [], _, _ => ⟨List.nodup_nil, fun x h => nomatch h⟩
  | x :: l, t, h => by
    unfold chkL at h
    split at h
    · cases h
    · rename_i t' e
      obtain ⟨q1, q2, q3⟩ := BT.ins_ok e
      obtain ⟨h1, h2⟩ := chk_ok h
      refine ⟨List.nodup_cons.mpr ⟨fun hx => ?_, h1⟩, fun y hy => ?_⟩
      · have := h2 x hx
        rw [q2] at this
        cases this
      · rcases List.mem_cons.mp hy with rfl | hy
        · exact q1
        · cases w : t.look y with
          | false => rfl
          | true =>
            have := h2 y hy
            rw [q3 y w] at this
            cases this
theorem hash_all : chkL ((allE 5).map fun es => hM (mkM 0 es)) .lf = true := by decide +kernel
theorem map_inj_of_nodup {α β : Type} {f : α → β} : ∀ {l : List α}, (l.map f).Nodup → ∀ a ∈ l, ∀ b ∈ l, f a = f b → a = b
  | [], _, a, h, _, _, _ => nomatch h
  | x :: l, hn, a, ha, b, hb, e => by
    have h := List.nodup_cons.mp hn
    rcases List.mem_cons.mp ha with e1 | ha1
    · rcases List.mem_cons.mp hb with e2 | hb1
      · rw [e1, e2]
      · exact absurd (List.mem_map.mpr ⟨b, hb1, by rw [← e, e1]⟩) h.1
    · rcases List.mem_cons.mp hb with e2 | hb1
      · exact absurd (List.mem_map.mpr ⟨a, ha1, by rw [e, e2]⟩) h.1
      · exact map_inj_of_nodup h.2 a ha1 b hb1 e
theorem hM_inj {a b : Mon} (ha : DrM a) (hb : DrM b) (h : hM a = hM b) : a = b := by
  obtain ⟨es, h1, h2, rfl⟩ := ha
  obtain ⟨fs, k1, k2, rfl⟩ := hb
  have m1 := allE_mem es h2
  have m2 := allE_mem fs k2
  rw [h1] at m1
  rw [k1] at m2
  rw [map_inj_of_nodup (chk_ok hash_all).1 es m1 fs m2 h]
theorem hash_ok {t : Tab} (hn : Nd t) (h : ∀ e ∈ t, DrM e.1) : HashOk t := fun w => by
  unfold encT
  rw [List.map_map]
  have e : ((fun e : D × D => NestedKey.hash w (ND.keyOf e.1)) ∘ fun e : Mon × Int => (encM e.1, PyData.int e.2)) = fun e => hM e.1 := by
    funext e
    show NestedKey.hash w (ND.keyOf (encM e.1)) = _
    rw [key_enc, hash_keyM]
  rw [e]
  unfold Nd at hn
  rw [List.Nodup, List.pairwise_map] at hn ⊢
  have hp := List.Pairwise.and_mem.mp hn
  exact hp.imp fun ⟨ha, hb, q⟩ z => q (hM_inj (h _ ha) (h _ hb) z)
/-! drawn tables -/
theorem DrT.tab {t : Tab} (h : DrT t) : TabOk t := ⟨by have := h.len; omega, h.nd, fun e he => by have := (h.mon e he).len; omega⟩
theorem DrT.mb {t : Tab} (h : DrT t) : MB 10 t := fun e he => by have := (h.mon e he).len; omega
theorem DrT.mb100 {t : Tab} (h : DrT t) : MB 100 t := fun e he => by have := (h.mon e he).len; omega
theorem DrT.mg {t : Tab} (h : DrT t) : TMg t := fun e he => (h.mon e he).good
theorem DrT.sm {t : Tab} (h : DrT t) : ∀ e ∈ t, Sm e.2 := fun e he => sm_of (h.cb e he) (by decide)
theorem DrT.hash {t : Tab} (h : DrT t) : HashOk t := hash_ok h.nd h.mon
theorem DrT.pow {t : Tab} (h : DrT t) : PowOk t := ⟨h.tab, by have := h.len; omega, h.mb, h.cb⟩
theorem DrT.listed {t : Tab} (h : DrT t) : DrT (listed t) := ⟨listed_nd h.nd, Nat.le_trans (listed_len t) h.len, fun e he => h.mon e (listed_mem he).1, fun e he => h.cb e (listed_mem he).1⟩
def negT (t : Tab) : Tab := t.map fun e => (e.1, -e.2)
theorem DrT.neg {t : Tab} (h : DrT t) : DrT (negT t) := by
  refine ⟨?_, by unfold negT; rw [List.length_map]; exact h.len, fun e he => ?_, fun e he => ?_⟩
  · have := h.nd
    unfold Nd negT at *
    rw [List.map_map]
    exact this
  · obtain ⟨g, hg, rfl⟩ := List.mem_map.mp he
    exact h.mon g hg
  · obtain ⟨g, hg, rfl⟩ := List.mem_map.mp he
    have := h.cb g hg
    show (-g.2).natAbs ≤ _
    rw [Int.natAbs_neg]
    exact this
/-! both sides agree -/
theorem eq_sum {A B a b : Tab} {f : Int} (hA : DrT A) (hB : DrT B) (ha : DrT a) (hb : DrT b) (h1 : ∀ x, co A x = co a x) (h2 : ∀ x, co B x = co b x) : listed (tsum A B f) = listed (ltsum a b f) :=
  listed_co (tsum_good hA.tab hB.tab).1 (ltsum_good ha.tab hb.tab).1 fun x => by rw [co_tsum hB.nd, co_ltsum hb.nd, h1, h2]
theorem eq_prod {A B a b : Tab} (hA : DrT A) (hB : DrT B) (ha : DrT a) (hb : DrT b) (h1 : ∀ x, co A x = co a x) (h2 : ∀ x, co B x = co b x) : listed (tprod A B) = listed (tprod0 a b) :=
  listed_co (tprod_good hA.mb100 hB.mb100).1 (tprod0_nd ha.mb100 hb.mb100) fun x => by rw [co_tprod hA.mb100 hB.mb100, co_tprod0, PP_co hA.nd ha.nd hB.nd hb.nd h1 h2]
theorem tget_map (n : Int) (x : Mon) : ∀ t : Tab, tget (t.map fun e => (e.1, e.2 * n)) x = (tget t x).map (· * n)
  | [] => rfl
  | e :: t => by
    rw [List.map_cons, tget_cons, tget_cons, tget_map n x t]
    by_cases c : e.1 = x
    · rw [if_pos c, if_pos c]; rfl
    · rw [if_neg c, if_neg c]
theorem listed_fix {t : Tab} (hn : Nd t) (hz : ∀ e ∈ t, e.2 ≠ 0) (hs : t.Pairwise fun a b => leK a.1 b.1 = true) : listed t = t := by
  have hf : t.filter nz = t := List.filter_eq_self.mpr fun e he => by unfold nz; simpa using hz e he
  have p := listed_perm t
  rw [hf] at p
  refine sorted_unique (fun a b => leK a.1 b.1) _ _ p (listed_sorted t) hs fun a ha b hb h1 h2 => ?_
  exact nd_inj hn (p.subset ha) (p.subset hb) (leK_anti h1 h2)
theorem listed_nil : listed [] = [] := by simp [listed]
theorem eq_scale {a : Tab} (ha : DrT a) (n : Int) : tscale (listed a) n = listed (ltsum [] a n) := by
  have hn := (ltsum_good (f := n) (a := []) ⟨Nat.zero_le _, List.nodup_nil, fun e h => nomatch h⟩ ha.tab).1
  unfold tscale
  by_cases z : n = 0
  · rw [if_pos z]
    have q : listed [] = listed (ltsum [] a n) := listed_co List.nodup_nil hn fun x => by rw [co_ltsum ha.nd, z, Int.zero_mul, Int.add_zero]
    rw [← q, listed_nil]
  · rw [if_neg z]
    have nL : Nd ((listed a).map fun e => (e.1, e.2 * n)) := by
      have := listed_nd ha.nd
      unfold Nd at *
      rw [List.map_map]
      exact this
    have hz : ∀ e ∈ (listed a).map (fun e : Mon × Int => (e.1, e.2 * n)), e.2 ≠ 0 := fun e he => by
      obtain ⟨g, hg, rfl⟩ := List.mem_map.mp he
      exact Int.mul_ne_zero (listed_mem hg).2 z
    have hs : ((listed a).map fun e => (e.1, e.2 * n)).Pairwise fun a b => leK a.1 b.1 = true := List.pairwise_map.mpr (listed_sorted a)
    rw [← listed_fix nL hz hs]
    refine listed_co nL hn fun x => ?_
    rw [co_ltsum ha.nd, co_nil, Int.zero_add, ← co_listed ha.nd]
    unfold co
    rw [tget_map]
    cases tget (listed a) x with
    | none => show (0 : Int) = n * 0; rw [Int.mul_zero]
    | some c => show c * n = n * c; rw [Int.mul_comm]
def ltpow (a : Tab) : Nat → Tab
  | 0 => [([], 1)]
  | k + 1 => tprod0 (ltpow a k) a
theorem ltpow_ok {a : Tab} (h : PowOk a) (hg : TMg a) : ∀ k, k ≤ 4 → Nd (ltpow a k) ∧ (ltpow a k).length ≤ 8 ^ k ∧ MB (10 * k) (ltpow a k) ∧ CB (2 ^ (125 * k)) (ltpow a k) ∧ TMg (ltpow a k)
  | 0, _ => ⟨by unfold Nd ltpow; simp, Nat.le_refl _, fun e he => by rw [List.mem_singleton.mp he]; exact Nat.le_refl _, fun e he => by rw [List.mem_singleton.mp he]; exact Nat.le_refl _, fun e he => by rw [List.mem_singleton.mp he]; exact ⟨List.Pairwise.nil, fun z h => nomatch h⟩⟩
  | k + 1, hk => by
    obtain ⟨q1, q2, q3, q4, q5⟩ := ltpow_ok h hg k (by omega)
    have m1 : MB 100 (ltpow a k) := fun e he => by have := q3 e he; omega
    have m2 : MB 100 a := fun e he => by have := h.mb e he; omega
    have g := tprod0_good m1 m2
    have hl : (ltpow a k).length * a.length ≤ 8 ^ k * 8 := Nat.mul_le_mul q2 h.len
    refine ⟨g.1, Nat.le_trans g.2.1 (by rw [Nat.pow_succ]; exact hl), by rw [Nat.mul_succ]; exact tprod0_mb q3 h.mb, fun e he => Nat.le_trans (tprod0_cb q4 h.cb e he) ?_, tprod0_mg q5 hg⟩
    have e1 : (ltpow a k).length * (a.length * (2 ^ (125 * k) * 2 ^ 110)) = ((ltpow a k).length * a.length) * (2 ^ (125 * k) * 2 ^ 110) := by rw [Nat.mul_assoc]
    rw [e1]
    refine Nat.le_trans (Nat.mul_le_mul_right _ hl) ?_
    have e2 : 8 ^ k * 8 * (2 ^ (125 * k) * 2 ^ 110) = 2 ^ (3 * k + 3 + (125 * k + 110)) := by
      rw [Nat.pow_add 2 (3 * k + 3), Nat.pow_add 2 (125 * k), Nat.pow_add 2 (3 * k), Nat.pow_mul 2 3 k]
    rw [e2]
    exact Nat.pow_le_pow_right (by decide) (by omega)
theorem ltpow_tab {a : Tab} (h : PowOk a) (hg : TMg a) {k : Nat} (hk : k ≤ 4) : TabOk (ltpow a k) := by
  obtain ⟨q1, q2, q3, _⟩ := ltpow_ok h hg k hk
  have := pow8 hk
  exact ⟨by omega, q1, fun e he => by have := q3 e he; omega⟩
theorem eq_pow {A a : Tab} (hA : DrT A) (ha : DrT a) (h : ∀ x, co A x = co a x) : ∀ k, k ≤ 4 → ∀ x, co (tpow A k) x = co (ltpow a k) x
  | 0, _, x => rfl
  | k + 1, hk, x => by
    obtain ⟨q1, _, q3, _⟩ := tpow_ok hA.pow k (by omega)
    obtain ⟨r1, _, r3, _⟩ := ltpow_ok ha.pow ha.mg k (by omega)
    have m1 : MB 100 (tpow A k) := fun e he => by have := q3 e he; omega
    show co (tprod (tpow A k) A) x = co (tprod0 (ltpow a k) a) x
    rw [co_tprod m1 hA.mb100, co_tprod0]
    exact PP_co q1 r1 hA.nd ha.nd (eq_pow hA ha h k (by omega)) h x
theorem eq_powL {A a : Tab} (hA : DrT A) (ha : DrT a) (h : ∀ x, co A x = co a x) {k : Nat} (hk : k ≤ 4) : listed (tpow A k) = listed (ltpow a k) :=
  listed_co (tpow_ok hA.pow k hk).1 (ltpow_ok ha.pow ha.mg k hk).1 (eq_pow hA ha h k hk)
/-! the law's list comprehensions -/
def intD : D → Int
  | .int c => c
  | _ => 0
def monD : D → Mon
  | .tuple xs => xs.map monOf
  | _ => []
def tabD : D → Tab
  | .dict kvs => kvs.map fun p => (monD p.1, intD p.2)
  | _ => []
def polD : D → Tab
  | .list xs => xs.map fun d => match d with
    | .tuple [m, c] => (monD m, intD c)
    | _ => ([], 0)
  | _ => []
theorem monD_enc (m : Mon) : monD (encM m) = m := mon_enc m
theorem tabD_enc (t : Tab) : tabD (.dict (encT t)) = t := by
  show (encT t).map (fun p => (monD p.1, intD p.2)) = t
  unfold encT
  rw [List.map_map]
  refine (List.map_congr_left fun e _ => ?_).trans (List.map_id t)
  show (monD (encM e.1), e.2) = e
  rw [monD_enc]
theorem polD_enc (t : Tab) : polD (encP t) = t := by
  show (t.map encE).map (fun d => match d with
    | .tuple [m, c] => (monD m, intD c)
    | _ => (([], 0) : Mon × Int)) = t
  rw [List.map_map]
  refine (List.map_congr_left fun e _ => ?_).trans (List.map_id t)
  show (monD (encM e.1), e.2) = e
  rw [monD_enc]
def lisF (d : D) : Option D := some (encP (listed (tabD d)))
def polF (d : D) : Option D := some (.bool (isPoly (polD d)))
theorem lis_fm (ts : List Tab) : (ts.map fun t => PyData.dict (encT t)).filterMap lisF = (ts.map listed).map encP := by
  induction ts with
  | nil => rfl
  | cons t ts ih =>
    rw [List.map_cons, List.filterMap_cons, List.map_cons, List.map_cons, ← ih]
    show encP (listed (tabD (.dict (encT t)))) :: _ = _
    rw [tabD_enc]
theorem pol_fm {us : List Tab} (h : ∀ u ∈ us, isPoly u = true) : (us.map encP).filterMap polF = us.map fun _ => PyData.bool true := by
  induction us with
  | nil => rfl
  | cons u us ih =>
    rw [List.map_cons, List.filterMap_cons, List.map_cons, ← ih fun v hv => h v (List.mem_cons_of_mem _ hv)]
    show PyData.bool (isPoly (polD (encP u))) :: _ = _
    rw [polD_enc, h u List.mem_cons_self]
def negF (d : D) : Option D := match d with
  | .tuple [m, .int c] => some (.tuple [m, .int (-c)])
  | _ => none
theorem neg_fm (t : Tab) : (t.map encE).filterMap negF = (negT t).map encE := by
  induction t with
  | nil => rfl
  | cons e t ih => exact congrArg (encE (e.1, -e.2) :: ·) ih
theorem prsN_enc (t : Tab) : prsN (encT t) = t.map encE := by
  unfold prsN encT
  rw [List.map_map]
  rfl
def evens (t : Tab) : Tab := (List.range t.length).filterMap fun k => if k % 2 = 0 then t[k]? else none
def evF (xs : List D) (d : D) : Option D := match d with
  | .int k => if Int.fmod k 2 = 0 then xs[k.toNat]? else none
  | _ => none
theorem ev_fm (t : Tab) : (rgD 0 t.length).filterMap (evF (t.map encE)) = (evens t).map encE := by
  have key : ∀ l : List Nat, ((l.map fun (k : Nat) => PyData.int (0 + (k : Int))).filterMap (evF (t.map encE))) = (l.filterMap fun k => if k % 2 = 0 then t[k]? else none).map encE := fun l => by
    induction l with
    | nil => rfl
    | cons k l ih =>
      rw [List.map_cons, List.filterMap_cons, List.filterMap_cons]
      have e : evF (t.map encE) (.int (0 + (k : Int))) = (if k % 2 = 0 then t[k]? else none).map encE := by
        unfold evF
        have e1 : (0 + (k : Int)).toNat = k := by omega
        have e2 : Int.fmod (0 + (k : Int)) 2 = ((k % 2 : Nat) : Int) := by rw [Int.zero_add]; exact fmod_nat k 2
        simp only [e1, e2, List.getElem?_map]
        by_cases c : k % 2 = 0
        · rw [if_pos c, if_pos (by omega)]
        · rw [if_neg c, if_neg (by omega)]; rfl
      rw [e]
      cases h : (if k % 2 = 0 then t[k]? else none) with
      | none => exact ih
      | some x => exact congrArg (encE x :: ·) ih
  exact key _
theorem evens_mem {t : Tab} {e : Mon × Int} (h : e ∈ evens t) : e ∈ t := by
  obtain ⟨k, _, hk⟩ := List.mem_filterMap.mp h
  split at hk
  · exact List.mem_of_getElem? hk
  · cases hk
theorem evens_len (t : Tab) : (evens t).length ≤ t.length := Nat.le_trans (List.length_filterMap_le _ _) (by rw [List.length_range]; exact Nat.le_refl _)
theorem seq_join {t rest : DS} {D : DEnds} {ρ : Env} (J : Env → Prop) (hJ : ∀ ρ', J ρ' → rest D ρ') (h : (∀ ρ', J ρ' → rest D ρ') → dSeq t rest D ρ) : dSeq t rest D ρ := h hJ
def p_law (ds : List D) (R : D → Prop) : Prop := ∃ ns : List Int, ds = [.list (ns.map .int)] ∧ R (.bool true)
theorem len_law : ∀ ds R, p_law ds R → ds.length = (["script"] : List Str).length := fun ds R ⟨_, h, _⟩ => by rw [h]; rfl
theorem ten30 : (10 : Int) ^ (30 : Int).toNat = 1000000000000000000000000000000 := by decide

theorem abs_nat (a : Int) : (if a < 0 then -a else a) = (a.natAbs : Int) := by split <;> omega
def p_common_divisor (ds : List D) (R : D → Prop) : Prop := ∃ a b : Int, ds = [.int a, .int b] ∧ R (.int (Int.gcd a b))
theorem len_common_divisor : ∀ ds R, p_common_divisor ds R → ds.length = (["one", "two"] : List Str).length := fun ds R ⟨_, _, h, _⟩ => by rw [h]; rfl

theorem body_common_divisor {P : Program} {w : World} {K : PySem.W.Frag} {mg : Str → Option Value} {base : Heap} (z_abs : mg "abs" = none) :
  Body P w K mg base N_common_divisor "common_divisor" st_common_divisor 0 fun ts => ∀ ds R, p_common_divisor ds R → ts { nx := fun _ => R .none, rt := fun d _ => R d } (startD N_common_divisor ds) := fun f cdv A outer s H E hr => by
  refine ⟨_, (qss_cons (qs_par 0 1 (by rfl) sc_common_divisor.nd (by decide) (qa_cons (q_abs (by rfl) z_abs (qa_cons (qe_var 0) qa_nil)) (qa_cons (q_abs (by rfl) z_abs (qa_cons (qe_var 1) qa_nil)) qa_nil)))
 (qss_cons (qs_while PassesOwn.never (t_ne hr.units (qe_var 1) qe_int)
 (qss_one (qs_par 0 1 (by rfl) sc_common_divisor.nd (by decide) (qa_cons (qe_var 1) (qa_cons (q_mod (qe_var 0) (qe_var 1)) qa_nil)))))
 (qss_one (qs_ret (qe_var 0))))), ?_⟩
  intro ds R h
  obtain ⟨a, b, rfl, h⟩ := h
  refine ⟨trivial, trivial, fun m ρ => ∃ x y : Nat, ρ = [.sh (.int x), .sh (.int y)] ∧ m = y ∧ Nat.gcd x y = Int.gcd a b, ⟨_, a.natAbs, b.natAbs, ?_, rfl, rfl⟩, ?_⟩
  · show [Sl.sh (.int (if a < 0 then -a else a)), Sl.sh (.int (if b < 0 then -b else b))] = _
    rw [abs_nat, abs_nat]
  · rintro m ρ ⟨x, y, rfl, rfl, hg⟩
    refine ⟨_, rfl, fun hb => ⟨fun ρ' => ρ' = [.sh (.int m), .sh (.int ((x % m : Nat)))], ?_, ?_⟩, fun hb => ?_⟩
    · rintro _ rfl
      have hy : 0 < m := by
        have : (m : Int) ≠ 0 := by simpa using hb
        omega
      exact ⟨x % m, Nat.mod_lt _ hy, m, x % m, rfl, rfl, by rw [← hg, Nat.gcd_comm x m, Nat.gcd_rec m x, Nat.gcd_comm]⟩
    · have hy : (m : Int) ≠ 0 := by simpa using hb
      refine ⟨hy, trivial, trivial, ?_⟩
      show [Sl.sh (.int m), Sl.sh (.int (Int.fmod x m))] = _
      rw [fmod_nat]
    · have hy : m = 0 := by
        have : (m : Int) = 0 := by simpa using hb
        omega
      subst hy
      rw [Nat.gcd_zero_right] at hg
      show R (.int x)
      rw [hg]
      exact h
theorem ok_common_divisor {P : Program} {w : World} {K : PySem.W.Frag} {mg : Str → Option Value} {base : Heap} {f : Addr} {fd : FuncData} (F : Fun K "common_divisor" "common_divisor" st_common_divisor f fd) (z_abs : mg "abs" = none) :
  FnOk P w K mg base CX0 1 f fd ["one", "two"] (spD ⟨K, P, w⟩ p_common_divisor) := fn_D F sc_common_divisor len_common_divisor (body_common_divisor z_abs)
def sml (L : Nat) (x : Int) : Prop := x.natAbs < 2 ^ L
theorem sml_mono {a b : Nat} {x : Int} (h : sml a x) (hab : a ≤ b) : sml b x := Nat.lt_of_lt_of_le h (Nat.pow_le_pow_right (by decide) hab)
theorem sml_mul {a b : Nat} {x y : Int} (h : sml a x) (k : sml b y) : sml (a + b) (x * y) := by
  unfold sml at *
  rw [Int.natAbs_mul, Nat.pow_add]
  exact Nat.mul_lt_mul'' h k
theorem sml_add {a : Nat} {x y : Int} (h : sml a x) (k : sml a y) : sml (a + 1) (x + y) := by
  unfold sml at *
  have := Int.natAbs_add_le x y
  rw [Nat.pow_succ]
  omega
theorem sml_neg {a : Nat} {x : Int} (h : sml a x) : sml a (-x) := by
  unfold sml at *
  rw [Int.natAbs_neg]
  exact h
theorem sml_sub {a : Nat} {x y : Int} (h : sml a x) (k : sml a y) : sml (a + 1) (x - y) := by
  rw [Int.sub_eq_add_neg]
  exact sml_add h (sml_neg k)
theorem log2_le {a n : Nat} (h : n < 2 ^ a) : n.log2 ≤ a := by
  by_cases z : n = 0
  · rw [z]
    exact Nat.zero_le _
  · exact Nat.le_of_lt ((Nat.log2_lt z).mpr h)
theorem cmS {a b : Nat} {x y : Int} (h : sml a x) (k : sml b y) (hab : a + b < 1000000) : CMulA x y := .inr (by
  have h1 := log2_le h
  have h2 := log2_le k
  show x.natAbs.log2 + y.natAbs.log2 < 1000000
  omega)
theorem cdS8 {L : Nat} {i j : Int} (h0 : j ≠ 0) (h : sml L j) (hL : L ≤ 8000) : CDivG i j := ⟨h0, by
  have h1 := log2_le h
  have h3 : j.natAbs.log2 / 30 ≤ 8000 / 30 := Nat.div_le_div_right (Nat.le_trans h1 hL)
  have h4 : (j == 0) = false := by simpa using h0
  unfold Builtin.divisionGoesByPylong
  simp only [h4]
  have h5 : ¬ (300 < j.natAbs.log2 / 30 + 1) := by omega
  simp [h5]⟩
def gS (a b : Int) : Int := if b < 0 then -(Int.gcd a b : Int) else (Int.gcd a b : Int)
def rat (a b : Int) : Int × Int := (a.fdiv (gS a b), b.fdiv (gS a b))
theorem fdiv_of {a g x : Int} (hg : g ≠ 0) (h : a = g * x) : a.fdiv g = x := by rw [h]; exact Int.mul_fdiv_cancel_left _ hg
theorem rat_spec {a b : Int} (hb : b ≠ 0) : 0 < (rat a b).2 ∧ Int.gcd (rat a b).1 (rat a b).2 = 1 ∧ (rat a b).1.natAbs ≤ a.natAbs ∧ (rat a b).2.natAbs ≤ b.natAbs ∧ gS a b ≠ 0 ∧ (gS a b).natAbs ≤ b.natAbs := by
  have hg : 0 < Int.gcd a b := Int.gcd_pos_of_ne_zero_right a hb
  obtain ⟨x, hx⟩ : ((Int.gcd a b : Nat) : Int) ∣ a := Int.gcd_dvd_left a b
  obtain ⟨y, hy⟩ : ((Int.gcd a b : Nat) : Int) ∣ b := Int.gcd_dvd_right a b
  have hle : Int.gcd a b ≤ b.natAbs := Nat.le_of_dvd (by omega) (Int.gcd_dvd_natAbs_right a b)
  have hco : Int.gcd x y = 1 := by
    have e : Int.gcd a b = Int.gcd a b * Int.gcd x y := by
      have e2 : Int.gcd (((Int.gcd a b : Nat) : Int) * x) (((Int.gcd a b : Nat) : Int) * y) = Int.gcd a b * Int.gcd x y := by
        rw [Int.gcd_mul_left]
        simp
      rw [← hx, ← hy] at e2
      exact e2
    have := Nat.eq_of_mul_eq_mul_left hg (show Int.gcd a b * 1 = Int.gcd a b * Int.gcd x y by rw [Nat.mul_one]; exact e)
    exact this.symm
  have hgI : ((Int.gcd a b : Nat) : Int) ≠ 0 := by omega
  have hxa : x.natAbs ≤ a.natAbs := by
    rw [hx, Int.natAbs_mul]
    exact Nat.le_mul_of_pos_left _ (by simpa using hg)
  have hyb : y.natAbs ≤ b.natAbs := by
    rw [hy, Int.natAbs_mul]
    exact Nat.le_mul_of_pos_left _ (by simpa using hg)
  by_cases hs : b < 0
  · have eg : gS a b = -((Int.gcd a b : Nat) : Int) := if_pos hs
    have e1 : (rat a b).1 = -x := by
      show a.fdiv (gS a b) = -x
      rw [eg]
      exact fdiv_of (by omega) (by rw [Int.neg_mul_neg]; exact hx)
    have e2 : (rat a b).2 = -y := by
      show b.fdiv (gS a b) = -y
      rw [eg]
      exact fdiv_of (by omega) (by rw [Int.neg_mul_neg]; exact hy)
    have hy0 : y < 0 := by
      rcases Int.lt_trichotomy y 0 with h | h | h
      · exact h
      · rw [h, Int.mul_zero] at hy
        omega
      · have : 0 < ((Int.gcd a b : Nat) : Int) * y := Int.mul_pos (by omega) h
        omega
    rw [e1, e2, eg]
    refine ⟨by omega, by rw [Int.gcd_neg, Int.neg_gcd]; exact hco, by rw [Int.natAbs_neg]; exact hxa, by rw [Int.natAbs_neg]; exact hyb, by omega, by rw [Int.natAbs_neg]; simpa using hle⟩
  · have eg : gS a b = ((Int.gcd a b : Nat) : Int) := if_neg hs
    have e1 : (rat a b).1 = x := by
      show a.fdiv (gS a b) = x
      rw [eg]
      exact fdiv_of hgI hx
    have e2 : (rat a b).2 = y := by
      show b.fdiv (gS a b) = y
      rw [eg]
      exact fdiv_of hgI hy
    have hy0 : 0 < y := by
      rcases Int.lt_trichotomy y 0 with h | h | h
      · have : ((Int.gcd a b : Nat) : Int) * y < 0 := Int.mul_neg_of_pos_of_neg (by omega) h
        omega
      · rw [h, Int.mul_zero] at hy
        omega
      · exact h
    rw [e1, e2, eg]
    exact ⟨hy0, hco, hxa, hyb, hgI, by simpa using hle⟩
theorem sml_of_le {L : Nat} {x y : Int} (h : sml L y) (hxy : x.natAbs ≤ y.natAbs) : sml L x := Nat.lt_of_le_of_lt hxy h

def p_ratio (ds : List D) (R : D → Prop) : Prop := ∃ a b : Int, ds = [.int a, .int b] ∧ b ≠ 0 ∧ sml 8000 b ∧ R (enc (rat a b))
theorem len_ratio : ∀ ds R, p_ratio ds R → ds.length = (["numerator", "denominator"] : List Str).length := fun ds R ⟨_, _, h, _⟩ => by rw [h]; rfl

theorem body_ratio {P : Program} {w : World} {K : PySem.W.Frag} {mg : Str → Option Value} {base : Heap} (C_common_divisor : Cal P w K mg base "common_divisor" 1 (spD ⟨K, P, w⟩ p_common_divisor)) :
  Body P w K mg base N_ratio "ratio" st_ratio 1 fun ts => ∀ ds R, p_ratio ds R → ts { nx := fun _ => R .none, rt := fun d _ => R d } (startD N_ratio ds) := fun f cdv A outer s H E hr => by
  refine ⟨_, (qss_cons (qs_if (t_eq hr.units (qe_var 1) qe_int)
 (qss_one qs_dead)
 qss_nil)
 (qss_cons (qs_set 2 sc_ratio.nd (qe_call C_common_divisor (hr.mono (by decide)) (by rfl) (qa_cons (qe_var 0) (qa_cons (qe_var 1) qa_nil))))
 (qss_cons (qs_if (t_lt hr.units (qe_var 1) qe_int)
 (qss_one (qs_set 2 sc_ratio.nd (q_neg (qe_var 2))))
 qss_nil)
 (qss_one (qs_ret (qe_tup (qa_cons (q_fdv (qe_var 0) (qe_var 2)) (qa_cons (q_fdv (qe_var 1) (qe_var 2)) qa_nil)))))))), ?_⟩
  intro ds R h
  obtain ⟨a, b, rfl, hb, h1, h⟩ := h
  obtain ⟨r1, r2, r3, r4, r5, r6⟩ := rat_spec (a := a) hb
  refine ⟨_, rfl, fun hz => ?_, fun hz => ?_⟩
  · have hz' : (b == 0) = true := hz
    exact hb (eq_of_beq hz')
  · refine ⟨a, b, rfl, trivial, _, rfl, fun hs => ?_, fun hs => ?_⟩
    · have hs' : decide (b < (0 : Int)) = true := hs
      have eg : gS a b = -((Int.gcd a b : Nat) : Int) := if_pos (of_decide_eq_true hs')
      have c1 : ∀ i : Int, CDivG i (-((Int.gcd a b : Nat) : Int)) := fun i => by rw [← eg]; exact cdS8 r5 (sml_of_le h1 r6) (Nat.le_refl _)
      refine ⟨trivial, c1 _, c1 _, sl2, ?_⟩
      have e : enc (rat a b) = .tuple [.int (a.fdiv (-((Int.gcd a b : Nat) : Int))), .int (b.fdiv (-((Int.gcd a b : Nat) : Int)))] := by rw [← eg]; rfl
      rw [e] at h
      exact h
    · have hs' : decide (b < (0 : Int)) = false := hs
      have eg : gS a b = ((Int.gcd a b : Nat) : Int) := if_neg (of_decide_eq_false hs')
      have c1 : ∀ i : Int, CDivG i ((Int.gcd a b : Nat) : Int) := fun i => by rw [← eg]; exact cdS8 r5 (sml_of_le h1 r6) (Nat.le_refl _)
      refine ⟨c1 _, c1 _, sl2, ?_⟩
      have e : enc (rat a b) = .tuple [.int (a.fdiv ((Int.gcd a b : Nat) : Int)), .int (b.fdiv ((Int.gcd a b : Nat) : Int))] := by rw [← eg]; rfl
      rw [e] at h
      exact h
theorem ok_ratio {P : Program} {w : World} {K : PySem.W.Frag} {mg : Str → Option Value} {base : Heap} {f : Addr} {fd : FuncData} (F : Fun K "ratio" "ratio" st_ratio f fd) (C_common_divisor : Cal P w K mg base "common_divisor" 1 (spD ⟨K, P, w⟩ p_common_divisor)) :
  FnOk P w K mg base CX0 2 f fd ["numerator", "denominator"] (spD ⟨K, P, w⟩ p_ratio) := fn_D F sc_ratio len_ratio (body_ratio C_common_divisor)

def p_plus (ds : List D) (R : D → Prop) : Prop := ∃ a b c d : Int, ds = [enc (a, b), enc (c, d)] ∧ b ≠ 0 ∧ d ≠ 0 ∧ sml 3900 a ∧ sml 3900 b ∧ sml 3900 c ∧ sml 3900 d ∧ R (enc (rat (a * d + c * b) (b * d)))
theorem len_plus : ∀ ds R, p_plus ds R → ds.length = (["one", "two"] : List Str).length := fun ds R ⟨_, _, _, _, h, _⟩ => by rw [h]; rfl

theorem body_plus {P : Program} {w : World} {K : PySem.W.Frag} {mg : Str → Option Value} {base : Heap} (C_ratio : Cal P w K mg base "ratio" 2 (spD ⟨K, P, w⟩ p_ratio)) :
  Body P w K mg base N_plus "plus" st_plus 2 fun ts => ∀ ds R, p_plus ds R → ts { nx := fun _ => R .none, rt := fun d _ => R d } (startD N_plus ds) := fun f cdv A outer s H E hr => by
  refine ⟨_, (qss_one (qs_ret (qe_call C_ratio (hr.mono (by decide)) (by rfl) (qa_cons (q_add (q_mul (qe_ix (qe_var 0) qe_int) (qe_ix (qe_var 1) qe_int)) (q_mul (qe_ix (qe_var 1) qe_int) (qe_ix (qe_var 0) qe_int))) (qa_cons (q_mul (qe_ix (qe_var 0) qe_int) (qe_ix (qe_var 1) qe_int)) qa_nil))))), ?_⟩
  intro ds R h
  obtain ⟨a, b, c, d, rfl, hb, hd, s1, s2, s3, s4, h⟩ := h
  exact ⟨.int a, rfl, .int d, rfl, cmS s1 s4 (by decide), .int c, rfl, .int b, rfl, cmS s3 s2 (by decide), .int b, rfl, .int d, rfl, cmS s2 s4 (by decide), _, _, rfl, Int.mul_ne_zero hb hd, sml_mono (sml_mul s2 s4) (by decide), h⟩
theorem ok_plus {P : Program} {w : World} {K : PySem.W.Frag} {mg : Str → Option Value} {base : Heap} {f : Addr} {fd : FuncData} (F : Fun K "plus" "plus" st_plus f fd) (C_ratio : Cal P w K mg base "ratio" 2 (spD ⟨K, P, w⟩ p_ratio)) :
  FnOk P w K mg base CX0 3 f fd ["one", "two"] (spD ⟨K, P, w⟩ p_plus) := fn_D F sc_plus len_plus (body_plus C_ratio)

def p_times (ds : List D) (R : D → Prop) : Prop := ∃ a b c d : Int, ds = [enc (a, b), enc (c, d)] ∧ b ≠ 0 ∧ d ≠ 0 ∧ sml 3900 a ∧ sml 3900 b ∧ sml 3900 c ∧ sml 3900 d ∧ R (enc (rat (a * c) (b * d)))
theorem len_times : ∀ ds R, p_times ds R → ds.length = (["one", "two"] : List Str).length := fun ds R ⟨_, _, _, _, h, _⟩ => by rw [h]; rfl

theorem body_times {P : Program} {w : World} {K : PySem.W.Frag} {mg : Str → Option Value} {base : Heap} (C_ratio : Cal P w K mg base "ratio" 2 (spD ⟨K, P, w⟩ p_ratio)) :
  Body P w K mg base N_times "times" st_times 2 fun ts => ∀ ds R, p_times ds R → ts { nx := fun _ => R .none, rt := fun d _ => R d } (startD N_times ds) := fun f cdv A outer s H E hr => by
  refine ⟨_, (qss_one (qs_ret (qe_call C_ratio (hr.mono (by decide)) (by rfl) (qa_cons (q_mul (qe_ix (qe_var 0) qe_int) (qe_ix (qe_var 1) qe_int)) (qa_cons (q_mul (qe_ix (qe_var 0) qe_int) (qe_ix (qe_var 1) qe_int)) qa_nil))))), ?_⟩
  intro ds R h
  obtain ⟨a, b, c, d, rfl, hb, hd, s1, s2, s3, s4, h⟩ := h
  exact ⟨.int a, rfl, .int c, rfl, cmS s1 s3 (by decide), .int b, rfl, .int d, rfl, cmS s2 s4 (by decide), _, _, rfl, Int.mul_ne_zero hb hd, sml_mono (sml_mul s2 s4) (by decide), h⟩
theorem ok_times {P : Program} {w : World} {K : PySem.W.Frag} {mg : Str → Option Value} {base : Heap} {f : Addr} {fd : FuncData} (F : Fun K "times" "times" st_times f fd) (C_ratio : Cal P w K mg base "ratio" 2 (spD ⟨K, P, w⟩ p_ratio)) :
  FnOk P w K mg base CX0 3 f fd ["one", "two"] (spD ⟨K, P, w⟩ p_times) := fn_D F sc_times len_times (body_times C_ratio)

theorem euclid_next {x y L i : Nat} (hy : y ≠ 0) (h0 : i = 0 → x * y < 2 ^ L) (h1 : 1 ≤ i → y ≤ x ∧ x * y * 2 ^ (i - 1) < 2 ^ L) : x % y ≤ y ∧ y * (x % y) * 2 ^ i < 2 ^ L := by
  have hm : x % y < y := Nat.mod_lt _ (by omega)
  refine ⟨by omega, ?_⟩
  cases i with
  | zero =>
    have h := h0 rfl
    have h2 : x % y ≤ x := Nat.mod_le _ _
    have h3 : y * (x % y) ≤ y * x := Nat.mul_le_mul_left _ h2
    rw [Nat.pow_zero, Nat.mul_one]
    rw [Nat.mul_comm y x] at h3
    omega
  | succ i =>
    obtain ⟨h2, h3⟩ := h1 (by omega)
    have e : i + 1 - 1 = i := by omega
    rw [e] at h3
    have h4 : x % y * 2 ≤ x := by
      have h5 := Nat.div_add_mod x y
      have h6 : 1 ≤ x / y := (Nat.one_le_div_iff (by omega)).mpr h2
      have h7 : y * 1 ≤ y * (x / y) := Nat.mul_le_mul_left _ h6
      omega
    have h5 : y * (x % y) * 2 ^ (i + 1) = y * (x % y * 2) * 2 ^ i := by
      rw [Nat.pow_succ, ← Nat.mul_assoc y, Nat.mul_assoc (y * (x % y)), Nat.mul_comm (2 ^ i) 2, ← Nat.mul_assoc]
    have h6 : y * (x % y * 2) * 2 ^ i ≤ x * y * 2 ^ i := Nat.mul_le_mul_right _ (by rw [Nat.mul_comm x y]; exact Nat.mul_le_mul_left _ h4)
    omega
def p__law_divisor (ds : List D) (R : D → Prop) : Prop := ∃ a b : Int, ds = [.int a, .int b] ∧ (∃ L, L ≤ 19000 ∧ a.natAbs * b.natAbs < 2 ^ L) ∧ R (.int (Int.gcd a b))
theorem len__law_divisor : ∀ ds R, p__law_divisor ds R → ds.length = (["one", "two"] : List Str).length := fun ds R ⟨_, _, h, _⟩ => by rw [h]; rfl
theorem gcd_step (x y : Nat) : Nat.gcd y (x % y) = Nat.gcd x y := by rw [Nat.gcd_comm x y, Nat.gcd_rec y x, Nat.gcd_comm]

theorem body__law_divisor {P : Program} {w : World} {K : PySem.W.Frag} {mg : Str → Option Value} {base : Heap} (z_abs : mg "abs" = none) (z_range : mg "range" = none) (z_int : mg "int" = none) :
  Body P w K mg base N__law_divisor "_law_divisor" st__law_divisor 0 fun ts => ∀ ds R, p__law_divisor ds R → ts { nx := fun _ => R .none, rt := fun d _ => R d } (startD N__law_divisor ds) := fun f cdv A outer s H E hr => by
  refine ⟨_, (qss_cons (qs_set 0 sc__law_divisor.nd (q_abs (by rfl) z_abs (qa_cons (qe_var 0) qa_nil)))
 (qss_cons (qs_set 1 sc__law_divisor.nd (q_abs (by rfl) z_abs (qa_cons (qe_var 1) qa_nil)))
 (qss_cons (qs_for PassesOwn.never (by rfl) (qi_range1 (by rfl) z_range (qa_cons qe_int qa_nil)) (qg_name 2 sc__law_divisor.nd)
 (qss_cons (qs_if (t_eq hr.units (qe_var 1) qe_int)
 (qss_one qs_break)
 qss_nil)
 (qss_one (qs_par 0 1 (by rfl) sc__law_divisor.nd (by decide) (qa_cons (qe_var 1) (qa_cons (q_mod (q_int (by rfl) z_int (qa_cons (qe_var 0) qa_nil)) (qe_var 1)) qa_nil))))))
 (qss_one (qs_ret (qe_var 0)))))), ?_⟩
  intro ds R h
  obtain ⟨a, b, rfl, ⟨L, hL, hab⟩, h⟩ := h
  refine ⟨trivial, trivial, 20000, rfl, by decide, by decide, fun i ρ => i ≤ 20000 ∧ ∃ (x y : Nat) (s2 : Sl), ρ = [.sh (.int x), .sh (.int y), s2] ∧ nio s2 ∧ Nat.gcd x y = Int.gcd a b ∧ (i = 0 → x * y < 2 ^ L) ∧ (1 ≤ i → y ≤ x ∧ x * y * 2 ^ (i - 1) < 2 ^ L), ⟨by decide, a.natAbs, b.natAbs, .no, ?_, trivial, rfl, fun _ => hab, fun z => absurd z (by decide)⟩, ?_, ?_⟩
  · show [Sl.sh (.int (if a < 0 then -a else a)), Sl.sh (.int (if b < 0 then -b else b)), Sl.no] = _
    rw [abs_nat, abs_nat]
  · rintro i d ρ hi ⟨_, x, y, s2, rfl, k2, hg, h0, h1⟩
    obtain ⟨hi', rfl⟩ := rgD_at hi
    have hi20 : i < 20000 := hi'
    refine ⟨k2, _, rfl, fun hb => ?_, fun hb => ?_⟩
    · have hb' : ((y : Int) == 0) = true := hb
      have hy : y = 0 := by
        have := eq_of_beq hb'
        omega
      subst hy
      rw [Nat.gcd_zero_right] at hg
      show R (.int x)
      rw [hg]
      exact h
    · have hb' : ((y : Int) == 0) = false := hb
      have hy : y ≠ 0 := fun z => by
        rw [z] at hb'
        exact absurd hb' (by decide)
      have hyI : (y : Int) ≠ 0 := by omega
      refine ⟨hyI, trivial, trivial, by omega, y, x % y, .sh (.int (0 + (i : Int))), ?_, trivial, by rw [gcd_step]; exact hg, fun z => absurd z (by omega), fun _ => euclid_next hy h0 h1⟩
      show [Sl.sh (.int y), Sl.sh (.int (Int.fmod x y)), Sl.sh (.int (0 + (i : Int)))] = _
      rw [fmod_nat]
  · rintro ρ ⟨_, x, y, s2, rfl, k2, hg, h0, h1⟩
    have e : (rgD 0 (20000 : Int).toNat).length = 20000 := by rw [rgD_len]; rfl
    rw [e] at h1
    obtain ⟨h2, h3⟩ := h1 (by decide)
    have hy : y = 0 := by
      rcases Nat.eq_zero_or_pos y with z | z
      · exact z
      · exfalso
        have h4 : 1 * 2 ^ L ≤ x * y * 2 ^ (20000 - 1) := Nat.mul_le_mul (Nat.mul_pos (by omega) z) (Nat.pow_le_pow_right (by decide) (by omega))
        rw [Nat.one_mul] at h4
        omega
    subst hy
    rw [Nat.gcd_zero_right] at hg
    show R (.int x)
    rw [hg]
    exact h
theorem ok__law_divisor {P : Program} {w : World} {K : PySem.W.Frag} {mg : Str → Option Value} {base : Heap} {f : Addr} {fd : FuncData} (F : Fun K "_law_divisor" "_law_divisor" st__law_divisor f fd) (z_abs : mg "abs" = none) (z_range : mg "range" = none) (z_int : mg "int" = none) :
  FnOk P w K mg base CX0 1 f fd ["one", "two"] (spD ⟨K, P, w⟩ p__law_divisor) := fn_D F sc__law_divisor len__law_divisor (body__law_divisor z_abs z_range z_int)
theorem sml_prod {a b : Int} {L M : Nat} (h : sml L a) (k : sml M b) (hL : L + M ≤ 19000) : ∃ L, L ≤ 19000 ∧ a.natAbs * b.natAbs < 2 ^ L := ⟨L + M, hL, by rw [Nat.pow_add]; exact Nat.mul_lt_mul'' h k⟩
def p__law_ratio (ds : List D) (R : D → Prop) : Prop := ∃ a b : Int, ds = [.int a, .int b] ∧ b ≠ 0 ∧ sml 8000 a ∧ sml 8000 b ∧ R (enc (rat a b))
theorem len__law_ratio : ∀ ds R, p__law_ratio ds R → ds.length = (["p", "q"] : List Str).length := fun ds R ⟨_, _, h, _⟩ => by rw [h]; rfl

theorem body__law_ratio {P : Program} {w : World} {K : PySem.W.Frag} {mg : Str → Option Value} {base : Heap} (z_int : mg "int" = none) (C__law_divisor : Cal P w K mg base "_law_divisor" 1 (spD ⟨K, P, w⟩ p__law_divisor)) :
  Body P w K mg base N__law_ratio "_law_ratio" st__law_ratio 1 fun ts => ∀ ds R, p__law_ratio ds R → ts { nx := fun _ => R .none, rt := fun d _ => R d } (startD N__law_ratio ds) := fun f cdv A outer s H E hr => by
  refine ⟨_, (qss_cons (qs_set 2 sc__law_ratio.nd (qe_call C__law_divisor (hr.mono (by decide)) (by rfl) (qa_cons (qe_var 0) (qa_cons (qe_var 1) qa_nil))))
 (qss_cons (qs_if (t_lt hr.units (qe_var 1) qe_int)
 (qss_one (qs_set 2 sc__law_ratio.nd (q_neg (qe_var 2))))
 qss_nil)
 (qss_one (qs_ret (qe_tup (qa_cons (q_int (by rfl) z_int (qa_cons (q_fdv (qe_var 0) (qe_var 2)) qa_nil)) (qa_cons (q_int (by rfl) z_int (qa_cons (q_fdv (qe_var 1) (qe_var 2)) qa_nil)) qa_nil))))))), ?_⟩
  intro ds R h
  obtain ⟨a, b, rfl, hb, h0, h1, h⟩ := h
  obtain ⟨r1, r2, r3, r4, r5, r6⟩ := rat_spec (a := a) hb
  refine ⟨a, b, rfl, sml_prod h0 h1 (by decide), trivial, _, rfl, fun hs => ?_, fun hs => ?_⟩
  · have hs' : decide (b < (0 : Int)) = true := hs
    have eg : gS a b = -((Int.gcd a b : Nat) : Int) := if_pos (of_decide_eq_true hs')
    have c1 : ∀ i : Int, CDivG i (-((Int.gcd a b : Nat) : Int)) := fun i => by rw [← eg]; exact cdS8 r5 (sml_of_le h1 r6) (Nat.le_refl _)
    refine ⟨trivial, c1 _, c1 _, sl2, ?_⟩
    have e : enc (rat a b) = .tuple [.int (a.fdiv (-((Int.gcd a b : Nat) : Int))), .int (b.fdiv (-((Int.gcd a b : Nat) : Int)))] := by rw [← eg]; rfl
    rw [e] at h
    exact h
  · have hs' : decide (b < (0 : Int)) = false := hs
    have eg : gS a b = ((Int.gcd a b : Nat) : Int) := if_neg (of_decide_eq_false hs')
    have c1 : ∀ i : Int, CDivG i ((Int.gcd a b : Nat) : Int) := fun i => by rw [← eg]; exact cdS8 r5 (sml_of_le h1 r6) (Nat.le_refl _)
    refine ⟨c1 _, c1 _, sl2, ?_⟩
    have e : enc (rat a b) = .tuple [.int (a.fdiv ((Int.gcd a b : Nat) : Int)), .int (b.fdiv ((Int.gcd a b : Nat) : Int))] := by rw [← eg]; rfl
    rw [e] at h
    exact h
theorem ok__law_ratio {P : Program} {w : World} {K : PySem.W.Frag} {mg : Str → Option Value} {base : Heap} {f : Addr} {fd : FuncData} (F : Fun K "_law_ratio" "_law_ratio" st__law_ratio f fd) (z_int : mg "int" = none) (C__law_divisor : Cal P w K mg base "_law_divisor" 1 (spD ⟨K, P, w⟩ p__law_divisor)) :
  FnOk P w K mg base CX0 2 f fd ["p", "q"] (spD ⟨K, P, w⟩ p__law_ratio) := fn_D F sc__law_ratio len__law_ratio (body__law_ratio z_int C__law_divisor)

def p__law_is_ratio (ds : List D) (R : D → Prop) : Prop := ∃ a b : Int, ds = [enc (a, b)] ∧ 0 < b ∧ (∃ L, L ≤ 19000 ∧ a.natAbs * b.natAbs < 2 ^ L) ∧ Int.gcd a b = 1 ∧ R (.bool true)
theorem len__law_is_ratio : ∀ ds R, p__law_is_ratio ds R → ds.length = (["pair"] : List Str).length := fun ds R ⟨_, _, h, _⟩ => by rw [h]; rfl
theorem kit1 : kitB "tuple" "tuple" = some true := by decide +kernel
theorem kit2 : kitB "int" "int" = some true := by decide +kernel
theorem kit3 : kitB "int" "bool" = some false := by decide +kernel

theorem body__law_is_ratio {P : Program} {w : World} {K : PySem.W.Frag} {mg : Str → Option Value} {base : Heap} (z_isinstance : mg "isinstance" = none) (z_tuple : mg "tuple" = none) (z_len : mg "len" = none) (z_int : mg "int" = none) (z_bool : mg "bool" = none) (C__law_divisor : Cal P w K mg base "_law_divisor" 1 (spD ⟨K, P, w⟩ p__law_divisor)) :
  Body P w K mg base N__law_is_ratio "_law_is_ratio" st__law_is_ratio 1 fun ts => ∀ ds R, p__law_is_ratio ds R → ts { nx := fun _ => R .none, rt := fun d _ => R d } (startD N__law_is_ratio ds) := fun f cdv A outer s H E hr => by
  refine ⟨_, (qss_cons (qs_if (qt_bool (qw_or (qt_not (qt_val (q_isi (by rfl) z_isinstance (by rfl) z_tuple (qe_var 0)))) (qw_or (t_ne hr.units (q_len (by rfl) z_len (qa_cons (qe_var 0) qa_nil)) qe_int) (qw_or1 (t_in (u65 hr) qe_bl (qe_fr (qf_lc1 1 (by rfl) sc__law_is_ratio.nd (qi_tup (qe_var 0)) (blkOk_by (own := [("x", 1)]) (N := N__law_is_ratio) (sc := defScope st__law_is_ratio) (by decide +kernel)) (fun _ _ _ _ _ => pg_name (i := 1) sc__law_is_ratio.nd rfl (by first | exact Or.inl rfl | exact Or.inr rfl)) (fun _ _ _ _ _ => qts_nil) (fun _ _ _ _ _ => (qe_and (q_isi (by rfl) z_isinstance (by rfl) z_int (qe_var 1)) (qe_one (qe_not (q_isi (by rfl) z_isinstance (by rfl) z_bool (qe_var 1)))))))))))))
 (qss_one (qs_ret qe_bl))
 qss_nil)
 (qss_one (qs_ret (qe_and (q_gt hr.units (qe_ix (qe_var 0) qe_int) qe_int) (qe_one (q_eq hr.units (qe_call C__law_divisor (hr.mono (by decide)) (by rfl) (qa_cons (qe_ix (qe_var 0) qe_int) (qa_cons (qe_ix (qe_var 0) qe_int) qa_nil))) qe_int)))))), ?_⟩
  intro ds R h
  obtain ⟨a, b, rfl, h0, hL, hg, h⟩ := h
  refine ⟨true, (fun z h => nomatch h), kit1, true, rfl, (fun z => nomatch z), fun _ => ⟨_, rfl, (fun z => nomatch z), fun _ => ?_⟩⟩
  refine ⟨fun v hv => by rw [List.mem_singleton.mp hv]; trivial, fun k acc ρ => ρ = [.sh (enc (a, b)), .no] ∧ acc = List.replicate k (.bool true) ∧ k ≤ 2, ⟨rfl, rfl, by decide⟩, ?_, ?_⟩
  · rintro k acc d ρ hk ⟨rfl, rfl, _⟩
    have hd : ∃ i : Int, d = .int i ∧ k < 2 := by
      match k, hk with
      | 0, hk => exact ⟨a, (Option.some.inj hk).symm, by decide⟩
      | 1, hk => exact ⟨b, (Option.some.inj hk).symm, by decide⟩
      | k + 2, hk => cases hk
    obtain ⟨i, rfl, hk2⟩ := hd
    refine ⟨trivial, fun _ => ⟨true, (fun z h => nomatch h), kit2, true, rfl, fun _ => ⟨false, (fun z h => nomatch h), kit3, false, rfl, ?_, fun v hv => by rw [List.mem_singleton.mp hv]; trivial, rfl, ?_, by omega⟩, (fun z => nomatch z)⟩, (fun z => nomatch z)⟩
    · rw [List.length_replicate]
      exact Nat.lt_of_lt_of_le hk2 sl2
    · exact List.replicate_succ'.symm
  · rintro acc ρ ⟨rfl, rfl, _⟩
    refine ⟨rfl, rfl, _, rfl, (fun z => nomatch z), fun _ => ?_⟩
    refine ⟨.int b, rfl, decide ((0 : Int) < b), rfl, fun _ => ?_, fun z => absurd h0 (of_decide_eq_false z)⟩
    refine ⟨.int a, rfl, .int b, rfl, a, b, rfl, hL, ?_⟩
    show R (.bool (((Int.gcd a b : Nat) : Int) == 1))
    rw [hg]
    exact h
theorem ok__law_is_ratio {P : Program} {w : World} {K : PySem.W.Frag} {mg : Str → Option Value} {base : Heap} {f : Addr} {fd : FuncData} (F : Fun K "_law_is_ratio" "_law_is_ratio" st__law_is_ratio f fd) (z_isinstance : mg "isinstance" = none) (z_tuple : mg "tuple" = none) (z_len : mg "len" = none) (z_int : mg "int" = none) (z_bool : mg "bool" = none) (C__law_divisor : Cal P w K mg base "_law_divisor" 1 (spD ⟨K, P, w⟩ p__law_divisor)) :
  FnOk P w K mg base CX0 2 f fd ["pair"] (spD ⟨K, P, w⟩ p__law_is_ratio) := fn_D F sc__law_is_ratio len__law_is_ratio (body__law_is_ratio z_isinstance z_tuple z_len z_int z_bool C__law_divisor)

def p__law_mul (ds : List D) (R : D → Prop) : Prop := ∃ a b c d : Int, ds = [enc (a, b), enc (c, d)] ∧ b ≠ 0 ∧ d ≠ 0 ∧ sml 3900 a ∧ sml 3900 b ∧ sml 3900 c ∧ sml 3900 d ∧ R (enc (rat (a * c) (b * d)))
theorem len__law_mul : ∀ ds R, p__law_mul ds R → ds.length = (["one", "two"] : List Str).length := fun ds R ⟨_, _, _, _, h, _⟩ => by rw [h]; rfl

theorem body__law_mul {P : Program} {w : World} {K : PySem.W.Frag} {mg : Str → Option Value} {base : Heap} (C__law_ratio : Cal P w K mg base "_law_ratio" 2 (spD ⟨K, P, w⟩ p__law_ratio)) :
  Body P w K mg base N__law_mul "_law_mul" st__law_mul 2 fun ts => ∀ ds R, p__law_mul ds R → ts { nx := fun _ => R .none, rt := fun d _ => R d } (startD N__law_mul ds) := fun f cdv A outer s H E hr => by
  refine ⟨_, (qss_one (qs_ret (qe_call C__law_ratio (hr.mono (by decide)) (by rfl) (qa_cons (q_mul (qe_ix (qe_var 0) qe_int) (qe_ix (qe_var 1) qe_int)) (qa_cons (q_mul (qe_ix (qe_var 0) qe_int) (qe_ix (qe_var 1) qe_int)) qa_nil))))), ?_⟩
  intro ds R h
  obtain ⟨a, b, c, d, rfl, hb, hd, s1, s2, s3, s4, h⟩ := h
  exact ⟨.int a, rfl, .int c, rfl, cmS s1 s3 (by decide), .int b, rfl, .int d, rfl, cmS s2 s4 (by decide), _, _, rfl, Int.mul_ne_zero hb hd, sml_mono (sml_mul s1 s3) (by decide), sml_mono (sml_mul s2 s4) (by decide), h⟩
theorem ok__law_mul {P : Program} {w : World} {K : PySem.W.Frag} {mg : Str → Option Value} {base : Heap} {f : Addr} {fd : FuncData} (F : Fun K "_law_mul" "_law_mul" st__law_mul f fd) (C__law_ratio : Cal P w K mg base "_law_ratio" 2 (spD ⟨K, P, w⟩ p__law_ratio)) :
  FnOk P w K mg base CX0 3 f fd ["one", "two"] (spD ⟨K, P, w⟩ p__law_mul) := fn_D F sc__law_mul len__law_mul (body__law_mul C__law_ratio)

/-! ### fractions, bounded -/
structure Fr (L : Nat) (x : Int × Int) : Prop where
  pos : 0 < x.2
  n : sml L x.1
  d : sml L x.2
theorem Fr.mono {a b : Nat} {x : Int × Int} (h : Fr a x) (hab : a ≤ b) : Fr b x := ⟨h.pos, sml_mono h.n hab, sml_mono h.d hab⟩
def mulR (x y : Int × Int) : Int × Int := rat (x.1 * y.1) (x.2 * y.2)
def addR (x y : Int × Int) : Int × Int := rat (x.1 * y.2 + y.1 * x.2) (x.2 * y.2)
theorem Fr.mul {a b : Nat} {x y : Int × Int} (h : Fr a x) (k : Fr b y) : Fr (a + b) (mulR x y) := by
  have hp : 0 < x.2 * y.2 := Int.mul_pos h.pos k.pos
  obtain ⟨q1, _, q3, q4, _⟩ := rat_spec (a := x.1 * y.1) (b := x.2 * y.2) (by omega)
  exact ⟨q1, sml_of_le (sml_mul h.n k.n) q3, sml_of_le (sml_mul h.d k.d) q4⟩
theorem Fr.add {a b : Nat} {x y : Int × Int} (h : Fr a x) (k : Fr b y) : Fr (a + b + 1) (addR x y) := by
  have hp : 0 < x.2 * y.2 := Int.mul_pos h.pos k.pos
  obtain ⟨q1, _, q3, q4, _⟩ := rat_spec (a := x.1 * y.2 + y.1 * x.2) (b := x.2 * y.2) (by omega)
  exact ⟨q1, sml_of_le (sml_add (sml_mul h.n k.d) (by rw [Nat.add_comm]; exact sml_mul k.n h.d)) q3, sml_mono (sml_of_le (sml_mul h.d k.d) q4) (by omega)⟩
def powR (x s : Int × Int) : Nat → Int × Int
  | 0 => x
  | k + 1 => mulR (powR x s k) s
theorem Fr.pow {a b : Nat} {x s : Int × Int} (h : Fr a x) (k : Fr b s) : ∀ n, Fr (a + n * b) (powR x s n)
  | 0 => by rw [Nat.zero_mul]; exact h
  | n + 1 => by
    rw [Nat.succ_mul, ← Nat.add_assoc]
    exact (Fr.pow h k n).mul k
def monR (sp : Int → Int × Int) (m : Mon) (x : Int × Int) : Int × Int := m.foldl (fun x z => powR x (sp z.1) z.2.toNat) x
def valR (sp : Int → Int × Int) (t : Tab) (x : Int × Int) : Int × Int := t.foldl (fun f e => addR f (monR sp e.1 (e.2, 1))) x
def LetOk (sp : Int → Int × Int) (m : Mon) : Prop := ∀ z ∈ m, Fr 10 (sp z.1) ∧ 0 ≤ z.2 ∧ z.2 ≤ 4
theorem Fr.mon {sp : Int → Int × Int} : ∀ {m : Mon} {a : Nat} {x : Int × Int}, LetOk sp m → Fr a x → Fr (a + 40 * m.length) (monR sp m x)
  | [], a, x, _, h => h
  | z :: m, a, x, hm, h => by
    obtain ⟨h1, h2, h3⟩ := hm z List.mem_cons_self
    have q := Fr.mon (m := m) (fun y hy => hm y (List.mem_cons_of_mem _ hy)) ((h.pow h1 z.2.toNat).mono (show a + z.2.toNat * 10 ≤ a + 40 by omega))
    rw [List.length_cons]
    exact q.mono (by omega)
def TabV (sp : Int → Int × Int) (t : Tab) : Prop := ∀ e ∈ t, LetOk sp e.1 ∧ e.1.length ≤ 5 ∧ sml 120 e.2
theorem fr_c {c : Int} (h : sml 120 c) : Fr 120 (c, 1) := ⟨by show (0 : Int) < 1; decide, h, by show (1 : Int).natAbs < 2 ^ 120; decide⟩
theorem Fr.val {sp : Int → Int × Int} : ∀ {t : Tab} {a : Nat} {x : Int × Int}, TabV sp t → Fr a x → Fr (a + 321 * t.length) (valR sp t x)
  | [], a, x, _, h => h
  | e :: t, a, x, ht, h => by
    obtain ⟨h1, h2, h3⟩ := ht e List.mem_cons_self
    have q := Fr.val (t := t) (fun y hy => ht y (List.mem_cons_of_mem _ hy)) ((h.add (Fr.mon h1 (fr_c h3))).mono (show a + (120 + 40 * e.1.length) + 1 ≤ a + 321 by omega))
    rw [List.length_cons]
    exact q.mono (by omega)
theorem monR_snoc (sp : Int → Int × Int) (m : Mon) (z : Int × Int) (x : Int × Int) : monR sp (m ++ [z]) x = powR (monR sp m x) (sp z.1) z.2.toNat := by unfold monR; rw [List.foldl_append]; rfl
theorem valR_snoc (sp : Int → Int × Int) (t : Tab) (e : Mon × Int) (x : Int × Int) : valR sp (t ++ [e]) x = addR (valR sp t x) (monR sp e.1 (e.2, 1)) := by unfold valR; rw [List.foldl_append]; rfl


/-! ### letters -/
def expo (m : Mon) (n : Int) : Int := ((m.find? fun z => decide (z.1 = n)).map (·.2)).getD 0
theorem expo_at : ∀ {m : Mon} {n : Int} {i : Nat} {z : Int × Int}, m[i]? = some z → z.1 = n → (∀ y ∈ m.take i, y.1 ≠ n) → expo m n = z.2
  | [], _, _, _, h, _, _ => by simp at h
  | y :: m, n, 0, z, h, hz, _ => by
    cases h
    unfold expo
    rw [List.find?_cons]
    simp [hz]
  | y :: m, n, i + 1, z, h, hz, hn => by
    have hy : ¬ y.1 = n := hn y (by simp)
    have ih := expo_at (m := m) (i := i) (by simpa using h) hz fun x hx => hn x (by simp [hx])
    unfold expo at ih ⊢
    rw [List.find?_cons]
    simp only [hy, decide_false]
    exact ih
theorem expo_none {m : Mon} {n : Int} (h : ∀ y ∈ m, y.1 ≠ n) : expo m n = 0 := by
  unfold expo
  rw [List.find?_eq_none.mpr fun y hy => by simpa using h y hy]
  rfl
def p_exponent_in (ds : List D) (R : D → Prop) : Prop := ∃ (m : Mon) (n : Int), ds = [encM m, .int n] ∧ R (.int (expo m n))
theorem len_exponent_in : ∀ ds R, p_exponent_in ds R → ds.length = (["monomial", "number"] : List Str).length := fun ds R ⟨_, _, h, _⟩ => by rw [h]; rfl

theorem body_exponent_in {P : Program} {w : World} {K : PySem.W.Frag} {mg : Str → Option Value} {base : Heap}  :
  Body P w K mg base N_exponent_in "exponent_in" st_exponent_in 0 fun ts => ∀ ds R, p_exponent_in ds R → ts { nx := fun _ => R .none, rt := fun d _ => R d } (startD N_exponent_in ds) := fun f cdv A outer s H E hr => by
  refine ⟨_, (qss_cons (qs_for PassesOwn.never (by rfl) (qi_tup (qe_var 0)) (qg_tup (by rfl) (qgs_cons (qg_name 2 sc_exponent_in.nd) (qgs_cons (qg_name 3 sc_exponent_in.nd) qgs_nil)))
 (qss_one (qs_if (t_eq hr.units (qe_var 2) (qe_var 1))
 (qss_one (qs_ret (qe_var 3)))
 qss_nil)))
 (qss_one (qs_ret qe_int))), ?_⟩
  intro ds R h
  obtain ⟨m, n, rfl, h⟩ := h
  refine ⟨fun i ρ => (∀ z ∈ m.take i, z.1 ≠ n) ∧ ∃ s2 s3 : Sl, ρ = [.sh (encM m), .sh (.int n), s2, s3] ∧ nio s2 ∧ nio s3, ⟨(fun z h => by simp at h), .no, .no, rfl, trivial, trivial⟩, ?_, ?_⟩
  · rintro i d ρ hi ⟨hn, s2, s3, rfl, k2, k3⟩
    obtain ⟨z, hz, rfl⟩ := map_at hi
    refine ⟨rfl, k2, k3, rfl, _, rfl, fun hb => ?_, fun hb => ?_⟩
    · have hb' : (z.1 == n) = true := hb
      have e : expo m n = z.2 := expo_at hz (eq_of_beq hb') hn
      rw [e] at h
      exact h
    · have hb' : (z.1 == n) = false := hb
      refine ⟨fun y hy => ?_, .sh (.int z.1), .sh (.int z.2), rfl, trivial, trivial⟩
      rw [take_one hz] at hy
      rcases List.mem_append.mp hy with hy | hy
      · exact hn y hy
      · rw [List.mem_singleton.mp hy]
        exact fun q => by rw [q] at hb'; simp at hb'
  · rintro ρ ⟨hn, s2, s3, rfl, k2, k3⟩
    rw [List.length_map, List.take_length] at hn
    rw [expo_none hn] at h
    exact h
theorem ok_exponent_in {P : Program} {w : World} {K : PySem.W.Frag} {mg : Str → Option Value} {base : Heap} {f : Addr} {fd : FuncData} (F : Fun K "exponent_in" "exponent_in" st_exponent_in f fd)  :
  FnOk P w K mg base CX0 1 f fd ["monomial", "number"] (spD ⟨K, P, w⟩ p_exponent_in) := fn_D F sc_exponent_in len_exponent_in (body_exponent_in )

def maxZ : List Int → Int → Int
  | [], m => m
  | n :: ns, m => maxZ ns (if n > m then n else m)
theorem maxZ_ok : ∀ (ns : List Int) (m : Int), maxZ ns m ∈ m :: ns ∧ ∀ y ∈ m :: ns, y ≤ maxZ ns m
  | [], m => ⟨List.mem_cons_self, fun y hy => by rw [List.mem_singleton.mp hy]; exact Int.le_refl _⟩
  | n :: ns, m => by
    obtain ⟨h1, h2⟩ := maxZ_ok ns (if n > m then n else m)
    have h3 := h2 _ List.mem_cons_self
    refine ⟨?_, fun y hy => ?_⟩
    · rcases List.mem_cons.mp h1 with h | h
      · show maxZ ns (if n > m then n else m) ∈ m :: n :: ns
        rw [h]
        split <;> simp
      · exact List.mem_cons_of_mem _ (List.mem_cons_of_mem _ h)
    · show y ≤ maxZ ns (if n > m then n else m)
      rcases List.mem_cons.mp hy with rfl | hy
      · refine Int.le_trans ?_ h3
        split <;> omega
      · rcases List.mem_cons.mp hy with rfl | hy
        · refine Int.le_trans ?_ h3
          split <;> omega
        · exact h2 y (List.mem_cons_of_mem _ hy)
def monD0 : D → Mon
  | .tuple xs => xs.filterMap fun d => match d with
    | .tuple [.int a, .int b] => some (a, b)
    | _ => none
  | _ => []
theorem monD0_enc (m : Mon) : monD0 (encM m) = m := by
  show (m.map enc).filterMap _ = m
  induction m with
  | nil => rfl
  | cons z m ih =>
    rw [List.map_cons, List.filterMap_cons]
    show z :: _ = _
    rw [ih]
def expF (n : Int) (d : D) : Option D := match d with
  | .tuple [m, _] => some (.int (expo (monD0 m) n))
  | _ => none

theorem exp_fm (n : Int) (t : Tab) : (t.map encE).filterMap (expF n) = (t.map fun e => expo e.1 n).map PyData.int := by
  induction t with
  | nil => rfl
  | cons e t ih =>
    rw [List.map_cons, List.filterMap_cons, List.map_cons, List.map_cons, ← ih]
    show PyData.int (expo (monD0 (encM e.1)) n) :: _ = _
    rw [monD0_enc]
def p_degree_in (ds : List D) (R : D → Prop) : Prop := ∃ (t : Tab) (n : Int), ds = [encP t, .int n] ∧ t.length ≤ 100000 ∧ R (.int (maxZ (t.map fun e => expo e.1 n) 0))
theorem len_degree_in : ∀ ds R, p_degree_in ds R → ds.length = (["one", "number"] : List Str).length := fun ds R ⟨_, _, h, _⟩ => by rw [h]; rfl

theorem body_degree_in {P : Program} {w : World} {K : PySem.W.Frag} {mg : Str → Option Value} {base : Heap} (z_max : mg "max" = none) (C_exponent_in : Cal P w K mg base "exponent_in" 1 (spD ⟨K, P, w⟩ p_exponent_in)) :
  Body P w K mg base N_degree_in "degree_in" st_degree_in 1 fun ts => ∀ ds R, p_degree_in ds R → ts { nx := fun _ => R .none, rt := fun d _ => R d } (startD N_degree_in ds) := fun f cdv A outer s H E hr => by
  refine ⟨_, (qss_one (qs_ret (q_maxL (by rfl) (by rfl) z_max (qe_fr (f_catL (qe_fr (qf_lst (qa_cons qe_int qa_nil))) (qe_fr (qf_lc2 2 3 (by decide) (by rfl) sc_degree_in.nd (qi_list (qe_var 0)) (blkOk_by (own := [("monomial", 2), ("_", 3)]) (N := N_degree_in) (sc := defScope st_degree_in) (by decide +kernel)) (fun _ _ _ _ _ => pg_tup (by rfl) (pgs_cons (pg_name (i := 2) sc_degree_in.nd rfl (by first | exact Or.inl rfl | exact Or.inr rfl)) (pgs_cons (pg_name (i := 3) sc_degree_in.nd rfl (by first | exact Or.inl rfl | exact Or.inr rfl)) pgs_nil))) (fun _ _ _ _ _ => qts_nil) (fun _ _ _ _ _ => (qe_call C_exponent_in (hr.mono (by decide)) (by rfl) (qa_cons (qe_var 2) (qa_cons (qe_var 1) qa_nil))))))))))), ?_⟩
  intro ds R h
  obtain ⟨t, n, rfl, hl, h⟩ := h
  have hb := big_le
  refine ⟨sl1, ?_⟩
  refine lc_fm (t.map encE) (expF n) (fun K h => h) (sh2 (by exact trivial) (by exact trivial)) (by rw [List.length_map]; omega) ?_ ?_
  · intro d hd Y Z hY hZ
    obtain ⟨e, _, rfl⟩ := List.mem_map.mp hd
    refine ⟨_, _, rfl, trivial, trivial, fun _ => ⟨e.1, n, rfl, hY _ _ ?_ (sh2 (by exact trivial) (by exact trivial)) rfl⟩, fun h => nomatch h⟩
    show some (PyData.int (expo (monD0 (encM e.1)) n)) = _
    rw [monD0_enc]
  · rw [exp_fm]
    obtain ⟨q1, q2⟩ := maxZ_ok (t.map fun e => expo e.1 n) 0
    exact ⟨_, _, rfl, rfl, by rw [List.length_map, List.length_map]; simp only [List.length_cons, List.length_nil]; omega, 0 :: t.map fun e => expo e.1 n, _, rfl, q1, q2, h⟩
theorem ok_degree_in {P : Program} {w : World} {K : PySem.W.Frag} {mg : Str → Option Value} {base : Heap} {f : Addr} {fd : FuncData} (F : Fun K "degree_in" "degree_in" st_degree_in f fd) (z_max : mg "max" = none) (C_exponent_in : Cal P w K mg base "exponent_in" 1 (spD ⟨K, P, w⟩ p_exponent_in)) :
  FnOk P w K mg base CX0 2 f fd ["one", "number"] (spD ⟨K, P, w⟩ p_degree_in) := fn_D F sc_degree_in len_degree_in (body_degree_in z_max C_exponent_in)

/-! the letters of a polynomial -/
def insL (l : List Int) (i : Int) : List Int := if i ∈ l then l else l ++ [i]
def enI (l : List Int) : List (Int × D) := l.map fun i => (i, .bool true)
theorem getI_enI : ∀ (l : List Int) (i : Int), getI (enI l) i = if i ∈ l then some (.bool true) else none
  | [], _ => rfl
  | j :: l, i => by
    have ih := getI_enI l i
    unfold getI enI at ih ⊢
    rw [List.map_cons, List.find?_cons]
    by_cases c : j = i
    · simp [c]
    · have c' : i ≠ j := fun z => c z.symm
      simp only [c, decide_false, List.mem_cons, c', false_or]
      exact ih
theorem putI_enI (l : List Int) (i : Int) : putI (enI l) i (.bool true) = enI (insL l i) := by
  unfold putI insL
  rw [getI_enI]
  by_cases c : i ∈ l
  · rw [if_pos c, if_pos c, if_pos (show (some (PyData.bool true)).isSome = true from rfl)]
    unfold enI
    rw [List.map_map]
    apply List.map_congr_left
    intro j _
    show (if j = i then (j, PyData.bool true) else (j, PyData.bool true)) = _
    split <;> rfl
  · rw [if_neg c, if_neg c, if_neg (show ¬ (none : Option D).isSome = true from fun z => nomatch z)]
    unfold enI
    rw [List.map_append]
    rfl
def insM (l : List Int) (m : Mon) : List Int := m.foldl (fun l z => insL l z.1) l
def lets (t : Tab) : List Int := t.foldl (fun l e => insM l e.1) []
theorem insL_mem {l : List Int} {i x : Int} : x ∈ insL l i ↔ x ∈ l ∨ x = i := by
  unfold insL
  split
  · rename_i h
    exact ⟨.inl, fun q => q.elim id fun q => q ▸ h⟩
  · simp
theorem insL_nd {l : List Int} {i : Int} (h : l.Nodup) : (insL l i).Nodup := by
  unfold insL
  split
  · exact h
  · rename_i n
    exact List.nodup_append.mpr ⟨h, List.pairwise_singleton _ _, fun x hx y hy => by rw [List.mem_singleton.mp hy]; exact fun z => n (z ▸ hx)⟩
theorem insM_mem : ∀ {m : Mon} {l : List Int} {x : Int}, x ∈ insM l m ↔ x ∈ l ∨ ∃ z ∈ m, z.1 = x
  | [], l, x => ⟨.inl, fun h => h.elim id fun ⟨z, h, _⟩ => nomatch h⟩
  | y :: m, l, x => by
    show x ∈ insM (insL l y.1) m ↔ _
    rw [insM_mem, insL_mem, or_assoc]
    refine or_congr Iff.rfl ⟨fun h => ?_, fun ⟨z, h1, h2⟩ => ?_⟩
    · rcases h with h | ⟨z, h1, h2⟩
      · exact ⟨y, List.mem_cons_self, h.symm⟩
      · exact ⟨z, List.mem_cons_of_mem _ h1, h2⟩
    · rcases List.mem_cons.mp h1 with rfl | h1
      · exact .inl h2.symm
      · exact .inr ⟨z, h1, h2⟩
theorem insM_nd : ∀ {m : Mon} {l : List Int}, l.Nodup → (insM l m).Nodup
  | [], l, h => h
  | y :: m, l, h => insM_nd (m := m) (insL_nd h)
theorem letsF_mem : ∀ {t : Tab} {l : List Int} {x : Int}, x ∈ t.foldl (fun l e => insM l e.1) l ↔ x ∈ l ∨ ∃ e ∈ t, ∃ z ∈ e.1, z.1 = x
  | [], l, x => ⟨.inl, fun h => h.elim id fun ⟨z, h, _⟩ => nomatch h⟩
  | y :: m, l, x => by
    show x ∈ m.foldl _ (insM l y.1) ↔ _
    rw [letsF_mem, insM_mem, or_assoc]
    refine or_congr Iff.rfl ⟨fun h => ?_, fun ⟨z, h1, h2⟩ => ?_⟩
    · rcases h with h | ⟨z, h1, h2⟩
      · exact ⟨y, List.mem_cons_self, h⟩
      · exact ⟨z, List.mem_cons_of_mem _ h1, h2⟩
    · rcases List.mem_cons.mp h1 with rfl | h1
      · exact .inl h2
      · exact .inr ⟨z, h1, h2⟩
theorem letsF_nd : ∀ {t : Tab} {l : List Int}, l.Nodup → (t.foldl (fun l e => insM l e.1) l).Nodup
  | [], l, h => h
  | y :: m, l, h => letsF_nd (t := m) (insM_nd h)
theorem lets_mem {t : Tab} {x : Int} : x ∈ lets t ↔ ∃ e ∈ t, ∃ z ∈ e.1, z.1 = x := by
  unfold lets
  rw [letsF_mem]
  simp
theorem lets_nd (t : Tab) : (lets t).Nodup := letsF_nd List.nodup_nil
theorem lets_snoc (t : Tab) (e : Mon × Int) : lets (t ++ [e]) = insM (lets t) e.1 := by unfold lets; rw [List.foldl_append]; rfl
theorem insM_snoc (l : List Int) (m : Mon) (z : Int × Int) : insM l (m ++ [z]) = insL (insM l m) z.1 := by unfold insM; rw [List.foldl_append]; rfl
theorem pig : ∀ (n : Nat) (l : List Int), l.Nodup → (∀ x ∈ l, 0 ≤ x ∧ x < n) → l.length ≤ n
  | 0, [], _, _ => Nat.le_refl _
  | 0, x :: l, _, h => by have := h x List.mem_cons_self; omega
  | n + 1, l, hn, h => by
    have q := pig n (l.erase n) (hn.erase _) fun x hx => by
      obtain ⟨h1, h2⟩ := (hn.mem_erase_iff).mp hx
      have := h x h2
      omega
    have := List.le_length_erase (a := (n : Int)) (l := l)
    omega
theorem sorted_perm : ∀ {a b : List Int}, a.Perm b → a.Pairwise (· ≤ ·) → b.Pairwise (· ≤ ·) → a = b
  | [], b, h, _, _ => (List.Perm.nil_eq h)
  | x :: a, [], h, _, _ => by simpa using h.length_eq
  | x :: a, y :: b, h, ha, hb => by
    obtain ⟨a1, a2⟩ := List.pairwise_cons.mp ha
    obtain ⟨b1, b2⟩ := List.pairwise_cons.mp hb
    have e : x = y := by
      have h1 : y ∈ x :: a := h.mem_iff.mpr List.mem_cons_self
      have h2 : x ∈ y :: b := h.mem_iff.mp List.mem_cons_self
      rcases List.mem_cons.mp h1 with h1 | h1
      · exact h1.symm
      · rcases List.mem_cons.mp h2 with h2 | h2
        · exact h2
        · have := a1 y h1
          have := b1 x h2
          omega
    subst e
    rw [sorted_perm (List.perm_cons x |>.mp h) a2 b2]
def sortI (l : List Int) : List Int := l.mergeSort fun a b => decide (a ≤ b)
theorem sortI_ok (l : List Int) : (sortI l).Perm l ∧ (sortI l).Pairwise (· ≤ ·) := by
  refine ⟨List.mergeSort_perm l _, ?_⟩
  have q := List.pairwise_mergeSort (le := fun a b : Int => decide (a ≤ b)) (fun a b c h1 h2 => by simp at *; omega) (fun a b => by simp; omega) l
  exact q.imp fun h => by simpa using h
def p_letters_in (ds : List D) (R : D → Prop) : Prop := ∃ t : Tab, ds = [encP t] ∧ (∀ e ∈ t, ∀ z ∈ e.1, 0 ≤ z.1 ∧ z.1 < 5) ∧ R (.list ((sortI (lets t)).map .int))
theorem len_letters_in : ∀ ds R, p_letters_in ds R → ds.length = (["one"] : List Str).length := fun ds R ⟨_, h, _⟩ => by rw [h]; rfl
theorem five_le : 5 < sizeLine := by decide

theorem body_letters_in {P : Program} {w : World} {K : PySem.W.Frag} {mg : Str → Option Value} {base : Heap} (z_sorted : mg "sorted" = none) :
  Body P w K mg base N_letters_in "letters_in" st_letters_in 0 fun ts => ∀ ds R, p_letters_in ds R → ts { nx := fun _ => R .none, rt := fun d _ => R d } (startD N_letters_in ds) := fun f cdv A outer s H E hr => by
  refine ⟨_, (qss_cons (qs_ownN 1 sc_letters_in.nd qn_empI)
 (qss_cons (qs_for PassesOwn.never (by rfl) (qi_list (qe_var 0)) (qg_tup (by rfl) (qgs_cons (qg_name 2 sc_letters_in.nd) (qgs_cons (qg_name 3 sc_letters_in.nd) qgs_nil)))
 (qss_one (qs_for PassesOwn.never (by rfl) (qi_tup (qe_var 2)) (qg_tup (by rfl) (qgs_cons (qg_name 4 sc_letters_in.nd) (qgs_cons (qg_name 3 sc_letters_in.nd) qgs_nil)))
 (qss_one (qs_putI 1 (u16 hr) qe_bl (qe_var 4))))))
 (qss_fzD 1 (qss_one (qs_ret (qe_fr (f_sortDI (by rfl) (by rfl) z_sorted (qe_var 1)))))))), ?_⟩
  intro ds R h
  obtain ⟨t, rfl, hz, h⟩ := h
  have h5 := five_le
  refine ⟨trivial, fun i ρ => ∃ s2 s3 s4 : Sl, ρ = [.sh (encP t), .od (.ik (enI (lets (t.take i)))), s2, s3, s4] ∧ nio s2 ∧ nio s3 ∧ nio s4, ⟨.no, .no, .no, rfl, trivial, trivial, trivial⟩, ?_, ?_⟩
  · rintro i d ρ hi ⟨s2, s3, s4, rfl, k2, k3, k4⟩
    obtain ⟨e, he, rfl⟩ := map_at hi
    have hem := List.mem_of_getElem? he
    refine ⟨rfl, k2, k3, rfl, fun j ρ => ∃ s3 s4 : Sl, ρ = [.sh (encP t), .od (.ik (enI (insM (lets (t.take i)) (e.1.take j)))), .sh (encM e.1), s3, s4] ∧ nio s3 ∧ nio s4, ⟨.sh (.int e.2), s4, rfl, trivial, k4⟩, ?_, ?_⟩
    · rintro j d ρ hj ⟨s3, s4, rfl, k3, k4⟩
      obtain ⟨z, hzz, rfl⟩ := map_at hj
      refine ⟨rfl, k4, k3, rfl, ⟨_, rfl⟩, _, z.1, rfl, rfl, ?_, .sh (.int z.2), .sh (.int z.1), ?_, trivial, trivial⟩
      · show (enI _).length < sizeLine
        unfold enI
        rw [List.length_map]
        have q := pig 5 (insM (lets (t.take i)) (e.1.take j)) (insM_nd (lets_nd _)) fun x hx => by
          rcases insM_mem.mp hx with hx | ⟨y, hy, rfl⟩
          · obtain ⟨f, hf, y, hy, rfl⟩ := lets_mem.mp hx
            exact hz f (List.mem_of_mem_take hf) y hy
          · exact hz e hem y (List.mem_of_mem_take hy)
        omega
      · show [Sl.sh (encP t), .od (.ik (putI (enI (insM (lets (t.take i)) (e.1.take j))) z.1 (.bool true))), .sh (encM e.1), .sh (.int z.2), .sh (.int z.1)] = _
        rw [putI_enI, take_one hzz, insM_snoc]
    · rintro ρ ⟨s3, s4, rfl, k3, k4⟩
      refine ⟨.sh (encM e.1), s3, s4, ?_, trivial, k3, k4⟩
      rw [List.length_map, List.take_length, take_one he, lets_snoc]
  · rintro ρ ⟨s2, s3, s4, rfl, k2, k3, k4⟩
    rw [List.length_map, List.take_length]
    dsimp only
    refine fzD_go rfl (ret_go ?_)
    refine ⟨_, rfl, ?_, fun ys hp hs => ?_⟩
    · unfold enI
      rw [List.length_map]
      have q := pig 5 (lets t) (lets_nd _) fun x hx => by
        obtain ⟨f, hf, y, hy, rfl⟩ := lets_mem.mp hx
        exact hz f hf y hy
      omega
    · have e : (enI (lets t)).map (·.1) = lets t := by
        unfold enI
        rw [List.map_map]
        exact List.map_id' _
      rw [e] at hp
      have s := sortI_ok (lets t)
      rw [sorted_perm (hp.trans s.1.symm) hs s.2]
      exact h
theorem ok_letters_in {P : Program} {w : World} {K : PySem.W.Frag} {mg : Str → Option Value} {base : Heap} {f : Addr} {fd : FuncData} (F : Fun K "letters_in" "letters_in" st_letters_in f fd) (z_sorted : mg "sorted" = none) :
  FnOk P w K mg base CX0 1 f fd ["one"] (spD ⟨K, P, w⟩ p_letters_in) := fn_D F sc_letters_in len_letters_in (body_letters_in z_sorted)

/-! content, divided, values -/
def contT (t : Tab) : Int := t.foldl (fun g e => ((Int.gcd g e.2 : Nat) : Int)) 0
theorem contT_snoc (t : Tab) (e : Mon × Int) : contT (t ++ [e]) = ((Int.gcd (contT t) e.2 : Nat) : Int) := by unfold contT; rw [List.foldl_append]; rfl
def p_content (ds : List D) (R : D → Prop) : Prop := ∃ t : Tab, ds = [encP t] ∧ R (.int (contT t))
theorem len_content : ∀ ds R, p_content ds R → ds.length = (["one"] : List Str).length := fun ds R ⟨_, h, _⟩ => by rw [h]; rfl

theorem body_content {P : Program} {w : World} {K : PySem.W.Frag} {mg : Str → Option Value} {base : Heap} (C_common_divisor : Cal P w K mg base "common_divisor" 1 (spD ⟨K, P, w⟩ p_common_divisor)) :
  Body P w K mg base N_content "content" st_content 1 fun ts => ∀ ds R, p_content ds R → ts { nx := fun _ => R .none, rt := fun d _ => R d } (startD N_content ds) := fun f cdv A outer s H E hr => by
  refine ⟨_, (qss_cons (qs_set 1 sc_content.nd qe_int)
 (qss_cons (qs_for PassesOwn.never (by rfl) (qi_list (qe_var 0)) (qg_tup (by rfl) (qgs_cons (qg_name 2 sc_content.nd) (qgs_cons (qg_name 3 sc_content.nd) qgs_nil)))
 (qss_one (qs_set 1 sc_content.nd (qe_call C_common_divisor (hr.mono (by decide)) (by rfl) (qa_cons (qe_var 1) (qa_cons (qe_var 3) qa_nil))))))
 (qss_one (qs_ret (qe_var 1))))), ?_⟩
  intro ds R h
  obtain ⟨t, rfl, h⟩ := h
  refine ⟨trivial, fun i ρ => ∃ s2 s3 : Sl, ρ = [.sh (encP t), .sh (.int (contT (t.take i))), s2, s3] ∧ nio s2 ∧ nio s3, ⟨.no, .no, rfl, trivial, trivial⟩, ?_, ?_⟩
  · rintro i d ρ hi ⟨s2, s3, rfl, k2, k3⟩
    obtain ⟨e, he, rfl⟩ := map_at hi
    refine ⟨rfl, k2, k3, rfl, contT (t.take i), e.2, rfl, trivial, .sh (encM e.1), .sh (.int e.2), ?_, trivial, trivial⟩
    rw [take_one he, contT_snoc]
    rfl
  · rintro ρ ⟨s2, s3, rfl, k2, k3⟩
    rw [List.length_map, List.take_length]
    exact h
theorem ok_content {P : Program} {w : World} {K : PySem.W.Frag} {mg : Str → Option Value} {base : Heap} {f : Addr} {fd : FuncData} (F : Fun K "content" "content" st_content f fd) (C_common_divisor : Cal P w K mg base "common_divisor" 1 (spD ⟨K, P, w⟩ p_common_divisor)) :
  FnOk P w K mg base CX0 2 f fd ["one"] (spD ⟨K, P, w⟩ p_content) := fn_D F sc_content len_content (body_content C_common_divisor)

def divT (t : Tab) (n : Int) : Tab := t.map fun e => (e.1, e.2.fdiv n)
def divF (n : Int) (d : D) : Option D := match d with
  | .tuple [m, .int c] => some (.tuple [m, .int (c.fdiv n)])
  | _ => none
theorem div_fm (n : Int) (t : Tab) : (t.map encE).filterMap (divF n) = (divT t n).map encE := by
  induction t with
  | nil => rfl
  | cons e t ih => exact congrArg (encE (e.1, e.2.fdiv n) :: ·) ih
def p_divided (ds : List D) (R : D → Prop) : Prop := ∃ (t : Tab) (n : Int), ds = [encP t, .int n] ∧ n ≠ 0 ∧ sml 100 n ∧ t.length ≤ 100000 ∧ R (encP (divT t n))
theorem len_divided : ∀ ds R, p_divided ds R → ds.length = (["one", "number"] : List Str).length := fun ds R ⟨_, _, h, _⟩ => by rw [h]; rfl

theorem body_divided {P : Program} {w : World} {K : PySem.W.Frag} {mg : Str → Option Value} {base : Heap}  :
  Body P w K mg base N_divided "divided" st_divided 0 fun ts => ∀ ds R, p_divided ds R → ts { nx := fun _ => R .none, rt := fun d _ => R d } (startD N_divided ds) := fun f cdv A outer s H E hr => by
  refine ⟨_, (qss_cons (qs_if (t_eq hr.units (qe_var 1) qe_int)
 (qss_one qs_dead)
 qss_nil)
 (qss_one (qs_ret (qe_fr (qf_lc2 2 3 (by decide) (by rfl) sc_divided.nd (qi_list (qe_var 0)) (blkOk_by (own := [("monomial", 2), ("entry", 3)]) (N := N_divided) (sc := defScope st_divided) (by decide +kernel)) (fun _ _ _ _ _ => pg_tup (by rfl) (pgs_cons (pg_name (i := 2) sc_divided.nd rfl (by first | exact Or.inl rfl | exact Or.inr rfl)) (pgs_cons (pg_name (i := 3) sc_divided.nd rfl (by first | exact Or.inl rfl | exact Or.inr rfl)) pgs_nil))) (fun _ _ _ _ _ => qts_nil) (fun _ _ _ _ _ => (qe_tup (qa_cons (qe_var 2) (qa_cons (q_fdv (qe_var 3) (qe_var 1)) qa_nil))))))))), ?_⟩
  intro ds R h
  obtain ⟨t, n, rfl, h0, h1, hl, h⟩ := h
  have hb := big_le
  refine ⟨_, rfl, fun hz => ?_, fun hz => ?_⟩
  · have hz' : (n == 0) = true := hz
    exact h0 (eq_of_beq hz')
  · try unfold dNext
    dsimp only
    refine ret_go (fr_go ?_)
    refine lc_fm (t.map encE) (divF n) (fun K h => h) (sh2 (by exact trivial) (by exact trivial)) (by rw [List.length_map]; omega) ?_ ?_
    · intro d hd Y Z hY hZ
      obtain ⟨e, _, rfl⟩ := List.mem_map.mp hd
      exact ⟨_, _, rfl, trivial, trivial, fun _ => ⟨cdS8 h0 h1 (by decide), sl2, hY _ _ rfl (sh2 (by exact trivial) (by exact trivial)) rfl⟩, fun h => nomatch h⟩
    · rw [div_fm]
      exact h
theorem ok_divided {P : Program} {w : World} {K : PySem.W.Frag} {mg : Str → Option Value} {base : Heap} {f : Addr} {fd : FuncData} (F : Fun K "divided" "divided" st_divided f fd)  :
  FnOk P w K mg base CX0 1 f fd ["one", "number"] (spD ⟨K, P, w⟩ p_divided) := fn_D F sc_divided len_divided (body_divided )

def p_value (ds : List D) (R : D → Prop) : Prop := ∃ (t : Tab) (sp : Int → Int × Int) (kvs : List (Int × D)), ds = [encP t, .dict (tagI kvs)] ∧ TabV sp t ∧ t.length ≤ 6 ∧ (∀ e ∈ t, ∀ z ∈ e.1, getI kvs z.1 = some (enc (sp z.1))) ∧ R (enc (valR sp t (0, 1)))
theorem len_value : ∀ ds R, p_value ds R → ds.length = (["one", "values"] : List Str).length := fun ds R ⟨_, _, _, h, _⟩ => by rw [h]; rfl
theorem fr01 : Fr 1 (0, 1) := ⟨by show (0 : Int) < 1; decide, by show (0 : Int).natAbs < 2 ^ 1; decide, by show (1 : Int).natAbs < 2 ^ 1; decide⟩
theorem valR_take {sp : Int → Int × Int} {t : Tab} (h : TabV sp t) (hl : t.length ≤ 6) (i : Nat) : Fr 1950 (valR sp (t.take i) (0, 1)) := by
  have q := Fr.val (t := t.take i) (fun e he => h e (List.mem_of_mem_take he)) fr01
  have hl2 : (t.take i).length ≤ 6 := by rw [List.length_take]; omega
  exact q.mono (by omega)
theorem monR_take {sp : Int → Int × Int} {m : Mon} {c : Int} (h : LetOk sp m) (hl : m.length ≤ 5) (hc : sml 120 c) (i : Nat) : Fr 320 (monR sp (m.take i) (c, 1)) := by
  have q := Fr.mon (m := m.take i) (fun z hz => h z (List.mem_of_mem_take hz)) (fr_c hc)
  have hl2 : (m.take i).length ≤ 5 := by rw [List.length_take]; omega
  exact q.mono (by omega)
theorem fr_args {x y : Int × Int} (h : Fr 3900 x) (k : Fr 3900 y) : x.2 ≠ 0 ∧ y.2 ≠ 0 ∧ sml 3900 x.1 ∧ sml 3900 x.2 ∧ sml 3900 y.1 ∧ sml 3900 y.2 := ⟨by have := h.pos; omega, by have := k.pos; omega, h.n, h.d, k.n, k.d⟩

theorem body_value {P : Program} {w : World} {K : PySem.W.Frag} {mg : Str → Option Value} {base : Heap} (z_range : mg "range" = none) (C_plus : Cal P w K mg base "plus" 3 (spD ⟨K, P, w⟩ p_plus)) (C_times : Cal P w K mg base "times" 3 (spD ⟨K, P, w⟩ p_times)) :
  Body P w K mg base N_value "value" st_value 3 fun ts => ∀ ds R, p_value ds R → ts { nx := fun _ => R .none, rt := fun d _ => R d } (startD N_value ds) := fun f cdv A outer s H E hr => by
  refine ⟨_, (qss_cons (qs_set 2 sc_value.nd (qe_tup (qa_cons qe_int (qa_cons qe_int qa_nil))))
 (qss_cons (qs_for PassesOwn.never (by rfl) (qi_list (qe_var 0)) (qg_tup (by rfl) (qgs_cons (qg_name 3 sc_value.nd) (qgs_cons (qg_name 4 sc_value.nd) qgs_nil)))
 (qss_cons (qs_set 5 sc_value.nd (qe_tup (qa_cons (qe_var 4) (qa_cons qe_int qa_nil))))
 (qss_cons (qs_for PassesOwn.never (by rfl) (qi_tup (qe_var 3)) (qg_tup (by rfl) (qgs_cons (qg_name 6 sc_value.nd) (qgs_cons (qg_name 7 sc_value.nd) qgs_nil)))
 (qss_one (qs_for PassesOwn.never (by rfl) (qi_range1 (by rfl) z_range (qa_cons (qe_var 7) qa_nil)) (qg_name 8 sc_value.nd)
 (qss_one (qs_set 5 sc_value.nd (qe_call C_times (hr.mono (by decide)) (by rfl) (qa_cons (qe_var 5) (qa_cons (q_ixI (u16 hr) (qe_var 1) (qe_var 6)) qa_nil))))))))
 (qss_one (qs_set 2 sc_value.nd (qe_call C_plus (hr.mono (by decide)) (by rfl) (qa_cons (qe_var 2) (qa_cons (qe_var 5) qa_nil))))))))
 (qss_one (qs_ret (qe_var 2))))), ?_⟩
  intro ds R h
  obtain ⟨t, sp, kvs, rfl, tv, hl, hk, h⟩ := h
  refine ⟨sl2, trivial, fun i ρ => ∃ s3 s4 s5 s6 s7 s8 : Sl, ρ = [.sh (encP t), .sh (.dict (tagI kvs)), .sh (enc (valR sp (t.take i) (0, 1))), s3, s4, s5, s6, s7, s8] ∧ nio s3 ∧ nio s4 ∧ nio s5 ∧ nio s6 ∧ nio s7 ∧ nio s8, ⟨.no, .no, .no, .no, .no, .no, rfl, trivial, trivial, trivial, trivial, trivial, trivial⟩, ?_, ?_⟩
  · rintro i d ρ hi ⟨s3, s4, s5, s6, s7, s8, rfl, k3, k4, k5, k6, k7, k8⟩
    obtain ⟨e, he, rfl⟩ := map_at hi
    have hem := List.mem_of_getElem? he
    obtain ⟨e1, e2, e3⟩ := tv e hem
    refine ⟨rfl, k3, k4, rfl, sl2, k5, fun j ρ => ∃ s6 s7 s8 : Sl, ρ = [.sh (encP t), .sh (.dict (tagI kvs)), .sh (enc (valR sp (t.take i) (0, 1))), .sh (encM e.1), .sh (.int e.2), .sh (enc (monR sp (e.1.take j) (e.2, 1))), s6, s7, s8] ∧ nio s6 ∧ nio s7 ∧ nio s8, ⟨s6, s7, s8, rfl, k6, k7, k8⟩, ?_, ?_⟩
    · rintro j d ρ hj ⟨s6, s7, s8, rfl, k6, k7, k8⟩
      obtain ⟨z, hz, rfl⟩ := map_at hj
      have hzm := List.mem_of_getElem? hz
      obtain ⟨z1, z2, z3⟩ := e1 z hzm
      have mo := monR_take e1 e2 e3 j
      refine ⟨rfl, k6, k7, rfl, z.2, rfl, by omega, by omega, fun n ρ => n ≤ 4 ∧ ∃ s8 : Sl, ρ = [.sh (encP t), .sh (.dict (tagI kvs)), .sh (enc (valR sp (t.take i) (0, 1))), .sh (encM e.1), .sh (.int e.2), .sh (enc (powR (monR sp (e.1.take j) (e.2, 1)) (sp z.1) n)), .sh (.int z.1), .sh (.int z.2), s8] ∧ nio s8, ⟨Nat.zero_le _, s8, rfl, k8⟩, ?_, ?_⟩
      · rintro n d ρ hn ⟨_, s8, rfl, k8⟩
        obtain ⟨hn', rfl⟩ := rgD_at hn
        have hn4 : n + 1 ≤ 4 := by omega
        have pw := (mo.pow z1 n).mono (show 320 + n * 10 ≤ 3900 by omega)
        obtain ⟨a1, a2, a3, a4, a5, a6⟩ := fr_args pw (z1.mono (by decide))
        exact ⟨k8, kvs, z.1, _, rfl, rfl, hk e hem z hzm, _, _, _, _, rfl, a1, a2, a3, a4, a5, a6, trivial, hn4, .sh (.int (0 + (n : Int))), rfl, trivial⟩
      · rintro ρ ⟨_, s8, rfl, k8⟩
        refine ⟨.sh (.int z.1), .sh (.int z.2), s8, ?_, trivial, trivial, k8⟩
        rw [rgD_len, take_one hz, monR_snoc]
    · rintro ρ ⟨s6, s7, s8, rfl, k6, k7, k8⟩
      rw [List.length_map, List.take_length]
      have va := (valR_take tv hl i).mono (show 1950 ≤ 3900 by decide)
      have mo := monR_take e1 e2 e3 e.1.length
      rw [List.take_length] at mo
      obtain ⟨a1, a2, a3, a4, a5, a6⟩ := fr_args va (mo.mono (show 320 ≤ 3900 by decide))
      refine ⟨_, _, _, _, rfl, a1, a2, a3, a4, a5, a6, trivial, .sh (encM e.1), .sh (.int e.2), .sh (enc (monR sp e.1 (e.2, 1))), s6, s7, s8, ?_, trivial, trivial, trivial, k6, k7, k8⟩
      rw [take_one he, valR_snoc]
      rfl
  · rintro ρ ⟨s3, s4, s5, s6, s7, s8, rfl, _⟩
    rw [List.length_map, List.take_length]
    exact h
theorem ok_value {P : Program} {w : World} {K : PySem.W.Frag} {mg : Str → Option Value} {base : Heap} {f : Addr} {fd : FuncData} (F : Fun K "value" "value" st_value f fd) (z_range : mg "range" = none) (C_plus : Cal P w K mg base "plus" 3 (spD ⟨K, P, w⟩ p_plus)) (C_times : Cal P w K mg base "times" 3 (spD ⟨K, P, w⟩ p_times)) :
  FnOk P w K mg base CX0 4 f fd ["one", "values"] (spD ⟨K, P, w⟩ p_value) := fn_D F sc_value len_value (body_value z_range C_plus C_times)

def powM (p : Int) (x v : Int) : Nat → Int
  | 0 => x
  | k + 1 => (powM p x v k * v).fmod p
def monM (p : Int) (pl : Int → Int) (m : Mon) (x : Int) : Int := m.foldl (fun x z => powM p x (pl z.1) z.2.toNat) x
def valM (p : Int) (pl : Int → Int) (t : Tab) : Int := t.foldl (fun f e => f + monM p pl e.1 e.2) 0
theorem monM_snoc (p : Int) (pl : Int → Int) (m : Mon) (z : Int × Int) (x : Int) : monM p pl (m ++ [z]) x = powM p (monM p pl m x) (pl z.1) z.2.toNat := by unfold monM; rw [List.foldl_append]; rfl
theorem valM_snoc (p : Int) (pl : Int → Int) (t : Tab) (e : Mon × Int) : valM p pl (t ++ [e]) = valM p pl t + monM p pl e.1 e.2 := by unfold valM; rw [List.foldl_append]; rfl
def p_value_modulo (ds : List D) (R : D → Prop) : Prop := ∃ (t : Tab) (pl : Int → Int) (kvs : List (Int × D)) (p : Int), ds = [encP t, .dict (tagI kvs), .int p] ∧ p ≠ 0 ∧ (∀ e ∈ t, ∀ z ∈ e.1, getI kvs z.1 = some (.int (pl z.1)) ∧ 0 ≤ pl z.1 ∧ pl z.1 < 1000 ∧ 0 ≤ z.2 ∧ z.2 ≤ 4) ∧ R (.int ((valM p pl t).fmod p))
theorem len_value_modulo : ∀ ds R, p_value_modulo ds R → ds.length = (["one", "values", "prime"] : List Str).length := fun ds R ⟨_, _, _, _, h, _⟩ => by rw [h]; rfl

theorem body_value_modulo {P : Program} {w : World} {K : PySem.W.Frag} {mg : Str → Option Value} {base : Heap} (z_range : mg "range" = none) :
  Body P w K mg base N_value_modulo "value_modulo" st_value_modulo 0 fun ts => ∀ ds R, p_value_modulo ds R → ts { nx := fun _ => R .none, rt := fun d _ => R d } (startD N_value_modulo ds) := fun f cdv A outer s H E hr => by
  refine ⟨_, (qss_cons (qs_set 3 sc_value_modulo.nd qe_int)
 (qss_cons (qs_for PassesOwn.never (by rfl) (qi_list (qe_var 0)) (qg_tup (by rfl) (qgs_cons (qg_name 4 sc_value_modulo.nd) (qgs_cons (qg_name 5 sc_value_modulo.nd) qgs_nil)))
 (qss_cons (qs_set 6 sc_value_modulo.nd (qe_var 5))
 (qss_cons (qs_for PassesOwn.never (by rfl) (qi_tup (qe_var 4)) (qg_tup (by rfl) (qgs_cons (qg_name 7 sc_value_modulo.nd) (qgs_cons (qg_name 8 sc_value_modulo.nd) qgs_nil)))
 (qss_one (qs_for PassesOwn.never (by rfl) (qi_range1 (by rfl) z_range (qa_cons (qe_var 8) qa_nil)) (qg_name 9 sc_value_modulo.nd)
 (qss_one (qs_set 6 sc_value_modulo.nd (q_mod (q_mul (qe_var 6) (q_ixI (u16 hr) (qe_var 1) (qe_var 7))) (qe_var 2)))))))
 (qss_one (qs_aug 3 sc_value_modulo.nd ip_add (qe_var 6))))))
 (qss_one (qs_ret (q_mod (qe_var 3) (qe_var 2)))))), ?_⟩
  intro ds R h
  obtain ⟨t, pl, kvs, p, rfl, hp, hk, h⟩ := h
  refine ⟨trivial, fun i ρ => ∃ s4 s5 s6 s7 s8 s9 : Sl, ρ = [.sh (encP t), .sh (.dict (tagI kvs)), .sh (.int p), .sh (.int (valM p pl (t.take i))), s4, s5, s6, s7, s8, s9] ∧ nio s4 ∧ nio s5 ∧ nio s6 ∧ nio s7 ∧ nio s8 ∧ nio s9, ⟨.no, .no, .no, .no, .no, .no, rfl, trivial, trivial, trivial, trivial, trivial, trivial⟩, ?_, ?_⟩
  · rintro i d ρ hi ⟨s4, s5, s6, s7, s8, s9, rfl, k4, k5, k6, k7, k8, k9⟩
    obtain ⟨e, he, rfl⟩ := map_at hi
    have hem := List.mem_of_getElem? he
    refine ⟨rfl, k4, k5, rfl, k6, fun j ρ => ∃ s7 s8 s9 : Sl, ρ = [.sh (encP t), .sh (.dict (tagI kvs)), .sh (.int p), .sh (.int (valM p pl (t.take i))), .sh (encM e.1), .sh (.int e.2), .sh (.int (monM p pl (e.1.take j) e.2)), s7, s8, s9] ∧ nio s7 ∧ nio s8 ∧ nio s9, ⟨s7, s8, s9, rfl, k7, k8, k9⟩, ?_, ?_⟩
    · rintro j d ρ hj ⟨s7, s8, s9, rfl, k7, k8, k9⟩
      obtain ⟨z, hz, rfl⟩ := map_at hj
      have hzm := List.mem_of_getElem? hz
      obtain ⟨z1, z2, z3, z4, z5⟩ := hk e hem z hzm
      refine ⟨rfl, k7, k8, rfl, z.2, rfl, by omega, by omega, fun n ρ => ∃ s9 : Sl, ρ = [.sh (encP t), .sh (.dict (tagI kvs)), .sh (.int p), .sh (.int (valM p pl (t.take i))), .sh (encM e.1), .sh (.int e.2), .sh (.int (powM p (monM p pl (e.1.take j) e.2) (pl z.1) n)), .sh (.int z.1), .sh (.int z.2), s9] ∧ nio s9, ⟨s9, rfl, k9⟩, ?_, ?_⟩
      · rintro n d ρ hn ⟨s9, rfl, k9⟩
        obtain ⟨hn', rfl⟩ := rgD_at hn
        exact ⟨k9, kvs, z.1, _, rfl, rfl, z1, cmR (by omega) (by omega), hp, trivial, .sh (.int (0 + (n : Int))), rfl, trivial⟩
      · rintro ρ ⟨s9, rfl, k9⟩
        refine ⟨.sh (.int z.1), .sh (.int z.2), s9, ?_, trivial, trivial, k9⟩
        rw [rgD_len, take_one hz, monM_snoc]
    · rintro ρ ⟨s7, s8, s9, rfl, k7, k8, k9⟩
      rw [List.length_map, List.take_length]
      refine ⟨_, rfl, _, rfl, trivial, .sh (encM e.1), .sh (.int e.2), .sh (.int (monM p pl e.1 e.2)), s7, s8, s9, ?_, trivial, trivial, trivial, k7, k8, k9⟩
      rw [take_one he, valM_snoc]
      rfl
  · rintro ρ ⟨s4, s5, s6, s7, s8, s9, rfl, _⟩
    rw [List.length_map, List.take_length]
    exact ⟨hp, h⟩
theorem ok_value_modulo {P : Program} {w : World} {K : PySem.W.Frag} {mg : Str → Option Value} {base : Heap} {f : Addr} {fd : FuncData} (F : Fun K "value_modulo" "value_modulo" st_value_modulo f fd) (z_range : mg "range" = none) :
  FnOk P w K mg base CX0 1 f fd ["one", "values", "prime"] (spD ⟨K, P, w⟩ p_value_modulo) := fn_D F sc_value_modulo len_value_modulo (body_value_modulo z_range)

def p__law_values (ds : List D) (R : D → Prop) : Prop := ∃ (t : Tab) (sp : Int → Int × Int) (kvs : List (Int × D)), ds = [.dict (encT t), .dict (tagI kvs)] ∧ Nd t ∧ TabV sp t ∧ t.length ≤ 6 ∧ (∀ e ∈ t, ∀ z ∈ e.1, getI kvs z.1 = some (enc (sp z.1))) ∧ R (enc (valR sp t (0, 1)))
theorem len__law_values : ∀ ds R, p__law_values ds R → ds.length = (["table", "spots"] : List Str).length := fun ds R ⟨_, _, _, h, _⟩ => by rw [h]; rfl

theorem body__law_values {P : Program} {w : World} {K : PySem.W.Frag} {mg : Str → Option Value} {base : Heap} (z_range : mg "range" = none) (C__law_ratio : Cal P w K mg base "_law_ratio" 2 (spD ⟨K, P, w⟩ p__law_ratio)) (C__law_mul : Cal P w K mg base "_law_mul" 3 (spD ⟨K, P, w⟩ p__law_mul)) :
  Body P w K mg base N__law_values "_law_values" st__law_values 3 fun ts => ∀ ds R, p__law_values ds R → ts { nx := fun _ => R .none, rt := fun d _ => R d } (startD N__law_values ds) := fun f cdv A outer s H E hr => by
  refine ⟨_, (qss_cons (qs_set 2 sc__law_values.nd (qe_tup (qa_cons qe_int (qa_cons qe_int qa_nil))))
 (qss_cons (qs_for PassesOwn.never (by rfl) (qi_keyN (qe_var 0)) (qg_name 3 sc__law_values.nd)
 (qss_cons (qs_set 4 sc__law_values.nd (qe_tup (qa_cons (q_ixN (u16 hr) (qe_var 0) (qe_var 3)) (qa_cons qe_int qa_nil))))
 (qss_cons (qs_for PassesOwn.never (by rfl) (qi_tup (qe_var 3)) (qg_tup (by rfl) (qgs_cons (qg_name 5 sc__law_values.nd) (qgs_cons (qg_name 6 sc__law_values.nd) qgs_nil)))
 (qss_one (qs_for PassesOwn.never (by rfl) (qi_range1 (by rfl) z_range (qa_cons (qe_var 6) qa_nil)) (qg_name 7 sc__law_values.nd)
 (qss_one (qs_set 4 sc__law_values.nd (qe_call C__law_mul (hr.mono (by decide)) (by rfl) (qa_cons (qe_var 4) (qa_cons (q_ixI (u16 hr) (qe_var 1) (qe_var 5)) qa_nil))))))))
 (qss_one (qs_set 2 sc__law_values.nd (qe_call C__law_ratio (hr.mono (by decide)) (by rfl) (qa_cons (q_add (q_mul (qe_ix (qe_var 2) qe_int) (qe_ix (qe_var 4) qe_int)) (q_mul (qe_ix (qe_var 4) qe_int) (qe_ix (qe_var 2) qe_int))) (qa_cons (q_mul (qe_ix (qe_var 2) qe_int) (qe_ix (qe_var 4) qe_int)) qa_nil))))))))
 (qss_one (qs_ret (qe_var 2))))), ?_⟩
  intro ds R h
  obtain ⟨t, sp, kvs, rfl, hn, tv, hl, hk, h⟩ := h
  refine ⟨sl2, trivial, encT t, rfl, isND_enc t, fun i ρ => ∃ s3 s4 s5 s6 s7 : Sl, ρ = [.sh (.dict (encT t)), .sh (.dict (tagI kvs)), .sh (enc (valR sp (t.take i) (0, 1))), s3, s4, s5, s6, s7] ∧ nio s3 ∧ nio s4 ∧ nio s5 ∧ nio s6 ∧ nio s7, ⟨.no, .no, .no, .no, .no, rfl, trivial, trivial, trivial, trivial, trivial⟩, ?_, ?_⟩
  · rintro i d ρ hi ⟨s3, s4, s5, s6, s7, rfl, k3, k4, k5, k6, k7⟩
    obtain ⟨e, he, rfl⟩ := encT_at hi
    have hem := List.mem_of_getElem? he
    obtain ⟨e1, e2, e3⟩ := tv e hem
    refine ⟨k3, encT t, .int e.2, rfl, keyOk _, getN_some (tget_mem hn hem), sl2, k4, fun j ρ => ∃ s5 s6 s7 : Sl, ρ = [.sh (.dict (encT t)), .sh (.dict (tagI kvs)), .sh (enc (valR sp (t.take i) (0, 1))), .sh (encM e.1), .sh (enc (monR sp (e.1.take j) (e.2, 1))), s5, s6, s7] ∧ nio s5 ∧ nio s6 ∧ nio s7, ⟨s5, s6, s7, rfl, k5, k6, k7⟩, ?_, ?_⟩
    · rintro j d ρ hj ⟨s5, s6, s7, rfl, k5, k6, k7⟩
      obtain ⟨z, hz, rfl⟩ := map_at hj
      have hzm := List.mem_of_getElem? hz
      obtain ⟨z1, z2, z3⟩ := e1 z hzm
      have mo := monR_take e1 e2 e3 j
      refine ⟨rfl, k5, k6, rfl, z.2, rfl, by omega, by omega, fun n ρ => n ≤ 4 ∧ ∃ s7 : Sl, ρ = [.sh (.dict (encT t)), .sh (.dict (tagI kvs)), .sh (enc (valR sp (t.take i) (0, 1))), .sh (encM e.1), .sh (enc (powR (monR sp (e.1.take j) (e.2, 1)) (sp z.1) n)), .sh (.int z.1), .sh (.int z.2), s7] ∧ nio s7, ⟨Nat.zero_le _, s7, rfl, k7⟩, ?_, ?_⟩
      · rintro n d ρ hn ⟨_, s7, rfl, k7⟩
        obtain ⟨hn', rfl⟩ := rgD_at hn
        have hn4 : n + 1 ≤ 4 := by omega
        have pw := (mo.pow z1 n).mono (show 320 + n * 10 ≤ 3900 by omega)
        obtain ⟨a1, a2, a3, a4, a5, a6⟩ := fr_args pw (z1.mono (by decide))
        exact ⟨k7, kvs, z.1, _, rfl, rfl, hk e hem z hzm, _, _, _, _, rfl, a1, a2, a3, a4, a5, a6, trivial, hn4, .sh (.int (0 + (n : Int))), rfl, trivial⟩
      · rintro ρ ⟨_, s7, rfl, k7⟩
        refine ⟨.sh (.int z.1), .sh (.int z.2), s7, ?_, trivial, trivial, k7⟩
        rw [rgD_len, take_one hz, monR_snoc]
    · rintro ρ ⟨s5, s6, s7, rfl, k5, k6, k7⟩
      rw [List.length_map, List.take_length]
      have va := valR_take tv hl i
      have mo := monR_take e1 e2 e3 e.1.length
      rw [List.take_length] at mo
      have c1 := cmS va.n mo.d (by decide)
      have c2 := cmS mo.n va.d (by decide)
      have c3 := cmS va.d mo.d (by decide)
      have p0 : (valR sp (t.take i) (0, 1)).2 * (monR sp e.1 (e.2, 1)).2 ≠ 0 := by
        have := Int.mul_pos va.pos mo.pos
        omega
      have s1 : sml 8000 ((valR sp (t.take i) (0, 1)).1 * (monR sp e.1 (e.2, 1)).2 + (monR sp e.1 (e.2, 1)).1 * (valR sp (t.take i) (0, 1)).2) := sml_mono (sml_add (sml_mul va.n mo.d) (by rw [Nat.add_comm]; exact sml_mul mo.n va.d)) (by decide)
      have s2 : sml 8000 ((valR sp (t.take i) (0, 1)).2 * (monR sp e.1 (e.2, 1)).2) := sml_mono (sml_mul va.d mo.d) (by decide)
      refine ⟨.int _, rfl, .int _, rfl, c1, .int _, rfl, .int _, rfl, c2, .int _, rfl, .int _, rfl, c3, _, _, rfl, p0, s1, s2, trivial, .sh (encM e.1), .sh (enc (monR sp e.1 (e.2, 1))), s5, s6, s7, ?_, trivial, trivial, k5, k6, k7⟩
      rw [take_one he, valR_snoc]
      rfl
  · rintro ρ ⟨s3, s4, s5, s6, s7, rfl, _⟩
    show R (enc (valR sp (t.take ((encT t).map (·.1)).length) (0, 1)))
    rw [List.length_map, encT_len, List.take_length]
    exact h
theorem ok__law_values {P : Program} {w : World} {K : PySem.W.Frag} {mg : Str → Option Value} {base : Heap} {f : Addr} {fd : FuncData} (F : Fun K "_law_values" "_law_values" st__law_values f fd) (z_range : mg "range" = none) (C__law_ratio : Cal P w K mg base "_law_ratio" 2 (spD ⟨K, P, w⟩ p__law_ratio)) (C__law_mul : Cal P w K mg base "_law_mul" 3 (spD ⟨K, P, w⟩ p__law_mul)) :
  FnOk P w K mg base CX0 4 f fd ["table", "spots"] (spD ⟨K, P, w⟩ p__law_values) := fn_D F sc__law_values len__law_values (body__law_values z_range C__law_ratio C__law_mul)

/-! ### rows by a letter -/
def restM (m : Mon) (n : Int) : Mon := m.filter fun z => decide (z.1 ≠ n)
def growT (ts : List Tab) (k : Nat) : List Tab := ts ++ List.replicate (k + 1 - ts.length) []
def rowStep (n : Int) (ts : List Tab) (e : Mon × Int) : List Tab :=
  (growT ts (expo e.1 n).toNat).set (expo e.1 n).toNat (tput ((growT ts (expo e.1 n).toNat).getD (expo e.1 n).toNat []) (restM e.1 n) e.2)
def rowsT (t : Tab) (n : Int) : List Tab := t.foldl (rowStep n) []
theorem rowsT_snoc (t : Tab) (n : Int) (e : Mon × Int) : rowsT (t ++ [e]) n = rowStep n (rowsT t n) e := by unfold rowsT; rw [List.foldl_append]; rfl
theorem growT_len (ts : List Tab) (k : Nat) : (growT ts k).length = max ts.length (k + 1) := by unfold growT; rw [List.length_append, List.length_replicate]; omega
theorem growT_mem {ts : List Tab} {k : Nat} {r : Tab} (h : r ∈ growT ts k) : r ∈ ts ∨ r = [] := by
  rcases List.mem_append.mp h with h | h
  · exact .inl h
  · exact .inr (List.eq_of_mem_replicate h)
theorem mem_set_or {α : Type} {l : List α} {i : Nat} {x y : α} (h : y ∈ l.set i x) : y ∈ l ∨ y = x := List.mem_or_eq_of_mem_set h
structure RowOk (k : Nat) (r : Tab) : Prop where
  nd : Nd r
  len : r.length ≤ k
  mon : ∀ e ∈ r, e.1.length ≤ 1000
theorem RowOk.nil {k : Nat} : RowOk k [] := ⟨List.nodup_nil, Nat.zero_le _, fun e h => nomatch h⟩
theorem RowOk.mono {k l : Nat} {r : Tab} (h : RowOk k r) (hkl : k ≤ l) : RowOk l r := ⟨h.nd, Nat.le_trans h.len hkl, h.mon⟩
theorem restM_len (m : Mon) (n : Int) : (restM m n).length ≤ m.length := List.length_filter_le _ _
theorem RowOk.put {k : Nat} {r : Tab} {m : Mon} {c : Int} (h : RowOk k r) (hm : m.length ≤ 1000) : RowOk (k + 1) (tput r m c) :=
  ⟨tput_nd _ _ h.nd, Nat.le_trans (tput_len _ _ _) (by have := h.len; omega), fun e he => by
    rcases tput_keys _ _ _ e he with ⟨g, hg, q⟩ | q
    · rw [← q]; exact h.mon g hg
    · rw [q]; exact hm⟩
theorem getD_ok {ts : List Tab} {k j : Nat} (h : ∀ r ∈ ts, RowOk k r) : RowOk k (ts.getD j []) := by
  rw [List.getD_eq_getElem?_getD]
  cases e : ts[j]? with
  | none => exact RowOk.nil
  | some r => exact h r (List.mem_of_getElem? e)
theorem rowsT_ok {t : Tab} {n : Int} (hm : ∀ e ∈ t, e.1.length ≤ 1000) (he : ∀ e ∈ t, 0 ≤ expo e.1 n ∧ expo e.1 n ≤ 4) : ∀ i, i ≤ t.length → (∀ r ∈ rowsT (t.take i) n, RowOk i r) ∧ (rowsT (t.take i) n).length ≤ 5
  | 0, _ => ⟨fun r h => (nomatch h), Nat.zero_le _⟩
  | i + 1, hi => by
    obtain ⟨q1, q2⟩ := rowsT_ok hm he i (by omega)
    obtain ⟨e, hj⟩ : ∃ e, t[i]? = some e := ⟨_, List.getElem?_eq_getElem (by omega)⟩
    have hem := List.mem_of_getElem? hj
    have hx := he e hem
    rw [take_one hj, rowsT_snoc]
    have g : ∀ r ∈ growT (rowsT (t.take i) n) (expo e.1 n).toNat, RowOk i r := fun r hr => (growT_mem hr).elim (q1 r) fun z => z ▸ RowOk.nil
    refine ⟨fun r hr => ?_, ?_⟩
    · rcases mem_set_or hr with hr | hr
      · exact (g r hr).mono (by omega)
      · rw [hr]
        exact (getD_ok g).put (Nat.le_trans (restM_len _ _) (hm e hem))
    · unfold rowStep
      rw [List.length_set, growT_len]
      omega
def rowD (r : Tab) : D := .dict (encT r)
def p_rows_by_letter (ds : List D) (R : D → Prop) : Prop := ∃ (t : Tab) (n : Int), ds = [.dict (encT t), .int n] ∧ TabOk t ∧ (∀ e ∈ t, 0 ≤ expo e.1 n ∧ expo e.1 n ≤ 4) ∧ R (.list ((rowsT t n).map rowD))
theorem len_rows_by_letter : ∀ ds R, p_rows_by_letter ds R → ds.length = (["table", "number"] : List Str).length := fun ds R ⟨_, _, h, _⟩ => by rw [h]; rfl
def restF (n : Int) (d : D) : Option D := match d with
  | .tuple [.int a, x] => if a = n then none else some (.tuple [.int a, x])
  | _ => none
theorem rest_fm (n : Int) (m : Mon) : (m.map enc).filterMap (restF n) = (restM m n).map enc := by
  induction m with
  | nil => rfl
  | cons z m ih =>
    rw [List.map_cons, List.filterMap_cons]
    have e : restF n (enc z) = if z.1 = n then none else some (enc z) := rfl
    rw [e]
    unfold restM
    rw [List.filter_cons]
    by_cases c : z.1 = n
    · simp only [c, if_true, ne_eq, not_true_eq_false, decide_false, Bool.false_eq_true, if_false]
      exact ih
    · simp only [c, if_false, ne_eq, not_false_eq_true, decide_true, if_true, List.map_cons]
      rw [ih]
      rfl
def fls (s : Sl) : Prop := match s with | .no => True | .sh _ => True | .va _ => True | _ => False
theorem in1_room {X : Cx} (h : X.A.units + 16 < cLine) : (nestedKind X.prog X.w).room X.A.in1 := by show X.A.units + 1 + 8 < cLine; omega
/-- the slot that held an own list is a value now; the list belongs to others -/
theorem Rel.toVa {K : KW} {H0 : Hp} {O : Addr → Prop} {P : List (List V × List D)} {L : List (Addr × HO)} {Ow : Nat → Option Addr} {σ : L2.St} {H : Hp} {ρ : Env} {i : Nat} {a : Addr} (R : Rel K (Act.wth ⟨H0, O, [], [], []⟩ P L) Ow σ H ρ) (h : Ow i = some a) (hl : i < ρ.length) (fl : flat (ρ.set i .no)) :
    Rel K ⟨H, O2 O a [], [], [], []⟩ nO σ H (ρ.set i (.va (.ref a))) := by
  have sub : ∀ b, own (O2 O a []) nO b → own O Ow b := fun b z => by
    rcases own_nO z with z | z | z
    · exact .inl z
    · exact .inr ⟨i, by rw [h, z]⟩
    · cases z
  refine ⟨by rw [List.length_set]; exact R.len, fun j s hj => ?_, fun _ _ => rfl, fun i j a h => (nomatch h), fun b o _ q => q, fun b z => R.tracked (sub b (.inl z)), fun i a h => (nomatch h), fun i a h => (nomatch h), fun p hp => (nomatch hp), fun i a b h => (nomatch h), fun p hp => (nomatch hp), fun p hp => (nomatch hp)⟩
  by_cases ij : i = j
  · subst ij
    rw [List.getElem?_set_self hl] at hj
    cases hj
    exact ⟨rfl, let ⟨_, _, q⟩ := R.at h; q⟩
  · have hj2 := hj
    rw [List.getElem?_set_ne ij] at hj
    have f : fls s := fl s (List.mem_of_getElem? (by rw [List.getElem?_set_ne ij]; exact hj))
    have q := R.sl j s hj
    cases s with
    | no => exact rfl
    | sh d => exact ⟨rfl, let ⟨v, h1, h2⟩ := q.2; ⟨v, h1, h2.less sub⟩⟩
    | va v => exact ⟨rfl, q.2⟩
    | ol _ => exact f.elim
    | io _ => exact f.elim
    | od _ => exact f.elim
theorem nio_flat {s : Sl} (h : fls s) : nio s := by
  cases s <;> first | trivial | exact h.elim
theorem flat_of {ρ : Env} (h : ∀ s ∈ ρ, fls s) : flat ρ := h


/-! the loop's state -/
theorem O2_app_sub {O : Addr → Prop} {a p : Addr} {ps : List Addr} : ∀ b, own (O2 O a (ps ++ [p])) nO b → own (O2 O a ps) nO b ∨ b = p := fun b z => by
  rcases own_nO z with z | z | z
  · exact .inl (.inl (.inl z))
  · exact .inl (.inl (.inr (.inl z)))
  · rcases List.mem_append.mp z with z | z
    · exact .inl (.inl (.inr (.inr z)))
    · exact .inr (List.mem_singleton.mp z)
theorem RpA.ofAt {K : KW} {O : Addr → Prop} {H : Hp} : ∀ {vs : List V} {ds : List D}, vs.length = ds.length → (∀ (j : Nat) (v : V) (d : D), vs[j]? = some v → ds[j]? = some d → Rp K O H v d) → RpA K O H vs ds
  | [], [], _, _ => .nil
  | [], _ :: _, h, _ => by simp at h
  | _ :: _, [], h, _ => by simp at h
  | v :: vs, d :: ds, h, k => .cons (k 0 v d rfl rfl) (RpA.ofAt (by simpa using h) fun j v d h1 h2 => k (j + 1) v d (by simpa using h1) (by simpa using h2))
structure RowsI (K : KW) (O : Addr → Prop) (P : List (List V × List D)) (L : List (Addr × HO)) (H0 : Hp) (a : Addr) (ρ : Env) (ps : List Addr) (ts : List Tab) (σ : L2.St) (H : Hp) : Prop where
  s0 : Same H0 H
  rw : Rw K O σ H ρ a ps (ts.map encT)
  pin : ∀ p ∈ P, RpA K (own (O2 O a ps) nO) H p.1 p.2
  keep : ∀ p ∈ L, H p.1 = some p.2 ∧ p.1 ≠ a ∧ p.1 ∉ ps
  na : H0 a = none
  np : ∀ p ∈ ps, H0 p = none
section
variable {K : KW} {O : Addr → Prop} {P : List (List V × List D)} {L : List (Addr × HO)} {H0 : Hp} {a : Addr} {ρ ρ' : Env} {ps : List Addr} {ts : List Tab} {σ σ' : L2.St} {H H' : Hp}
theorem RowsI.same (I : RowsI K O P L H0 a ρ ps ts σ H) (e : Same H H') (R : Rel K ⟨H', O2 O a ps, [], [], []⟩ nO σ' H' ρ') : RowsI K O P L H0 a ρ' ps ts σ' H' :=
  ⟨I.s0.trans e, I.rw.same e R, fun p hp => (I.pin p hp).mono (Stp.of e), fun p hp => ⟨e _ _ (I.keep p hp).1, (I.keep p hp).2⟩, I.na, I.np⟩
theorem RowsI.app (I : RowsI K O P L H0 a ρ ps ts σ H) {p : Addr} (hp : H p = none) : RowsI K O P L H0 a ρ (ps ++ [p]) (ts ++ [[]]) σ (upd (upd H p (ND.ndO K.P K.w p [])) a (.lst (ps.map V.ref ++ [.ref p]))) := by
  have pa : p ≠ a := fun z => by rw [z, I.rw.li] at hp; cases hp
  have h0p : H0 p = none := by
    cases q : H0 p with
    | none => rfl
    | some o => rw [I.s0 _ _ q] at hp; cases hp
  have e1 : Same H (upd H p (ND.ndO K.P K.w p [])) := Same.new hp
  have st : Stp (own (O2 O a (ps ++ [p])) nO) H (upd (upd H p (ND.ndO K.P K.w p [])) a (.lst (ps.map V.ref ++ [.ref p]))) := fun b o n q => by
    rw [upd_ne (show b ≠ a from fun z => n (.inl (.inr (.inl z))))]
    exact e1 b o q
  refine ⟨fun b o q => ?_, ?_, fun q hq => ((I.pin q hq).more hp O2_app_sub).mono st, fun q hq => ?_, I.na, fun q hq => ?_⟩
  · rw [upd_ne (show b ≠ a from fun z => by rw [z, I.na] at q; cases q)]
    exact e1 b o (I.s0 b o q)
  · rw [List.map_append]
    exact I.rw.app hp
  · obtain ⟨k1, k2, k3⟩ := I.keep q hq
    refine ⟨by rw [upd_ne k2]; exact e1 _ _ k1, k2, fun z => ?_⟩
    rcases List.mem_append.mp z with z | z
    · exact k3 z
    · rw [List.mem_singleton.mp z, hp] at k1; cases k1
  · rcases List.mem_append.mp hq with hq | hq
    · exact I.np q hq
    · rw [List.mem_singleton.mp hq]; exact h0p
theorem RowsI.put (I : RowsI K O P L H0 a ρ ps ts σ H) {j : Nat} {p : Addr} {es : List ND.Ent} {r : Tab} (hj : ps[j]? = some p) (hr : RpE K (own (O2 O a ps) nO) H es (encT r)) : RowsI K O P L H0 a ρ ps (ts.set j r) σ (upd H p (ND.ndO K.P K.w p es)) := by
  have hp : p ∈ ps := List.mem_of_getElem? hj
  have st : Stp (own (O2 O a ps) nO) H (upd H p (ND.ndO K.P K.w p es)) := fun b o n q => by
    rw [upd_ne (show b ≠ p from fun z => n (.inl (.inr (.inr (z.symm ▸ hp)))))]
    exact q
  refine ⟨fun b o q => ?_, ?_, fun q hq => (I.pin q hq).mono st, fun q hq => ?_, I.na, I.np⟩
  · rw [upd_ne (show b ≠ p from fun z => by rw [z, I.np p hp] at q; cases q)]
    exact I.s0 b o q
  · rw [List.map_set]
    exact I.rw.put hj hr
  · obtain ⟨k1, k2, k3⟩ := I.keep q hq
    exact ⟨by rw [upd_ne (show q.1 ≠ p from fun z => k3 (z.symm ▸ hp))]; exact k1, k2, k3⟩
end
def rowsE (t : Tab) (n : Int) (a : Addr) (s3 s4 s5 : Sl) : Env := [.sh (.dict (encT t)), .sh (.int n), .va (.ref a), s3, s4, s5, .no]
theorem rowsE_flat {t : Tab} {n : Int} {a : Addr} {s3 s4 s5 : Sl} (h3 : fls s3) (h4 : fls s4) (h5 : fls s5) : flat (rowsE t n a s3 s4 s5) := fun s hs => by
  unfold rowsE at hs
  simp only [List.mem_cons, List.not_mem_nil, or_false] at hs
  rcases hs with rfl | rfl | rfl | rfl | rfl | rfl | rfl
  · trivial
  · trivial
  · trivial
  · exact h3
  · exact h4
  · exact h5
  · trivial
def RowsW (K : KW) (O : Addr → Prop) (P : List (List V × List D)) (L : List (Addr × HO)) (H0 : Hp) (a : Addr) (t : Tab) (n : Int) (i m : Nat) (σ : L2.St) (H : Hp) : Prop :=
  m = t.length - i ∧ i ≤ t.length ∧ ∃ (ps : List Addr) (s3 s4 s5 : Sl), fls s3 ∧ fls s4 ∧ fls s5 ∧ RowsI K O P L H0 a (rowsE t n a s3 s4 s5) ps (rowsT (t.take i) n) σ H
theorem kvAt {t : List Tab} {j : Nat} {r : Tab} (h : t[j]? = some r) : (t.map encT)[j]? = some (encT r) := by rw [List.getElem?_map, h]; rfl
theorem rows_small : 100000 < sizeLine := by decide


theorem ok_rows_by_letter {P : Program} {w : World} {K : PySem.W.Frag} {mg : Str → Option Value} {base : Heap} {f : Addr} {fd : FuncData} (F : Fun K "rows_by_letter" "rows_by_letter" st_rows_by_letter f fd) (z_tuple : mg "tuple" = none) (z_len : mg "len" = none) (C_exponent_in : Cal P w K mg base "exponent_in" 1 (spD ⟨K, P, w⟩ p_exponent_in)) :
  FnOk P w K mg base CX0 2 f fd ["table", "number"] (spD ⟨K, P, w⟩ p_rows_by_letter) := by
  refine F.ok sc_rows_by_letter (fun vs H Q E h => ?_) (fun cdv A outer s H vs Q E hr h => ?_)
  · obtain ⟨O, ds, R, h1, _, h2, _⟩ := h
    rw [h1.len]
    exact len_rows_by_letter ds R h2
  · refine ⟨_, pss_cons (qs_own 2 sc_rows_by_letter.nd (qf_lst qa_nil)) (pss_cons (ps_for PassesOwn.never (by rfl) (qi_keyN (qe_var 0)) (qg_name 3 sc_rows_by_letter.nd)
      (pss_cons (qs_set 4 sc_rows_by_letter.nd (qe_call C_exponent_in (hr.mono (by decide)) (by rfl) (qa_cons (qe_var 3) (qa_cons (qe_var 1) qa_nil)))) (pss_cons (qs_set 5 sc_rows_by_letter.nd (q_tupL (by rfl) z_tuple (qe_fr (qf_lc1 6 (by rfl) sc_rows_by_letter.nd (qi_tup (qe_var 3)) (blkOk_by (own := [("pair", 6)]) (N := N_rows_by_letter) (sc := defScope st_rows_by_letter) (by decide +kernel)) (fun _ _ _ _ _ => pg_name (i := 6) sc_rows_by_letter.nd rfl (by first | exact Or.inl rfl | exact Or.inr rfl)) (fun _ _ _ _ _ => (qts_one (t_ne hr.units (qe_ix (qe_var 6) qe_int) (qe_var 1)))) (fun _ _ _ _ _ => (qe_var 6))))))
        (pss_cons (ps_while PassesOwn.never (pt_cmpR op_le (pe_callB call_len (by rfl) z_len (by rfl) (pa_cons (pv 2) pa_nil) (by decide) (by decide)) (pv 4) (nomark _))
          (pss_one (ps_expr (pe_bm PySem.F.plainAttrs_list PySem.F.slot_list_append PySem.F.type_list_append mt_append (pv 2) (pa_cons pe_dnewN pa_nil)))))
        (pss_one (ND.ps_nput (in1_room (u16 hr)) (pe_ix ix_seq (pv 2) (pv 4) (by exact fun _ _ => rfl)) (pv 5) (q_ixN (u16 hr) (qe_var 0) (qe_var 3)) (by rfl)))))) (by intro _; rfl))
      (pss_lk (pss_one (ps_ret (pv 2))))), ?_⟩
    obtain ⟨O, ds, R, h1, h2, ⟨t, n, rfl, ok, hx, hR⟩, h4⟩ := h
    have hsz := rows_small
    have hlt0 := ok.len
    refine ⟨_, _, _, { nx := fun ρ => ρ = [.sh (.dict (encT t)), .sh (.int n), .ol [], .no, .no, .no, .no], rt := fun _ _ => False }, rel_start h1 h2, ⟨sl0, trivial, rfl⟩, fun Ow σ1 H1 ρ1 rel1 e1 => ?_, fun _ _ _ _ _ z => z.elim, fun _ _ _ _ _ z => z.elim, fun _ _ _ _ _ _ _ _ z => z.elim, fun _ _ _ _ _ _ _ _ _ _ _ z => z.elim⟩
    subst e1
    obtain ⟨a, xs, w1, w2, w3, w4, _⟩ := rel1.sl 2 _ rfl
    have hna : ¬ O a := (rel1.nofo 2 a w1).elim (fun z => nomatch z) id
    have hn0 : H a = none := (rel1.new 2 a w1).elim id (fun z => nomatch z)
    refine ⟨_, Ow, _, fun ds ρ => ds = (encT t).map (·.1) ∧ ρ = [.sh (.dict (encT t)), .sh (.int n), .ol [], .no, .no, .no, .no], rel1, ⟨encT t, rfl, isND_enc t, rfl, rfl⟩, fun J P' L H2 ds ρ2 e2 rel2 wk hR2 => ?_⟩
    obtain ⟨rfl, rfl⟩ := hR2
    obtain ⟨a', xs', v1, v2, v3, v4, _⟩ := rel2.sl 2 _ rfl
    rw [w1] at v1
    cases v1
    cases v4
    have sub : ∀ b, own (O2 O a []) nO b → own O Ow b := fun b z => by
      rcases own_nO z with z | z | z
      · exact .inl z
      · exact .inr ⟨2, by rw [w1, z]⟩
      · cases z
    have relV : Rel ⟨K, P, w⟩ ⟨H2, O2 O a [], [], [], []⟩ nO σ1 H2 (rowsE t n a .no .no .no) := rel2.toVa w1 (by show 2 < 7; decide) (fun s hs => by
      have hs' : s ∈ [Sl.sh (.dict (encT t)), .sh (.int n), .no, .no, .no, .no, .no] := hs
      simp only [List.mem_cons, List.not_mem_nil, or_false] at hs'
      rcases hs' with rfl | rfl | rfl | rfl | rfl | rfl | rfl <;> trivial)
    have I2 : RowsI ⟨K, P, w⟩ O P' L H a (rowsE t n a .no .no .no) [] [] σ1 H2 := ⟨fun b o q => rel2.kept b o (fun i z => nomatch z) q, ⟨relV, v3, rfl, fun j p kvs h => (nomatch h), by simp, hna, fun p hp => (nomatch hp)⟩, fun p hp => (rel2.pin p (List.mem_append_left _ hp)).less sub, fun p hp => ⟨(rel2.keep p (List.mem_append_left _ hp)).1, fun z => (rel2.keep p (List.mem_append_left _ hp)).2 2 (z ▸ w1), fun z => (nomatch z)⟩, hn0, fun p hp => (nomatch hp)⟩
    refine ⟨RowsW ⟨K, P, w⟩ O P' L H a t n, ⟨_, rfl, Nat.zero_le _, [], .no, .no, .no, trivial, trivial, trivial, I2⟩, ?_⟩
    rintro i m σ3 H3 ⟨hm, hi, ps, s3, s4, s5, f3, f4, f5, I3⟩
    have wki := wk (own (O2 O a ps) nO) H3 I3.pin (fun p hp => (I3.keep p hp).1) i
    rw [List.length_map, encT_len] at wki
    by_cases hlt : i < t.length
    · obtain ⟨g1, g2⟩ := wki.2 hlt
      refine .inr ⟨g1, RowsW ⟨K, P, w⟩ O P' L H a t n (i + 1) (t.length - (i + 1)), fun σ' H' q => ⟨_, by omega, q⟩, fun x H4 y => ?_⟩
      obtain ⟨d, hd, sm, rp⟩ := g2 x H4 y
      obtain ⟨e, he, rfl⟩ := encT_at hd
      have hem := List.mem_of_getElem? he
      obtain ⟨x0, x4⟩ := hx e hem
      have I4 := I3.same sm (I3.rw.rel.flatMap (fun v d h => h.mono (Stp.of sm)) fun b z => let ⟨o, q⟩ := I3.rw.rel.fo b z; ⟨o, sm _ _ q⟩)
      refine ⟨_, nO, _, fun ρ => ρ = rowsE t n a (.sh (encM e.1)) s4 s5, _, I4.rw.rel, rp, ⟨nio_flat f3, rfl⟩, fun Ow5 σ5 H5 ρ5 rel5 _ e5 => ?_⟩
      subst e5
      have o5 := rel5.flatOw (rowsE_flat trivial f4 f5)
      subst o5
      have I5 := I4.same (fun b o q => rel5.kept b o (fun i z => nomatch z) q) (rel5.flatMap (fun _ _ q => q) rel5.fo)
      refine lam_nx (fun ρ => ρ = rowsE t n a (.sh (encM e.1)) (.sh (.int (expo e.1 n))) s5) I5.rw.rel ⟨e.1, n, rfl, nio_flat f4, rfl⟩ (fun ρ z => by subst z; exact rowsE_flat trivial trivial f5) fun σ6 H6 ρ6 sm6 rel6 e6 => ?_
      subst e6
      have I6 := I5.same sm6 rel6
      refine lam_nx (fun ρ => ρ = rowsE t n a (.sh (encM e.1)) (.sh (.int (expo e.1 n))) (.sh (encM (restM e.1 n)))) I6.rw.rel ?_ (fun ρ z => by subst z; exact rowsE_flat trivial trivial trivial) fun σ7 H7 ρ7 sm7 rel7 e7 => ?_
      · refine asg_go ?_
        refine lc_fm (e.1.map enc) (restF n) (fun K h => h) (sh1 (by exact trivial)) (by rw [List.length_map]; have := ok.mon e hem; omega) ?_ ?_
        · intro d hd Y Z hY hZ
          obtain ⟨z, _, rfl⟩ := List.mem_map.mp hd
          refine ⟨trivial, .int z.1, rfl, _, rfl, fun hb => hY _ _ ?_ (sh1 (by exact trivial)) rfl, fun hb => hZ _ ?_ (sh1 (by exact trivial)) rfl⟩
          · have hb' : (!(z.1 == n)) = true := hb
            have c : ¬ z.1 = n := fun q => by rw [q] at hb'; simp at hb'
            exact if_neg c
          · have hb' : (!(z.1 == n)) = false := hb
            have c : z.1 = n := by simpa using hb'
            exact if_pos c
        · rw [rest_fm]
          exact ⟨_, rfl, nio_flat f5, rfl⟩
      subst e7
      have I7 := I6.same sm7 rel7
      obtain ⟨k, hk⟩ := Int.eq_ofNat_of_zero_le x0
      have hkn : (expo e.1 n).toNat = k := by omega
      have hr5 := (rowsT_ok (n := n) ok.mon hx i hi)
      refine ⟨fun m σ H' => ∃ (j : Nat) (ps : List Addr), (j = 0 ∨ (rowsT (t.take i) n).length + j ≤ k + 1) ∧ m = k + 1 - ((rowsT (t.take i) n).length + j) ∧ RowsI ⟨K, P, w⟩ O P' L H a (rowsE t n a (.sh (encM e.1)) (.sh (.int (expo e.1 n))) (.sh (encM (restM e.1 n)))) ps (rowsT (t.take i) n ++ List.replicate j []) σ H', ⟨_, 0, ps, .inl rfl, rfl, by rw [List.replicate_zero, List.append_nil]; exact I7⟩, ?_⟩
      rintro m8 σ8 H8 ⟨j, ps8, hj, hm8, I8⟩
      have l8 : ps8.length = (rowsT (t.take i) n).length + j := by rw [I8.rw.len, List.length_map, List.length_append, List.length_replicate]
      have σ2 : σ8[2]? = some (some (.ref a)) := (I8.rw.rel.sl 2 _ rfl).2
      obtain ⟨_, v4, σ4, r4⟩ := I8.rw.rel.sl 4 _ rfl
      have e4 := rp_int r4
      subst e4
      refine ⟨.ref a, σ2, .ref a, ps8.length, rfl, .inl ⟨_, SqL.of I8.rw.li, by rw [List.length_map]⟩, _, σ4, _, _, rfl, rfl, _, rfl, ?_⟩
      by_cases c : (ps8.length : Int) ≤ expo e.1 n
      · refine (if_pos (decide_eq_true c)).mpr ?_
        refine ⟨fun σ H' => ∃ (j : Nat) (ps : List Addr), (j = 0 ∨ (rowsT (t.take i) n).length + j ≤ k + 1) ∧ k + 1 - ((rowsT (t.take i) n).length + j) < m8 ∧ RowsI ⟨K, P, w⟩ O P' L H a (rowsE t n a (.sh (encM e.1)) (.sh (.int (expo e.1 n))) (.sh (encM (restM e.1 n)))) ps (rowsT (t.take i) n ++ List.replicate j []) σ H', fun σ' H' ⟨j, ps, q1, q2, q3⟩ => ⟨_, q2, j, ps, q1, rfl, q3⟩, ?_⟩
        refine ⟨.ref a, σ2, .inl ⟨rfl, _, SqL.of I8.rw.li⟩, fun p hp => ?_⟩
        have pa : a ≠ p := fun z => by rw [← z, I8.rw.li] at hp; cases hp
        refine ⟨a, ps8.map V.ref, .ref p, rfl, rfl, by rw [upd_ne pa]; exact I8.rw.li, by rw [List.length_map]; omega, j + 1, ps8 ++ [p], .inr (by omega), by omega, ?_⟩
        have I9 := I8.app hp
        rw [List.append_assoc, ← List.replicate_succ'] at I9
        exact I9
      · refine (if_neg (by simpa using c)).mpr ?_
        have eg : rowsT (t.take i) n ++ List.replicate j [] = growT (rowsT (t.take i) n) k := by
          unfold growT
          rw [show k + 1 - (rowsT (t.take i) n).length = j by omega]
        rw [eg] at I8
        refine ⟨_, nO, _, fun d ρ => d = .int e.2 ∧ ρ = rowsE t n a (.sh (encM e.1)) (.sh (.int (expo e.1 n))) (.sh (encM (restM e.1 n))), I8.rw.rel, ⟨encT t, .int e.2, rfl, keyOk _, getN_some (tget_mem ok.nd hem), rfl, rfl⟩, fun v H9 d ρ9 e9 rel9 rp9 hR9 => ?_⟩
        obtain ⟨rfl, rfl⟩ := hR9
        have ev := rp_int rp9
        subst ev
        have I9 := I8.same (fun b o q => rel9.kept b o (fun i z => nomatch z) q) (rel9.flatMap (fun _ _ q => q) rel9.fo)
        have hkl : k < ps8.length := by omega
        have hp : ps8[k]? = some ps8[k] := List.getElem?_eq_getElem hkl
        refine ⟨.ref a, σ2, _, σ4, .inl ⟨a, _, _, .ref ps8[k], rfl, rfl, SqL.of I9.rw.li, by rw [hk, atI_nat, List.getElem?_map, hp]; rfl, ?_⟩⟩
        obtain ⟨_, v5, σ5, r5⟩ := I9.rw.rel.sl 5 _ rfl
        obtain ⟨b, rfl, r5⟩ := key_ref r5 (keyOk _)
        have hgl : k < (growT (rowsT (t.take i) n) k).length := by rw [growT_len]; omega
        obtain ⟨es, q1, q2⟩ := I9.rw.di k _ _ hp (kvAt (List.getElem?_eq_getElem hgl))
        have ro : RowOk i (growT (rowsT (t.take i) n) k)[k] := (growT_mem (List.getElem_mem hgl)).elim (hr5.1 _) fun z => z ▸ RowOk.nil
        have ko := keyOk (restM e.1 n)
        refine ⟨_, σ5, ps8[k], _, rfl, ⟨es, _, b, q1, q2.keysAt, rfl, ⟨b, rfl, r5.dp (noD_key ko.1), ko.1, ko.2.1⟩, by rw [q2.len, encT_len]; have := ro.len; omega, rfl⟩, ?_⟩
        have qp := q2.put (y := .int e.2) (v := .int e.2) r5 ko.1 ko.2.1 (.int e.2)
        rw [putN_enc] at qp
        have I10 := I9.put hp qp
        have er : (growT (rowsT (t.take i) n) k).set k (tput (growT (rowsT (t.take i) n) k)[k] (restM e.1 n) e.2) = rowsT (t.take (i + 1)) n := by
          rw [take_one he, rowsT_snoc]
          unfold rowStep
          rw [hkn, List.getD_eq_getElem?_getD, List.getElem?_eq_getElem hgl]
          rfl
        rw [er] at I10
        exact ⟨rfl, hlt, ps8, .sh (encM e.1), .sh (.int (expo e.1 n)), .sh (encM (restM e.1 n)), trivial, trivial, trivial, I10⟩
    · have ei : i = t.length := by omega
      subst ei
      rw [List.take_length] at I3
      refine .inl ⟨wki.1 (Nat.le_refl _), ps, (List.nodup_cons.mp I3.rw.nd).2, fun p hp => ?_, fun H9 hl hst => ?_⟩
      · obtain ⟨j, hj⟩ := List.getElem?_of_mem hp
        have hj' : j < (rowsT t n).length := by have := (List.getElem?_eq_some_iff.mp hj).1; have q := I3.rw.len; rw [List.length_map] at q; omega
        obtain ⟨es, q1, q2⟩ := I3.rw.di j p _ hj (kvAt (List.getElem?_eq_getElem hj'))
        exact ⟨_, q1, (RpC.nd q2).mut⟩
      · have σ2 : σ3[2]? = some (some (.ref a)) := (I3.rw.rel.sl 2 _ rfl).2
        have ane : a ∉ ps := (List.nodup_cons.mp I3.rw.nd).1
        have st : Stp (own (O2 O a ps) nO) H3 H9 := fun b o n q => by
          rw [hst b fun z => n (.inl (.inr (.inr z)))]
          exact q
        refine ⟨.ref a, σ2, h4 (.ref a) H9 (.list ((rowsT t n).map rowD)) (fun b o q => ?_) (.lst (.inl ⟨hna, .inl (by rw [hst a ane]; exact I3.rw.li)⟩) (RpA.ofAt ?_ fun j v d h1 h2 => ?_)) hR⟩
        · rw [hst b fun z => by rw [I3.np b z] at q; cases q]
          exact I3.s0 b o q
        · rw [List.length_map, List.length_map, I3.rw.len, List.length_map]
        · rw [List.getElem?_map] at h1 h2
          obtain ⟨p, hp, rfl⟩ := Option.map_eq_some_iff.mp h1
          obtain ⟨r, hr', rfl⟩ := Option.map_eq_some_iff.mp h2
          obtain ⟨es, q1, q2⟩ := I3.rw.di j p _ hp (kvAt hr')
          obtain ⟨od, u, u1, u2⟩ := hl p (List.mem_of_getElem? hp)
          rw [q1] at u1
          cases u1
          exact .dct (I3.rw.nop p (List.mem_of_getElem? hp)) u2 ((q2.mono st).map (Stay.less fun b z => .inl (.inl z)))


def p_by_letter (ds : List D) (R : D → Prop) : Prop := ∃ (t : Tab) (n : Int), ds = [encP t, .int n] ∧ TabOk t ∧ (∀ e ∈ t, 0 ≤ expo e.1 n ∧ expo e.1 n ≤ 4) ∧ R (.list ((rowsT t n).map fun r => encP (listed r)))
theorem len_by_letter : ∀ ds R, p_by_letter ds R → ds.length = (["one", "number"] : List Str).length := fun ds R ⟨_, _, h, _⟩ => by rw [h]; rfl
theorem lis_fm' (ts : List Tab) : (ts.map rowD).filterMap lisF = ts.map fun t => encP (listed t) := by
  have q := lis_fm ts
  rw [List.map_map] at q
  exact q

theorem body_by_letter {P : Program} {w : World} {K : PySem.W.Frag} {mg : Str → Option Value} {base : Heap} (C_from_table : Cal P w K mg base "from_table" 5 (spD ⟨K, P, w⟩ p_from_table)) (C_rows_by_letter : Cal P w K mg base "rows_by_letter" 2 (spD ⟨K, P, w⟩ p_rows_by_letter)) (C_as_table : Cal P w K mg base "as_table" 1 (spD ⟨K, P, w⟩ p_as_table)) :
  Body P w K mg base N_by_letter "by_letter" st_by_letter 5 fun ts => ∀ ds R, p_by_letter ds R → ts { nx := fun _ => R .none, rt := fun d _ => R d } (startD N_by_letter ds) := fun f cdv A outer s H E hr => by
  refine ⟨_, (qss_one (qs_ret (qe_fr (qf_lc1 2 (by rfl) sc_by_letter.nd (qi_list (qe_call C_rows_by_letter (hr.mono (by decide)) (by rfl) (qa_cons (qe_call C_as_table (hr.mono (by decide)) (by rfl) (qa_cons (qe_var 0) qa_nil)) (qa_cons (qe_var 1) qa_nil)))) (blkOk_by (own := [("row", 2)]) (N := N_by_letter) (sc := defScope st_by_letter) (by decide +kernel)) (fun _ _ _ _ _ => pg_name (i := 2) sc_by_letter.nd rfl (by first | exact Or.inl rfl | exact Or.inr rfl)) (fun _ _ _ _ _ => qts_nil) (fun _ _ _ _ _ => (qe_call C_from_table (hr.mono (by decide)) (by rfl) (qa_cons (qe_var 2) qa_nil))))))), ?_⟩
  intro ds R h
  obtain ⟨t, n, rfl, ok, hx, h⟩ := h
  have hb := big_le
  have hr := rowsT_ok (n := n) ok.mon hx t.length (Nat.le_refl _)
  rw [List.take_length] at hr
  refine lc_fm ((rowsT t n).map rowD) lisF (fun K h => ⟨t, rfl, ok, t, n, rfl, ok, hx, h⟩) (sh1 (by exact trivial)) (by rw [List.length_map]; omega) ?_ ?_
  · intro d hd Y Z hY hZ
    obtain ⟨r, hrm, rfl⟩ := List.mem_map.mp hd
    have ro := hr.1 r hrm
    refine ⟨trivial, fun _ => ⟨r, rfl, ⟨by have := ro.len; have := ok.len; omega, ro.nd, ro.mon⟩, hY _ _ ?_ (sh1 (by exact trivial)) rfl⟩, fun h => nomatch h⟩
    show some (encP (listed (tabD (.dict (encT r))))) = _
    rw [tabD_enc]
  · rw [lis_fm']
    exact h
theorem ok_by_letter {P : Program} {w : World} {K : PySem.W.Frag} {mg : Str → Option Value} {base : Heap} {f : Addr} {fd : FuncData} (F : Fun K "by_letter" "by_letter" st_by_letter f fd) (C_from_table : Cal P w K mg base "from_table" 5 (spD ⟨K, P, w⟩ p_from_table)) (C_rows_by_letter : Cal P w K mg base "rows_by_letter" 2 (spD ⟨K, P, w⟩ p_rows_by_letter)) (C_as_table : Cal P w K mg base "as_table" 1 (spD ⟨K, P, w⟩ p_as_table)) :
  FnOk P w K mg base CX0 6 f fd ["one", "number"] (spD ⟨K, P, w⟩ p_by_letter) := fn_D F sc_by_letter len_by_letter (body_by_letter C_from_table C_rows_by_letter C_as_table)
end DL
namespace HL
open PySem PySem.Spec PySem.Calls PyProof.Rows L2 HotX L2H
section
variable {prog : Program} {w : World} {A : Around} {E : Value → Shared → Prop} {s : Shared}
theorem pyNext_list_end_hot {it l x1 : Addr} {i : Nat} {items : Array Value} {Q : Option Value → Shared → Prop} (hot : HotAt A x1 s.heap)
    (hit : s.heap.IsListIter it l i) (hl : s.heap.IsList l items) (hx : items[i]? = none)
    (hQ : ∀ h', (∀ b o, b ≠ it → s.heap.get? b = some o → h'.get? b = some o) → Q none { s with heap := h' }) : wpAny (model prog w) A (pyNext (.ref it)) Q E s := by
  obtain ⟨o, ho, hc, hd⟩ := id hit
  obtain ⟨ol, hol, _, nl, hdl⟩ := hl
  obtain ⟨hh, o1, vs1, h1, d1, c1⟩ := hot
  have hne : x1 ≠ it := fun z => by
    subst z
    rw [ho] at h1
    cases h1
    rw [hd] at d1
    cases d1
    simp at c1
  unfold pyNext
  refine wpAny_bind (wpAny_attempt (wpAny_callSpecial?_slot (name := Str.ofString "__next__") hit.typeIs slot_listiter_next
    (wpAny_call_entry slot_listiter_next hit.typeIs entry_listiter_next ?_ (args_listiter_next _))))
  show wpAny _ _ (field (.ref it) 0 >>= _) _ _ s
  refine wpAny_bind (wpAny_field ho hd (x := .ref l) rfl ?_)
  show wpAny _ _ (if (Value.ref l == Value.none) = true then _ else _) _ _ s
  rw [if_neg (show ¬ ((Value.ref l == Value.none) = true) from Bool.false_ne_true)]
  show wpAny _ _ (field (.ref it) 1 >>= _) _ _ s
  refine wpAny_bind (wpAny_field ho hd (x := .int i 0) rfl ?_)
  show wpAny _ _ (seqItems? (.ref l) >>= _) _ _ s
  refine wpAny_bind (wpAny_seqItems hol hdl ?_)
  simp only [Int.toNat_natCast, hx]
  refine wpAny_bind (wpAny_rule (wpAny_bind (wpAny_setField ho hd (by simp) ?_)))
  show wpAny _ _ (newExc (.type "StopIteration") [] >>= _) _ _ _
  refine wpAny_bind ?_
  simp only [newExc, newTuple]
  refine wpAny_bind (wpAny_newObj_type ?_ (by size_fits))
  refine wpAny_bind (m := firstArgMember _ _) (wpAny_of_eq (a := Value.none) (by first | rfl | (simp only [firstArgMember]; rfl)) ?_)
  refine wpAny_newObj_type ?_ (by size_fits)
  have keep : ∀ b u, b ≠ it → s.heap.get? b = some u → ((s.heap.update it (Obj.mapFields (·.setIfInBounds 0 Value.none))).get? b = some u) := fun b u hb e => by
    rw [Heap.get?_update_other _ _ (Ne.symm hb)]
    exact e
  refine raiseNew_hot ⟨hh, o1, vs1, Heap.get?_push_of_some _ (Heap.get?_push_of_some _ (keep _ _ hne h1)), d1, c1⟩ (Nat.ne_of_lt (Heap.lt_size (Heap.get?_push_of_some _ (keep _ _ hne h1)))) (Heap.get?_push_size _ rfl) rfl (by first | (simp; done) | (simp; omega) | (simp only [Array.size_append]; simp; omega)) ?_
  refine wpAny_bind (wpAny_isInstance (T := "StopIteration") (b := true) ⟨_, Heap.get?_update_self _ (Heap.get?_push_size _ rfl) rfl, rfl⟩ isSubtype_stop ?_)
  refine wpAny_pure (hQ _ fun b u hb e => ?_)
  have e1 := keep b u hb e
  rw [Heap.get?_update_other _ _ (Nat.ne_of_gt (Heap.lt_size (Heap.get?_push_of_some _ e1)))]
  exact Heap.get?_push_of_some _ (Heap.get?_push_of_some _ e1)
end
theorem turn_listH {P : Program} {w : World} {K : PySem.W.Frag} {tg : Expr} (a it : Addr) : TurnH P w K tg (Itl K a) [it] it (fun i h => h.IsListIter it a i) where
  mem := by simp
  obj := fun i h st b hb => by
    have e : b = it := by simpa using hb
    subst e
    obtain ⟨o, e, c, d⟩ := st
    exact ⟨o, e, fun v z => by rw [d] at z; cases z⟩
  keep := fun i h h' st k => st.at fun o e => k it (by simp) o e
  item := by
    intro X hP hw hK hc i pins s σ H E I hf st hg
    subst hP hw hK
    obtain ⟨xs, x, hq, hx⟩ := hg
    obtain ⟨its, rv, p, hz⟩ := I.list hq
    obtain ⟨u, hu, ru⟩ := rv.get hx
    obtain ⟨f0, f1, f2, f3, f4, f5⟩ := hf it (by simp)
    refine wpAny_pyNext_list_item st p.isList (x := u) (by simpa using hu) fun h' st' sb => ?_
    have I1 : Inv X pins σ H { s with heap := h' } := I.turned (t' := s.toks) (fun b o hb e => (sb.2 b hb).trans e) f0 f1 f3 f4 f5
    obtain ⟨o, e, c, d⟩ := id st'
    exact ⟨u, rfl, go_of (s := { s with heap := h' }) e c d (by decide) ⟨x, H, I1, ru, ⟨rfl, fun ys hy => by rw [I.list_inj hy hq]; exact hx⟩, st', fun b hb => (hf b hb).1⟩⟩
  done := by
    intro X hP hw hK hc i pins s σ H E I hf st hg
    subst hP hw hK
    obtain ⟨xs, hq, hx⟩ := hg
    obtain ⟨its, rv, p, hz⟩ := I.list hq
    obtain ⟨f0, f1, f2, f3, f4, f5⟩ := hf it (by simp)
    obtain ⟨x1, hot⟩ := hc.at I
    have hl := rv.length
    exact pyNext_list_end_hot hot st p.isList (by simp; omega) fun h' eb => ⟨rfl, I.turned (t' := s.toks) (fun b o hb e => eb b o hb e) f0 f1 f3 f4 f5⟩
  self := fun _ _ _ _ _ st h => wpAny_pyIter_listiter st h
theorem pi_listH {X : Cx} {tg l : Expr} {tl : TE} (hl : PE X l tl) : PIH X tg l (iList X.K tl) := by
  refine ⟨fun pins s σ H R I h => ?_⟩
  refine thn (hl.run pins s σ H _ I h) fun v s1 ⟨x, H1, I1, r1, q1⟩ => ?_
  obtain ⟨a, e, ⟨xs, hq⟩, q⟩ := q1
  subst e
  cases r1
  obtain ⟨its, rv, p, hz⟩ := I1.list hq
  refine wpAny_pyIter_list p.isList ?_
  refine ⟨s1.heap.objs.size, [s1.heap.objs.size], _, _, H1, rfl, I1.kept (t' := s1.toks) fun b o e => Heap.get?_push_of_some _ e, turn_listH a _, ⟨_, Heap.get?_push_size _ rfl, rfl, rfl⟩, fun b hb => ?_, q⟩
  have e : b = s1.heap.objs.size := by simpa using hb
  subst e
  exact I1.fpOk (Nat.le_refl _) (I1.hok.fresh (Nat.le_refl _))
/-- as Fun.okX, the exception's context told -/
theorem Fun.okXN {P : Program} {w : World} {K : PySem.W.Frag} {mg : Str → Option Value} {base : Heap} {x qual : Str} {st : Stmt} {f : Addr} {fd : FuncData} {N ps : List Str} {k : Nat} {sp : Sp} (F : Fun K x qual st f fd) (S : FnScope N ps (defScope st)) (len : ∀ vs H Q E, sp vs H Q E → vs.length = ps.length)
    (hbody : ∀ (cdv : Value) (A : Around) (outer : List PySem.Env) (s : Shared) (H : Hp) (vs : List V) (Q : VK) (E : XK), Room k (A.deeper (envOfC qual (defScope st) s.heap.objs.size f cdv)) → sp vs H Q E →
      ∃ t, PSs (cxOf (L2N.CX P w) P w K mg base N qual (defScope st) f cdv A outer s H E) (defBody st) t ∧ t { nx := fun _ H' => Q .non H', rt := Q } (start N vs) H) : FnOk P w K mg base (L2N.CX P w) (k + 1) f fd ps sp := by
  obtain ⟨oc, od, kV, doc, pm, an, cdv, ct, osl, rfl, lk, hcd⟩ := F.ex
  exact fn_of lk hcd S len fun A outer s H vs Q E hr hsp => hbody cdv A outer s H vs Q E hr hsp
/-- a def that is called while an exception is handled -/
theorem Fun.okH {P : Program} {w : World} {K : PySem.W.Frag} {mg : Str → Option Value} {base : Heap} {x qual : Str} {st : Stmt} {f : Addr} {fd : FuncData} {N ps : List Str} {k : Nat} {sp : Sp} (F : Fun K x qual st f fd) (S : FnScope N ps (defScope st)) (len : ∀ vs H Q E, sp vs H Q E → vs.length = ps.length)
    (hbody : ∀ (cdv : Value) (A : Around) (outer : List PySem.Env) (s : Shared) (H : Hp) (vs : List V) (Q : VK) (E : XK) (p : Addr × Obj), Hot1 A p → RoomH k (A.deeper (envOfC qual (defScope st) s.heap.objs.size f cdv)) → sp vs H Q E →
      ∃ t, PSs (cxH CX0 P w K mg base N qual (defScope st) f cdv A outer s H E p) (defBody st) t ∧ t { nx := fun _ H' => Q .non H', rt := Q } (L2.start N vs) H) : FnH P w K mg base CX0 (k + 1) f fd ps sp := by
  obtain ⟨oc, od, kV, doc, pm, an, cdv, ct, osl, rfl, lk, hcd⟩ := F.ex
  exact fn_ofH lk hcd S len fun A outer s H vs Q E p hot hr hsp => hbody cdv A outer s H vs Q E p hot hr hsp
end HL
namespace DL
open PySem L2
/-! ### what runs while an exception is handled -/
section
variable {X : Cx}
def QIH (X : Cx) (tg iter : Expr) (ti : DI) : Prop := L2H.PIH X tg iter (lamI (kx X) ti)
theorem pih_less {tg it : Expr} {t t' : TI} (h : L2H.PIH X tg it t) (k : ∀ σ H Q, t' σ H Q → t σ H Q) : L2H.PIH X tg it t' := ⟨fun pins s σ H R I q => h.run pins s σ H R I (k σ H R q)⟩
theorem qi_listH {e tg : Expr} {te : DE} (he : QE X e te) : QIH X tg e (iSeq te) := pih_less (HL.pi_listH he) fun σ H Q ⟨A, Ow, ρ, R, rel, h, k⟩ => ⟨A, Ow, ρ, _, rel, h, fun v H1 d ρ1 e1 rel1 rp1 h1 => by
  cases rp1 with
  | lst hs ha => exact ⟨_, rfl, ⟨_, hs.sq⟩, k _ [([.ref _], [.list _])] [] H1 _ ρ1 e1 (rel1.wthP fun p hp => by
      cases List.mem_singleton.mp hp
      exact .one (.lst hs ha)) walk_list h1⟩
  | _ => exact h1.elim⟩
theorem qs_forH {tg iter : Expr} {body : List Stmt} {ti : DI} {g : DG} {tb : DS} {pos : Pos} (hp : PassesOwn (model X.prog X.w) X.A X.env X.xe) (hc : L2H.HotC X) (hi : QIH X tg iter ti) (hg : QG X tg g) (hb : QSs X body tb) (hs : ∀ x, foldedSetIterable iter X.env x = pure x := by intro _; rfl) : QS X (.For tg iter body [] pos) (dFor ti g tb) :=
  ps_less (L2H.ps_forH hp hc hi hg hb hs) fun D σ H ⟨A, Ow, ρ, DD, rel, h, n, b, c, r⟩ => ⟨A, Ow, ρ, _, rel, h, fun J P L H1 ds ρ1 e1 rel1 wk ⟨V, v0, turn, fin⟩ => by
  refine ⟨fun i m σ H => m = ds.length - i ∧ i ≤ ds.length ∧ ∃ Ow ρ, Rel (kx X) (A.wth P L) Ow σ H ρ ∧ V i ρ, ⟨_, rfl, Nat.zero_le _, Ow, ρ1, rel1, v0⟩, ?_⟩
  rintro i m σ2 H2 ⟨hm, hi, Ow2, ρ2, rel2, v2⟩
  have w := wk (own A.FO Ow2) H2 (fun p hp => rel2.pin p (List.mem_append_left _ hp)) (fun p hp => (rel2.keep p (List.mem_append_left _ hp)).1) i
  by_cases hlt : i < ds.length
  · obtain ⟨g1, g2⟩ := w.2 hlt
    refine .inr ⟨g1, fun σ H => ∃ Ow ρ, Rel (kx X) (A.wth P L) Ow σ H ρ ∧ V (i + 1) ρ, fun σ' H' ⟨Ow', ρ', rel', v'⟩ => ⟨_, by omega, rfl, hlt, Ow', ρ', rel', v'⟩, fun x H3 y => ?_⟩
    obtain ⟨d, hd, sm, rp⟩ := g2 x H3 y
    have rel3 := rel2.ext sm
    refine ⟨_, Ow2, ρ2, _, d, rel3, rp, turn i d ρ2 hd v2, fun Ow4 σ4 H4 ρ4 rel4 _ h4 => ?_⟩
    exact ⟨_, Ow4, ρ4, _, rel4, h4, fun Ow' σ' H' ρ' rel' h' => ⟨Ow', ρ', rel', h'⟩, fun Ow' σ' H' ρ' rel' h' => n Ow' σ' H' ρ' rel'.unwth h', fun Ow' σ' H' ρ' rel' h' => ⟨Ow', ρ', rel', h'⟩, fun Ow' σ' H' ρ' v d rel' rp' h' => r.1 Ow' σ' H' ρ' v d rel'.unwth rp' h', fun Ow' σ' H' ρ' p xs cs nw hp rel' rp' h' => r.2 Ow' σ' H' ρ' p xs cs ⟨nw.h0, nw.no, fun q hq => nw.kp q (List.mem_append_right _ hq)⟩ hp (rel'.unwth (A := A.fo p) (P := P) (L := L)) rp' h'⟩
  · have e : i = ds.length := by omega
    subst e
    exact .inl ⟨w.1 (Nat.le_refl _), n Ow2 σ2 H2 ρ2 rel2.unwth (fin ρ2 v2)⟩⟩
theorem qss_dead {st : List Stmt} : QSs X st (fun _ _ => False) := ⟨fun pins s σ H D I ⟨_, _, _, _, _, h, _⟩ => h.elim⟩
theorem qg_dead {tg : Expr} : QG X tg (fun _ _ _ => False) := ⟨fun pins s σ H v u Q I r ⟨_, _, _, _, _, _, _, h, _⟩ => h.elim⟩
theorem ps_dead {st : Stmt} : PS X st (fun _ _ _ => False) := ⟨fun pins s σ H D I h => h.elim⟩
theorem pss_dead {st : List Stmt} : PSs X st (fun _ _ _ => False) := ⟨fun pins s σ H D I h => h.elim⟩
/-- from here on a term of HandS that returns data -/
def dRaw2 (K : KW) (t : TS) : DS := fun DD ρ => ∀ A Ow σ H D, Rel K A Ow σ H ρ → (∀ Ow' σ' H' ρ' v d, Rel K A Ow' σ' H' ρ' → Rp K (own A.FO Ow') H' v d → DD.rt d ρ' → D.rt v H') → t D σ H
theorem qss_raw2 {rest : List Stmt} {t : TS} (h : PSs X rest t) : QSs X rest (dRaw2 (kx X) t) := pss_less h fun D σ H ⟨A, Ow, ρ, DD, rel, h, n, b, c, r⟩ =>
  h A Ow σ H D rel fun Ow' σ' H' ρ' v d rel' rp' q => r.1 Ow' σ' H' ρ' v d rel' rp' q
theorem qe_callH {e : Expr} {x : Str} {k : Nat} {f : Addr} {fd : FuncData} {ps : List Str} {P : List D → (D → Prop) → Prop} {es : List Expr} {ta : DA} {p pos : Pos} (F : L2H.FnH X.prog X.w X.K X.mg X.base CX0 k f fd ps (spD (kx X) P)) (hr : L2H.RoomH k X.A) (hc : L2H.HotC X) (hg : Gl X x) (hm : X.mg x = some (.ref f)) (hk : PySem.W.keepIn X.K (.ref f) = true) (hb : Binds X.K fd ps []) (ha : QA X (e :: es) ta) (hdb : (x == ("__debug__" : Str)) = false := by decide)
    (he : starEach (e :: es) X.env = (false, eval e X.env) :: starEach es X.env := by rfl) (hpl : (backTo pos (starEach es X.env)).any (·.1) = false := by rfl) : QE X (.Call (.Name x p) (e :: es) [] pos) (dCall P ta) :=
  pe_less (L2H.pe_callH (E := fun _ => E0) F hr hc hg hm hk hb (fun σ pins H s e s' I c => c.elim) ha hdb he hpl) fun σ H Q ⟨A, Ow, ρ, R, rel, h, k⟩ => ⟨A, Ow, ρ, _, rel, h, fun vs H1 ds ρ1 e1 rel1 rp1 h1 =>
    ⟨own A.FO Ow, ds, _, rp1, fun a ha => rel1.tracked ha, h1, fun v H' d e2 rp2 h2 => k v H' d ρ1 (e1.trans (Stp.of e2)) (rel1.ext e2) rp2 h2⟩⟩
end
section
variable {P : Program} {w : World} {K : PySem.W.Frag} {mg : Str → Option Value} {base : Heap}
theorem fn_DH {x qual : Str} {st : Stmt} {f : Addr} {fd : FuncData} {N ps : List Str} {k : Nat} {p : List D → (D → Prop) → Prop} (F : Fun K x qual st f fd) (S : FnScope N ps (defScope st)) (len : ∀ ds R, p ds R → ds.length = ps.length)
    (hbody : ∀ (cdv : Value) (A : Around) (outer : List PySem.Env) (s : Shared) (H : Hp) (E : XK) (p1 : Addr × Obj), L2H.Hot1 A p1 → ∃ ts, QSs (L2H.cxH CX0 P w K mg base N qual (defScope st) f cdv A outer s H E p1).nox (defBody st) ts ∧ ∀ ds R, p ds R → ts { nx := fun _ => R .none, rt := fun d _ => R d } (startD N ds)) :
    L2H.FnH P w K mg base CX0 (k + 1) f fd ps (spD ⟨K, P, w⟩ p) := by
  refine HL.Fun.okH F S (fun vs H Q E h => ?_) (fun cdv A outer s H vs Q E p1 hot hr h => ?_)
  · obtain ⟨O, ds, R, h1, _, h2, _⟩ := h
    rw [h1.len]
    exact len ds R h2
  · obtain ⟨O, ds, R, h1, h2, h3, h4⟩ := h
    obtain ⟨ts, hq, hs⟩ := hbody cdv A outer s H E p1 hot
    refine ⟨_, PSs.nox hq, _, _, _, _, rel_start h1 h2, hs ds R h3, fun Ow' σ' H' ρ' rel' h' => ?_, fun _ _ _ _ _ z => z.elim, fun _ _ _ _ _ z => z.elim, fun Ow' σ' H' ρ' v d rel' rp' h' => ?_, fun _ _ _ _ _ _ _ _ _ _ _ z => z.elim⟩
    · exact h4 .non H' .none (fun b o q => rel'.kept b o (fun i z => nomatch z) q) .non h'
    · exact h4 v H' d (fun b o q => rel'.kept b o (fun i z => nomatch z) q) (rp'.less fun b z => .inl z) h'
def p_value0 (ds : List D) (R : D → Prop) : Prop := ds = [.list [], .dict []] ∧ R (enc (0, 1))
def p_content0 (ds : List D) (R : D → Prop) : Prop := ds = [.list []] ∧ R (.int 0)
theorem hot_cx {N : List Str} {qual : Str} {sc : Scope} {f : Addr} {cdv : Value} {A : Around} {outer : List PySem.Env} {s : Shared} {H : Hp} {E : XK} {p : Addr × Obj} (h : L2H.Hot1 A p) : L2H.HotC (L2H.cxH CX0 P w K mg base N qual sc f cdv A outer s H E p).nox := ⟨p, h, List.mem_singleton.mpr rfl⟩
theorem okH_value {f : Addr} {fd : FuncData} (F : Fun K "value" "value" st_value f fd) : L2H.FnH P w K mg base CX0 1 f fd ["one", "values"] (spD ⟨K, P, w⟩ p_value0) :=
  fn_DH F sc_value (fun ds R h => by rw [h.1]; rfl) fun cdv A outer s H E p1 hot => by
    refine ⟨_, qss_cons (qs_set 2 sc_value.nd (qe_tup (qa_cons qe_int (qa_cons qe_int qa_nil)))) (qss_cons (qs_forH PassesOwn.never (hot_cx hot) (qi_listH (qe_var 0)) qg_dead qss_dead) (qss_one (qs_ret (qe_var 2)))), ?_⟩
    rintro ds R ⟨rfl, h⟩
    refine ⟨sl2, trivial, fun i ρ => ρ = [.sh (.list []), .sh (.dict []), .sh (enc (0, 1)), .no, .no, .no, .no, .no, .no], rfl, fun i d ρ hi => ?_, fun ρ z => ?_⟩
    · simp at hi
    · subst z
      exact h
theorem okH_content {f : Addr} {fd : FuncData} (F : Fun K "content" "content" st_content f fd) : L2H.FnH P w K mg base CX0 1 f fd ["one"] (spD ⟨K, P, w⟩ p_content0) :=
  fn_DH F sc_content (fun ds R h => by rw [h.1]; rfl) fun cdv A outer s H E p1 hot => by
    refine ⟨_, qss_cons (qs_set 1 sc_content.nd qe_int) (qss_cons (qs_forH PassesOwn.never (hot_cx hot) (qi_listH (qe_var 0)) qg_dead qss_dead) (qss_one (qs_ret (qe_var 1)))), ?_⟩
    rintro ds R ⟨rfl, h⟩
    refine ⟨trivial, fun i ρ => ρ = [.sh (.list []), .sh (.int 0), .no, .no], rfl, fun i d ρ hi => ?_, fun ρ z => ?_⟩
    · simp at hi
    · subst z
      exact h
structure Cls5 (K : PySem.W.Frag) (mg : Str → Option Value) (C5 : Addr) : Prop where
  g5 : mg "NoInverse" = some (.ref C5)
  x5 : PySem.W.excIn K C5 [.type "ValueError", .type "Exception", .type "BaseException", .type "object"] "ValueError.__new__" = true
  k5 : PySem.W.keepIn K (.ref C5) = true
  b5 : PySem.W.subIn K (.ref C5) (.type "BaseException") = some true
  t5 : PySem.W.typeIn K (.ref C5) = some (.type "type")
  e5 : PySem.W.exmOne K (.ref C5) (.ref C5) = some true
def spDX (K : KW) (C5 : Addr) : Sp := fun vs H _ E => ∃ (O : Addr → Prop) (t : Tab), RpA K O H vs [encP t, .int 0] ∧ ∀ H', Same H H' → E (.ref C5) none H'
theorem okXN_divided {C5 : Addr} {f : Addr} {fd : FuncData} (F : Fun K "divided" "divided" st_divided f fd) (T : Cls5 K mg C5) : FnOk P w K mg base (L2N.CX P w) 1 f fd ["one", "number"] (spDX ⟨K, P, w⟩ C5) := by
  refine HL.Fun.okXN F sc_divided (fun vs H Q E h => ?_) (fun cdv A outer s H vs Q E hr h => ?_)
  · obtain ⟨O, t, h, _⟩ := h
    rw [h.len]
    rfl
  · refine ⟨_, pss_cons (ps_if (pt_cmpR op_eq (pv 1) pe_int (nomark _)) (pss_one (L2N.ps_raise rfl (L2N.takes_of rfl rfl rfl rfl) (L2N.pmk_own PySem.F.excBase_ValueError T.x5 T.g5 T.k5 (raises_own T.b5 T.t5) rfl))) pss_nil) pss_dead, ?_⟩
    obtain ⟨O, t, hA, hE⟩ := h
    match vs, hA with
    | _, .cons _ (.cons (.int _) .nil) =>
      refine ⟨_, rfl, rfl, _, rfl, ?_⟩
      refine ite2 (fun c => ?_) (fun c => absurd (show decide (V.int 0 = V.int 0) = true from by decide) c)
      exact hE H (Same.refl H)
end


/-! ### {k: z}, k a variable -/
section
variable {X : Cx} {pos : Pos}
theorem pe_dictV {i : Nat} {x : Str} {z : Int} {pt pc : Pos} {c3} (hu : (nestedKind X.prog X.w).room X.A) (hv : PE X (.Name x pt) (tVar i)) : PE X (.Dict [some (.Name x pt)] [.Constant (.int z) c3 pc] pos)
    (fun σ H Q => ∀ p, H p = none → ∃ (q : Addr) (k : D), σ[i]? = some (some (.ref q)) ∧ Dp X.K (L2.upd H p (ND.ndO X.prog X.w p [])) (.ref q) k ∧ ND.isKey k = true ∧ (ND.keyOf k).depth ≤ 8 ∧ Q (.ref p) (L2.upd (L2.upd H p (ND.ndO X.prog X.w p [])) p (ND.ndO X.prog X.w p [(k, q, .int z)]))) := by
  refine ⟨fun pins s σ H Q I h => ?_⟩
  have hn := I.hok.fresh (Nat.le_refl s.heap.objs.size)
  obtain ⟨q, k, hq, kq, k1, k2, hQ⟩ := h _ hn
  have I1 := I.laid (a := s.heap.objs.size) (o := ND.ndO X.prog X.w s.heap.objs.size []) (h' := s.heap.push { cls := .type "dict", data := .dict #[] }) (t' := s.toks) (fun _ _ q => Heap.get?_push_of_some _ q) (Nat.le_refl _) (ND.nd_empty s.heap I.big)
  have pp : PPs X pos [some (.Name x pt)] [.Constant (.int z) c3 pc] _ := pps_cons hv pe_int pps_nil
  refine dict_pairsH (knd := nestedKind X.prog X.w) (pairs := pairTrees [some (.Name x pt)] [.Constant (.int z) c3 pc] X.env pos) hu (by rfl) (by intro q; cases q) (show (1 : Nat) ≤ 15 from by decide) ?_
  refine thn (pp.run pins _ σ _ (fun ps H2 => ps = [(.ref q, .int z)] ∧ H2 = L2.upd H s.heap.objs.size (ND.ndO X.prog X.w s.heap.objs.size [])) I1 ⟨.ref q, hq, rfl, rfl⟩) fun ws s2 ⟨ps, H2, I2, rel, ep, eh⟩ => ?_
  subst ep eh
  obtain ⟨b1, b2, rfl, ra, rb⟩ : ∃ b1 b2, ws = [(b1, b2)] ∧ RelV (.ref q) b1 ∧ RelV (.int z) b2 := by
    cases rel with
    | cons h t =>
      cases t
      exact ⟨_, _, rfl, h.1, h.2⟩
  cases (show b1 = Value.ref q from ra)
  obtain ⟨us, u1, u2, u3, u4⟩ := ND.nd_at I2 (.inl upd_same) (fun e h => nomatch h)
  cases u1
  have kk := ND.key_is I2 kq k1 k2
  refine ⟨[(ND.keyOf k, q, b2)], ⟨rfl, rfl, kk, True.intro⟩, u2, fun h' tk dd' hs => ⟨.ref s.heap.objs.size, _, ?_, rfl, hQ⟩⟩
  have he : ∃ o, h'.get? s.heap.objs.size = some o := let ⟨o, _, _, ho, _⟩ := dd'; ⟨o, ho⟩
  exact d_write I2 (by rw [upd_same]; exact True.intro) hs he (ND.nd_ok (us := [b2]) (.cons rb .nil) dd' u3 (show 1 ≤ sizeLine from by rw [sizeLine_eq]; omega))
def dOneV (i : Nat) (z : Int) : DN := fun ρ Q => ∃ k, ρ[i]? = some (.sh k) ∧ KeyOk k ∧ Q (.nd [(k, .int z)]) ρ
theorem qn_oneV (i : Nat) {x : Str} {z : Int} {pt pc : Pos} {c3} (hu : (nestedKind X.prog X.w).room X.A) (hN : X.N[i]? = some x := by rfl) (hv : Vis X.env.scope x := by first | exact Or.inl rfl | exact Or.inr (Or.inl rfl) | exact Or.inr (Or.inr rfl)) (hd : (x == ("__debug__" : Str)) = false := by decide) (hcd : (x == ("__classdict__" : Str)) = false := by decide) :
    QN X (.Dict [some (.Name x pt)] [.Constant (.int z) c3 pc] pos) (dOneV i z) := QN.mk (pe_dictV hu (pv i hN hv hd hcd)) fun σ H Q ⟨A, Ow, ρ, R, rel, ⟨k, hk, ko, h⟩, kk⟩ p hp => by
  obtain ⟨_, v, hv, rp⟩ := rel.sl i _ hk
  obtain ⟨q, rfl, rq⟩ := key_ref rp ko
  have e0 : Same H (L2.upd H p (ND.ndO X.prog X.w p [])) := Same.new hp
  have e1 : Same H (L2.upd (L2.upd H p (ND.ndO X.prog X.w p [])) p (ND.ndO X.prog X.w p [(k, q, .int z)])) := fun b u z => by
    rw [upd_ne (ne_of_none z hp), upd_ne (ne_of_none z hp)]
    exact z
  refine ⟨q, k, hv, (rq.mono (Stp.of e0)).dp (noD_key ko.1), ko.1, ko.2.1, ?_⟩
  exact kk p _ _ _ ρ ⟨Stp.of e1, hp⟩ (rel.nw hp) upd_same (rel.alloc hp e1 ⟨_, upd_same⟩) (.nd (.cons ((rq.more hp own_fo).mono (Stp.of e1)) ko.1 ko.2.1 (.int z) .nil)) h
end


/-! ### the law in plain -/
theorem tadd_all {P : Mon → Prop} {t : Tab} {m : Mon} {c : Int} (h : ∀ e ∈ t, P e.1) (hm : P m) : ∀ e ∈ tadd t m c, P e.1 := fun e he => by
  rcases tput_keys _ _ _ e he with ⟨g, hg, q⟩ | q
  · rw [← q]; exact h g hg
  · rw [q]; exact hm
theorem foldl_all {β : Type} {P : Mon → Prop} (step : Tab → β → Tab) {l : List β} (hs : ∀ t, (∀ e ∈ t, P e.1) → ∀ b ∈ l, ∀ e ∈ step t b, P e.1) : ∀ t, (∀ e ∈ t, P e.1) → ∀ e ∈ l.foldl step t, P e.1 := by
  induction l with
  | nil => intro t h; exact h
  | cons e l ih => intro t h; exact ih (fun t h g hg => hs t h g (List.mem_cons_of_mem _ hg)) _ (hs t h e List.mem_cons_self)
theorem ltsum_all {P : Mon → Prop} {a b : Tab} {f : Int} (ha : ∀ e ∈ a, P e.1) (hb : ∀ e ∈ b, P e.1) : ∀ e ∈ ltsum a b f, P e.1 := foldl_all _ (fun t h e he => tadd_all h (hb e he)) a ha
theorem tprod0_all {P : Mon → Prop} {a b : Tab} (h : ∀ x ∈ a, ∀ y ∈ b, P (mprod x.1 y.1)) : ∀ e ∈ tprod0 a b, P e.1 := foldl_all _ (fun t k e he => foldl_all _ (fun t k g hg => tadd_all k (h e he g hg)) t k) [] fun e h => nomatch h
theorem mkM_le : ∀ (es : List Nat) (k : Nat), (∀ x ∈ es, x ≤ 4) → ∀ z ∈ mkM k es, z.2 ≤ 4
  | [], k, _, z, h => nomatch h
  | x :: es, k, h, z, hz => by
    have hx := h x List.mem_cons_self
    have ih := mkM_le es (k + 1) fun y hy => h y (List.mem_cons_of_mem _ hy)
    have hz' : z ∈ (if x = 0 then mkM (k + 1) es else ((k : Int), (x : Int)) :: mkM (k + 1) es) := hz
    split at hz'
    · exact ih z hz'
    · rcases List.mem_cons.mp hz' with rfl | hz'
      · show (x : Int) ≤ 4
        omega
      · exact ih z hz'
theorem DrM.le {m : Mon} (h : DrM m) : ∀ z ∈ m, z.2 ≤ 4 := by
  obtain ⟨es, _, h2, rfl⟩ := h
  exact mkM_le es 0 h2
/-- the law's polynomial -/
structure UT (t : Tab) : Prop where
  nd : Nd t
  len : t.length ≤ 6
  mon : ∀ e ∈ t, DrM e.1
  cb : CB (2 ^ 114) t
  nz : ∀ e ∈ t, e.2 ≠ 0
  fix : listed t = t
theorem UT.mg {t : Tab} (h : UT t) : TMg t := fun e he => (h.mon e he).good
theorem UT.tab {t : Tab} (h : UT t) : TabOk t := ⟨by have := h.len; omega, h.nd, fun e he => by have := (h.mon e he).len; omega⟩
theorem UT.of {b : Tab} {f : Int} (h : DrT b) (hf : f.natAbs ≤ 10) : UT (listed (ltsum [] b f)) := by
  have tnil : TabOk [] := ⟨Nat.zero_le _, List.nodup_nil, fun e h => nomatch h⟩
  have g := ltsum_good (f := f) tnil h.tab
  have nd := listed_nd g.1
  have nz : ∀ e ∈ listed (ltsum [] b f), e.2 ≠ 0 := fun e he => (listed_mem he).2
  refine ⟨nd, Nat.le_trans (listed_len _) (Nat.le_trans g.2.1 (by have := h.len; rw [List.length_nil]; omega)), fun e he => ltsum_all (P := DrM) (a := []) (fun e h => absurd h (List.not_mem_nil)) h.mon e (listed_mem he).1, fun e he => ?_, nz, listed_fix nd nz (listed_sorted _)⟩
  have q := co_mem g.1 (listed_mem he).1
  rw [co_ltsum h.nd, co_nil, Int.zero_add] at q
  have hb : (co b e.1).natAbs ≤ 2 ^ 110 := by
    cases w : tget b e.1 with
    | none => unfold co; rw [w]; exact Nat.zero_le _
    | some c =>
      obtain ⟨g, hg, _, g2⟩ := tget_some w
      unfold co
      rw [w, ← g2]
      exact h.cb g hg
  rw [← q, Int.natAbs_mul]
  exact Nat.le_trans (Nat.mul_le_mul hf hb) (by decide)
theorem expo_cases (m : Mon) (n : Int) : (∃ z ∈ m, z.1 = n ∧ expo m n = z.2) ∨ ((∀ z ∈ m, z.1 ≠ n) ∧ expo m n = 0) := by
  unfold expo
  cases h : m.find? fun z => decide (z.1 = n) with
  | none => exact .inr ⟨fun z hz => by simpa using List.find?_eq_none.mp h z hz, rfl⟩
  | some z => exact .inl ⟨z, List.mem_of_find?_eq_some h, by simpa using List.find?_some h, rfl⟩
theorem expo_ok {m : Mon} (h : DrM m) (n : Int) : 0 ≤ expo m n ∧ expo m n ≤ 4 := by
  rcases expo_cases m n with ⟨z, hz, _, q⟩ | ⟨_, q⟩
  · have := h.le z hz
    have := h.good.2 z hz
    omega
  · omega
def pw (n : Int) (k : Nat) : Mon := if k > 0 then [(n, (k : Int))] else []
theorem expo_cons (z : Int × Int) (m : Mon) (n : Int) : expo (z :: m) n = if z.1 = n then z.2 else expo m n := by
  unfold expo
  rw [List.find?_cons]
  by_cases c : z.1 = n
  · simp [c]
  · simp [c]
theorem restM_cons (z : Int × Int) (m : Mon) (n : Int) : restM (z :: m) n = if z.1 = n then restM m n else z :: restM m n := by
  unfold restM
  rw [List.filter_cons]
  by_cases c : z.1 = n
  · simp [c]
  · simp [c]
theorem restM_none {m : Mon} {n : Int} (h : ∀ z ∈ m, z.1 ≠ n) : restM m n = m := List.filter_eq_self.mpr fun z hz => by simpa using h z hz
/-- a monomial is its part without the letter times the letter's power -/
theorem expo_split : ∀ {m : Mon} {n : Int}, Asc m → (∀ z ∈ m, 1 ≤ z.2) → mprod (restM m n) (pw n (expo m n).toNat) = m
  | [], n, _, _ => nil_mprod []
  | z :: m, n, ha, h1 => by
    obtain ⟨a1, a2⟩ := asc_cons.mp ha
    rw [expo_cons, restM_cons]
    by_cases c : z.1 = n
    · rw [if_pos c, if_pos c]
      have hn : ∀ w ∈ m, w.1 ≠ n := fun w hw q => by have := a1 w hw; omega
      rw [restM_none hn]
      have hz := h1 z List.mem_cons_self
      unfold pw
      rw [if_pos (by omega)]
      have e : ((z.2.toNat : Nat) : Int) = z.2 := by omega
      rw [e, ← c]
      cases m with
      | nil => exact nil_mprod _
      | cons y m =>
        have := a1 y List.mem_cons_self
        rw [mprod_cons, if_neg (by show ¬ y.1 = z.1; omega), if_neg (by show ¬ y.1 < z.1; omega), mprod_nil]
    · rw [if_neg c, if_neg c]
      have ih := expo_split (n := n) a2 fun w hw => h1 w (List.mem_cons_of_mem _ hw)
      unfold pw at ih ⊢
      by_cases k : (expo m n).toNat > 0
      · rw [if_pos k] at ih ⊢
        have lt : z.1 < n := by
          rcases expo_cases m n with ⟨w, hw, q, _⟩ | ⟨_, q⟩
          · have := a1 w hw
            omega
          · omega
        rw [mprod_cons, if_neg c, if_pos lt, ih]
      · rw [if_neg k] at ih ⊢
        rw [mprod_nil] at ih ⊢
        rw [ih]
/-- the k-th row -/
def rowK (n : Int) (t : Tab) (k : Nat) : Tab := (t.filter fun e => decide ((expo e.1 n).toNat = k)).map fun e => (restM e.1 n, e.2)
theorem rowK_snoc (n : Int) (t : Tab) (e : Mon × Int) (k : Nat) : rowK n (t ++ [e]) k = rowK n t k ++ if (expo e.1 n).toNat = k then [(restM e.1 n, e.2)] else [] := by
  unfold rowK
  rw [List.filter_append, List.map_append]
  congr 1
  by_cases c : (expo e.1 n).toNat = k
  · simp [List.filter_cons, c]
  · simp [List.filter_cons, c]
theorem rowK_mem {n : Int} {t : Tab} {k : Nat} {f : Mon × Int} (h : f ∈ rowK n t k) : ∃ e ∈ t, (expo e.1 n).toNat = k ∧ f = (restM e.1 n, e.2) := by
  obtain ⟨e, he, rfl⟩ := List.mem_map.mp h
  obtain ⟨h1, h2⟩ := List.mem_filter.mp he
  exact ⟨e, h1, by simpa using h2, rfl⟩
theorem rest_inj {m m' : Mon} {n : Int} (h : Mg m) (h' : Mg m') (e : (expo m n).toNat = (expo m' n).toNat) (r : restM m n = restM m' n) : m = m' := by
  rw [← expo_split (n := n) h.1 fun z hz => (h.2 z hz).2.2, ← expo_split (n := n) h'.1 fun z hz => (h'.2 z hz).2.2, e, r]
theorem rowK_nd {n : Int} {t : Tab} (hn : Nd t) (hm : TMg t) (k : Nat) : Nd (rowK n t k) := by
  unfold Nd rowK
  rw [List.map_map]
  have hp : (t.filter fun e => decide ((expo e.1 n).toNat = k)).Pairwise fun a b => a.1 ≠ b.1 := (List.pairwise_map.mp hn).sublist List.filter_sublist
  refine List.pairwise_map.mpr ((List.Pairwise.and_mem.mp hp).imp fun ⟨ha, hb, q⟩ z => q ?_)
  obtain ⟨a1, a2⟩ := List.mem_filter.mp ha
  obtain ⟨b1, b2⟩ := List.mem_filter.mp hb
  exact rest_inj (hm _ a1) (hm _ b1) (by rw [of_decide_eq_true a2, of_decide_eq_true b2]) z
structure RowsP (n : Int) (t : Tab) (rs : List Tab) : Prop where
  at' : ∀ k r, rs[k]? = some r → r = rowK n t k
  all : ∀ e ∈ t, (expo e.1 n).toNat < rs.length
  len : (t = [] ∧ rs.length = 0) ∨ ∃ e ∈ t, rs.length = (expo e.1 n).toNat + 1
theorem rowK_none {n : Int} {t : Tab} {k : Nat} (h : ∀ e ∈ t, (expo e.1 n).toNat ≠ k) : rowK n t k = [] := by
  unfold rowK
  rw [List.filter_eq_nil_iff.mpr fun e he => by simpa using h e he]
  rfl
theorem rows_step {n : Int} {t : Tab} {e : Mon × Int} {rs : List Tab} (h : RowsP n t rs) (hn : ∀ f ∈ t, f.1 ≠ e.1) (hm : TMg t) (he : Mg e.1) : RowsP n (t ++ [e]) (rowStep n rs e) := by
  have gl := growT_len rs (expo e.1 n).toNat
  have ga : ∀ k r, (growT rs (expo e.1 n).toNat)[k]? = some r → r = rowK n t k := fun k r q => by
    by_cases c : k < rs.length
    · unfold growT at q
      rw [List.getElem?_append_left c] at q
      exact h.at' k r q
    · rw [rowK_none fun f hf z => by have := h.all f hf; omega]
      unfold growT at q
      rw [List.getElem?_append_right (by omega)] at q
      exact List.eq_of_mem_replicate (List.mem_of_getElem? q)
  have ls : (rowStep n rs e).length = max rs.length ((expo e.1 n).toNat + 1) := by unfold rowStep; rw [List.length_set, gl]
  refine ⟨fun k r q => ?_, fun f hf => ?_, .inr ?_⟩
  · rw [rowK_snoc]
    unfold rowStep at q
    by_cases c : (expo e.1 n).toNat = k
    · rw [if_pos c]
      subst c
      rw [List.getElem?_set_self (by rw [gl]; omega)] at q
      have hlt : (expo e.1 n).toNat < (growT rs (expo e.1 n).toNat).length := by rw [gl]; omega
      have hg := ga _ _ (List.getElem?_eq_getElem hlt)
      have eg : (growT rs (expo e.1 n).toNat).getD (expo e.1 n).toNat [] = rowK n t (expo e.1 n).toNat := by rw [List.getD_eq_getElem?_getD, List.getElem?_eq_getElem hlt]; exact hg
      rw [eg] at q
      cases q
      refine tput_new (tget_none fun f hf z => ?_)
      obtain ⟨g, hg, g1, rfl⟩ := rowK_mem hf
      exact hn g hg (rest_inj (hm g hg) he g1 z)
    · rw [if_neg c, List.append_nil]
      rw [List.getElem?_set_ne c] at q
      exact ga k r q
  · rw [ls]
    rcases List.mem_append.mp hf with hf | hf
    · have := h.all f hf
      omega
    · rw [List.mem_singleton.mp hf]
      omega
  · rw [ls]
    by_cases c : rs.length ≤ (expo e.1 n).toNat + 1
    · exact ⟨e, List.mem_append_right _ (List.mem_singleton.mpr rfl), by omega⟩
    · rcases h.len with ⟨_, h0⟩ | ⟨f, hf, h1⟩
      · omega
      · exact ⟨f, List.mem_append_left _ hf, by omega⟩
theorem rows_all {n : Int} {t : Tab} (hn : Nd t) (hm : TMg t) : ∀ i, i ≤ t.length → RowsP n (t.take i) (rowsT (t.take i) n)
  | 0, _ => ⟨fun k r h => (by simp [rowsT] at h), fun e h => (nomatch h), .inl ⟨rfl, rfl⟩⟩
  | i + 1, hi => by
    have ih := rows_all (n := n) hn hm i (by omega)
    obtain ⟨e, he⟩ : ∃ e, t[i]? = some e := ⟨_, List.getElem?_eq_getElem (by omega)⟩
    rw [take_one he, rowsT_snoc]
    refine rows_step ih (fun f hf z => ?_) (fun f hf => hm f (List.mem_of_mem_take hf)) (hm e (List.mem_of_getElem? he))
    have q : Nd (t.take i ++ [e]) := by
      rw [← take_one he]
      exact (show (t.map (·.1)).Nodup from hn).sublist (List.Sublist.map _ (List.take_sublist _ _))
    unfold Nd at q
    rw [List.map_append] at q
    exact (List.nodup_append.mp q).2.2 f.1 (List.mem_map_of_mem hf) e.1 (by simp) z
theorem rows_P {n : Int} {t : Tab} (h : UT t) : RowsP n t (rowsT t n) := by
  have q := rows_all (n := n) h.nd h.mg t.length (Nat.le_refl _)
  rw [List.take_length] at q
  exact q
theorem rows_len {n : Int} {t : Tab} (h : UT t) : ((rowsT t n).length : Int) = if t = [] then 0 else maxZ (t.map fun e => expo e.1 n) 0 + 1 := by
  have q := rows_P (n := n) h
  obtain ⟨m1, m2⟩ := maxZ_ok (t.map fun e => expo e.1 n) 0
  by_cases c : t = []
  · rw [if_pos c]
    rcases q.len with ⟨_, q⟩ | ⟨e, he, _⟩
    · omega
    · rw [c] at he; cases he
  · rw [if_neg c]
    rcases q.len with ⟨q, _⟩ | ⟨e, he, q1⟩
    · exact absurd q c
    · have e1 := expo_ok (h.mon e he) n
      have e2 := m2 _ (List.mem_cons_of_mem _ (List.mem_map_of_mem he))
      rcases List.mem_cons.mp m1 with m1 | m1
      · rw [m1] at e2 ⊢
        omega
      · obtain ⟨g, hg, g1⟩ := List.mem_map.mp m1
        have g2 := q.all g hg
        have g3 := expo_ok (h.mon g hg) n
        rw [← g1] at e2 ⊢
        omega
theorem rows_le {n : Int} {t : Tab} (h : UT t) : (rowsT t n).length ≤ 5 := by
  rcases (rows_P (n := n) h).len with ⟨_, q⟩ | ⟨e, he, q⟩
  · omega
  · have := expo_ok (h.mon e he) n
    omega
theorem row_at {n : Int} {t : Tab} (h : UT t) {k : Nat} (hk : k < (rowsT t n).length) : (rowsT t n)[k]? = some (rowK n t k) := by
  have q := (rows_P (n := n) h).at' k _ (List.getElem?_eq_getElem hk)
  rw [List.getElem?_eq_getElem hk, q]


/-! the rows put together -/
theorem pw_mg {n : Int} (h0 : 0 ≤ n) (h5 : n < 5) (k : Nat) : Mg (pw n k) := by
  unfold pw
  split
  · exact ⟨List.pairwise_singleton _ _, fun z hz => by rw [List.mem_singleton.mp hz]; exact ⟨h0, h5, by show (1 : Int) ≤ (k : Int); omega⟩⟩
  · exact ⟨List.Pairwise.nil, fun z h => nomatch h⟩
theorem rest_mg {m : Mon} {n : Int} (h : Mg m) : Mg (restM m n) := by
  refine ⟨?_, fun z hz => h.2 z (List.mem_filter.mp hz).1⟩
  exact (show (m.map (·.1)).Pairwise (· < ·) from h.1).sublist (List.Sublist.map _ List.filter_sublist)
theorem rest_ne {m : Mon} {n : Int} : ∀ z ∈ restM m n, z.1 ≠ n := fun z hz => by simpa using (List.mem_filter.mp hz).2
theorem rowK_mg {n : Int} {t : Tab} (h : TMg t) (k : Nat) : TMg (rowK n t k) := fun f hf => by
  obtain ⟨e, he, _, rfl⟩ := rowK_mem hf
  exact rest_mg (h e he)
theorem rowK_len (n : Int) (t : Tab) (k : Nat) : (rowK n t k).length ≤ t.length := by
  unfold rowK
  rw [List.length_map]
  exact List.length_filter_le _ _
theorem rowK_tab {n : Int} {t : Tab} (h : UT t) (k : Nat) : TabOk (rowK n t k) := ⟨by have := rowK_len n t k; have := h.len; omega, rowK_nd h.nd h.mg k, fun f hf => by
  obtain ⟨e, he, _, rfl⟩ := rowK_mem hf
  exact Nat.le_trans (restM_len _ _) (h.tab.mon e he)⟩
/-- a row as the law has it -/
def rowL (n : Int) (t : Tab) (k : Nat) : Tab := listed (rowK n t k)
theorem rowL_mem {n : Int} {t : Tab} {k : Nat} {f : Mon × Int} (h : f ∈ rowL n t k) : ∃ e ∈ t, (expo e.1 n).toNat = k ∧ f = (restM e.1 n, e.2) := rowK_mem (listed_mem h).1
structure RowL (n : Int) (t : Tab) (k : Nat) (r : Tab) : Prop where
  tab : TabOk r
  len : r.length ≤ 6
  mb : MB 5 r
  mg : TMg r
  sm : ∀ e ∈ r, Sm e.2
  pol : isPoly r = true
  no : n ∉ lets r
theorem row_L {n : Int} {t : Tab} (h : UT t) (k : Nat) : RowL n t k (rowL n t k) := by
  have nd := listed_nd (rowK_nd (n := n) h.nd h.mg k)
  have mg : TMg (rowL n t k) := fun f hf => rowK_mg h.mg k f (listed_mem hf).1
  have mb : MB 5 (rowL n t k) := fun f hf => by
    obtain ⟨e, he, _, rfl⟩ := rowL_mem hf
    exact Nat.le_trans (restM_len _ _) (h.mon e he).len
  have len : (rowL n t k).length ≤ 6 := Nat.le_trans (listed_len _) (Nat.le_trans (rowK_len n t k) h.len)
  refine ⟨⟨by omega, nd, fun f hf => by have := mb f hf; omega⟩, len, mb, mg, fun f hf => ?_, isPoly_listed (rowK_nd h.nd h.mg k) (rowK_mg h.mg k), fun q => ?_⟩
  · obtain ⟨e, he, _, rfl⟩ := rowL_mem hf
    exact sm_of (h.cb e he) (by decide)
  · obtain ⟨f, hf, z, hz, q⟩ := lets_mem.mp q
    obtain ⟨e, he, _, rfl⟩ := rowL_mem hf
    exact rest_ne z hz q
def partT (n : Int) (t : Tab) (k : Nat) : Tab := tprod0 (rowL n t k) [(pw n k, 1)]
def wholeT (n : Int) (t : Tab) : Nat → Tab
  | 0 => []
  | k + 1 => ltsum (wholeT n t k) (partT n t k) 1
theorem TT_append (g : Mon → Int) : ∀ a b : Tab, TT g (a ++ b) = TT g a + TT g b
  | [], b => by
    show TT g b = 0 + TT g b
    rw [Int.zero_add]
  | e :: a, b => by
    rw [List.cons_append, TT_cons, TT_cons, TT_append g a b]
    omega
theorem TT_row (n : Int) (k : Nat) (x : Mon) : ∀ {t : Tab}, TMg t → TT (fun m => dl (mprod m (pw n k)) x) (rowK n t k) = TT (fun m => dl m x) (t.filter fun e => decide ((expo e.1 n).toNat = k))
  | [], _ => rfl
  | e :: t, h => by
    have ih := TT_row n k x (t := t) fun f hf => h f (List.mem_cons_of_mem _ hf)
    have he := h e List.mem_cons_self
    unfold rowK at ih ⊢
    rw [List.filter_cons]
    by_cases c : (expo e.1 n).toNat = k
    · rw [if_pos (decide_eq_true c), List.map_cons, TT_cons, TT_cons, ih]
      show dl (mprod (restM e.1 n) (pw n k)) x * e.2 + _ = _
      rw [← c, expo_split he.1 fun z hz => (he.2 z hz).2.2]
    · rw [if_neg (by simpa using c), ih]
theorem TT_lt (g : Mon → Int) (n : Int) (k : Nat) : ∀ t : Tab, TT g (t.filter fun e => decide ((expo e.1 n).toNat < k + 1)) = TT g (t.filter fun e => decide ((expo e.1 n).toNat < k)) + TT g (t.filter fun e => decide ((expo e.1 n).toNat = k))
  | [] => rfl
  | e :: t => by
    have ih := TT_lt g n k t
    rw [List.filter_cons, List.filter_cons, List.filter_cons]
    by_cases c : (expo e.1 n).toNat < k
    · rw [if_pos (decide_eq_true (by omega)), if_pos (decide_eq_true c), if_neg (by simpa using Nat.ne_of_lt c), TT_cons, TT_cons, ih]
      omega
    · by_cases d : (expo e.1 n).toNat = k
      · rw [if_pos (decide_eq_true (by omega)), if_neg (by simpa using Nat.le_of_not_lt c), if_pos (decide_eq_true d), TT_cons, TT_cons, ih]
        omega
      · rw [if_neg (by simp; omega), if_neg (by simpa using Nat.le_of_not_lt c), if_neg (by simpa using d), ih]
theorem TT_dl {t : Tab} (x : Mon) : Nd t → TT (fun m => dl m x) t = co t x := by
  induction t with
  | nil => intro _; rfl
  | cons e t ih =>
    intro h
    rw [TT_cons, co_cons h, ih (List.nodup_cons.mp h).2]
    unfold dl
    by_cases c : e.1 = x
    · rw [if_pos c, if_pos c.symm]
      omega
    · rw [if_neg c, if_neg fun z => c z.symm]
      omega
theorem co_part {n : Int} {t : Tab} (h : UT t) (k : Nat) (x : Mon) : co (partT n t k) x = TT (fun m => dl m x) (t.filter fun e => decide ((expo e.1 n).toNat = k)) := by
  unfold partT
  rw [co_tprod0]
  unfold PP
  have e : ∀ m : Mon, TT (fun m' => dl (mprod m m') x) [(pw n k, 1)] = dl (mprod m (pw n k)) x := fun m => by
    rw [TT_cons]
    show _ * 1 + (0 : Int) = _
    rw [Int.mul_one, Int.add_zero]
  rw [TT_congr e]
  show TT _ (listed (rowK n t k)) = _
  rw [TT_co (listed_nd (rowK_nd h.nd h.mg k)) (rowK_nd h.nd h.mg k) (co_listed (rowK_nd h.nd h.mg k)), TT_row n k x h.mg]
theorem pw1_mb {n : Int} {k : Nat} : MB 1 [(pw n k, 1)] := fun e he => by
  rw [List.mem_singleton.mp he]
  show (pw n k).length ≤ 1
  unfold pw
  split <;> simp
structure PartL (n : Int) (t : Tab) (k : Nat) (r : Tab) : Prop where
  nd : Nd r
  len : r.length ≤ 6
  mon : ∀ e ∈ r, DrM e.1
theorem part_L {n : Int} {t : Tab} (h : UT t) (k : Nat) : PartL n t k (partT n t k) := by
  have r := row_L (n := n) h k
  have g := tprod0_good (a := rowL n t k) (b := [(pw n k, 1)]) (fun e he => by have := r.mb e he; omega) (fun e he => by have := pw1_mb e he; omega)
  refine ⟨g.1, Nat.le_trans g.2.1 (by have := r.len; rw [List.length_singleton]; omega), tprod0_all (P := DrM) fun f hf y hy => ?_⟩
  obtain ⟨e, he, q, rfl⟩ := rowL_mem hf
  rw [List.mem_singleton.mp hy]
  have m := h.mg e he
  show DrM (mprod (restM e.1 n) (pw n k))
  rw [← q, expo_split m.1 fun z hz => (m.2 z hz).2.2]
  exact h.mon e he
structure WholeL (n : Int) (t : Tab) (k : Nat) (r : Tab) : Prop where
  nd : Nd r
  len : r.length ≤ 6 * k
  mon : ∀ e ∈ r, DrM e.1
  co : ∀ x, DL.co r x = TT (fun m => dl m x) (t.filter fun e => decide ((expo e.1 n).toNat < k))
theorem whole_L {n : Int} {t : Tab} (h : UT t) : ∀ k, k ≤ 100 → WholeL n t k (wholeT n t k)
  | 0, _ => ⟨List.nodup_nil, Nat.le_refl _, fun e h => (nomatch h), fun x => by
    rw [List.filter_eq_nil_iff.mpr fun e he => by simp]
    rfl⟩
  | k + 1, hk => by
    have w := whole_L (n := n) h k (by omega)
    have p := part_L (n := n) h k
    have tw : TabOk (wholeT n t k) := ⟨by have := w.len; omega, w.nd, fun e he => by have := (w.mon e he).len; omega⟩
    have tp : TabOk (partT n t k) := ⟨by have := p.len; omega, p.nd, fun e he => by have := (p.mon e he).len; omega⟩
    have g := ltsum_good (f := 1) tw tp
    refine ⟨g.1, Nat.le_trans g.2.1 (by have := w.len; have := p.len; omega), ltsum_all (P := DrM) w.mon p.mon, fun x => ?_⟩
    show DL.co (ltsum (wholeT n t k) (partT n t k) 1) x = _
    rw [co_ltsum p.nd, w.co, co_part h, TT_lt, Int.one_mul]
theorem whole_end {n : Int} {t : Tab} (h : UT t) : listed (wholeT n t (rowsT t n).length) = t := by
  have w := whole_L (n := n) h (rowsT t n).length (by have := rows_le (n := n) h; omega)
  rw [← h.fix]
  conv => rhs; rw [← h.fix]
  have q : listed (wholeT n t (rowsT t n).length) = listed t := listed_co w.nd h.nd fun x => by
    rw [w.co, ← TT_dl x h.nd, List.filter_eq_self.mpr fun e he => by simpa using (rows_P (n := n) h).all e he]
  rw [h.fix, h.fix]
  rw [q, h.fix]
/-! letters, content, divided -/
theorem insM_filter : ∀ {m : Mon} (l : List Int), (m.map (·.1)).Nodup → insM l m = l ++ (m.map (·.1)).filter fun x => decide (x ∉ l)
  | [], l, _ => (List.append_nil l).symm
  | z :: m, l, h => by
    obtain ⟨h1, h2⟩ := List.nodup_cons.mp h
    show insM (insL l z.1) m = _
    rw [insM_filter (insL l z.1) h2, List.map_cons, List.filter_cons]
    unfold insL
    by_cases c : z.1 ∈ l
    · rw [if_pos c, if_neg (by simpa using c)]
    · rw [if_neg c, if_pos (by simpa using c), List.append_assoc]
      congr 1
      show z.1 :: _ = z.1 :: _
      congr 1
      refine List.filter_congr fun x hx => ?_
      have : x ≠ z.1 := fun q => h1 (by show z.1 ∈ _; rw [← q]; exact hx)
      simp [this]
theorem asc_nodup {m : Mon} (h : Asc m) : (m.map (·.1)).Nodup := (show (m.map (·.1)).Pairwise (· < ·) from h).imp fun q z => by omega
theorem div_back {n : Int} (h : n ≠ 0) (t : Tab) : divT (t.map fun e => (e.1, e.2 * n)) n = t := by
  unfold divT
  rw [List.map_map]
  refine (List.map_congr_left fun e _ => ?_).trans (List.map_id t)
  show (e.1, (e.2 * n).fdiv n) = e
  rw [Int.mul_fdiv_cancel _ h]
/-! values -/
theorem gcd_valR {sp : Int → Int × Int} : ∀ {t : Tab} {a : Nat} {x : Int × Int}, TabV sp t → Fr a x → Int.gcd x.1 x.2 = 1 → Int.gcd (valR sp t x).1 (valR sp t x).2 = 1
  | [], _, _, _, _, h => h
  | e :: t, a, x, ht, h, _ => by
    obtain ⟨h1, h2, h3⟩ := ht e List.mem_cons_self
    have fm := Fr.mon h1 (fr_c h3)
    refine gcd_valR (t := t) (fun y hy => ht y (List.mem_cons_of_mem _ hy)) (h.add fm) ?_
    have hp : 0 < x.2 * (monR sp e.1 (e.2, 1)).2 := Int.mul_pos h.pos fm.pos
    exact (rat_spec (by omega)).2.1
theorem rat1 (a : Int) : rat a 1 = (a, 1) := by
  have g : gS a 1 = 1 := by
    unfold gS
    rw [if_neg (by decide)]
    simp
  unfold rat
  rw [g]
  simp
def monI (pl : Int → Int) (m : Mon) (x : Int) : Int := m.foldl (fun x z => x * pl z.1 ^ z.2.toNat) x
def valI (pl : Int → Int) (t : Tab) (x : Int) : Int := t.foldl (fun f e => f + monI pl e.1 e.2) x
theorem powR1 (x v : Int) : ∀ k, powR (x, 1) (v, 1) k = (x * v ^ k, 1)
  | 0 => by
    show (x, (1 : Int)) = _
    rw [Int.pow_zero, Int.mul_one]
  | k + 1 => by
    show mulR (powR (x, 1) (v, 1) k) (v, 1) = _
    rw [powR1 x v k]
    unfold mulR
    show rat (x * v ^ k * v) (1 * 1) = _
    rw [Int.mul_one, rat1, Int.pow_succ, Int.mul_assoc]
theorem monR1 (pl : Int → Int) : ∀ (m : Mon) (x : Int), monR (fun i => (pl i, 1)) m (x, 1) = (monI pl m x, 1)
  | [], x => rfl
  | z :: m, x => by
    show monR (fun i => (pl i, 1)) m (powR (x, 1) (pl z.1, 1) z.2.toNat) = _
    rw [powR1, monR1 pl m]
    rfl
theorem valR1 (pl : Int → Int) : ∀ (t : Tab) (x : Int), valR (fun i => (pl i, 1)) t (x, 1) = (valI pl t x, 1)
  | [], x => rfl
  | e :: t, x => by
    show valR (fun i => (pl i, 1)) t (addR (x, 1) (monR (fun i => (pl i, 1)) e.1 (e.2, 1))) = _
    rw [monR1]
    unfold addR
    show valR (fun i => (pl i, 1)) t (rat (x * 1 + monI pl e.1 e.2 * 1) (1 * 1)) = _
    rw [Int.mul_one, Int.mul_one, Int.mul_one, rat1, valR1 pl t]
    rfl
theorem powM_mod {p : Int} (hp : 0 ≤ p) {x y : Int} (v : Int) (h : x % p = y % p) : ∀ k, powM p x v k % p = (y * v ^ k) % p
  | 0 => by
    show x % p = _
    rw [Int.pow_zero, Int.mul_one, h]
  | k + 1 => by
    show (powM p x v k * v).fmod p % p = _
    rw [Int.fmod_eq_emod_of_nonneg _ hp, Int.emod_emod_of_dvd _ (Int.dvd_refl p), Int.mul_emod, powM_mod hp v h k, ← Int.mul_emod, Int.pow_succ, Int.mul_assoc]
theorem monM_mod {p : Int} (hp : 0 ≤ p) (pl : Int → Int) : ∀ (m : Mon) {x y : Int}, x % p = y % p → monM p pl m x % p = monI pl m y % p
  | [], x, y, h => h
  | z :: m, x, y, h => monM_mod hp pl m (powM_mod hp (pl z.1) h z.2.toNat)
theorem valM_mod {p : Int} (hp : 0 ≤ p) (pl : Int → Int) (t : Tab) : (valM p pl t).fmod p = (valI pl t 0).fmod p := by
  have key : ∀ (t : Tab) {x y : Int}, x % p = y % p → (t.foldl (fun f e => f + monM p pl e.1 e.2) x) % p = (valI pl t y) % p := fun t => by
    induction t with
    | nil => intro x y h; exact h
    | cons e t ih =>
      intro x y h
      refine ih ?_
      rw [Int.add_emod, h, monM_mod hp pl e.1 rfl, ← Int.add_emod]
  rw [Int.fmod_eq_emod_of_nonneg _ hp, Int.fmod_eq_emod_of_nonneg _ hp]
  exact key t rfl


/-! ints as data -/
theorem sortI_D (l : List Int) : (l.map PyData.int).mergeSort (PySem.W.dataLe false id) = (sortI l).map .int := by
  unfold sortI
  rw [List.map_mergeSort]
  intro a _ b _
  show decide (a ≤ b) = !(PySem.W.dataLt (.int b) (.int a))
  rw [PySem.W.dataLt_int]
  by_cases c : a ≤ b
  · rw [decide_eq_true c, decide_eq_false (by omega)]; rfl
  · rw [decide_eq_false c, decide_eq_true (by omega)]; rfl
theorem canLay_I (l : List Int) : PyData.canLayAll0 (l.map PyData.int) = true := by
  induction l with
  | nil => rfl
  | cons z l ih => exact ih
theorem depthA_I (l : List Int) : PyData.depthAll (l.map PyData.int) ≤ 0 := by
  induction l with
  | nil => exact Nat.le_refl _
  | cons z l ih => exact Nat.max_le.mpr ⟨Nat.le_refl 0, ih⟩
theorem shaped_I (l : List Int) : SeqAt.shaped (.list (l.map .int)) = true := shaped_list (canLay_I l) (depthA_I l) (by decide)
theorem any_I (l : List Int) (a : Int) : ((l.map PyData.int).any fun z => PyData.eqv z (.int a)) = decide (a ∈ l) := by
  induction l with
  | nil => rfl
  | cons x l ih =>
    rw [List.map_cons, List.any_cons, ih]
    show ((x == a) || decide (a ∈ l)) = _
    by_cases c : x = a
    · subst c; simp
    · have c' : a ≠ x := fun z => c z.symm
      simp [c, c']
def letF (l : List Int) (d : D) : Option D := match d with
  | .tuple [.int a, _] => if a ∈ l then none else some (.int a)
  | _ => none
theorem let_fm (l : List Int) (m : Mon) : (m.map enc).filterMap (letF l) = ((m.map (·.1)).filter fun x => decide (x ∉ l)).map .int := by
  induction m with
  | nil => rfl
  | cons z m ih =>
    rw [List.map_cons, List.filterMap_cons, List.map_cons, List.filter_cons]
    have e : letF l (enc z) = if z.1 ∈ l then none else some (.int z.1) := rfl
    rw [e]
    by_cases c : z.1 ∈ l
    · rw [if_pos c, if_neg (by simpa using c)]
      exact ih
    · rw [if_neg c, if_pos (by simpa using c), List.map_cons, ← ih]
theorem encT_nd {t : Tab} (h : Nd t) : ((encT t).map fun e => ND.keyOf e.1).Nodup := by
  unfold encT
  unfold Nd at h
  rw [List.map_map]
  rw [List.Nodup, List.pairwise_map] at h ⊢
  exact h.imp fun n z => n ((key_iff _ _).mp z)
theorem encT_ko (t : Tab) : ∀ e ∈ encT t, KeyOk e.1 := fun e he => by
  obtain ⟨g, _, rfl⟩ := List.mem_map.mp he
  exact keyOk g.1
theorem srtOk_I (l : List Int) : SrtOk (l.map .int) := by
  refine ⟨fun d hd d' hd' => ?_, .inr fun d hd => ?_, fun d hd => ?_⟩
  · obtain ⟨a, _, rfl⟩ := List.mem_map.mp hd
    obtain ⟨b, _, rfl⟩ := List.mem_map.mp hd'
    rfl
  · obtain ⟨a, _, rfl⟩ := List.mem_map.mp hd
    exact ⟨(fun z => nomatch z), (fun _ z => nomatch z)⟩
  · obtain ⟨a, _, rfl⟩ := List.mem_map.mp hd
    exact ⟨rfl, by show 0 ≤ 64; omega⟩


def sha (s : Sl) : Prop := shAt [s] 0
theorem sha.nio {s : Sl} (h : sha s) : nio s := by
  cases s <;> first | trivial | exact h.elim
theorem lets_le {t : Tab} (h : UT t) (i : Nat) : (lets (t.take i)).length ≤ 5 := pig 5 _ (lets_nd _) fun x hx => by
  obtain ⟨e, he, z, hz, rfl⟩ := lets_mem.mp hx
  have := (h.mg e (List.mem_of_mem_take he)).2 z hz
  omega
def exF (n : Int) (d : D) : Option D := some (.int (expo (monD d) n))
theorem ex_fm (n : Int) (t : Tab) : (t.map fun e => encM e.1).filterMap (exF n) = (t.map fun e => expo e.1 n).map .int := by
  induction t with
  | nil => rfl
  | cons e t ih =>
    rw [List.map_cons, List.filterMap_cons, List.map_cons, List.map_cons, ← ih]
    show PyData.int (expo (monD (encM e.1)) n) :: _ = _
    rw [monD_enc]
theorem encI_nd {m : Mon} (h : Asc m) : ((encI m).map (·.1)).Nodup := by
  unfold encI
  rw [List.map_map]
  exact asc_nodup h
def mulF (n : Int) (d : D) : Option D := match d with
  | .tuple [m, .int c] => some (.tuple [m, .int (c * n)])
  | _ => none
def mulT (t : Tab) (n : Int) : Tab := t.map fun e => (e.1, e.2 * n)
theorem mul_fm (n : Int) (t : Tab) : (t.map encE).filterMap (mulF n) = (mulT t n).map encE := by
  induction t with
  | nil => rfl
  | cons e t ih => exact congrArg (encE (e.1, e.2 * n) :: ·) ih
theorem cont_le {t : Tab} (h : UT t) : ∀ i, i ≤ t.length → (contT (t.take i)).natAbs ≤ 2 ^ 114
  | 0, _ => Nat.zero_le _
  | i + 1, hi => by
    obtain ⟨e, he⟩ : ∃ e, t[i]? = some e := ⟨_, List.getElem?_eq_getElem (by omega)⟩
    have hem := List.mem_of_getElem? he
    rw [take_one he, contT_snoc]
    show ((Int.gcd (contT (t.take i)) e.2 : Nat) : Int).natAbs ≤ _
    rw [Int.natAbs_natCast]
    exact Nat.le_trans (Nat.le_of_dvd (by have := h.nz e hem; omega) (Int.gcd_dvd_natAbs_right _ _)) (h.cb e hem)
/-! dicts 0: .., 1: .., .. -/
def rgF : Nat → List D → List (Int × D)
  | _, [] => []
  | k, d :: ds => ((k : Int), d) :: rgF (k + 1) ds
theorem getI_rgF : ∀ (ds : List D) (k j : Nat), getI (rgF k ds) (j : Int) = if j < k then none else ds[j - k]?
  | [], k, j => by
    show (none : Option D) = _
    simp
  | d :: ds, k, j => by
    have ih := getI_rgF ds (k + 1) j
    unfold getI at ih ⊢
    show Option.map _ (List.find? _ (((k : Int), d) :: rgF (k + 1) ds)) = _
    rw [List.find?_cons]
    by_cases c : j = k
    · subst c
      simp
    · have c' : ¬ ((k : Int) = (j : Int)) := by omega
      simp only [c', decide_false]
      rw [ih]
      by_cases l : j < k
      · rw [if_pos (by omega), if_pos l]
      · rw [if_neg (by omega), if_neg l, show j - k = (j - (k + 1)) + 1 by omega, List.getElem?_cons_succ]
theorem rgF_app : ∀ (ds : List D) (k : Nat) (d : D), rgF k (ds ++ [d]) = rgF k ds ++ [(((k + ds.length : Nat) : Int), d)]
  | [], k, d => rfl
  | e :: ds, k, d => by
    show ((k : Int), e) :: rgF (k + 1) (ds ++ [d]) = ((k : Int), e) :: (rgF (k + 1) ds ++ _)
    rw [rgF_app ds (k + 1) d, List.length_cons, show k + 1 + ds.length = k + (ds.length + 1) by omega]
theorem putI_rgF (ds : List D) (d : D) : putI (rgF 0 ds) ((ds.length : Nat) : Int) d = rgF 0 (ds ++ [d]) := by
  unfold putI
  have e : getI (rgF 0 ds) ((ds.length : Nat) : Int) = none := by
    rw [getI_rgF]
    simp
  rw [e, if_neg (by simp), rgF_app]
  simp
theorem rgF_len : ∀ (ds : List D) (k : Nat), (rgF k ds).length = ds.length
  | [], _ => rfl
  | _ :: ds, k => by
    show (rgF (k + 1) ds).length + 1 = _
    rw [rgF_len ds]
    rfl
theorem getI_at {α : Type} (f : α → D) (ds : List α) (z : α) {j : Int} (h0 : 0 ≤ j) (h1 : j < ds.length) : getI (rgF 0 (ds.map f)) j = some (f (ds.getD j.toNat z)) := by
  have e : j = ((j.toNat : Nat) : Int) := by omega
  have hl : j.toNat < ds.length := by omega
  have q := getI_rgF (ds.map f) 0 j.toNat
  rw [← e] at q
  rw [q, if_neg (by omega), Nat.sub_zero, List.getElem?_map, List.getD_eq_getElem?_getD, List.getElem?_eq_getElem hl]
  rfl
theorem UT.tv {t : Tab} (h : UT t) {sp : Int → Int × Int} (hs : ∀ j : Int, 0 ≤ j → j < 5 → Fr 10 (sp j)) : TabV sp t := fun e he => by
  refine ⟨fun z hz => ?_, (h.mon e he).len, Nat.lt_of_le_of_lt (h.cb e he) (by decide)⟩
  have q := (h.mg e he).2 z hz
  exact ⟨hs z.1 q.1 q.2.1, by omega, (h.mon e he).le z hz⟩
theorem fr_rat {a b : Int} (h1 : a.natAbs ≤ 20) (h2 : 0 < b) (h3 : b ≤ 20) : Fr 10 (rat a b) := by
  obtain ⟨q1, _, q3, q4, _⟩ := rat_spec (a := a) (b := b) (by omega)
  have e : (2 : Nat) ^ 10 = 1024 := by decide
  exact ⟨q1, by show (rat a b).1.natAbs < 2 ^ 10; omega, by show (rat a b).2.natAbs < 2 ^ 10; omega⟩
theorem ratio_ok {x : Int × Int} (h : Fr 3900 x) : ∃ L, L ≤ 19000 ∧ x.1.natAbs * x.2.natAbs < 2 ^ L := by
  refine ⟨7800, by decide, ?_⟩
  have h1 : x.1.natAbs < 2 ^ 3900 := h.n
  have h2 : x.2.natAbs < 2 ^ 3900 := h.d
  rw [show (7800 : Nat) = 3900 + 3900 by decide, Nat.pow_add]
  exact Nat.mul_lt_mul'' h1 h2


theorem sml_small {L : Nat} {x : Int} (h : x.natAbs ≤ 1000) : sml (L + 10) x := Nat.lt_of_lt_of_le (show x.natAbs < 2 ^ 10 by have e : (2 : Nat) ^ 10 = 1024 := (by decide); omega) (Nat.pow_le_pow_right (by decide) (by omega))


theorem roomH_mark {k : Nat} {A : Around} (r : Room 8 A) (h : k ≤ 8) (hd : Option Value) : L2H.RoomH k (A.mark hd) := ⟨(r.mono h).dp, (r.mono h).un⟩
theorem qa_tr {X : Cx} {pn : List (Addr × Obj)} {xe : Value → Shared → Prop} {es : List Expr} {ta : DA} (h : QA (X.tr pn xe) es ta) : PA (X.tr pn xe) es (lamA (kx X) ta) := h
theorem qss_su {X : Cx} {a : Addr} {pn : List (Addr × Obj)} {st : List Stmt} {t : DS} (h : QSs (L2H.suiteX X a pn) st t) : PSs (L2H.suiteX X a pn) st (lamS (kx X) t) := h

theorem body_law {P : Program} {w : World} {K : PySem.W.Frag} {mg : Str → Option Value} {base : Heap} (z_dict : mg "dict" = none) (z_list : mg "list" = none) (z_range : mg "range" = none) (z_sorted : mg "sorted" = none) (z_max : mg "max" = none) (z_isinstance : mg "isinstance" = none) (z_bool : mg "bool" = none) (z_len : mg "len" = none) (z_int : mg "int" = none) (C__law_big : Cal P w K mg base "_law_big" 2 (spF ⟨K, P, w⟩ p__law_big)) (C__law_take : Cal P w K mg base "_law_take" 1 (spI ⟨K, P, w⟩ p__law_take)) (C__law_drawn : Cal P w K mg base "_law_drawn" 3 (spI ⟨K, P, w⟩ p__law_drawn)) (C__law_table_sum : Cal P w K mg base "_law_table_sum" 1 (spD ⟨K, P, w⟩ p__law_table_sum)) (C__law_listed : Cal P w K mg base "_law_listed" 1 (spD ⟨K, P, w⟩ p__law_listed)) (C_letters_in : Cal P w K mg base "letters_in" 1 (spD ⟨K, P, w⟩ p_letters_in)) (C_by_letter : Cal P w K mg base "by_letter" 6 (spD ⟨K, P, w⟩ p_by_letter)) (C_degree_in : Cal P w K mg base "degree_in" 2 (spD ⟨K, P, w⟩ p_degree_in)) (C__law_is_poly : Cal P w K mg base "_law_is_poly" 1 (spD ⟨K, P, w⟩ p__law_is_poly)) (C__law_table_product : Cal P w K mg base "_law_table_product" 2 (spD ⟨K, P, w⟩ p__law_table_product)) (C__law_divisor : Cal P w K mg base "_law_divisor" 1 (spD ⟨K, P, w⟩ p__law_divisor)) (C_content : Cal P w K mg base "content" 2 (spD ⟨K, P, w⟩ p_content)) (C_divided : Cal P w K mg base "divided" 1 (spD ⟨K, P, w⟩ p_divided)) (C__law_ratio : Cal P w K mg base "_law_ratio" 2 (spD ⟨K, P, w⟩ p__law_ratio)) (C_value : Cal P w K mg base "value" 4 (spD ⟨K, P, w⟩ p_value)) (C__law_is_ratio : Cal P w K mg base "_law_is_ratio" 2 (spD ⟨K, P, w⟩ p__law_is_ratio)) (C__law_values : Cal P w K mg base "_law_values" 4 (spD ⟨K, P, w⟩ p__law_values)) (C_value_modulo : Cal P w K mg base "value_modulo" 1 (spD ⟨K, P, w⟩ p_value_modulo)) {C5 fD fV fC : Addr} {fdD fdV fdC : FuncData} (T : Cls5 K mg C5) (GD : FnOk P w K mg base (L2N.CX P w) 1 fD fdD ["one", "number"] (spDX ⟨K, P, w⟩ C5)) (gD : mg "divided" = some (.ref fD)) (kD : PySem.W.keepIn K (.ref fD) = true) (bD : Binds K fdD ["one", "number"] []) (GV : L2H.FnH P w K mg base CX0 1 fV fdV ["one", "values"] (spD ⟨K, P, w⟩ p_value0)) (gV : mg "value" = some (.ref fV)) (kV : PySem.W.keepIn K (.ref fV) = true) (bV : Binds K fdV ["one", "values"] []) (GC : L2H.FnH P w K mg base CX0 1 fC fdC ["one"] (spD ⟨K, P, w⟩ p_content0)) (gC : mg "content" = some (.ref fC)) (kC : PySem.W.keepIn K (.ref fC) = true) (bC : Binds K fdC ["one"] []) :
  Body P w K mg base N_law "law" st_law 8 fun ts => ∀ ds R, p_law ds R → ts { nx := fun _ => R .none, rt := fun d _ => R d } (startD N_law ds) := fun f cdv A outer s H E hr => by
  refine ⟨_, (qss_cons (qs_own 1 sc_law.nd (qf_call C__law_big (hr.mono (by decide)) (by rfl) (qa_cons (qe_var 0) (qa_cons qe_int (qa_cons qe_int qa_nil)))))
 (qss_cons (qs_set 2 sc_law.nd (qe_ix (qe_fr (qf_lst (qa_cons qe_int (qa_cons qe_int (qa_cons qe_int (qa_cons (q_neg qe_int) qa_nil)))))) (qe_callI 1 C__law_take (hr.mono (by decide)) (by rfl) (qa_cons qe_int qa_nil))))
 (qss_cons (qs_set 3 sc_law.nd (qe_call C__law_table_sum (hr.mono (by decide)) (by rfl) (qa_cons (qe_frN qn_empN) (qa_cons (qe_callI 1 C__law_drawn (hr.mono (by decide)) (by rfl) (qa_cons qe_int (qa_cons qe_int (qa_cons qe_int qa_nil)))) (qa_cons (qe_var 2) qa_nil)))))
 (qss_cons (qs_set 4 sc_law.nd (qe_call C__law_listed (hr.mono (by decide)) (by rfl) (qa_cons (qe_var 3) qa_nil)))
 (qss_cons (qs_set 3 sc_law.nd (qe_frN (qn_prsN (by rfl) (u16 hr) (by rfl) z_dict (qe_var 4))))
 (qss_cons (qs_set 5 sc_law.nd (qe_fr (f_list (by rfl) z_list (qe_var 4))))
 (qss_cons (qs_set 6 sc_law.nd (qe_fr (qf_lst qa_nil)))
 (qss_cons (qs_for PassesOwn.never (by rfl) (qi_keyN (qe_var 3)) (qg_name 7 sc_law.nd)
 (qss_one (qs_set 6 sc_law.nd (qe_fr (f_catL (qe_var 6) (qe_fr (qf_lc1 8 (by rfl) sc_law.nd (qi_tup (qe_var 7)) (blkOk_by (own := [("entry", 8)]) (N := N_law) (sc := defScope st_law) (by decide +kernel)) (fun _ _ _ _ _ => pg_name (i := 8) sc_law.nd rfl (by first | exact Or.inl rfl | exact Or.inr rfl)) (fun _ _ _ _ _ => (qts_one (t_notin (u65 hr) (qe_ix (qe_var 8) qe_int) (qe_var 6)))) (fun _ _ _ _ _ => (qe_ix (qe_var 8) qe_int)))))))))
 (qss_cons (qs_if (t_ne hr.units (qe_call C_letters_in (hr.mono (by decide)) (by rfl) (qa_cons (qe_var 5) qa_nil)) (qe_fr (f_sort (u80 hr) (by rfl) z_sorted (qe_var 6))))
 (qss_one (qs_ret qe_bl))
 qss_nil)
 (qss_cons (qs_for PassesOwn.never (by rfl) (qi_range1 (by rfl) z_range (qa_cons qe_int qa_nil)) (qg_name 9 sc_law.nd)
 (qss_cons (qs_ownLc 10 7 (by rfl) sc_law.nd (sw_true rfl rfl rfl (by decide +kernel)) (qi_keyN (qe_var 3)) (blkOk_by (own := [("key", 7)]) (N := N_law) (sc := defScope st_law) (by decide +kernel)) (fun _ _ _ _ _ => pg_name (i := 7) sc_law.nd rfl (by first | exact Or.inl rfl | exact Or.inr rfl)) (fun _ _ _ _ _ => qts_nil) (fun _ _ _ _ _ => (q_getI (u16 hr) (qe_frN (qn_prsI (by rfl) (by rfl) z_dict (qe_var 7))) (qe_var 9) qe_int)))
 (qss_fz 10 (qss_cons (qs_set 11 sc_law.nd (q_maxL (by rfl) (by rfl) z_max (qe_fr (f_catL (qe_fr (qf_lst (qa_cons qe_int qa_nil))) (qe_var 10)))))
 (qss_cons (qs_set 12 sc_law.nd (qe_call C_by_letter (hr.mono (by decide)) (by rfl) (qa_cons (qe_var 5) (qa_cons (qe_var 9) qa_nil))))
 (qss_cons (qs_if (qt_bool (qw_or (t_ne hr.units (qe_call C_degree_in (hr.mono (by decide)) (by rfl) (qa_cons (qe_var 5) (qa_cons (qe_var 9) qa_nil))) (qe_var 11)) (qw_or (qt_val (q_isi (by rfl) z_isinstance (by rfl) z_bool (qe_call C_degree_in (hr.mono (by decide)) (by rfl) (qa_cons (qe_var 5) (qa_cons (qe_var 9) qa_nil))))) (qw_or1 (t_ne hr.units (q_len (by rfl) z_len (qa_cons (qe_var 12) qa_nil)) (qe_if (t_ne hr.units (qe_var 4) (qe_fr (qf_lst qa_nil))) (q_add (qe_var 11) qe_int) qe_int))))))
 (qss_one (qs_ret qe_bl))
 qss_nil)
 (qss_cons (qs_set 13 sc_law.nd (qe_frN qn_empN))
 (qss_cons (qs_for PassesOwn.never (by rfl) (qi_range1 (by rfl) z_range (qa_cons (q_len (by rfl) z_len (qa_cons (qe_var 12) qa_nil)) qa_nil)) (qg_name 14 sc_law.nd)
 (qss_cons (qs_if (qt_bool (qw_or (qt_not (qt_val (qe_call C__law_is_poly (hr.mono (by decide)) (by rfl) (qa_cons (qe_ix (qe_var 12) (qe_var 14)) (qa_cons qe_int qa_nil))))) (qw_or1 (t_in (u65 hr) (qe_var 9) (qe_call C_letters_in (hr.mono (by decide)) (by rfl) (qa_cons (qe_ix (qe_var 12) (qe_var 14)) qa_nil))))))
 (qss_one (qs_ret qe_bl))
 qss_nil)
 (qss_cons (qs_set 15 sc_law.nd (qe_if (t_gt hr.units (qe_var 14) qe_int) (qe_tup (qa_cons (qe_tup (qa_cons (qe_var 9) (qa_cons (qe_var 14) qa_nil))) qa_nil)) (qe_tup qa_nil)))
 (qss_one (qs_set 13 sc_law.nd (qe_call C__law_table_sum (hr.mono (by decide)) (by rfl) (qa_cons (qe_var 13) (qa_cons (qe_call C__law_table_product (hr.mono (by decide)) (by rfl) (qa_cons (qe_frN (qn_prsN (by rfl) (u16 hr) (by rfl) z_dict (qe_ix (qe_var 12) (qe_var 14)))) (qa_cons (qe_frN (qn_oneV 15 (u8 hr))) qa_nil))) (qa_cons qe_int qa_nil)))))))))
 (qss_one (qs_if (t_ne hr.units (qe_call C__law_listed (hr.mono (by decide)) (by rfl) (qa_cons (qe_var 13) qa_nil)) (qe_var 4))
 (qss_one (qs_ret qe_bl))
 qss_nil))))))))))
 (qss_cons (qs_set 16 sc_law.nd qe_int)
 (qss_cons (qs_for PassesOwn.never (by rfl) (qi_keyN (qe_var 3)) (qg_name 7 sc_law.nd)
 (qss_one (qs_set 16 sc_law.nd (qe_call C__law_divisor (hr.mono (by decide)) (by rfl) (qa_cons (qe_var 16) (qa_cons (q_ixN (u16 hr) (qe_var 3) (qe_var 7)) qa_nil))))))
 (qss_cons (qs_set 17 sc_law.nd (qe_call C_content (hr.mono (by decide)) (by rfl) (qa_cons (qe_var 5) qa_nil)))
 (qss_cons (qs_if (qt_bool (qw_or (qt_val (q_isi (by rfl) z_isinstance (by rfl) z_bool (qe_var 17))) (qw_or1 (t_ne hr.units (qe_var 17) (qe_var 16)))))
 (qss_one (qs_ret qe_bl))
 qss_nil)
 (qss_cons (qs_set 18 sc_law.nd (qe_ix (qe_fr (qf_lst (qa_cons qe_int (qa_cons (q_neg qe_int) (qa_cons qe_int (qa_cons qe_int qa_nil)))))) (qe_callI 1 C__law_take (hr.mono (by decide)) (by rfl) (qa_cons qe_int qa_nil))))
 (qss_cons (qs_ownLc2 19 7 8 (by decide) (by rfl) sc_law.nd (sw_true rfl rfl rfl (by decide +kernel)) (qi_list (qe_var 4)) (blkOk_by (own := [("key", 7), ("entry", 8)]) (N := N_law) (sc := defScope st_law) (by decide +kernel)) (fun _ _ _ _ _ => pg_tup (by rfl) (pgs_cons (pg_name (i := 7) sc_law.nd rfl (by first | exact Or.inl rfl | exact Or.inr rfl)) (pgs_cons (pg_name (i := 8) sc_law.nd rfl (by first | exact Or.inl rfl | exact Or.inr rfl)) pgs_nil))) (fun _ _ _ _ _ => qts_nil) (fun _ _ _ _ _ => (qe_tup (qa_cons (qe_var 7) (qa_cons (q_mul (qe_var 8) (qe_var 18)) qa_nil)))))
 (qss_fz 19 (qss_cons (qs_if (t_ne hr.units (qe_call C_divided (hr.mono (by decide)) (by rfl) (qa_cons (qe_var 19) (qa_cons (qe_var 18) qa_nil))) (qe_var 4))
 (qss_one (qs_ret qe_bl))
 qss_nil)
 (qss_cons (qs_ownN 20 sc_law.nd qn_empI)
 (qss_cons (qs_for PassesOwn.never (by rfl) (qi_range1 (by rfl) z_range (qa_cons qe_int qa_nil)) (qg_name 14 sc_law.nd)
 (qss_one (qs_putI 20 (u16 hr) (qe_call C__law_ratio (hr.mono (by decide)) (by rfl) (qa_cons (q_sub (qe_callI 1 C__law_take (hr.mono (by decide)) (by rfl) (qa_cons qe_int qa_nil)) qe_int) (qa_cons (q_add qe_int (qe_callI 1 C__law_take (hr.mono (by decide)) (by rfl) (qa_cons qe_int qa_nil))) qa_nil))) (qe_var 14))))
 (qss_fzD 20 (qss_cons (qs_set 17 sc_law.nd (qe_call C_value (hr.mono (by decide)) (by rfl) (qa_cons (qe_var 5) (qa_cons (qe_var 20) qa_nil))))
 (qss_cons (qs_if (qt_bool (qw_or (qt_not (qt_val (qe_call C__law_is_ratio (hr.mono (by decide)) (by rfl) (qa_cons (qe_var 17) qa_nil)))) (qw_or1 (t_ne hr.units (qe_var 17) (qe_call C__law_values (hr.mono (by decide)) (by rfl) (qa_cons (qe_var 3) (qa_cons (qe_var 20) qa_nil)))))))
 (qss_one (qs_ret qe_bl))
 qss_nil)
 (qss_cons (qs_set 21 sc_law.nd (qe_ix (qe_fr (qf_lst (qa_cons qe_int (qa_cons qe_int (qa_cons qe_int (qa_cons qe_int qa_nil)))))) (qe_callI 1 C__law_take (hr.mono (by decide)) (by rfl) (qa_cons qe_int qa_nil))))
 (qss_cons (qs_ownN 13 sc_law.nd qn_empI)
 (qss_cons (qs_for PassesOwn.never (by rfl) (qi_range1 (by rfl) z_range (qa_cons qe_int qa_nil)) (qg_name 14 sc_law.nd)
 (qss_one (qs_putI 13 (u16 hr) (qe_tup (qa_cons (qe_callI 1 C__law_take (hr.mono (by decide)) (by rfl) (qa_cons qe_int qa_nil)) (qa_cons qe_int qa_nil))) (qe_var 14))))
 (qss_fzD 13 (qss_cons (qs_ownN 22 sc_law.nd qn_empI)
 (qss_cons (qs_for PassesOwn.never (by rfl) (qi_range1 (by rfl) z_range (qa_cons qe_int qa_nil)) (qg_name 14 sc_law.nd)
 (qss_one (qs_putI 22 (u16 hr) (qe_ix (q_ixI (u16 hr) (qe_var 13) (qe_var 14)) qe_int) (qe_var 14))))
 (qss_fzD 22 (qss_cons (qs_set 17 sc_law.nd (qe_call C_value_modulo (hr.mono (by decide)) (by rfl) (qa_cons (qe_var 5) (qa_cons (qe_var 22) (qa_cons (qe_var 21) qa_nil)))))
 (qss_cons (qs_if (qt_bool (qw_or (qt_val (q_isi (by rfl) z_isinstance (by rfl) z_bool (qe_var 17))) (qw_or (t_ne hr.units (qe_var 17) (q_mod (q_int (by rfl) z_int (qa_cons (qe_ix (qe_call C__law_values (hr.mono (by decide)) (by rfl) (qa_cons (qe_var 3) (qa_cons (qe_var 13) qa_nil))) qe_int) qa_nil)) (qe_var 21))) (qw_or1 (t_ne hr.units (qe_var 5) (qe_var 4))))))
 (qss_one (qs_ret qe_bl))
 qss_nil)
 (qss_raw2 (pss_cons (L2H.ps_try_onlyX (Wout := fun _ _ _ _ => False) rfl rfl ⟨rfl, by decide, Or.inl T.g5⟩ (fun _ _ _ z => z.elim) takes0 (fun W pn xe tkN _ _ => pss_one (ps_expr (pe_callS GD (hr.mono (by decide)) rfl gD kD bD (fun σ => L2N.passAt tkN σ) (qa_tr (qa_cons (qe_var 5) (qa_cons qe_int qa_nil)))))) (fun a oe cls d pn hz hf tk hot => qss_su (qss_one (qs_ret (qe_and (X := L2H.suiteX _ a ((a, oe) :: pn)) (q_eq (X := L2H.suiteX _ a ((a, oe) :: pn)) hr.units (qe_callH GV (roomH_mark (k := 1) hr (by decide) _) hot (by rfl) gV kV bV (qa_cons (qe_fr (qf_lst qa_nil)) (qa_cons (qe_frN qn_empN) qa_nil))) (qe_tup (qa_cons qe_int (qa_cons qe_int qa_nil)))) (qe_one (q_eq (X := L2H.suiteX _ a ((a, oe) :: pn)) hr.units (qe_callH GC (roomH_mark (k := 1) hr (by decide) _) hot (by rfl) gC kC bC (qa_cons (qe_fr (qf_lst qa_nil)) qa_nil)) qe_int))))))) (pss_one (ps_ret pe_bl)))))))))))))))))))))))))))))))))))), ?_⟩
  intro ds R h
  obtain ⟨ns, rfl, hR⟩ := h
  have hl := big_le
  refine ⟨ns, 0, 60, rfl, by decide, fun c hc => ⟨trivial, ?_⟩⟩
  dsimp only
  refine seq_join (fun ρ => ∃ c1 f : Int, ρ = [.sh (.list (ns.map .int)), .ol [.int c1], .sh (.int f), .no, .no, .no, .no, .no, .no, .no, .no, .no, .no, .no, .no, .no, .no, .no, .no, .no, .no, .no, .no] ∧ 0 ≤ c1 ∧ f.natAbs ≤ 10) ?_ (fun key => ?_)
  case refine_2 =>
    refine ⟨sl4, rfl, _, rfl, c, 4, rfl, rfl, by decide, by decide, hc, fun x c1 x0 x1 hc1 => ?_⟩
    have cs : x = 0 ∨ x = 1 ∨ x = 2 ∨ x = 3 := by omega
    rcases cs with rfl | rfl | rfl | rfl
    · exact ⟨.int 1, rfl, trivial, key _ ⟨c1, 1, rfl, hc1, by decide⟩⟩
    · exact ⟨.int 1, rfl, trivial, key _ ⟨c1, 1, rfl, hc1, by decide⟩⟩
    · exact ⟨.int 6, rfl, trivial, key _ ⟨c1, 6, rfl, hc1, by decide⟩⟩
    · exact ⟨.int (-10), rfl, trivial, key _ ⟨c1, -10, rfl, hc1, by decide⟩⟩
  clear hc c
  rintro _ ⟨c1, f, rfl, hc1, hf⟩
  have tnil : TabOk [] := ⟨Nat.zero_le _, List.nodup_nil, fun e h => nomatch h⟩
  have hnil : HashOk [] := hash_ok List.nodup_nil fun e h => nomatch h
  refine seq_go ?_
  refine ⟨rfl, _, rfl, c1, 12, rfl, rfl, hc1, by decide, by decide, fun b c2 hb hc2 => ?_⟩
  refine ⟨[], b, f, rfl, tnil, hb.tab, Nat.zero_le _, by have := hb.len; omega, hnil, by omega, by omega, trivial, ?_⟩
  dsimp only
  refine seq_go ⟨ltsum [] b f, rfl, (ltsum_good tnil hb.tab).ok (by rw [List.length_nil]; have := hb.len; omega), trivial, ?_⟩
  dsimp only
  have hU : UT (listed (ltsum [] b f)) := UT.of hb hf
  generalize listed (ltsum [] b f) = t at hU ⊢
  have lt6 := hU.len
  refine seq_go ⟨encT t, by rw [prsN_enc]; rfl, encT_ko t, encT_nd hU.nd, trivial, ?_⟩
  dsimp only
  refine seq_go ⟨t.map encE, rfl, trivial, ?_⟩
  dsimp only
  refine seq_go ⟨sl0, trivial, ?_⟩
  dsimp only
  -- the letters
  refine seq_go ?_
  refine ⟨encT t, rfl, isND_enc t, fun i ρ => ∃ s7 : Sl, ρ = [.sh (.list (ns.map .int)), .ol [.int c2], .sh (.int f), .sh (.dict (encT t)), .sh (encP t), .sh (encP t), .sh (.list ((lets (t.take i)).map .int)), s7, .no, .no, .no, .no, .no, .no, .no, .no, .no, .no, .no, .no, .no, .no, .no] ∧ sha s7, ⟨.no, rfl, trivial⟩, ?_, ?_⟩
  · rintro i d ρ hi ⟨s7, rfl, k7⟩
    obtain ⟨e, he, rfl⟩ := encT_at hi
    have hem := List.mem_of_getElem? he
    refine ⟨k7.nio, ?_⟩
    refine asg_go (fr_go (catL_go (var_go rfl (fr_go ?_))))
    refine lc_fm (e.1.map enc) (letF (lets (t.take i))) (fun K h => h) (sh1 (by exact trivial)) (by rw [List.length_map]; have := (hU.mon e hem).len; omega) ?_ ?_
    · intro d hd Y Z hY hZ
      obtain ⟨z, _, rfl⟩ := List.mem_map.mp hd
      refine ⟨trivial, .int z.1, rfl, rfl, shaped_I _, _, rfl, fun hq => ⟨.int z.1, rfl, hY _ _ ?_ (sh1 (by exact trivial)) rfl⟩, fun hq => hZ _ ?_ (sh1 (by exact trivial)) rfl⟩
      · have hq' : (!(((lets (t.take i)).map PyData.int).any fun y => PyData.eqv y (.int z.1))) = true := hq
        rw [any_I] at hq'
        have c : z.1 ∉ lets (t.take i) := by simpa using hq'
        exact if_neg c
      · have hq' : (!(((lets (t.take i)).map PyData.int).any fun y => PyData.eqv y (.int z.1))) = false := hq
        rw [any_I] at hq'
        have c : z.1 ∈ lets (t.take i) := by simpa using hq'
        exact if_pos c
    rw [let_fm]
    refine ⟨_, _, rfl, rfl, ?_, trivial, .sh (encM e.1), ?_, trivial⟩
    · have h1 := lets_le hU i
      have h2 := List.length_filter_le (fun x => decide (x ∉ lets (t.take i))) (e.1.map (·.1))
      have h3 := (hU.mon e hem).len
      rw [List.length_map] at h2
      rw [List.length_map, List.length_map]
      omega
    · have q := insM_filter (m := e.1) (lets (t.take i)) (asc_nodup (hU.mg e hem).1)
      rw [take_one he, lets_snoc, q, List.map_append]
      rfl
  rintro _ ⟨s7, rfl, k7⟩
  rw [List.length_map, encT_len, List.take_length]
  dsimp only
  refine seq_go ⟨t, rfl, fun e he z hz => by have q := (hU.mg e he).2 z hz; exact ⟨q.1, q.2.1⟩, _, rfl, srtOk_I _, shaped_I _, by rw [sortI_D]; exact shaped_I _, false, ?_, (fun z => nomatch z), fun _ => ?_⟩
  · rw [sortI_D]
    show PyData.bool (!PyData.eqv (.list ((sortI (lets t)).map .int)) (.list ((sortI (lets t)).map .int))) = _
    rw [eqv_sh (shaped_I _)]
    rfl
  try unfold dNext
  dsimp only
  -- the rows by each letter
  refine seq_go ?_
  refine ⟨5, rfl, by decide, by decide, fun i ρ => ∃ s7 s9 s10 s11 s12 s13 s14 s15 : Sl, ρ = [.sh (.list (ns.map .int)), .ol [.int c2], .sh (.int f), .sh (.dict (encT t)), .sh (encP t), .sh (encP t), .sh (.list ((lets t).map .int)), s7, .no, s9, s10, s11, s12, s13, s14, s15, .no, .no, .no, .no, .no, .no, .no] ∧ sha s7 ∧ nio s9 ∧ nio s10 ∧ nio s11 ∧ nio s12 ∧ nio s13 ∧ nio s14 ∧ nio s15, ⟨s7, .no, .no, .no, .no, .no, .no, .no, rfl, k7, trivial, trivial, trivial, trivial, trivial, trivial, trivial⟩, ?_, ?_⟩
  · clear k7 s7
    rintro i d ρ hi ⟨s7, s9, s10, s11, s12, s13, s14, s15, rfl, k7, k9, k10, k11, k12, k13, k14, k15⟩
    obtain ⟨hi', rfl⟩ := rgD_at hi
    obtain ⟨n, hn⟩ : ∃ n : Int, n = 0 + (i : Int) := ⟨_, rfl⟩
    rw [← hn]
    have n0 : 0 ≤ n := by omega
    have n5 : n < 5 := by have : i < 5 := hi'; omega
    refine ⟨k9, ?_⟩
    refine seq_go (own_go ?_)
    refine lc_fm (t.map fun e => encM e.1) (exF n) (fun K h => ⟨encT t, rfl, isND_enc t, by rw [encT_keys]; exact h⟩) (sh1 (by exact k7)) (by rw [List.length_map]; omega) ?_ ?_
    · intro d hd Y Z hY hZ
      obtain ⟨e, he, rfl⟩ := List.mem_map.mp hd
      refine ⟨trivial, fun _ => ⟨encI e.1, by rw [prs_I]; rfl, encI_nd (hU.mg e he).1, ⟨_, rfl⟩, _, n, rfl, rfl, hY _ _ ?_ (sh1 (by exact trivial)) rfl⟩, fun h => nomatch h⟩
      rw [getI_D]
      show some (PyData.int (expo (monD (encM e.1)) n)) = _
      rw [monD_enc]
      rfl
    rw [ex_fm]
    refine ⟨k10, ?_⟩
    dsimp only
    refine fz_go rfl (seq_go ?_)
    obtain ⟨q1, q2⟩ := maxZ_ok (t.map fun e => expo e.1 n) 0
    refine ⟨sl1, [.int 0], _, rfl, rfl, by rw [List.length_map, List.length_map]; simp only [List.length_cons, List.length_nil]; omega, 0 :: t.map fun e => expo e.1 n, _, rfl, q1, q2, k11, ?_⟩
    dsimp only
    refine seq_go ⟨t, n, rfl, hU.tab, fun e he => expo_ok (hU.mon e he) n, k12, ?_⟩
    dsimp only
    have rl := rows_len (n := n) hU
    have r5 := rows_le (n := n) hU
    refine seq_join (fun ρ => ρ = [.sh (.list (ns.map .int)), .ol [.int c2], .sh (.int f), .sh (.dict (encT t)), .sh (encP t), .sh (encP t), .sh (.list ((lets t).map .int)), .no, .no, .sh (.int n), .sh (.list ((t.map fun e => expo e.1 n).map .int)), .sh (.int (maxZ (t.map fun e => expo e.1 n) 0)), .sh (.list ((rowsT t n).map fun r => encP (listed r))), s13, s14, s15, .no, .no, .no, .no, .no, .no, .no]) ?_ (fun key => ?_)
    case refine_2 =>
      refine ⟨t, n, rfl, by omega, false, by rw [beq_self_eq_true]; rfl, (fun z => nomatch z), fun _ => ⟨t, n, rfl, by omega, false, (fun z h => nomatch h), kitIB, false, rfl, (fun z => nomatch z), fun _ => ?_⟩⟩
      refine ⟨sl0, shaped_P t, rfl, _, rfl, fun hb => ?_, fun hb => ?_⟩
      · have ne : t ≠ [] := fun z => by rw [z] at hb; cases hb
        rw [if_neg ne] at rl
        refine ⟨false, ?_, (fun z => nomatch z), fun _ => key _ rfl⟩
        rw [List.length_map, rl, beq_self_eq_true]
        rfl
      · have eq : t = [] := by
          cases t with
          | nil => rfl
          | cons e t => cases hb
        rw [if_pos eq] at rl
        refine ⟨false, ?_, (fun z => nomatch z), fun _ => key _ rfl⟩
        rw [List.length_map, rl]
        rfl
    rintro _ rfl
    refine seq_go ⟨k13, ?_⟩
    dsimp only
    refine seq_go ?_
    refine ⟨_, rfl, by omega, by rw [List.length_map]; omega, fun k ρ => k ≤ (rowsT t n).length ∧ ∃ s14 s15 : Sl, ρ = [.sh (.list (ns.map .int)), .ol [.int c2], .sh (.int f), .sh (.dict (encT t)), .sh (encP t), .sh (encP t), .sh (.list ((lets t).map .int)), .no, .no, .sh (.int n), .sh (.list ((t.map fun e => expo e.1 n).map .int)), .sh (.int (maxZ (t.map fun e => expo e.1 n) 0)), .sh (.list ((rowsT t n).map fun r => encP (listed r))), .sh (.dict (encT (wholeT n t k))), s14, s15, .no, .no, .no, .no, .no, .no, .no] ∧ nio s14 ∧ nio s15, ⟨Nat.zero_le _, s14, s15, rfl, k14, k15⟩, ?_, ?_⟩
    · clear k14 k15 s14 s15
      rintro k d ρ hk ⟨_, s14, s15, rfl, k14, k15⟩
      obtain ⟨hk', rfl⟩ := rgD_at hk
      rw [List.length_map] at hk'
      have hkl : k < (rowsT t n).length := by omega
      have ea : atI ((rowsT t n).map fun r => encP (listed r)) (0 + (k : Int)) = some (encP (rowL n t k)) := by
        rw [Int.zero_add, atI_nat, List.getElem?_map, row_at hU hkl]
        rfl
      have rL := row_L (n := n) hU k
      have wL := whole_L (n := n) hU k (by omega)
      have pL := part_L (n := n) hU k
      refine ⟨k14, ?_⟩
      refine seq_go ⟨encP (rowL n t k), ea, rowL n t k, 5, rfl, by have := rL.len; omega, fun e he => by have := rL.mb e he; omega, fun e he z hz => ((rL.mg e he).2 z hz).2.1, true, by rw [rL.pol], (fun z => nomatch z), fun _ => ⟨encP (rowL n t k), ea, rowL n t k, rfl, fun e he z hz => by have q := (rL.mg e he).2 z hz; exact ⟨q.1, q.2.1⟩, rfl, shaped_I _, false, ?_, (fun z => nomatch z), fun _ => ?_⟩⟩
      · show PyData.bool (((sortI (lets (rowL n t k))).map PyData.int).any fun z => PyData.eqv z (.int n)) = _
        rw [any_I, decide_eq_false fun z => rL.no ((sortI_ok _).1.mem_iff.mp z)]
      try unfold dNext
      dsimp only
      refine seq_join (fun ρ => ρ = [.sh (.list (ns.map .int)), .ol [.int c2], .sh (.int f), .sh (.dict (encT t)), .sh (encP t), .sh (encP t), .sh (.list ((lets t).map .int)), .no, .no, .sh (.int n), .sh (.list ((t.map fun e => expo e.1 n).map .int)), .sh (.int (maxZ (t.map fun e => expo e.1 n) 0)), .sh (.list ((rowsT t n).map fun r => encP (listed r))), .sh (.dict (encT (wholeT n t k))), .sh (.int (0 + (k : Int))), .sh (encM (pw n k)), .no, .no, .no, .no, .no, .no, .no]) ?_ (fun key => ?_)
      case refine_2 =>
        refine ⟨_, rfl, fun hb => ⟨sl2, sl1, k15, ?_⟩, fun hb => ⟨sl0, k15, ?_⟩⟩
        · have hb' : decide (0 + (k : Int) > 0) = true := hb
          have h0 := of_decide_eq_true hb'
          have e : pw n k = [(n, 0 + (k : Int))] := by
            unfold pw
            rw [if_pos (by omega), Int.zero_add]
          dsimp only
          refine key _ ?_
          rw [e]
          rfl
        · have hb' : decide (0 + (k : Int) > 0) = false := hb
          have h0 := of_decide_eq_false hb'
          have e : pw n k = [] := by
            unfold pw
            rw [if_neg (by omega)]
          dsimp only
          refine key _ ?_
          rw [e]
          rfl
      rintro _ rfl
      have pg := pw_mg n0 n5 k
      have p1 : TabOk [(pw n k, 1)] := ⟨by rw [List.length_singleton]; omega, by unfold Nd; simp, fun e he => by have := pw1_mb e he; omega⟩
      have tw : TabOk (wholeT n t k) := ⟨by have := wL.len; omega, wL.nd, fun e he => by have := (wL.mon e he).len; omega⟩
      have tp : TabOk (partT n t k) := ⟨by have := pL.len; omega, pL.nd, fun e he => by have := (pL.mon e he).len; omega⟩
      refine ⟨encP (rowL n t k), ea, encT (rowL n t k), by rw [prsN_enc]; rfl, encT_ko _, encT_nd rL.tab.nd, encM (pw n k), rfl, keyOk _, rowL n t k, [(pw n k, 1)], rfl, rL.tab, p1, fun e he => by have := rL.mb e he; omega, fun e he => by have := pw1_mb e he; omega, by have := rL.len; rw [List.length_singleton]; omega, rL.sm, fun e he => by rw [List.mem_singleton.mp he]; exact sm_of (n := 1) (show (1 : Int).natAbs ≤ 2 ^ 1 by decide) (by decide), fun e he => (rL.mg e he).1, fun e he => by rw [List.mem_singleton.mp he]; exact pg.1, wholeT n t k, partT n t k, 1, rfl, tw, tp, by have := wL.len; omega, by have := pL.len; omega, hash_ok wL.nd wL.mon, by decide, by decide, trivial, hkl, .sh (.int (0 + (k : Int))), .sh (encM (pw n k)), rfl, trivial, trivial⟩
    clear k14 k15 s14 s15
    rintro _ ⟨_, s14, s15, rfl, k14, k15⟩
    have wL := whole_L (n := n) hU (rowsT t n).length (by omega)
    have tw : TabOk (wholeT n t (rowsT t n).length) := ⟨by have := wL.len; omega, wL.nd, fun e he => by have := (wL.mon e he).len; omega⟩
    have eN : (rgD 0 ((((rowsT t n).map fun r => encP (listed r)).length : Nat) : Int).toNat).length = (rowsT t n).length := by
      rw [rgD_len, List.length_map]
      omega
    rw [eN]
    refine ⟨wholeT n t (rowsT t n).length, rfl, tw, shaped_P _, shaped_P _, false, ?_, (fun z => nomatch z), fun _ => ?_⟩
    · rw [whole_end hU]
      show PyData.bool (!PyData.eqv (encP t) (encP t)) = _
      rw [eqv_sh (shaped_P _)]
      rfl
    exact ⟨.no, _, _, _, _, _, s14, s15, rfl, trivial, trivial, trivial, trivial, trivial, trivial, k14, k15⟩
  clear k7 s7
  rintro _ ⟨s7, s9, s10, s11, s12, s13, s14, s15, rfl, k7, k9, k10, k11, k12, k13, k14, k15⟩
  dsimp only
  -- the content
  refine seq_go ⟨trivial, ?_⟩
  dsimp only
  refine seq_go ?_
  refine ⟨encT t, rfl, isND_enc t, fun i ρ => ∃ s7 : Sl, ρ = [.sh (.list (ns.map .int)), .ol [.int c2], .sh (.int f), .sh (.dict (encT t)), .sh (encP t), .sh (encP t), .sh (.list ((lets t).map .int)), s7, .no, s9, s10, s11, s12, s13, s14, s15, .sh (.int (contT (t.take i))), .no, .no, .no, .no, .no, .no] ∧ sha s7, ⟨s7, rfl, k7⟩, ?_, ?_⟩
  · clear k7 s7
    rintro i d ρ hi ⟨s7, rfl, k7⟩
    obtain ⟨e, he, rfl⟩ := encT_at hi
    have hem := List.mem_of_getElem? he
    have hil : i < t.length := (List.getElem?_eq_some_iff.mp he).1
    refine ⟨k7.nio, ?_⟩
    refine ⟨encT t, .int e.2, rfl, keyOk _, getN_some (tget_mem hU.nd hem), contT (t.take i), e.2, rfl, ⟨300, by decide, ?_⟩, trivial, .sh (encM e.1), ?_, trivial⟩
    · have h1 := cont_le hU i (by omega)
      have h2 := hU.cb e hem
      exact Nat.lt_of_le_of_lt (Nat.mul_le_mul h1 h2) (by decide)
    · rw [take_one he, contT_snoc]
      rfl
  clear k7 s7
  rintro _ ⟨s7, rfl, k7⟩
  rw [List.length_map, encT_len, List.take_length]
  dsimp only
  refine seq_go ⟨t, rfl, trivial, ?_⟩
  dsimp only
  refine seq_go ⟨false, (fun z h => nomatch h), kitIB, false, rfl, (fun z => nomatch z), fun _ => ⟨false, by rw [beq_self_eq_true]; rfl, (fun z => nomatch z), fun _ => ?_⟩⟩
  try unfold dNext
  dsimp only
  -- many
  refine seq_join (fun ρ => ∃ c3 q : Int, ρ = [.sh (.list (ns.map .int)), .ol [.int c3], .sh (.int f), .sh (.dict (encT t)), .sh (encP t), .sh (encP t), .sh (.list ((lets t).map .int)), s7, .no, s9, s10, s11, s12, s13, s14, s15, .sh (.int (contT t)), .sh (.int (contT t)), .sh (.int q), .no, .no, .no, .no] ∧ 0 ≤ c3 ∧ q ≠ 0 ∧ q.natAbs ≤ 3) ?_ (fun key => ?_)
  case refine_2 =>
    refine ⟨sl4, rfl, _, rfl, c2, 4, rfl, rfl, by decide, by decide, hc2, fun x c3 x0 x1 hc3 => ?_⟩
    have cs : x = 0 ∨ x = 1 ∨ x = 2 ∨ x = 3 := by omega
    rcases cs with rfl | rfl | rfl | rfl
    · exact ⟨.int 1, rfl, trivial, key _ ⟨c3, 1, rfl, hc3, by decide, by decide⟩⟩
    · exact ⟨.int (-1), rfl, trivial, key _ ⟨c3, -1, rfl, hc3, by decide, by decide⟩⟩
    · exact ⟨.int 2, rfl, trivial, key _ ⟨c3, 2, rfl, hc3, by decide, by decide⟩⟩
    · exact ⟨.int 3, rfl, trivial, key _ ⟨c3, 3, rfl, hc3, by decide, by decide⟩⟩
  rintro _ ⟨c3, q, rfl, hc3, hq0, hq3⟩
  refine seq_go (own_go ?_)
  refine lc_fm (t.map encE) (mulF q) (fun K h => h) (sh2 (by exact k7) (by exact trivial)) (by rw [List.length_map]; omega) ?_ ?_
  · intro d hd Y Z hY hZ
    obtain ⟨e, he, rfl⟩ := List.mem_map.mp hd
    exact ⟨_, _, rfl, trivial, trivial, fun _ => ⟨cmR (by omega) (by omega), sl2, hY _ _ rfl (sh2 (by exact trivial) (by exact trivial)) rfl⟩, fun h => nomatch h⟩
  rw [mul_fm]
  refine ⟨trivial, ?_⟩
  dsimp only
  refine fz_go rfl (seq_go ?_)
  have hqs : sml 100 q := Nat.lt_of_le_of_lt hq3 (by decide)
  refine ⟨mulT t q, q, rfl, hq0, hqs, by unfold mulT; rw [List.length_map]; omega, shaped_P _, shaped_P _, false, ?_, (fun z => nomatch z), fun _ => ?_⟩
  · rw [show divT (mulT t q) q = t from div_back hq0 t]
    show PyData.bool (!PyData.eqv (encP t) (encP t)) = _
    rw [eqv_sh (shaped_P _)]
    rfl
  try unfold dNext
  dsimp only
  -- spots
  refine seq_go ⟨trivial, ?_⟩
  dsimp only
  refine seq_go ?_
  refine ⟨5, rfl, by decide, by decide, fun i ρ => ∃ (c4 : Int) (sps : List (Int × Int)) (s14b : Sl), ρ = [.sh (.list (ns.map .int)), .ol [.int c4], .sh (.int f), .sh (.dict (encT t)), .sh (encP t), .sh (encP t), .sh (.list ((lets t).map .int)), .no, .no, s9, s10, s11, s12, s13, s14b, s15, .sh (.int (contT t)), .sh (.int (contT t)), .sh (.int q), .sh (encP (mulT t q)), .od (.ik (rgF 0 (sps.map enc))), .no, .no] ∧ 0 ≤ c4 ∧ sps.length = i ∧ (∀ x ∈ sps, Fr 10 x) ∧ nio s14b, ⟨c3, [], s14, rfl, hc3, rfl, (fun x h => nomatch h), k14⟩, ?_, ?_⟩
  · rintro i d ρ hi ⟨c4, sps, s14b, rfl, hc4, hls, hfs, k14b⟩
    obtain ⟨hi', rfl⟩ := rgD_at hi
    refine ⟨k14b, rfl, _, rfl, c4, 21, rfl, rfl, by decide, by decide, hc4, fun x c5 x0 x1 hc5 => ?_⟩
    refine ⟨rfl, _, rfl, c5, 6, rfl, rfl, by decide, by decide, hc5, fun y c6 y0 y1 hc6 => ?_⟩
    have fr := fr_rat (a := x - 10) (b := 1 + y) (by omega) (by omega) (by omega)
    refine ⟨x - 10, 1 + y, rfl, by omega, sml_small (L := 7990) (by omega), sml_small (L := 7990) (by omega), ⟨_, rfl⟩, rgF 0 (sps.map enc), 0 + (i : Int), rfl, rfl, ?_, c6, sps ++ [rat (x - 10) (1 + y)], .sh (.int (0 + (i : Int))), ?_, hc6, ?_, ?_, trivial⟩
    · rw [rgF_len, List.length_map, hls]
      have : i < 5 := hi'
      omega
    · have e := putI_rgF (sps.map enc) (enc (rat (x - 10) (1 + y)))
      rw [List.length_map, hls] at e
      rw [Int.zero_add, List.map_append, List.map_singleton, ← e]
      rfl
    · rw [List.length_append, hls]; rfl
    · intro z hz
      rcases List.mem_append.mp hz with hz | hz
      · exact hfs z hz
      · rw [List.mem_singleton.mp hz]; exact fr
  rintro _ ⟨c4, sps, s14b, rfl, hc4, hls, hfs, k14b⟩
  dsimp only
  refine fzD_go rfl (seq_go ?_)
  have hls5 : sps.length = 5 := by rw [hls, rgD_len]; rfl
  clear hls
  obtain ⟨sp, hsp⟩ : ∃ sp : Int → Int × Int, sp = fun j => sps.getD j.toNat (0, 1) := ⟨_, rfl⟩
  have hfr : ∀ j : Int, 0 ≤ j → j < 5 → Fr 10 (sp j) := fun j j0 j1 => by
    rw [hsp]
    show Fr 10 (sps.getD j.toNat (0, 1))
    rw [List.getD_eq_getElem?_getD, List.getElem?_eq_getElem (show j.toNat < sps.length by omega)]
    exact hfs _ (List.getElem_mem _)
  have tv := hU.tv hfr
  have hk : ∀ e ∈ t, ∀ z ∈ e.1, getI (rgF 0 (sps.map enc)) z.1 = some (enc (sp z.1)) := fun e he z hz => by
    have m := (hU.mg e he).2 z hz
    rw [hsp]
    exact getI_at enc sps (0, 1) m.1 (by omega)
  refine ⟨t, sp, rgF 0 (sps.map enc), rfl, tv, lt6, hk, trivial, ?_⟩
  dsimp only
  have fv := (Fr.val tv fr01).mono (show 1 + 321 * t.length ≤ 3900 by omega)
  refine seq_go ⟨(valR sp t (0, 1)).1, (valR sp t (0, 1)).2, rfl, fv.pos, ratio_ok fv, gcd_valR tv fr01 (by decide), true, rfl, (fun z => nomatch z), fun _ => ⟨t, sp, rgF 0 (sps.map enc), rfl, hU.nd, tv, lt6, hk, rfl, rfl, false, ?_, (fun z => nomatch z), fun _ => ?_⟩⟩
  · show PyData.bool (!PyData.eqv (enc (valR sp t (0, 1))) (enc (valR sp t (0, 1)))) = _
    rw [eqv_sh rfl]
    rfl
  try unfold dNext
  dsimp only
  -- the prime
  refine seq_join (fun ρ => ∃ c5 p : Int, ρ = [.sh (.list (ns.map .int)), .ol [.int c5], .sh (.int f), .sh (.dict (encT t)), .sh (encP t), .sh (encP t), .sh (.list ((lets t).map .int)), .no, .no, s9, s10, s11, s12, s13, s14b, s15, .sh (.int (contT t)), .sh (enc (valR sp t (0, 1))), .sh (.int q), .sh (encP (mulT t q)), .sh (.dict (tagI (rgF 0 (sps.map enc)))), .sh (.int p), .no] ∧ 0 ≤ c5 ∧ 0 < p) ?_ (fun key => ?_)
  case refine_2 =>
    refine ⟨sl4, rfl, _, rfl, c4, 4, rfl, rfl, by decide, by decide, hc4, fun x c5 x0 x1 hc5 => ?_⟩
    have cs : x = 0 ∨ x = 1 ∨ x = 2 ∨ x = 3 := by omega
    rcases cs with rfl | rfl | rfl | rfl
    · exact ⟨.int 2, rfl, trivial, key _ ⟨c5, 2, rfl, hc5, by decide⟩⟩
    · exact ⟨.int 7, rfl, trivial, key _ ⟨c5, 7, rfl, hc5, by decide⟩⟩
    · exact ⟨.int 101, rfl, trivial, key _ ⟨c5, 101, rfl, hc5, by decide⟩⟩
    · exact ⟨.int 1000003, rfl, trivial, key _ ⟨c5, 1000003, rfl, hc5, by decide⟩⟩
  rintro _ ⟨c5, p, rfl, hc5, hp⟩
  refine seq_go ⟨k13, ?_⟩
  dsimp only
  refine seq_go ?_
  refine ⟨5, rfl, by decide, by decide, fun i ρ => ∃ (c6 : Int) (vs : List Int) (s14c : Sl), ρ = [.sh (.list (ns.map .int)), .ol [.int c6], .sh (.int f), .sh (.dict (encT t)), .sh (encP t), .sh (encP t), .sh (.list ((lets t).map .int)), .no, .no, s9, s10, s11, s12, .od (.ik (rgF 0 (vs.map fun v => enc (v, 1)))), s14c, s15, .sh (.int (contT t)), .sh (enc (valR sp t (0, 1))), .sh (.int q), .sh (encP (mulT t q)), .sh (.dict (tagI (rgF 0 (sps.map enc)))), .sh (.int p), .no] ∧ 0 ≤ c6 ∧ vs.length = i ∧ (∀ x ∈ vs, 0 ≤ x ∧ x < 1000) ∧ nio s14c, ⟨c5, [], s14b, rfl, hc5, rfl, (fun x h => nomatch h), k14b⟩, ?_, ?_⟩
  · rintro i d ρ hi ⟨c6, vs, s14c, rfl, hc6, hvs, hfv, k14c⟩
    obtain ⟨hi', rfl⟩ := rgD_at hi
    refine ⟨k14c, rfl, _, rfl, c6, 1000, rfl, rfl, by decide, by decide, hc6, fun x c7 x0 x1 hc7 => ?_⟩
    refine ⟨sl2, ⟨_, rfl⟩, rgF 0 (vs.map fun v => enc (v, 1)), 0 + (i : Int), rfl, rfl, ?_, c7, vs ++ [x], .sh (.int (0 + (i : Int))), ?_, hc7, ?_, ?_, trivial⟩
    · rw [rgF_len, List.length_map, hvs]
      have : i < 5 := hi'
      omega
    · have e := putI_rgF (vs.map fun v => enc (v, 1)) (enc (x, 1))
      rw [List.length_map, hvs] at e
      rw [Int.zero_add, List.map_append, List.map_singleton, ← e]
      rfl
    · rw [List.length_append, hvs]; rfl
    · intro z hz
      rcases List.mem_append.mp hz with hz | hz
      · exact hfv z hz
      · rw [List.mem_singleton.mp hz]; exact ⟨x0, x1⟩
  rintro _ ⟨c6, vs, s14c, rfl, hc6, hvs, hfv, k14c⟩
  dsimp only
  have hvs5 : vs.length = 5 := by rw [hvs, rgD_len]; rfl
  clear hvs
  refine fzD_go rfl (seq_go ⟨trivial, ?_⟩)
  dsimp only
  refine seq_go ?_
  refine ⟨5, rfl, by decide, by decide, fun i ρ => ∃ s14d : Sl, ρ = [.sh (.list (ns.map .int)), .ol [.int c6], .sh (.int f), .sh (.dict (encT t)), .sh (encP t), .sh (encP t), .sh (.list ((lets t).map .int)), .no, .no, s9, s10, s11, s12, .sh (.dict (tagI (rgF 0 (vs.map fun v => enc (v, 1))))), s14d, s15, .sh (.int (contT t)), .sh (enc (valR sp t (0, 1))), .sh (.int q), .sh (encP (mulT t q)), .sh (.dict (tagI (rgF 0 (sps.map enc)))), .sh (.int p), .od (.ik (rgF 0 ((vs.take i).map PyData.int)))] ∧ nio s14d, ⟨s14c, rfl, k14c⟩, ?_, ?_⟩
  · rintro i d ρ hi ⟨s14d, rfl, k14d⟩
    obtain ⟨hi', rfl⟩ := rgD_at hi
    have hi5 : i < vs.length := by have : i < 5 := hi'; omega
    have hv : vs[i]? = some vs[i] := List.getElem?_eq_getElem hi5
    have hg : getI (rgF 0 (vs.map fun v => enc (v, 1))) (0 + (i : Int)) = some (enc (vs[i], 1)) := by
      rw [Int.zero_add, getI_rgF, if_neg (by omega), Nat.sub_zero, List.getElem?_map, hv]
      rfl
    refine ⟨k14d, rgF 0 (vs.map fun v => enc (v, 1)), 0 + (i : Int), enc (vs[i], 1), rfl, rfl, hg, .int vs[i], rfl, ⟨_, rfl⟩, rgF 0 ((vs.take i).map PyData.int), 0 + (i : Int), rfl, rfl, ?_, .sh (.int (0 + (i : Int))), ?_, trivial⟩
    · rw [rgF_len, List.length_map, List.length_take]
      omega
    · have e := putI_rgF ((vs.take i).map PyData.int) (.int vs[i])
      rw [List.length_map, List.length_take, show min i vs.length = i by omega] at e
      rw [Int.zero_add, take_one hv, List.map_append, List.map_singleton, ← e]
      rfl
  rintro _ ⟨s14d, rfl, k14d⟩
  rw [show (rgD 0 (5 : Int).toNat).length = vs.length by rw [rgD_len, hvs5]; rfl, List.take_length]
  dsimp only
  refine fzD_go rfl (seq_go ?_)
  obtain ⟨pl, hpl⟩ : ∃ pl : Int → Int, pl = fun j => vs.getD j.toNat 0 := ⟨_, rfl⟩
  have hpr : ∀ j : Int, 0 ≤ j → j < 5 → 0 ≤ pl j ∧ pl j < 1000 := fun j j0 j1 => by
    rw [hpl]
    show 0 ≤ vs.getD j.toNat 0 ∧ vs.getD j.toNat 0 < 1000
    rw [List.getD_eq_getElem?_getD, List.getElem?_eq_getElem (show j.toNat < vs.length by omega)]
    exact hfv _ (List.getElem_mem _)
  have hkp : ∀ e ∈ t, ∀ z ∈ e.1, getI (rgF 0 (vs.map PyData.int)) z.1 = some (.int (pl z.1)) ∧ 0 ≤ pl z.1 ∧ pl z.1 < 1000 ∧ 0 ≤ z.2 ∧ z.2 ≤ 4 := fun e he z hz => by
    have m := (hU.mg e he).2 z hz
    have r := hpr z.1 m.1 m.2.1
    refine ⟨?_, r.1, r.2, by omega, (hU.mon e he).le z hz⟩
    rw [hpl]
    exact getI_at PyData.int vs 0 m.1 (by omega)
  refine ⟨t, pl, rgF 0 (vs.map PyData.int), p, rfl, by omega, hkp, trivial, ?_⟩
  dsimp only
  have tv1 : TabV (fun j => (pl j, 1)) t := hU.tv fun j j0 j1 => by
    have r := hpr j j0 j1
    have e : (2 : Nat) ^ 10 = 1024 := by decide
    exact ⟨by show (0 : Int) < 1; decide, by show (pl j).natAbs < 2 ^ 10; omega, by show (1 : Int).natAbs < 2 ^ 10; decide⟩
  have hk1 : ∀ e ∈ t, ∀ z ∈ e.1, getI (rgF 0 (vs.map fun v => enc (v, 1))) z.1 = some (enc (pl z.1, 1)) := fun e he z hz => by
    have m := (hU.mg e he).2 z hz
    rw [hpl]
    exact getI_at (fun v => enc (v, 1)) vs 0 m.1 (by omega)
  have eV := valR1 pl t 0
  refine seq_go ⟨false, (fun z h => nomatch h), kitIB, false, rfl, (fun z => nomatch z), fun _ => ?_⟩
  refine ⟨t, fun j => (pl j, 1), rgF 0 (vs.map fun v => enc (v, 1)), rfl, hU.nd, tv1, lt6, hk1, ?_⟩
  rw [eV]
  refine ⟨.int (valI pl t 0), rfl, by omega, false, ?_, (fun z => nomatch z), fun _ => ⟨shaped_P _, shaped_P _, false, ?_, (fun z => nomatch z), fun _ => ?_⟩⟩
  · rw [valM_mod (by omega), beq_self_eq_true]
    rfl
  · show PyData.bool (!PyData.eqv (encP t) (encP t)) = _
    rw [eqv_sh (shaped_P _)]
    rfl
  try unfold dNext
  dsimp only
  intro A0 Ow0 σ0 H0 D0 rel k0
  refine ⟨_, _, _, fun ds _ => ds = [encP t, .int 0], rel, rfl, fun vs1 H1 ds1 ρ1 e1 rel1 rp1 h1 => ?_⟩
  subst h1
  refine ⟨_, t, rp1, fun H' e => ⟨true, T.e5, fun _ x hx => ?_, fun z => nomatch z⟩⟩
  refine ⟨_, _, _, { nx := fun _ => False, rt := fun d _ => d = .bool true }, rel1.ext e, ?_, fun _ _ _ _ _ z => z.elim, fun _ _ _ _ _ z => z.elim, fun _ _ _ _ _ z => z.elim, fun Ow' σ' H'' ρ' v d rel' rp' h' => ?_, fun _ _ _ _ _ _ _ _ _ _ _ z => z.elim⟩
  · exact ⟨sl0, rfl, sl2, rfl, rfl, true, rfl, fun _ => ⟨sl0, rfl, rfl⟩, fun z => nomatch z⟩
  · subst h'
    exact k0 Ow' σ' H'' ρ' v _ rel' rp' hR
theorem ok_law {P : Program} {w : World} {K : PySem.W.Frag} {mg : Str → Option Value} {base : Heap} {f : Addr} {fd : FuncData} (F : Fun K "law" "law" st_law f fd) (z_dict : mg "dict" = none) (z_list : mg "list" = none) (z_range : mg "range" = none) (z_sorted : mg "sorted" = none) (z_max : mg "max" = none) (z_isinstance : mg "isinstance" = none) (z_bool : mg "bool" = none) (z_len : mg "len" = none) (z_int : mg "int" = none) (C__law_big : Cal P w K mg base "_law_big" 2 (spF ⟨K, P, w⟩ p__law_big)) (C__law_take : Cal P w K mg base "_law_take" 1 (spI ⟨K, P, w⟩ p__law_take)) (C__law_drawn : Cal P w K mg base "_law_drawn" 3 (spI ⟨K, P, w⟩ p__law_drawn)) (C__law_table_sum : Cal P w K mg base "_law_table_sum" 1 (spD ⟨K, P, w⟩ p__law_table_sum)) (C__law_listed : Cal P w K mg base "_law_listed" 1 (spD ⟨K, P, w⟩ p__law_listed)) (C_letters_in : Cal P w K mg base "letters_in" 1 (spD ⟨K, P, w⟩ p_letters_in)) (C_by_letter : Cal P w K mg base "by_letter" 6 (spD ⟨K, P, w⟩ p_by_letter)) (C_degree_in : Cal P w K mg base "degree_in" 2 (spD ⟨K, P, w⟩ p_degree_in)) (C__law_is_poly : Cal P w K mg base "_law_is_poly" 1 (spD ⟨K, P, w⟩ p__law_is_poly)) (C__law_table_product : Cal P w K mg base "_law_table_product" 2 (spD ⟨K, P, w⟩ p__law_table_product)) (C__law_divisor : Cal P w K mg base "_law_divisor" 1 (spD ⟨K, P, w⟩ p__law_divisor)) (C_content : Cal P w K mg base "content" 2 (spD ⟨K, P, w⟩ p_content)) (C_divided : Cal P w K mg base "divided" 1 (spD ⟨K, P, w⟩ p_divided)) (C__law_ratio : Cal P w K mg base "_law_ratio" 2 (spD ⟨K, P, w⟩ p__law_ratio)) (C_value : Cal P w K mg base "value" 4 (spD ⟨K, P, w⟩ p_value)) (C__law_is_ratio : Cal P w K mg base "_law_is_ratio" 2 (spD ⟨K, P, w⟩ p__law_is_ratio)) (C__law_values : Cal P w K mg base "_law_values" 4 (spD ⟨K, P, w⟩ p__law_values)) (C_value_modulo : Cal P w K mg base "value_modulo" 1 (spD ⟨K, P, w⟩ p_value_modulo)) {C5 fD fV fC : Addr} {fdD fdV fdC : FuncData} (T : Cls5 K mg C5) (GD : FnOk P w K mg base (L2N.CX P w) 1 fD fdD ["one", "number"] (spDX ⟨K, P, w⟩ C5)) (gD : mg "divided" = some (.ref fD)) (kD : PySem.W.keepIn K (.ref fD) = true) (bD : Binds K fdD ["one", "number"] []) (GV : L2H.FnH P w K mg base CX0 1 fV fdV ["one", "values"] (spD ⟨K, P, w⟩ p_value0)) (gV : mg "value" = some (.ref fV)) (kV : PySem.W.keepIn K (.ref fV) = true) (bV : Binds K fdV ["one", "values"] []) (GC : L2H.FnH P w K mg base CX0 1 fC fdC ["one"] (spD ⟨K, P, w⟩ p_content0)) (gC : mg "content" = some (.ref fC)) (kC : PySem.W.keepIn K (.ref fC) = true) (bC : Binds K fdC ["one"] []) :
  FnOk P w K mg base CX0 9 f fd ["script"] (spD ⟨K, P, w⟩ p_law) := fn_D F sc_law len_law (body_law z_dict z_list z_range z_sorted z_max z_isinstance z_bool z_len z_int C__law_big C__law_take C__law_drawn C__law_table_sum C__law_listed C_letters_in C_by_letter C_degree_in C__law_is_poly C__law_table_product C__law_divisor C_content C_divided C__law_ratio C_value C__law_is_ratio C__law_values C_value_modulo T GD gD kD bD GV gV kV bV GC gC kC bC)
theorem all_mk {l : PySem.W.OpenLaw} {w : World} {K : PySem.W.Frag} {h : Heap} {mg : Str → Option Value} {fa f0 f1 f2 f3 f4 f5 f6 f7 f8 f9 f10 f11 f12 f13 f14 f15 f16 f17 f18 f19 f20 f21 f22 f23 f24 f25 f26 f27 f28 f29 f30 f31 f32 : Addr} (X : K.In h) (G : h.Ns mainGlobals mg) (hfa : mg "law" = some (.ref fa))
  {od0 od1 od2 od3 od4 od5 od6 od7 od8 od9 od10 od11 od12 od13 od14 od15 od16 od17 od18 od19 od20 od21 od22 od23 od24 od25 od26 od27 od28 od29 od30 od31 od32 an0 an1 an2 an3 an4 an5 an6 an7 an8 an9 an10 an11 an12 an13 an14 an15 an16 an17 an18 an19 an20 an21 an22 an23 an24 an25 an26 an27 an28 an29 an30 an31 an32 : Option Addr} {sl0 sl1 sl2 sl3 sl4 sl5 sl6 sl7 sl8 sl9 sl10 sl11 sl12 sl13 sl14 sl15 sl16 sl17 sl18 sl19 sl20 sl21 sl22 sl23 sl24 sl25 sl26 sl27 sl28 sl29 sl30 sl31 sl32 : Array (Option Value)} {oc0 oc1 oc2 oc3 oc4 oc5 oc6 oc7 oc8 oc9 oc10 oc11 oc12 oc13 oc14 oc15 oc16 oc17 oc18 oc19 oc20 oc21 oc22 oc23 oc24 oc25 oc26 oc27 oc28 oc29 oc30 oc31 oc32 kV0 kV1 kV2 kV3 kV4 kV5 kV6 kV7 kV8 kV9 kV10 kV11 kV12 kV13 kV14 kV15 kV16 kV17 kV18 kV19 kV20 kV21 kV22 kV23 kV24 kV25 kV26 kV27 kV28 kV29 kV30 kV31 kV32 dc0 dc1 dc2 dc3 dc4 dc5 dc6 dc7 dc8 dc9 dc10 dc11 dc12 dc13 dc14 dc15 dc16 dc17 dc18 dc19 dc20 dc21 dc22 dc23 dc24 dc25 dc26 dc27 dc28 dc29 dc30 dc31 dc32 pm0 pm1 pm2 pm3 pm4 pm5 pm6 pm7 pm8 pm9 pm10 pm11 pm12 pm13 pm14 pm15 pm16 pm17 pm18 pm19 pm20 pm21 pm22 pm23 pm24 pm25 pm26 pm27 pm28 pm29 pm30 pm31 pm32 cd0 cd1 cd2 cd3 cd4 cd5 cd6 cd7 cd8 cd9 cd10 cd11 cd12 cd13 cd14 cd15 cd16 cd17 cd18 cd19 cd20 cd21 cd22 cd23 cd24 cd25 cd26 cd27 cd28 cd29 cd30 cd31 cd32 ct0 ct1 ct2 ct3 ct4 ct5 ct6 ct7 ct8 ct9 ct10 ct11 ct12 ct13 ct14 ct15 ct16 ct17 ct18 ct19 ct20 ct21 ct22 ct23 ct24 ct25 ct26 ct27 ct28 ct29 ct30 ct31 ct32 : Value}
  (a0 : PySem.W.nsIn K mainGlobals "common_divisor" = some (some (.ref f0))) (l0 : K.lookup f0 = some ⟨oc0, od0, .func (PySem.W.fnOf "common_divisor" "common_divisor" (defArgs st_common_divisor) (defBody st_common_divisor) (defScope st_common_divisor) .none kV0 dc0 pm0 an0 cd0 ct0), sl0⟩) (c0 : PySem.W.codeIn K cd0 "common_divisor" = true) (k0 : PySem.W.keepIn K (.ref f0) = true)
  (a1 : PySem.W.nsIn K mainGlobals "ratio" = some (some (.ref f1))) (l1 : K.lookup f1 = some ⟨oc1, od1, .func (PySem.W.fnOf "ratio" "ratio" (defArgs st_ratio) (defBody st_ratio) (defScope st_ratio) .none kV1 dc1 pm1 an1 cd1 ct1), sl1⟩) (c1 : PySem.W.codeIn K cd1 "ratio" = true) (k1 : PySem.W.keepIn K (.ref f1) = true)
  (a2 : PySem.W.nsIn K mainGlobals "plus" = some (some (.ref f2))) (l2 : K.lookup f2 = some ⟨oc2, od2, .func (PySem.W.fnOf "plus" "plus" (defArgs st_plus) (defBody st_plus) (defScope st_plus) .none kV2 dc2 pm2 an2 cd2 ct2), sl2⟩) (c2 : PySem.W.codeIn K cd2 "plus" = true) (k2 : PySem.W.keepIn K (.ref f2) = true)
  (a3 : PySem.W.nsIn K mainGlobals "times" = some (some (.ref f3))) (l3 : K.lookup f3 = some ⟨oc3, od3, .func (PySem.W.fnOf "times" "times" (defArgs st_times) (defBody st_times) (defScope st_times) .none kV3 dc3 pm3 an3 cd3 ct3), sl3⟩) (c3 : PySem.W.codeIn K cd3 "times" = true) (k3 : PySem.W.keepIn K (.ref f3) = true)
  (a4 : PySem.W.nsIn K mainGlobals "degree_of" = some (some (.ref f4))) (l4 : K.lookup f4 = some ⟨oc4, od4, .func (PySem.W.fnOf "degree_of" "degree_of" (defArgs st_degree_of) (defBody st_degree_of) (defScope st_degree_of) .none kV4 dc4 pm4 an4 cd4 ct4), sl4⟩) (c4 : PySem.W.codeIn K cd4 "degree_of" = true) (k4 : PySem.W.keepIn K (.ref f4) = true)
  (a5 : PySem.W.nsIn K mainGlobals "order_key" = some (some (.ref f5))) (l5 : K.lookup f5 = some ⟨oc5, od5, .func (PySem.W.fnOf "order_key" "order_key" (defArgs st_order_key) (defBody st_order_key) (defScope st_order_key) .none kV5 dc5 pm5 an5 cd5 ct5), sl5⟩) (c5 : PySem.W.codeIn K cd5 "order_key" = true) (k5 : PySem.W.keepIn K (.ref f5) = true)
  (a6 : PySem.W.nsIn K mainGlobals "from_table" = some (some (.ref f6))) (l6 : K.lookup f6 = some ⟨oc6, od6, .func (PySem.W.fnOf "from_table" "from_table" (defArgs st_from_table) (defBody st_from_table) (defScope st_from_table) .none kV6 dc6 pm6 an6 cd6 ct6), sl6⟩) (c6 : PySem.W.codeIn K cd6 "from_table" = true) (k6 : PySem.W.keepIn K (.ref f6) = true)
  (a7 : PySem.W.nsIn K mainGlobals "as_table" = some (some (.ref f7))) (l7 : K.lookup f7 = some ⟨oc7, od7, .func (PySem.W.fnOf "as_table" "as_table" (defArgs st_as_table) (defBody st_as_table) (defScope st_as_table) .none kV7 dc7 pm7 an7 cd7 ct7), sl7⟩) (c7 : PySem.W.codeIn K cd7 "as_table" = true) (k7 : PySem.W.keepIn K (.ref f7) = true)
  (a8 : PySem.W.nsIn K mainGlobals "exponent_in" = some (some (.ref f8))) (l8 : K.lookup f8 = some ⟨oc8, od8, .func (PySem.W.fnOf "exponent_in" "exponent_in" (defArgs st_exponent_in) (defBody st_exponent_in) (defScope st_exponent_in) .none kV8 dc8 pm8 an8 cd8 ct8), sl8⟩) (c8 : PySem.W.codeIn K cd8 "exponent_in" = true) (k8 : PySem.W.keepIn K (.ref f8) = true)
  (a9 : PySem.W.nsIn K mainGlobals "degree_in" = some (some (.ref f9))) (l9 : K.lookup f9 = some ⟨oc9, od9, .func (PySem.W.fnOf "degree_in" "degree_in" (defArgs st_degree_in) (defBody st_degree_in) (defScope st_degree_in) .none kV9 dc9 pm9 an9 cd9 ct9), sl9⟩) (c9 : PySem.W.codeIn K cd9 "degree_in" = true) (k9 : PySem.W.keepIn K (.ref f9) = true)
  (a10 : PySem.W.nsIn K mainGlobals "letters_in" = some (some (.ref f10))) (l10 : K.lookup f10 = some ⟨oc10, od10, .func (PySem.W.fnOf "letters_in" "letters_in" (defArgs st_letters_in) (defBody st_letters_in) (defScope st_letters_in) .none kV10 dc10 pm10 an10 cd10 ct10), sl10⟩) (c10 : PySem.W.codeIn K cd10 "letters_in" = true) (k10 : PySem.W.keepIn K (.ref f10) = true)
  (a11 : PySem.W.nsIn K mainGlobals "rows_by_letter" = some (some (.ref f11))) (l11 : K.lookup f11 = some ⟨oc11, od11, .func (PySem.W.fnOf "rows_by_letter" "rows_by_letter" (defArgs st_rows_by_letter) (defBody st_rows_by_letter) (defScope st_rows_by_letter) .none kV11 dc11 pm11 an11 cd11 ct11), sl11⟩) (c11 : PySem.W.codeIn K cd11 "rows_by_letter" = true) (k11 : PySem.W.keepIn K (.ref f11) = true)
  (a12 : PySem.W.nsIn K mainGlobals "by_letter" = some (some (.ref f12))) (l12 : K.lookup f12 = some ⟨oc12, od12, .func (PySem.W.fnOf "by_letter" "by_letter" (defArgs st_by_letter) (defBody st_by_letter) (defScope st_by_letter) .none kV12 dc12 pm12 an12 cd12 ct12), sl12⟩) (c12 : PySem.W.codeIn K cd12 "by_letter" = true) (k12 : PySem.W.keepIn K (.ref f12) = true)
  (a13 : PySem.W.nsIn K mainGlobals "value" = some (some (.ref f13))) (l13 : K.lookup f13 = some ⟨oc13, od13, .func (PySem.W.fnOf "value" "value" (defArgs st_value) (defBody st_value) (defScope st_value) .none kV13 dc13 pm13 an13 cd13 ct13), sl13⟩) (c13 : PySem.W.codeIn K cd13 "value" = true) (k13 : PySem.W.keepIn K (.ref f13) = true)
  (a14 : PySem.W.nsIn K mainGlobals "value_modulo" = some (some (.ref f14))) (l14 : K.lookup f14 = some ⟨oc14, od14, .func (PySem.W.fnOf "value_modulo" "value_modulo" (defArgs st_value_modulo) (defBody st_value_modulo) (defScope st_value_modulo) .none kV14 dc14 pm14 an14 cd14 ct14), sl14⟩) (c14 : PySem.W.codeIn K cd14 "value_modulo" = true) (k14 : PySem.W.keepIn K (.ref f14) = true)
  (a15 : PySem.W.nsIn K mainGlobals "content" = some (some (.ref f15))) (l15 : K.lookup f15 = some ⟨oc15, od15, .func (PySem.W.fnOf "content" "content" (defArgs st_content) (defBody st_content) (defScope st_content) .none kV15 dc15 pm15 an15 cd15 ct15), sl15⟩) (c15 : PySem.W.codeIn K cd15 "content" = true) (k15 : PySem.W.keepIn K (.ref f15) = true)
  (a16 : PySem.W.nsIn K mainGlobals "divided" = some (some (.ref f16))) (l16 : K.lookup f16 = some ⟨oc16, od16, .func (PySem.W.fnOf "divided" "divided" (defArgs st_divided) (defBody st_divided) (defScope st_divided) .none kV16 dc16 pm16 an16 cd16 ct16), sl16⟩) (c16 : PySem.W.codeIn K cd16 "divided" = true) (k16 : PySem.W.keepIn K (.ref f16) = true)
  (a17 : PySem.W.nsIn K mainGlobals "_law_cell" = some (some (.ref f17))) (l17 : K.lookup f17 = some ⟨oc17, od17, .func (PySem.W.fnOf "_law_cell" "_law_cell" (defArgs st__law_cell) (defBody st__law_cell) (defScope st__law_cell) .none kV17 dc17 pm17 an17 cd17 ct17), sl17⟩) (c17 : PySem.W.codeIn K cd17 "_law_cell" = true) (k17 : PySem.W.keepIn K (.ref f17) = true)
  (a18 : PySem.W.nsIn K mainGlobals "_law_take" = some (some (.ref f18))) (l18 : K.lookup f18 = some ⟨oc18, od18, .func (PySem.W.fnOf "_law_take" "_law_take" (defArgs st__law_take) (defBody st__law_take) (defScope st__law_take) .none kV18 dc18 pm18 an18 cd18 ct18), sl18⟩) (c18 : PySem.W.codeIn K cd18 "_law_take" = true) (k18 : PySem.W.keepIn K (.ref f18) = true)
  (a19 : PySem.W.nsIn K mainGlobals "_law_big" = some (some (.ref f19))) (l19 : K.lookup f19 = some ⟨oc19, od19, .func (PySem.W.fnOf "_law_big" "_law_big" (defArgs st__law_big) (defBody st__law_big) (defScope st__law_big) .none kV19 dc19 pm19 an19 cd19 ct19), sl19⟩) (c19 : PySem.W.codeIn K cd19 "_law_big" = true) (k19 : PySem.W.keepIn K (.ref f19) = true)
  (a20 : PySem.W.nsIn K mainGlobals "_law_divisor" = some (some (.ref f20))) (l20 : K.lookup f20 = some ⟨oc20, od20, .func (PySem.W.fnOf "_law_divisor" "_law_divisor" (defArgs st__law_divisor) (defBody st__law_divisor) (defScope st__law_divisor) .none kV20 dc20 pm20 an20 cd20 ct20), sl20⟩) (c20 : PySem.W.codeIn K cd20 "_law_divisor" = true) (k20 : PySem.W.keepIn K (.ref f20) = true)
  (a21 : PySem.W.nsIn K mainGlobals "_law_ratio" = some (some (.ref f21))) (l21 : K.lookup f21 = some ⟨oc21, od21, .func (PySem.W.fnOf "_law_ratio" "_law_ratio" (defArgs st__law_ratio) (defBody st__law_ratio) (defScope st__law_ratio) .none kV21 dc21 pm21 an21 cd21 ct21), sl21⟩) (c21 : PySem.W.codeIn K cd21 "_law_ratio" = true) (k21 : PySem.W.keepIn K (.ref f21) = true)
  (a22 : PySem.W.nsIn K mainGlobals "_law_is_ratio" = some (some (.ref f22))) (l22 : K.lookup f22 = some ⟨oc22, od22, .func (PySem.W.fnOf "_law_is_ratio" "_law_is_ratio" (defArgs st__law_is_ratio) (defBody st__law_is_ratio) (defScope st__law_is_ratio) .none kV22 dc22 pm22 an22 cd22 ct22), sl22⟩) (c22 : PySem.W.codeIn K cd22 "_law_is_ratio" = true) (k22 : PySem.W.keepIn K (.ref f22) = true)
  (a23 : PySem.W.nsIn K mainGlobals "_law_monomial" = some (some (.ref f23))) (l23 : K.lookup f23 = some ⟨oc23, od23, .func (PySem.W.fnOf "_law_monomial" "_law_monomial" (defArgs st__law_monomial) (defBody st__law_monomial) (defScope st__law_monomial) .none kV23 dc23 pm23 an23 cd23 ct23), sl23⟩) (c23 : PySem.W.codeIn K cd23 "_law_monomial" = true) (k23 : PySem.W.keepIn K (.ref f23) = true)
  (a24 : PySem.W.nsIn K mainGlobals "_law_drawn" = some (some (.ref f24))) (l24 : K.lookup f24 = some ⟨oc24, od24, .func (PySem.W.fnOf "_law_drawn" "_law_drawn" (defArgs st__law_drawn) (defBody st__law_drawn) (defScope st__law_drawn) .none kV24 dc24 pm24 an24 cd24 ct24), sl24⟩) (c24 : PySem.W.codeIn K cd24 "_law_drawn" = true) (k24 : PySem.W.keepIn K (.ref f24) = true)
  (a25 : PySem.W.nsIn K mainGlobals "_law_listed" = some (some (.ref f25))) (l25 : K.lookup f25 = some ⟨oc25, od25, .func (PySem.W.fnOf "_law_listed" "_law_listed" (defArgs st__law_listed) (defBody st__law_listed) (defScope st__law_listed) .none kV25 dc25 pm25 an25 cd25 ct25), sl25⟩) (c25 : PySem.W.codeIn K cd25 "_law_listed" = true) (k25 : PySem.W.keepIn K (.ref f25) = true)
  (a26 : PySem.W.nsIn K mainGlobals "_law_join" = some (some (.ref f26))) (l26 : K.lookup f26 = some ⟨oc26, od26, .func (PySem.W.fnOf "_law_join" "_law_join" (defArgs st__law_join) (defBody st__law_join) (defScope st__law_join) .none kV26 dc26 pm26 an26 cd26 ct26), sl26⟩) (c26 : PySem.W.codeIn K cd26 "_law_join" = true) (k26 : PySem.W.keepIn K (.ref f26) = true)
  (a27 : PySem.W.nsIn K mainGlobals "_law_table_product" = some (some (.ref f27))) (l27 : K.lookup f27 = some ⟨oc27, od27, .func (PySem.W.fnOf "_law_table_product" "_law_table_product" (defArgs st__law_table_product) (defBody st__law_table_product) (defScope st__law_table_product) .none kV27 dc27 pm27 an27 cd27 ct27), sl27⟩) (c27 : PySem.W.codeIn K cd27 "_law_table_product" = true) (k27 : PySem.W.keepIn K (.ref f27) = true)
  (a28 : PySem.W.nsIn K mainGlobals "_law_table_sum" = some (some (.ref f28))) (l28 : K.lookup f28 = some ⟨oc28, od28, .func (PySem.W.fnOf "_law_table_sum" "_law_table_sum" (defArgs st__law_table_sum) (defBody st__law_table_sum) (defScope st__law_table_sum) .none kV28 dc28 pm28 an28 cd28 ct28), sl28⟩) (c28 : PySem.W.codeIn K cd28 "_law_table_sum" = true) (k28 : PySem.W.keepIn K (.ref f28) = true)
  (a29 : PySem.W.nsIn K mainGlobals "_law_is_poly" = some (some (.ref f29))) (l29 : K.lookup f29 = some ⟨oc29, od29, .func (PySem.W.fnOf "_law_is_poly" "_law_is_poly" (defArgs st__law_is_poly) (defBody st__law_is_poly) (defScope st__law_is_poly) .none kV29 dc29 pm29 an29 cd29 ct29), sl29⟩) (c29 : PySem.W.codeIn K cd29 "_law_is_poly" = true) (k29 : PySem.W.keepIn K (.ref f29) = true)
  (a30 : PySem.W.nsIn K mainGlobals "_law_mul" = some (some (.ref f30))) (l30 : K.lookup f30 = some ⟨oc30, od30, .func (PySem.W.fnOf "_law_mul" "_law_mul" (defArgs st__law_mul) (defBody st__law_mul) (defScope st__law_mul) .none kV30 dc30 pm30 an30 cd30 ct30), sl30⟩) (c30 : PySem.W.codeIn K cd30 "_law_mul" = true) (k30 : PySem.W.keepIn K (.ref f30) = true)
  (a31 : PySem.W.nsIn K mainGlobals "_law_values" = some (some (.ref f31))) (l31 : K.lookup f31 = some ⟨oc31, od31, .func (PySem.W.fnOf "_law_values" "_law_values" (defArgs st__law_values) (defBody st__law_values) (defScope st__law_values) .none kV31 dc31 pm31 an31 cd31 ct31), sl31⟩) (c31 : PySem.W.codeIn K cd31 "_law_values" = true) (k31 : PySem.W.keepIn K (.ref f31) = true)
  (a32 : PySem.W.nsIn K mainGlobals "law" = some (some (.ref f32))) (l32 : K.lookup f32 = some ⟨oc32, od32, .func (PySem.W.fnOf "law" "law" (defArgs st_law) (defBody st_law) (defScope st_law) .none kV32 dc32 pm32 an32 cd32 ct32), sl32⟩) (c32 : PySem.W.codeIn K cd32 "law" = true) (k32 : PySem.W.keepIn K (.ref f32) = true)
  (y_abs : PySem.W.nsIn K mainGlobals "abs" = some none)
  (y_sum : PySem.W.nsIn K mainGlobals "sum" = some none)
  (y_sorted : PySem.W.nsIn K mainGlobals "sorted" = some none)
  (y_max : PySem.W.nsIn K mainGlobals "max" = some none)
  (y_tuple : PySem.W.nsIn K mainGlobals "tuple" = some none)
  (y_len : PySem.W.nsIn K mainGlobals "len" = some none)
  (y_range : PySem.W.nsIn K mainGlobals "range" = some none)
  (y_int : PySem.W.nsIn K mainGlobals "int" = some none)
  (y_isinstance : PySem.W.nsIn K mainGlobals "isinstance" = some none)
  (y_bool : PySem.W.nsIn K mainGlobals "bool" = some none)
  (y_dict : PySem.W.nsIn K mainGlobals "dict" = some none)
  (y_list : PySem.W.nsIn K mainGlobals "list" = some none)
  {C5 : Addr}
  (aC5 : PySem.W.nsIn K mainGlobals "NoInverse" = some (some (.ref C5)))
  (x5 : PySem.W.excIn K C5 [.type "ValueError", .type "Exception", .type "BaseException", .type "object"] "ValueError.__new__" = true)
  (kC5 : PySem.W.keepIn K (.ref C5) = true)
  (sBC5 : PySem.W.subIn K (.ref C5) (.type "BaseException") = some true)
  (tyC5 : PySem.W.typeIn K (.ref C5) = some (.type "type"))
  (hdC5 : PySem.W.hasDictIn K C5 = true)
  (x55 : PySem.W.subIn K (.ref C5) (.ref C5) = some true)
  : ∃ fd : FuncData, (∀ (s : Shared) (v : Value), BindsTo s fd ⟨[v], []⟩ [("script", v)]) ∧ ∀ base : Heap, K.In base → base.Ns mainGlobals mg → FnOk l.prog w K mg base CX0 9 fa fd ["script"] (spD ⟨K, l.prog, w⟩ p_law) := by
  have e := hfa.symm.trans (PySem.W.mg_of X G a32)
  cases e
  have F0 := fun_mk (st := st_common_divisor) l0 c0 k0
  have b0 := F0.binds (ps := ["one", "two"]) fun _ _ _ _ _ _ us hl => match us, hl with | [_, _], _ => rfl
  have F1 := fun_mk (st := st_ratio) l1 c1 k1
  have b1 := F1.binds (ps := ["numerator", "denominator"]) fun _ _ _ _ _ _ us hl => match us, hl with | [_, _], _ => rfl
  have F2 := fun_mk (st := st_plus) l2 c2 k2
  have b2 := F2.binds (ps := ["one", "two"]) fun _ _ _ _ _ _ us hl => match us, hl with | [_, _], _ => rfl
  have F3 := fun_mk (st := st_times) l3 c3 k3
  have b3 := F3.binds (ps := ["one", "two"]) fun _ _ _ _ _ _ us hl => match us, hl with | [_, _], _ => rfl
  have F4 := fun_mk (st := st_degree_of) l4 c4 k4
  have b4 := F4.binds (ps := ["monomial"]) fun _ _ _ _ _ _ us hl => match us, hl with | [_], _ => rfl
  have F5 := fun_mk (st := st_order_key) l5 c5 k5
  have b5 := F5.binds (ps := ["pair"]) fun _ _ _ _ _ _ us hl => match us, hl with | [_], _ => rfl
  have F6 := fun_mk (st := st_from_table) l6 c6 k6
  have b6 := F6.binds (ps := ["table"]) fun _ _ _ _ _ _ us hl => match us, hl with | [_], _ => rfl
  have F7 := fun_mk (st := st_as_table) l7 c7 k7
  have b7 := F7.binds (ps := ["one"]) fun _ _ _ _ _ _ us hl => match us, hl with | [_], _ => rfl
  have F8 := fun_mk (st := st_exponent_in) l8 c8 k8
  have b8 := F8.binds (ps := ["monomial", "number"]) fun _ _ _ _ _ _ us hl => match us, hl with | [_, _], _ => rfl
  have F9 := fun_mk (st := st_degree_in) l9 c9 k9
  have b9 := F9.binds (ps := ["one", "number"]) fun _ _ _ _ _ _ us hl => match us, hl with | [_, _], _ => rfl
  have F10 := fun_mk (st := st_letters_in) l10 c10 k10
  have b10 := F10.binds (ps := ["one"]) fun _ _ _ _ _ _ us hl => match us, hl with | [_], _ => rfl
  have F11 := fun_mk (st := st_rows_by_letter) l11 c11 k11
  have b11 := F11.binds (ps := ["table", "number"]) fun _ _ _ _ _ _ us hl => match us, hl with | [_, _], _ => rfl
  have F12 := fun_mk (st := st_by_letter) l12 c12 k12
  have b12 := F12.binds (ps := ["one", "number"]) fun _ _ _ _ _ _ us hl => match us, hl with | [_, _], _ => rfl
  have F13 := fun_mk (st := st_value) l13 c13 k13
  have b13 := F13.binds (ps := ["one", "values"]) fun _ _ _ _ _ _ us hl => match us, hl with | [_, _], _ => rfl
  have F14 := fun_mk (st := st_value_modulo) l14 c14 k14
  have b14 := F14.binds (ps := ["one", "values", "prime"]) fun _ _ _ _ _ _ us hl => match us, hl with | [_, _, _], _ => rfl
  have F15 := fun_mk (st := st_content) l15 c15 k15
  have b15 := F15.binds (ps := ["one"]) fun _ _ _ _ _ _ us hl => match us, hl with | [_], _ => rfl
  have F16 := fun_mk (st := st_divided) l16 c16 k16
  have b16 := F16.binds (ps := ["one", "number"]) fun _ _ _ _ _ _ us hl => match us, hl with | [_, _], _ => rfl
  have F17 := fun_mk (st := st__law_cell) l17 c17 k17
  have b17 := F17.binds (ps := ["script", "k"]) fun _ _ _ _ _ _ us hl => match us, hl with | [_, _], _ => rfl
  have F18 := fun_mk (st := st__law_take) l18 c18 k18
  have b18 := F18.binds (ps := ["state", "m"]) fun _ _ _ _ _ _ us hl => match us, hl with | [_, _], _ => rfl
  have F19 := fun_mk (st := st__law_big) l19 c19 k19
  have b19 := F19.binds (ps := ["script", "at", "count"]) fun _ _ _ _ _ _ us hl => match us, hl with | [_, _, _], _ => rfl
  have F20 := fun_mk (st := st__law_divisor) l20 c20 k20
  have b20 := F20.binds (ps := ["one", "two"]) fun _ _ _ _ _ _ us hl => match us, hl with | [_, _], _ => rfl
  have F21 := fun_mk (st := st__law_ratio) l21 c21 k21
  have b21 := F21.binds (ps := ["p", "q"]) fun _ _ _ _ _ _ us hl => match us, hl with | [_, _], _ => rfl
  have F22 := fun_mk (st := st__law_is_ratio) l22 c22 k22
  have b22 := F22.binds (ps := ["pair"]) fun _ _ _ _ _ _ us hl => match us, hl with | [_], _ => rfl
  have F23 := fun_mk (st := st__law_monomial) l23 c23 k23
  have b23 := F23.binds (ps := ["state", "letters", "most"]) fun _ _ _ _ _ _ us hl => match us, hl with | [_, _, _], _ => rfl
  have F24 := fun_mk (st := st__law_drawn) l24 c24 k24
  have b24 := F24.binds (ps := ["state", "letters", "most", "size"]) fun _ _ _ _ _ _ us hl => match us, hl with | [_, _, _, _], _ => rfl
  have F25 := fun_mk (st := st__law_listed) l25 c25 k25
  have b25 := F25.binds (ps := ["table"]) fun _ _ _ _ _ _ us hl => match us, hl with | [_], _ => rfl
  have F26 := fun_mk (st := st__law_join) l26 c26 k26
  have b26 := F26.binds (ps := ["one", "two"]) fun _ _ _ _ _ _ us hl => match us, hl with | [_, _], _ => rfl
  have F27 := fun_mk (st := st__law_table_product) l27 c27 k27
  have b27 := F27.binds (ps := ["one", "two"]) fun _ _ _ _ _ _ us hl => match us, hl with | [_, _], _ => rfl
  have F28 := fun_mk (st := st__law_table_sum) l28 c28 k28
  have b28 := F28.binds (ps := ["one", "two", "factor"]) fun _ _ _ _ _ _ us hl => match us, hl with | [_, _, _], _ => rfl
  have F29 := fun_mk (st := st__law_is_poly) l29 c29 k29
  have b29 := F29.binds (ps := ["one", "count"]) fun _ _ _ _ _ _ us hl => match us, hl with | [_, _], _ => rfl
  have F30 := fun_mk (st := st__law_mul) l30 c30 k30
  have b30 := F30.binds (ps := ["one", "two"]) fun _ _ _ _ _ _ us hl => match us, hl with | [_, _], _ => rfl
  have F31 := fun_mk (st := st__law_values) l31 c31 k31
  have b31 := F31.binds (ps := ["table", "spots"]) fun _ _ _ _ _ _ us hl => match us, hl with | [_, _], _ => rfl
  have F32 := fun_mk (st := st_law) l32 c32 k32
  have z_abs : mg "abs" = none := PySem.W.mg_none_of X G y_abs
  have z_sum : mg "sum" = none := PySem.W.mg_none_of X G y_sum
  have z_sorted : mg "sorted" = none := PySem.W.mg_none_of X G y_sorted
  have z_max : mg "max" = none := PySem.W.mg_none_of X G y_max
  have z_tuple : mg "tuple" = none := PySem.W.mg_none_of X G y_tuple
  have z_len : mg "len" = none := PySem.W.mg_none_of X G y_len
  have z_range : mg "range" = none := PySem.W.mg_none_of X G y_range
  have z_int : mg "int" = none := PySem.W.mg_none_of X G y_int
  have z_isinstance : mg "isinstance" = none := PySem.W.mg_none_of X G y_isinstance
  have z_bool : mg "bool" = none := PySem.W.mg_none_of X G y_bool
  have z_dict : mg "dict" = none := PySem.W.mg_none_of X G y_dict
  have z_list : mg "list" = none := PySem.W.mg_none_of X G y_list
  refine ⟨PySem.W.fnOf "law" "law" (defArgs st_law) (defBody st_law) (defScope st_law) .none kV32 dc32 pm32 an32 cd32 ct32, fun s v => .of_eq rfl, fun base _ _ => ?_⟩
  have C_common_divisor : Cal l.prog w K mg base "common_divisor" 1 (spD ⟨K, l.prog, w⟩ p_common_divisor) := ⟨⟨_, _, ["one", "two"], PySem.W.mg_of X G a0, k0, b0, ok_common_divisor F0 z_abs⟩⟩
  have C_degree_of : Cal l.prog w K mg base "degree_of" 1 (spD ⟨K, l.prog, w⟩ p_degree_of) := ⟨⟨_, _, ["monomial"], PySem.W.mg_of X G a4, k4, b4, ok_degree_of F4 z_sum⟩⟩
  have C_as_table : Cal l.prog w K mg base "as_table" 1 (spD ⟨K, l.prog, w⟩ p_as_table) := ⟨⟨_, _, ["one"], PySem.W.mg_of X G a7, k7, b7, ok_as_table F7 ⟩⟩
  have C_exponent_in : Cal l.prog w K mg base "exponent_in" 1 (spD ⟨K, l.prog, w⟩ p_exponent_in) := ⟨⟨_, _, ["monomial", "number"], PySem.W.mg_of X G a8, k8, b8, ok_exponent_in F8 ⟩⟩
  have C_letters_in : Cal l.prog w K mg base "letters_in" 1 (spD ⟨K, l.prog, w⟩ p_letters_in) := ⟨⟨_, _, ["one"], PySem.W.mg_of X G a10, k10, b10, ok_letters_in F10 z_sorted⟩⟩
  have C_value_modulo : Cal l.prog w K mg base "value_modulo" 1 (spD ⟨K, l.prog, w⟩ p_value_modulo) := ⟨⟨_, _, ["one", "values", "prime"], PySem.W.mg_of X G a14, k14, b14, ok_value_modulo F14 z_range⟩⟩
  have C_divided : Cal l.prog w K mg base "divided" 1 (spD ⟨K, l.prog, w⟩ p_divided) := ⟨⟨_, _, ["one", "number"], PySem.W.mg_of X G a16, k16, b16, ok_divided F16 ⟩⟩
  have C__law_cell : Cal l.prog w K mg base "_law_cell" 1 (spD ⟨K, l.prog, w⟩ p__law_cell) := ⟨⟨_, _, ["script", "k"], PySem.W.mg_of X G a17, k17, b17, ok__law_cell F17 z_len z_int⟩⟩
  have C__law_take : Cal l.prog w K mg base "_law_take" 1 (spI ⟨K, l.prog, w⟩ p__law_take) := ⟨⟨_, _, ["state", "m"], PySem.W.mg_of X G a18, k18, b18, ok__law_take F18 z_int⟩⟩
  have C__law_divisor : Cal l.prog w K mg base "_law_divisor" 1 (spD ⟨K, l.prog, w⟩ p__law_divisor) := ⟨⟨_, _, ["one", "two"], PySem.W.mg_of X G a20, k20, b20, ok__law_divisor F20 z_abs z_range z_int⟩⟩
  have C__law_listed : Cal l.prog w K mg base "_law_listed" 1 (spD ⟨K, l.prog, w⟩ p__law_listed) := ⟨⟨_, _, ["table"], PySem.W.mg_of X G a25, k25, b25, ok__law_listed F25 z_sorted z_sum⟩⟩
  have C__law_join : Cal l.prog w K mg base "_law_join" 1 (spD ⟨K, l.prog, w⟩ p__law_join) := ⟨⟨_, _, ["one", "two"], PySem.W.mg_of X G a26, k26, b26, ok__law_join F26 z_dict z_tuple z_sorted⟩⟩
  have C__law_table_sum : Cal l.prog w K mg base "_law_table_sum" 1 (spD ⟨K, l.prog, w⟩ p__law_table_sum) := ⟨⟨_, _, ["one", "two", "factor"], PySem.W.mg_of X G a28, k28, b28, ok__law_table_sum F28 z_dict⟩⟩
  have C__law_is_poly : Cal l.prog w K mg base "_law_is_poly" 1 (spD ⟨K, l.prog, w⟩ p__law_is_poly) := ⟨⟨_, _, ["one", "count"], PySem.W.mg_of X G a29, k29, b29, ok__law_is_poly F29 z_isinstance z_list z_bool z_tuple z_len z_int z_range z_sum⟩⟩
  have C_ratio : Cal l.prog w K mg base "ratio" 2 (spD ⟨K, l.prog, w⟩ p_ratio) := ⟨⟨_, _, ["numerator", "denominator"], PySem.W.mg_of X G a1, k1, b1, ok_ratio F1 C_common_divisor⟩⟩
  have C_order_key : Cal l.prog w K mg base "order_key" 2 (spD ⟨K, l.prog, w⟩ p_order_key) := ⟨⟨_, _, ["pair"], PySem.W.mg_of X G a5, k5, b5, ok_order_key F5 C_degree_of⟩⟩
  have C_degree_in : Cal l.prog w K mg base "degree_in" 2 (spD ⟨K, l.prog, w⟩ p_degree_in) := ⟨⟨_, _, ["one", "number"], PySem.W.mg_of X G a9, k9, b9, ok_degree_in F9 z_max C_exponent_in⟩⟩
  have C_rows_by_letter : Cal l.prog w K mg base "rows_by_letter" 2 (spD ⟨K, l.prog, w⟩ p_rows_by_letter) := ⟨⟨_, _, ["table", "number"], PySem.W.mg_of X G a11, k11, b11, ok_rows_by_letter F11 z_tuple z_len C_exponent_in⟩⟩
  have C_content : Cal l.prog w K mg base "content" 2 (spD ⟨K, l.prog, w⟩ p_content) := ⟨⟨_, _, ["one"], PySem.W.mg_of X G a15, k15, b15, ok_content F15 C_common_divisor⟩⟩
  have C__law_big : Cal l.prog w K mg base "_law_big" 2 (spF ⟨K, l.prog, w⟩ p__law_big) := ⟨⟨_, _, ["script", "at", "count"], PySem.W.mg_of X G a19, k19, b19, ok__law_big F19 z_range C__law_cell⟩⟩
  have C__law_ratio : Cal l.prog w K mg base "_law_ratio" 2 (spD ⟨K, l.prog, w⟩ p__law_ratio) := ⟨⟨_, _, ["p", "q"], PySem.W.mg_of X G a21, k21, b21, ok__law_ratio F21 z_int C__law_divisor⟩⟩
  have C__law_is_ratio : Cal l.prog w K mg base "_law_is_ratio" 2 (spD ⟨K, l.prog, w⟩ p__law_is_ratio) := ⟨⟨_, _, ["pair"], PySem.W.mg_of X G a22, k22, b22, ok__law_is_ratio F22 z_isinstance z_tuple z_len z_int z_bool C__law_divisor⟩⟩
  have C__law_monomial : Cal l.prog w K mg base "_law_monomial" 2 (spI ⟨K, l.prog, w⟩ p__law_monomial) := ⟨⟨_, _, ["state", "letters", "most"], PySem.W.mg_of X G a23, k23, b23, ok__law_monomial F23 z_range z_tuple C__law_take⟩⟩
  have C__law_table_product : Cal l.prog w K mg base "_law_table_product" 2 (spD ⟨K, l.prog, w⟩ p__law_table_product) := ⟨⟨_, _, ["one", "two"], PySem.W.mg_of X G a27, k27, b27, ok__law_table_product F27 C__law_join⟩⟩
  have C_plus : Cal l.prog w K mg base "plus" 3 (spD ⟨K, l.prog, w⟩ p_plus) := ⟨⟨_, _, ["one", "two"], PySem.W.mg_of X G a2, k2, b2, ok_plus F2 C_ratio⟩⟩
  have C_times : Cal l.prog w K mg base "times" 3 (spD ⟨K, l.prog, w⟩ p_times) := ⟨⟨_, _, ["one", "two"], PySem.W.mg_of X G a3, k3, b3, ok_times F3 C_ratio⟩⟩
  have C__law_drawn : Cal l.prog w K mg base "_law_drawn" 3 (spI ⟨K, l.prog, w⟩ p__law_drawn) := ⟨⟨_, _, ["state", "letters", "most", "size"], PySem.W.mg_of X G a24, k24, b24, ok__law_drawn F24 z_range C__law_take C__law_monomial⟩⟩
  have C__law_mul : Cal l.prog w K mg base "_law_mul" 3 (spD ⟨K, l.prog, w⟩ p__law_mul) := ⟨⟨_, _, ["one", "two"], PySem.W.mg_of X G a30, k30, b30, ok__law_mul F30 C__law_ratio⟩⟩
  have C_value : Cal l.prog w K mg base "value" 4 (spD ⟨K, l.prog, w⟩ p_value) := ⟨⟨_, _, ["one", "values"], PySem.W.mg_of X G a13, k13, b13, ok_value F13 z_range C_plus C_times⟩⟩
  have C__law_values : Cal l.prog w K mg base "_law_values" 4 (spD ⟨K, l.prog, w⟩ p__law_values) := ⟨⟨_, _, ["table", "spots"], PySem.W.mg_of X G a31, k31, b31, ok__law_values F31 z_range C__law_ratio C__law_mul⟩⟩
  have C_from_table : Cal l.prog w K mg base "from_table" 5 (spD ⟨K, l.prog, w⟩ p_from_table) := ⟨⟨_, _, ["table"], PySem.W.mg_of X G a6, k6, b6, ok_from_table F6 z_sorted C_order_key⟩⟩
  have C_by_letter : Cal l.prog w K mg base "by_letter" 6 (spD ⟨K, l.prog, w⟩ p_by_letter) := ⟨⟨_, _, ["one", "number"], PySem.W.mg_of X G a12, k12, b12, ok_by_letter F12 C_from_table C_rows_by_letter C_as_table⟩⟩
  have T5 : Cls5 K mg C5 := ⟨PySem.W.mg_of X G aC5, x5, kC5, sBC5, tyC5, PySem.W.exm_ref sBC5 hdC5 tyC5 x55⟩
  have GD := okXN_divided (P := l.prog) (w := w) (base := base) F16 T5
  have GV := okH_value (P := l.prog) (w := w) (mg := mg) (base := base) F13
  have GC := okH_content (P := l.prog) (w := w) (mg := mg) (base := base) F15
  exact ok_law F32 z_dict z_list z_range z_sorted z_max z_isinstance z_bool z_len z_int C__law_big C__law_take C__law_drawn C__law_table_sum C__law_listed C_letters_in C_by_letter C_degree_in C__law_is_poly C__law_table_product C__law_divisor C_content C_divided C__law_ratio C_value C__law_is_ratio C__law_values C_value_modulo T5 GD (PySem.W.mg_of X G a16) k16 b16 GV (PySem.W.mg_of X G a13) k13 b13 GC (PySem.W.mg_of X G a15) k15 b15
theorem walk {l : PySem.W.OpenLaw} {q : Program} {loose : List Str} {XP : (Str → Option Value) → Heap → Prop} {YP : World → Heap → Prop} {d : DefRec} {K : Params → PySem.W.Frag} (hn : l.most = some 63) (hdf : d.params.defaults = [])
    (hY : ∀ (w : World) (h : Heap), YP w h → (K w.params).In h)
    (F : ∀ (w : World) (mg : Str → Option Value) (fa : Addr) (h : Heap), (K w.params).In h → h.Ns mainGlobals mg → mg d.name = some (.ref fa) →
      ∃ fd : FuncData, (∀ (s : Shared) (u : Value), BindsTo s fd ⟨[u], []⟩ [("script", u)]) ∧ ∀ base : Heap, (K w.params).In base → base.Ns mainGlobals mg → FnOk l.prog w (K w.params) mg base CX0 9 fa fd ["script"] (spD ⟨K w.params, l.prog, w⟩ p_law)) :
    PySem.W.WalkO q loose XP YP l.row.toRowW d [] (fun f vs => PySem.call f vs) :=
  L2.walk_of (n := 63) (k := 9) (x := "script") (CX := fun _ => CX0) (sp := fun w => spD ⟨K w.params, l.prog, w⟩ p_law) hn (by decide) hdf ⟨rfl, by decide, by decide⟩ hY F
    (fun w H a ns hl _ hS => ⟨fun _ => False, [.list (ns.map .int)], fun d => d = .bool true, .cons (.lst (hS.elim (fun h => .inl ⟨fun z => z, h⟩) fun h => .inr h) RpA.ints) .nil, fun _ z => z.elim, ⟨ns, rfl, rfl⟩, fun v H' d _ rp e => by
      subst e
      exact rp_bool rp⟩) fun _ _ _ _ _ z => z
end DL

open PySem PySem.W PyProof.Rows in
set_option maxRecDepth 100000 in
set_option maxHeartbeats 0 in
theorem PySem.Challenge.cw_drawntrue_k03_letters_and_values_holds : PySem.Challenge.rw_drawntrue_k03_letters_and_values.Holds := by
  w_on; o_law; k_head; (case hw => w_witness2)
  k_fill
  refine DL.walk (l := PySem.Challenge.rw_drawntrue_k03_letters_and_values) rfl rfl (fun w h Y => PySem.W.kIn_of Y) ?F
  case F =>
    intro w mg fa h KX G hmg
    refine' DL.all_mk KX G hmg ?a0 ?l0 ?c0 ?k0 ?a1 ?l1 ?c1 ?k1 ?a2 ?l2 ?c2 ?k2 ?a3 ?l3 ?c3 ?k3 ?a4 ?l4 ?c4 ?k4 ?a5 ?l5 ?c5 ?k5 ?a6 ?l6 ?c6 ?k6 ?a7 ?l7 ?c7 ?k7 ?a8 ?l8 ?c8 ?k8 ?a9 ?l9 ?c9 ?k9 ?a10 ?l10 ?c10 ?k10 ?a11 ?l11 ?c11 ?k11 ?a12 ?l12 ?c12 ?k12 ?a13 ?l13 ?c13 ?k13 ?a14 ?l14 ?c14 ?k14 ?a15 ?l15 ?c15 ?k15 ?a16 ?l16 ?c16 ?k16 ?a17 ?l17 ?c17 ?k17 ?a18 ?l18 ?c18 ?k18 ?a19 ?l19 ?c19 ?k19 ?a20 ?l20 ?c20 ?k20 ?a21 ?l21 ?c21 ?k21 ?a22 ?l22 ?c22 ?k22 ?a23 ?l23 ?c23 ?k23 ?a24 ?l24 ?c24 ?k24 ?a25 ?l25 ?c25 ?k25 ?a26 ?l26 ?c26 ?k26 ?a27 ?l27 ?c27 ?k27 ?a28 ?l28 ?c28 ?k28 ?a29 ?l29 ?c29 ?k29 ?a30 ?l30 ?c30 ?k30 ?a31 ?l31 ?c31 ?k31 ?a32 ?l32 ?c32 ?k32 ?y_abs ?y_sum ?y_sorted ?y_max ?y_tuple ?y_len ?y_range ?y_int ?y_isinstance ?y_bool ?y_dict ?y_list ?aC5 ?x5 ?kC5 ?sBC5 ?tyC5 ?hdC5 ?x55
    (case a0 => k_is)
    (case l0 => k_is)
    (case c0 => k_is)
    (case k0 => k_is)
    (case a1 => k_is)
    (case l1 => k_is)
    (case c1 => k_is)
    (case k1 => k_is)
    (case a2 => k_is)
    (case l2 => k_is)
    (case c2 => k_is)
    (case k2 => k_is)
    (case a3 => k_is)
    (case l3 => k_is)
    (case c3 => k_is)
    (case k3 => k_is)
    (case a4 => k_is)
    (case l4 => k_is)
    (case c4 => k_is)
    (case k4 => k_is)
    (case a5 => k_is)
    (case l5 => k_is)
    (case c5 => k_is)
    (case k5 => k_is)
    (case a6 => k_is)
    (case l6 => k_is)
    (case c6 => k_is)
    (case k6 => k_is)
    (case a7 => k_is)
    (case l7 => k_is)
    (case c7 => k_is)
    (case k7 => k_is)
    (case a8 => k_is)
    (case l8 => k_is)
    (case c8 => k_is)
    (case k8 => k_is)
    (case a9 => k_is)
    (case l9 => k_is)
    (case c9 => k_is)
    (case k9 => k_is)
    (case a10 => k_is)
    (case l10 => k_is)
    (case c10 => k_is)
    (case k10 => k_is)
    (case a11 => k_is)
    (case l11 => k_is)
    (case c11 => k_is)
    (case k11 => k_is)
    (case a12 => k_is)
    (case l12 => k_is)
    (case c12 => k_is)
    (case k12 => k_is)
    (case a13 => k_is)
    (case l13 => k_is)
    (case c13 => k_is)
    (case k13 => k_is)
    (case a14 => k_is)
    (case l14 => k_is)
    (case c14 => k_is)
    (case k14 => k_is)
    (case a15 => k_is)
    (case l15 => k_is)
    (case c15 => k_is)
    (case k15 => k_is)
    (case a16 => k_is)
    (case l16 => k_is)
    (case c16 => k_is)
    (case k16 => k_is)
    (case a17 => k_is)
    (case l17 => k_is)
    (case c17 => k_is)
    (case k17 => k_is)
    (case a18 => k_is)
    (case l18 => k_is)
    (case c18 => k_is)
    (case k18 => k_is)
    (case a19 => k_is)
    (case l19 => k_is)
    (case c19 => k_is)
    (case k19 => k_is)
    (case a20 => k_is)
    (case l20 => k_is)
    (case c20 => k_is)
    (case k20 => k_is)
    (case a21 => k_is)
    (case l21 => k_is)
    (case c21 => k_is)
    (case k21 => k_is)
    (case a22 => k_is)
    (case l22 => k_is)
    (case c22 => k_is)
    (case k22 => k_is)
    (case a23 => k_is)
    (case l23 => k_is)
    (case c23 => k_is)
    (case k23 => k_is)
    (case a24 => k_is)
    (case l24 => k_is)
    (case c24 => k_is)
    (case k24 => k_is)
    (case a25 => k_is)
    (case l25 => k_is)
    (case c25 => k_is)
    (case k25 => k_is)
    (case a26 => k_is)
    (case l26 => k_is)
    (case c26 => k_is)
    (case k26 => k_is)
    (case a27 => k_is)
    (case l27 => k_is)
    (case c27 => k_is)
    (case k27 => k_is)
    (case a28 => k_is)
    (case l28 => k_is)
    (case c28 => k_is)
    (case k28 => k_is)
    (case a29 => k_is)
    (case l29 => k_is)
    (case c29 => k_is)
    (case k29 => k_is)
    (case a30 => k_is)
    (case l30 => k_is)
    (case c30 => k_is)
    (case k30 => k_is)
    (case a31 => k_is)
    (case l31 => k_is)
    (case c31 => k_is)
    (case k31 => k_is)
    (case a32 => k_is)
    (case l32 => k_is)
    (case c32 => k_is)
    (case k32 => k_is)
    (case y_abs => k_is)
    (case y_sum => k_is)
    (case y_sorted => k_is)
    (case y_max => k_is)
    (case y_tuple => k_is)
    (case y_len => k_is)
    (case y_range => k_is)
    (case y_int => k_is)
    (case y_isinstance => k_is)
    (case y_bool => k_is)
    (case y_dict => k_is)
    (case y_list => k_is)
    (case aC5 => k_is)
    (case x5 => first | k_exc | k_is)
    (case kC5 => k_is)
    (case sBC5 => k_is)
    (case tyC5 => k_is)
    (case hdC5 => k_is)
    (case x55 => first | k_is | rfl)
#print axioms PySem.Challenge.cw_drawntrue_k03_letters_and_values_holds
