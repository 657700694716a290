import PyProof.Rows.All
import Wide.All
import OpenK.AllK
import Wide.FinOn
import HandS.ForMost
import HandS.TupAny
import HandS.Zip
import KE.KDictKeyed
import KE.KDictCopyH
import KE.KDictSum
import KE.SortData
import KE.GoesEnum
import HandS.Walk
import HandS.DictComp
import HandS.Conv
import HandS.Nested
import HandS.IsInst
import HandS.Exc
import HandS.Deep
import HandS.TupMul
import PyProof.ListMulRoad
import PyProof.FactsAll.tuple_2
import HandS.EndTab
import HandS.NestedK
import HandS.Evl
import PyProof.IsiBase
import PyProof.IsiNone
import PyProof.FactsAll.object
import PySem.Challenge.RW_onesilent_k98_whole_machines_without_a_s
set_option Elab.async false
set_option linter.all false
set_option maxRecDepth 100000
set_option maxHeartbeats 4000000
/-! W1: dicts whose keys are rows of ints, or pairs of an int and such a row. -/
namespace G98
open PySem PySem.Spec PyProof.Rows L2

/-! ### keys -/
inductive Ky where
  | row (ns : List Int)
  | rst (i : Int) (ns : List Int)
  deriving DecidableEq
def Ky.nk : Ky → NestedKey
  | .row ns => .tup (ns.map .num)
  | .rst i ns => .tup [.num i, .tup (ns.map .num)]
theorem nums_inj : ∀ {a b : List Int}, a.map NestedKey.num = b.map NestedKey.num → a = b
  | [], [], _ => rfl
  | [], _ :: _, e => by simp at e
  | _ :: _, [], e => by simp at e
  | x :: xs, y :: ys, e => by
    rw [List.map_cons, List.map_cons] at e
    injection e with e1 e2
    injection e1 with e1
    rw [e1, nums_inj e2]
theorem Ky.nk_inj : ∀ {a b : Ky}, a.nk = b.nk → a = b
  | .row a, .row b, e => by
    injection e with e
    rw [nums_inj e]
  | .rst i a, .rst j b, e => by
    injection e with e
    injection e with e1 e2
    injection e1 with e1
    injection e2 with e2 _
    injection e2 with e2
    rw [e1, nums_inj e2]
  | .row a, .rst j b, e => by
    injection e with e
    match a, e with
    | [], e => simp at e
    | [x], e => simp at e
    | x :: y :: r, e => simp at e
  | .rst j b, .row a, e => by
    injection e with e
    match a, e with
    | [], e => simp at e
    | [x], e => simp at e
    | x :: y :: r, e => simp at e
theorem depth_nums : ∀ ns : List Int, NestedKey.depthAll (ns.map NestedKey.num) = 0
  | [] => rfl
  | n :: ns => by
    rw [List.map_cons, NestedKey.depthAll, depth_nums ns, NestedKey.depth]
    rfl
theorem Ky.shallow : ∀ k : Ky, k.nk.depth ≤ 8
  | .row ns => by
    show NestedKey.depth (.tup _) ≤ 8
    rw [NestedKey.depth, depth_nums]
    decide
  | .rst i ns => by
    show NestedKey.depth (.tup _) ≤ 8
    rw [NestedKey.depth, NestedKey.depthAll, NestedKey.depthAll, NestedKey.depthAll, NestedKey.depth, NestedKey.depth, depth_nums]
    decide
theorem dec_nk (a b : Ky) : decide (a.nk = b.nk) = decide (a = b) := decide_eq_decide.mpr ⟨Ky.nk_inj, fun e => by rw [e]⟩
/-- the kind of key -/
def kyKind (P : Program) (w : World) : HeapKind P w Ky where
  is := fun h k a => (nestedKind P w).is h k.nk a
  hash := fun k => (nestedKind P w).hash k.nk
  draws := fun k => (nestedKind P w).draws k.nk
  room := (nestedKind P w).room
  inj := fun hx hy => Ky.nk_inj ((nestedKind P w).inj hx hy)
  keeps := fun x ho hd hs => (nestedKind P w).keeps x ho hd hs
  pyHash := fun hu hk h => (nestedKind P w).pyHash hu hk h
  eqBool := fun hu hx hy h => (nestedKind P w).eqBool hu hx hy (by rw [dec_nk]; exact h)
  quiet := fun hk h => (nestedKind P w).quiet hk h
/-- the tracked tuples at a are the key k -/
def KyAt (H : Hp) : Ky → Addr → Prop
  | .row ns, a => H a = some (.tup (ns.map V.int))
  | .rst i ns, a => ∃ r, H a = some (.tup [.int i, .ref r]) ∧ H r = some (.tup (ns.map V.int))
theorem KyAt.ext {H H' : Hp} (e : ∀ b xs, H b = some (.tup xs) → H' b = some (.tup xs)) : ∀ {k : Ky} {a : Addr}, KyAt H k a → KyAt H' k a
  | .row _, _, h => e _ _ h
  | .rst _ _, _, ⟨r, h1, h2⟩ => ⟨r, e _ _ h1, e _ _ h2⟩
theorem KyAt.inj {H : Hp} : ∀ {k k' : Ky} {a : Addr}, KyAt H k a → KyAt H k' a → k = k'
  | .row ns, .row ms, a, h, h' => by
    have e : (some (HO.tup (ns.map V.int))) = some (.tup (ms.map V.int)) := h.symm.trans h'
    injection e with e
    injection e with e
    have : ns = ms := by
      have q := congrArg (List.map (fun v => match v with | V.int i => i | _ => 0)) e
      simpa [List.map_map, Function.comp_def] using q
    rw [this]
  | .rst i ns, .rst j ms, a, ⟨r, h1, h2⟩, ⟨r', h1', h2'⟩ => by
    rw [h1] at h1'
    injection h1' with e
    injection e with e
    simp only [List.cons.injEq, V.int.injEq, V.ref.injEq, and_true] at e
    obtain ⟨rfl, rfl⟩ := e
    rw [h2] at h2'
    injection h2' with e
    injection e with e
    have : ns = ms := by
      have q := congrArg (List.map (fun v => match v with | V.int i => i | _ => 0)) e
      simpa [List.map_map, Function.comp_def] using q
    rw [this]
  | .row ns, .rst j ms, a, h, ⟨r, h1, _⟩ => by
    have h : H a = some (.tup (ns.map V.int)) := h
    rw [h] at h1
    injection h1 with e
    injection e with e
    match ns, e with
    | [], e => simp at e
    | [x], e => simp at e
    | x :: y :: r, e => simp at e
  | .rst j ms, .row ns, a, ⟨r, h1, _⟩, h => by
    have h : H a = some (.tup (ns.map V.int)) := h
    rw [h] at h1
    injection h1 with e
    injection e with e
    match ns, e with
    | [], e => simp at e
    | [x], e => simp at e
    | x :: y :: r, e => simp at e
section
variable {P : Program} {w : World} {H : Hp} {h : Heap}
theorem nested_ints {h : Heap} : ∀ {ns : List Int} {us : List Value}, Vals (ns.map V.int) us → NestedAll h (ns.map NestedKey.num) us
  | [], _, r => by
    rw [List.map_nil] at r
    cases r
    exact .nil
  | n :: ns, _, r => by
    rw [List.map_cons] at r
    cases r with
    | cons h1 h2 =>
      obtain ⟨t, rfl⟩ := h1
      exact .cons (.int n t) (nested_ints h2)
theorem tup_obj {a : Addr} {xs : List V} (ok : HOk P w H h) (e : H a = some (.tup xs)) : ∃ (o : Obj) (us : List Value) (n : Nat), h.get? a = some o ∧ o.cls = .type "tuple" ∧ o.data = .seq us.toArray n ∧ Vals xs us := by
  obtain ⟨_, us, r, o, e1, e2, n, e3⟩ := ok a _ e
  exact ⟨o, us, n, e1, e2, e3, r⟩
theorem ky_is (ok : HOk P w H h) : ∀ {k : Ky} {a : Addr}, KyAt H k a → (kyKind P w).is h k a
  | .row ns, a, e => by
    obtain ⟨o, us, n, e1, e2, e3, r⟩ := tup_obj ok e
    exact ⟨.tup e1 e2 e3 (by rw [List.toList_toArray]; exact nested_ints r), Ky.shallow _⟩
  | .rst i ns, a, ⟨b, e, e'⟩ => by
    obtain ⟨o, us, n, e1, e2, e3, r⟩ := tup_obj ok e
    obtain ⟨o', us', n', e1', e2', e3', r'⟩ := tup_obj ok e'
    cases r with
    | cons r1 rr =>
      cases rr with
      | cons r2 rr =>
        cases rr
        obtain ⟨t, rfl⟩ := r1
        cases r2
        exact ⟨.tup e1 e2 e3 (.cons (.int i t) (.cons (.tup e1' e2' e3' (by rw [List.toList_toArray]; exact nested_ints r')) .nil)), Ky.shallow _⟩
end

/-! ### the dict, tracked -/
/-- the object at d is a dict of the entries xs -/
def RawN (P : Program) (w : World) (d : Addr) (xs : List (Ky × Addr × Value)) (ep : Nat) : HO :=
  .ext fun h => ∃ (o : Obj) (es : Array DictEntry), h.get? d = some o ∧ o.ExactDict ∧ o.data = .dict es ep ∧ es.toList = xs.map (entryOfKey (kyKind P w))
abbrev KVA := List (Ky × Addr × V)
abbrev VA : KVA → List (Ky × Addr × Value) → Prop := Paired fun p q => p.1 = q.1 ∧ p.2.1 = q.2.1 ∧ RelV p.2.2 q.2.2
def lk (kvs : KVA) (k : Ky) : Option (Addr × V) := (kvs.find? fun p => decide (p.1 = k)).map (·.2)
def putN (kvs : KVA) (k : Ky) (a : Addr) (v : V) : KVA := if (lk kvs k).isSome then kvs.map (fun p => if p.1 = k then (p.1, p.2.1, v) else p) else kvs ++ [(k, a, v)]
/-- at d a dict of the pairs kvs, its keys' tuples told -/
structure ND (P : Program) (w : World) (H : Hp) (d : Addr) (kvs : KVA) : Prop where
  at_ : ∃ xs ep, H d = some (RawN P w d xs ep) ∧ VA kvs xs
  keys : ∀ p ∈ kvs, KyAt H p.1 p.2.1
  nd : (kvs.map (·.1)).Nodup
  lo : (d == sysModules) = false
  sz : kvs.length ≤ sizeLine
theorem ND.ext {P : Program} {w : World} {H H' : Hp} {d : Addr} {kvs : KVA} (x : ND P w H d kvs) (hd : H' d = H d) (ht : ∀ b xs, H b = some (.tup xs) → H' b = some (.tup xs)) : ND P w H' d kvs :=
  ⟨let ⟨xs, ep, e, r⟩ := x.at_; ⟨xs, ep, hd.trans e, r⟩, fun p hp => (x.keys p hp).ext ht, x.nd, x.lo, x.sz⟩
theorem ND.same {P : Program} {w : World} {H H' : Hp} {d : Addr} {kvs : KVA} (x : ND P w H d kvs) (e : Same H H') : ND P w H' d kvs :=
  x.ext (let ⟨_, _, q, _⟩ := x.at_; (e _ _ q).trans q.symm) fun b xs q => e b _ q
theorem VA.len {kvs : KVA} {xs : List (Ky × Addr × Value)} (r : VA kvs xs) : kvs.length = xs.length := Paired.length r
theorem VA.keys : ∀ {kvs : KVA} {xs : List (Ky × Addr × Value)}, VA kvs xs → kvs.map (·.1) = xs.map (·.1)
  | _, _, .nil => rfl
  | _, _, .cons h t => by rw [List.map_cons, List.map_cons, h.1, VA.keys t]
theorem VA.iss : ∀ {kvs : KVA} {xs : List (Ky × Addr × Value)} {k : Ky}, VA kvs xs → ((lk kvs k).isSome = (atKey xs k).isSome)
  | _, _, _, .nil => rfl
  | p :: kvs, q :: xs, k, .cons h t => by
    have ih := VA.iss (k := k) t
    unfold lk atKey at ih ⊢
    by_cases e : p.1 = k
    · rw [List.find?_cons_of_pos (by simp [e]), List.find?_cons_of_pos (by simp [← h.1, e])]
      rfl
    · rw [List.find?_cons_of_neg (by simp [e]), List.find?_cons_of_neg (by simp [← h.1, e])]
      exact ih
theorem VA.get : ∀ {kvs : KVA} {xs : List (Ky × Addr × Value)} {k : Ky} {a : Addr} {v : V}, VA kvs xs → lk kvs k = some (a, v) → ∃ u, atKey xs k = some (a, u) ∧ RelV v u
  | _, _, _, _, _, .nil, e => by cases e
  | p :: kvs, q :: xs, k, a, v, .cons h t, e => by
    unfold lk at e
    unfold atKey
    by_cases z : p.1 = k
    · rw [List.find?_cons_of_pos (by simp [z])] at e
      rw [List.find?_cons_of_pos (by simp [← h.1, z])]
      have e : p.2 = (a, v) := Option.some.inj e
      have e1 : q.2.1 = a := by rw [← h.2.1, e]
      have e2 : RelV v q.2.2 := by have := h.2.2; rw [e] at this; exact this
      exact ⟨q.2.2, by rw [← e1]; rfl, e2⟩
    · rw [List.find?_cons_of_neg (by simp [z])] at e
      rw [List.find?_cons_of_neg (by simp [← h.1, z])]
      exact VA.get t e
theorem VA.find : ∀ {kvs : KVA} {xs : List (Ky × Addr × Value)} {k : Ky} {p : Addr × Value}, VA kvs xs → atKey xs k = some p → ∃ v, lk kvs k = some (p.1, v) ∧ RelV v p.2
  | kvs, xs, k, p, r, e => by
    have q : (lk kvs k).isSome = true := by rw [r.iss, e]; rfl
    obtain ⟨⟨a, v⟩, hq⟩ := Option.isSome_iff_exists.mp q
    obtain ⟨u, h1, h2⟩ := r.get hq
    rw [e] at h1
    cases h1
    exact ⟨v, hq, h2⟩
theorem VA.snoc {k : Ky} {a : Addr} {v : V} {u : Value} (rv : RelV v u) : ∀ {kvs : KVA} {xs : List (Ky × Addr × Value)}, VA kvs xs → VA (kvs ++ [(k, a, v)]) (xs ++ [(k, a, u)])
  | _, _, .nil => .cons ⟨rfl, rfl, rv⟩ .nil
  | _, _, .cons h t => .cons h (VA.snoc rv t)
theorem VA.repl {k : Ky} {v : V} {u : Value} (rv : RelV v u) : ∀ {kvs : KVA} {xs : List (Ky × Addr × Value)}, VA kvs xs → VA (kvs.map fun p => if p.1 = k then (p.1, p.2.1, v) else p) (xs.map (putAt k u))
  | _, _, .nil => .nil
  | p :: kvs, q :: xs, .cons h t => by
    refine .cons ?_ (VA.repl rv t)
    unfold putAt
    dsimp only
    by_cases e : p.1 = k
    · rw [if_pos e, if_pos (h.1.symm.trans e)]
      exact ⟨h.1, h.2.1, rv⟩
    · rw [if_neg e, if_neg (fun z => e (h.1.trans z))]
      exact h
theorem VA.put {k : Ky} {a : Addr} {v : V} {u : Value} {kvs : KVA} {xs : List (Ky × Addr × Value)} (r : VA kvs xs) (rv : RelV v u) : VA (putN kvs k a v) (storedH xs k a u) := by
  unfold putN storedH
  rw [r.iss]
  split
  · exact r.repl rv
  · exact r.snoc rv
theorem lk_mem {kvs : KVA} {k : Ky} {a : Addr} {v : V} (e : lk kvs k = some (a, v)) : (k, a, v) ∈ kvs := by
  unfold lk at e
  cases q : kvs.find? fun p => decide (p.1 = k) with
  | none => rw [q] at e; cases e
  | some p =>
    rw [q] at e
    have e : p.2 = (a, v) := Option.some.inj e
    have h1 := List.mem_of_find?_eq_some q
    have h2 : p.1 = k := by simpa using List.find?_some q
    have e3 : p = (k, a, v) := by rw [← h2, ← e]
    rw [← e3]
    exact h1
theorem lk_some_of_mem {kvs : KVA} {k : Ky} (h : k ∈ kvs.map (·.1)) : (lk kvs k).isSome = true := by
  obtain ⟨p, hp, e⟩ := List.mem_map.mp h
  unfold lk
  rw [Option.isSome_map, List.find?_isSome]
  exact ⟨p, hp, by simp [e]⟩
theorem lk_isSome {kvs : KVA} {k : Ky} : (lk kvs k).isSome = decide (k ∈ kvs.map (·.1)) := by
  by_cases h : k ∈ kvs.map (·.1)
  · rw [lk_some_of_mem h, decide_eq_true h]
  · rw [decide_eq_false h]
    cases e : lk kvs k with
    | none => rfl
    | some p => exact absurd (List.mem_map.mpr ⟨(k, p.1, p.2), lk_mem e, rfl⟩) h
theorem keys_put (kvs : KVA) (k : Ky) (a : Addr) (v : V) : (putN kvs k a v).map (·.1) = if k ∈ kvs.map (·.1) then kvs.map (·.1) else kvs.map (·.1) ++ [k] := by
  unfold putN
  rw [lk_isSome]
  by_cases h : k ∈ kvs.map (·.1)
  · rw [decide_eq_true h, if_pos rfl, if_pos h, List.map_map]
    refine List.map_congr_left fun p _ => ?_
    show (if p.1 = k then (p.1, p.2.1, v) else p).1 = p.1
    split <;> rfl
  · rw [decide_eq_false h, if_neg (by decide), if_neg h, List.map_append]
    rfl
theorem length_put (kvs : KVA) (k : Ky) (a : Addr) (v : V) : (putN kvs k a v).length ≤ kvs.length + 1 := by
  unfold putN
  split
  · rw [List.length_map]
    omega
  · rw [List.length_append]
    exact Nat.le_refl _
theorem nodup_put {kvs : KVA} (h : (kvs.map (·.1)).Nodup) (k : Ky) (a : Addr) (v : V) : ((putN kvs k a v).map (·.1)).Nodup := by
  rw [keys_put]
  split
  · exact h
  · rename_i hn
    rw [List.nodup_append]
    refine ⟨h, List.nodup_cons.mpr ⟨List.not_mem_nil, List.nodup_nil⟩, fun x hx y hy e => ?_⟩
    obtain rfl : y = k := by simpa using hy
    exact hn (e ▸ hx)
theorem mem_put {kvs : KVA} {k : Ky} {a : Addr} {v : V} {p : Ky × Addr × V} (h : p ∈ putN kvs k a v) : (p.1 = k ∧ p.2.1 = a) ∨ ∃ v', (p.1, p.2.1, v') ∈ kvs := by
  unfold putN at h
  split at h
  · obtain ⟨q, hq, e⟩ := List.mem_map.mp h
    split at e
    · subst e
      exact .inr ⟨q.2.2, hq⟩
    · subst e
      exact .inr ⟨_, hq⟩
  · rcases List.mem_append.mp h with h | h
    · exact .inr ⟨_, h⟩
    · obtain rfl : p = (k, a, v) := by simpa using h
      exact .inl ⟨rfl, rfl⟩
theorem lk_put (kvs : KVA) (k j : Ky) (a : Addr) (v : V) : (lk (putN kvs k a v) j).map (·.2) = if j = k then some v else (lk kvs j).map (·.2) := by
  unfold putN
  cases hs : (lk kvs k).isSome with
  | true =>
    rw [if_pos rfl]
    have go : ∀ l : KVA, (k ∈ l.map (·.1) ∨ j ≠ k) → (lk (l.map fun p => if p.1 = k then (p.1, p.2.1, v) else p) j).map (·.2) = if j = k then some v else (lk l j).map (·.2) := by
      intro l
      induction l with
      | nil =>
        intro h
        rcases h with h | h
        · simp at h
        · rw [if_neg h]
          rfl
      | cons p l ih =>
        intro h
        unfold lk at ih ⊢
        rw [List.map_cons]
        by_cases e : p.1 = k
        · rw [if_pos e]
          by_cases ej : j = k
          · rw [if_pos ej, List.find?_cons_of_pos (by simp [ej, e])]
            rfl
          · rw [if_neg ej, List.find?_cons_of_neg (by simp [e, Ne.symm ej]), List.find?_cons_of_neg (by simp [e, Ne.symm ej])]
            have := ih (.inr ej)
            rw [if_neg ej] at this
            exact this
        · rw [if_neg e]
          by_cases ep : p.1 = j
          · rw [List.find?_cons_of_pos (by simp [ep]), List.find?_cons_of_pos (by simp [ep]), if_neg (fun z => e (ep.trans z))]
          · rw [List.find?_cons_of_neg (by simp [ep]), List.find?_cons_of_neg (by simp [ep])]
            refine ih ?_
            rcases h with h | h
            · rw [List.map_cons] at h
              rcases List.mem_cons.mp h with h | h
              · exact absurd h.symm e
              · exact .inl h
            · exact .inr h
    refine go kvs ?_
    rw [lk_isSome] at hs
    exact .inl (of_decide_eq_true hs)
  | false =>
    rw [if_neg (by decide)]
    have hn : lk kvs k = none := by
      cases e : lk kvs k with
      | none => rfl
      | some p => rw [e] at hs; cases hs
    unfold lk at hn ⊢
    rw [List.find?_append]
    cases e : kvs.find? fun p => decide (p.1 = j) with
    | none =>
      by_cases ej : j = k
      · rw [if_pos ej]
        simp [ej]
      · rw [if_neg ej]
        simp [Ne.symm ej]
    | some p =>
      by_cases ej : j = k
      · subst ej
        rw [e] at hn
        cases hn
      · rw [if_neg ej]
        simp
end G98

/-! W2: what is done with such dicts. -/
namespace G98
open PySem PySem.Spec PyProof.Rows L2

theorem VA.back : ∀ {kvs : KVA} {xs : List (Ky × Addr × Value)} {q : Ky × Addr × Value}, VA kvs xs → q ∈ xs → ∃ p ∈ kvs, p.1 = q.1 ∧ p.2.1 = q.2.1
  | _, _, _, .nil, e => nomatch e
  | p :: kvs, q' :: xs, q, .cons h t, e => by
    rcases List.mem_cons.mp e with e | e
    · subst e
      exact ⟨p, List.mem_cons_self, h.1, h.2.1⟩
    · obtain ⟨p', h1, h2⟩ := VA.back t e
      exact ⟨p', List.mem_cons_of_mem _ h1, h2⟩
theorem rawN_ok {P : Program} {w : World} {H : Hp} {h : Heap} {d : Addr} {xs : List (Ky × Addr × Value)} {ep : Nat} {o : Obj} {es : Array DictEntry} (h1 : h.get? d = some o) (h2 : o.ExactDict) (h3 : o.data = .dict es ep)
    (h4 : es.toList = xs.map (entryOfKey (kyKind P w))) : ObjOk P w H h d (RawN P w d xs ep) :=
  ⟨⟨o, es, h1, h2, h3, h4⟩, ⟨o, h1⟩, fun _ _ ⟨o, es, a, b, c, e⟩ st => ⟨o, es, st _ a, b, c, e⟩⟩
section
variable {X : Cx} {pins : List (Addr × Obj)} {σ : L2.St} {H : Hp} {s : Shared} {d : Addr} {kvs : KVA}
theorem nd_raw (I : Inv X pins σ H s) {xs : List (Ky × Addr × Value)} {ep : Nat} (e : H d = some (RawN X.prog X.w d xs ep)) : ∃ (o : Obj) (es : Array DictEntry), s.heap.get? d = some o ∧ o.ExactDict ∧ o.data = .dict es ep ∧ es.toList = xs.map (entryOfKey (kyKind X.prog X.w)) := by
  obtain ⟨z, _, _⟩ := I.hok d _ e
  exact z
theorem nd_dict (I : Inv X pins σ H s) (x : ND X.prog X.w H d kvs) : ∃ xs, VA kvs xs ∧ s.heap.DictOfH (kyKind X.prog X.w) d xs := by
  obtain ⟨xs, ep, e, r⟩ := x.at_
  obtain ⟨o, es, h1, h2, h3, h4⟩ := nd_raw I e
  refine ⟨xs, r, o, es, ep, h1, h2, h3, h4, fun q hq => ?_, by rw [← r.keys]; exact x.nd⟩
  obtain ⟨p, hp, e1, e2⟩ := r.back hq
  rw [← e1, ← e2]
  exact ky_is I.hok (x.keys p hp)
theorem nd_ne {b : Addr} {o : HO} (x : ND X.prog X.w H d kvs) (e : H b = some o) (h : ∀ φ, o ≠ .ext φ) : b ≠ d := fun z => by
  obtain ⟨xs, ep, q, _⟩ := x.at_
  rw [z, q] at e
  exact h _ (Option.some.inj e).symm
/-- a store into it -/
theorem nd_write {xs : List (Ky × Addr × Value)} {k : Ky} {a : Addr} {v : V} {u : Value} {h' : Heap} (t' : Nat) (I : Inv X pins σ H s) (x : ND X.prog X.w H d kvs) (r : VA kvs xs) (hk : KyAt H k a) (rv : RelV v u) (hz : kvs.length < sizeLine)
    (dd : h'.DictOfH (kyKind X.prog X.w) d (storedH xs k a u)) (hs : Heap.SameBut d s.heap h') : ∃ o, ND X.prog X.w (upd H d o) d (putN kvs k a v) ∧ Inv X pins σ (upd H d o) { s with heap := h', toks := t' } := by
  obtain ⟨o, es, ep, h1, h2, h3, h4, h5, h6⟩ := dd
  have tp2 : ∀ b ys, H b = some (.tup ys) → upd H d (RawN X.prog X.w d (storedH xs k a u) ep) b = some (.tup ys) := fun b ys e => by
    rw [upd_ne (nd_ne x e fun _ z => nomatch z)]
    exact e
  refine ⟨RawN X.prog X.w d (storedH xs k a u) ep, ⟨⟨_, ep, upd_same, r.put rv⟩, fun p hp => ?_, nodup_put x.nd k a v, x.lo, Nat.le_trans (length_put kvs k a v) hz⟩, ?_⟩
  · rcases mem_put hp with ⟨e1, e2⟩ | ⟨v', hm⟩
    · rw [e1, e2]
      exact hk.ext tp2
    · exact (x.keys _ hm).ext tp2
  · have mu : Mut (H d) := by
      obtain ⟨xs, ep, q, _⟩ := x.at_
      rw [q]
      trivial
    exact d_write I mu hs ⟨o, h1⟩ (rawN_ok h1 h2 h3 h4)
theorem ky_room {A : Around} (hu : A.units + 64 < cLine) : (kyKind X.prog X.w).room A.in1 := by
  show A.in1.units + 8 < cLine
  rw [Around.in1_units]
  omega
/-- {} -/
def tNNew (P : Program) (w : World) : TE := fun _ H Q => ∀ p o, H p = none → ND P w (upd H p o) p [] → Q (.ref p) (upd H p o)
theorem pe_nnew {pos : Pos} : PE X (.Dict [] [] pos) (tNNew X.prog X.w) := by
  refine ⟨fun pins s σ H Q I h => ?_⟩
  have hp := I.hok.fresh (Nat.le_refl _)
  have lo : (s.heap.objs.size == sysModules) = false := beq_eq_false_iff_ne.mpr (Ne.symm (Nat.ne_of_lt I.big))
  refine wpAny_Dict_empty ⟨.ref s.heap.objs.size, _, I.laid (a := s.heap.objs.size) (o := RawN X.prog X.w s.heap.objs.size [] 0) (t' := s.toks) (fun _ _ q => Heap.get?_push_of_some _ q) (Nat.le_refl _)
    (rawN_ok (Heap.get?_push_size _ rfl) ⟨rfl, rfl, rfl⟩ rfl rfl), rfl, h _ _ hp ⟨⟨[], 0, upd_same, .nil⟩, fun p hp => (nomatch hp), List.nodup_nil, lo, Nat.zero_le _⟩⟩
/-- k in d -/
def rInN (P : Program) (w : World) : R2 := fun x y H Q => ∃ d kvs k a, x = .ref a ∧ y = .ref d ∧ ND P w H d kvs ∧ KyAt H k a ∧ Q (.bl (lk kvs k).isSome) H
theorem op_inN (hu : X.A.units + 64 < cLine) : OpR X (compareOp .In) (rInN X.prog X.w) := by
  intro pins s σ H x y v u Q I rx ry q
  obtain ⟨d, kvs, k, a, rfl, rfl, x, hk, q⟩ := q
  cases rx
  cases ry
  obtain ⟨xs, r, dd⟩ := nd_dict I x
  refine wpAny_in_heap (ky_room hu) (ky_is I.hok hk) x.lo dd ?_
  rw [← r.iss]
  exact ⟨.bl _, H, I.tok _, rfl, q⟩
/-- d[k] -/
def tNGet (P : Program) (w : World) (td tk : TE) : TE := fun σ H Q => td σ H fun x H1 => tk σ H1 fun y H2 => ∃ d kvs k a b v, x = .ref d ∧ y = .ref a ∧ ND P w H2 d kvs ∧ KyAt H2 k a ∧ lk kvs k = some (b, v) ∧ Q v H2
theorem pe_nget {o i : Expr} {td tk : TE} {pos : Pos} (hu : X.A.units + 64 < cLine) (ho : PE X o td) (hi : PE X i tk) (hs : NoSl i) : PE X (.Subscript o i pos) (tNGet X.prog X.w td tk) := by
  refine ⟨fun pins s σ H Q I h => ?_⟩
  refine subD_of PySem.F.slot_dict_getitem.lookup hs (thn (ho.run pins s σ H _ I h) fun u s1 ⟨x, H1, I1, rx, q1⟩ => thn (hi.run pins s1 σ H1 _ I1 q1) fun iv s2 ⟨y, H2, I2, ry, q2⟩ => ?_)
  obtain ⟨d, kvs, k, a, b, v, rfl, rfl, x, hk, e, q⟩ := q2
  cases rx
  cases ry
  obtain ⟨xs, r, dd⟩ := nd_dict I2 x
  obtain ⟨u, e1, e2⟩ := r.get e
  exact ⟨dd.typeIs, wpAny_getItem_heap (ky_room hu) (ky_is I2.hok hk) dd e1 ⟨v, H2, I2.tok _, e2, q⟩⟩
/-! ### d.setdefault(k, x) -/
def tSetD (P : Program) (w : World) (td : TE) (t : TA) : TE := fun σ H Q => td σ H fun x H1 => ∃ d, x = .ref d ∧ (∃ kvs, ND P w H1 d kvs) ∧ t σ H1 fun vs H2 => ∃ kvs k a v, vs = [.ref a, v] ∧ ND P w H2 d kvs ∧ KyAt H2 k a ∧ kvs.length < sizeLine ∧
  (∀ b u, lk kvs k = some (b, u) → Q u H2) ∧ (lk kvs k = none → ∀ o, ND P w (upd H2 d o) d (putN kvs k a v) → Q v (upd H2 d o))
theorem pe_setd {o e e2 : Expr} {td : TE} {t : TA} {apos cpos : Pos} (hu : X.A.units + 64 < cLine) (ho : PE X o td) (ha : PA X [e, e2] t)
    (hbase : attributeBase o "setdefault" X.env (eval o X.env) = eval o X.env := by rfl)
    (hfew : ((backTo cpos (starEach [e, e2] X.env)).all (fun x => !x.1) && (backToKw cpos (keywordEach [] X.env)).all (fun x => x.1.isSome)
      && decide ([e, e2].length + ([] : List Keyword).length + (if ([] : List Keyword).isEmpty then 0 else 1) < 30)) = true := by rfl)
    (hline : (apos.endLine == cpos.line) = true := by rfl) (hs : starEach [e, e2] X.env = (false, eval e X.env) :: starEach [e2] X.env := by rfl) (hplain : (backTo cpos (starEach [e2] X.env)).any (·.1) = false := by rfl) :
    PE X (.Call (.Attribute o "setdefault" apos) [e, e2] [] cpos) (tSetD X.prog X.w td t) := by
  refine ⟨fun pins s σ H Q I h => ?_⟩
  refine wpAny_Call_method_late hbase hfew hline rfl (thn (ho.run pins s σ H _ I h) fun v s1 ⟨x, H1, I1, r1, d, ex, ⟨kvs0, x0⟩, q1⟩ => ?_)
  subst ex
  cases r1
  obtain ⟨xs0, _, dd0⟩ := nd_dict I1 x0
  refine ⟨"dict", "dict.setdefault", PySem.F.plainAttrs_dict, PySem.F.slot_dict_setdefault, PySem.F.type_dict_setdefault, dd0.typeIs, fun a ea => ?_, ?_⟩
  · cases ea
    obtain ⟨ob, es, ep, e1, e2, _⟩ := dd0
    exact ⟨ob, e1, e2.2.1⟩
  have hA := ha.run cpos pins s1 σ H1 _ I1 q1
  rw [hs] at hA ⊢
  refine Calls.callWith_builtin (by show (false || (backTo cpos (starEach [e2] X.env)).any (·.1)) = false; rw [hplain] <;> rfl) (Calls.evalArgs_plain ?_)
  refine thn hA fun us s2 ⟨vs, H2, I2, r2, kvs, k, a, v, ev, x, hk, hz, q1, q2⟩ => ?_
  subst ev
  obtain ⟨u1, u2, rfl, ra, rv⟩ := vals2 r2
  cases ra
  obtain ⟨xs, r, dd⟩ := nd_dict I2 x
  refine call_setdefault_heap (ky_room hu) (ky_is I2.hok hk) x.lo dd (fun p e => ?_) (fun e h' dd' hsb => ?_) (by rw [← r.len]; exact x.sz)
  · obtain ⟨y, e1, e2⟩ := r.find e
    exact ⟨y, H2, I2.tok _, e2, q1 _ _ e1⟩
  · obtain ⟨ob, nd', I3⟩ := nd_write (s2.toks + (kyKind X.prog X.w).draws k) I2 x r hk rv hz dd' hsb
    refine ⟨v, _, I3, rv, q2 ?_ ob nd'⟩
    have z := r.iss (k := k)
    rw [e] at z
    cases e3 : lk kvs k with
    | none => rfl
    | some p => rw [e3] at z; cases z
end
end G98

/-! W3a: the keys of such a dict walked; enumerate of a tuple. -/
namespace G98
open PySem PySem.Spec PyProof.Rows L2

/-! ### for k in d -/
def ItN (P : Program) (w : World) (d : Addr) (xs : List (Ky × Addr × Value)) (ep : Nat) : It :=
  ⟨fun i H => i < xs.length ∧ H d = some (RawN P w d xs ep), fun i H x H' => H' = H ∧ ∃ q, xs[i]? = some q ∧ x = .ref q.2.1, fun i H => xs.length ≤ i ∧ H d = some (RawN P w d xs ep)⟩
theorem turn_nkeys {P : Program} {w : World} {K : PySem.W.Frag} {tg : Expr} {d it : Addr} {xs : List (Ky × Addr × Value)} {ep : Nat} : Turn P w K tg (ItN P w d xs ep) [it] it (fun i h => h.IsKeyIter it d i xs.length ep) where
  mem := List.mem_singleton.mpr rfl
  obj := fun i h st b hb => by
    obtain rfl : b = it := List.mem_singleton.mp hb
    obtain ⟨o, e1, e2, e3⟩ := st
    exact ⟨o, e1, fun v z => by rw [e3] at z; cases z⟩
  keep := fun i h h' st k => st.at fun o e => k it (List.mem_singleton.mpr rfl) o e
  item := by
    intro X hP hw hK hc i pins s σ H E I hf st hg
    subst hP hw hK
    obtain ⟨hi, hd⟩ := hg
    obtain ⟨f0, f1, f2, f3, f4, f5⟩ := hf it (List.mem_singleton.mpr rfl)
    obtain ⟨o, es, h1, h2, h3, h4⟩ := nd_raw I hd
    have hsz : es.size = xs.length := size_of_entries h4
    have hlt : i < es.size := by rw [hsz]; exact hi
    have st1 : s.heap.IsKeyIter it d i es.size ep := by rw [hsz]; exact st
    obtain ⟨q, hq⟩ : ∃ q, xs[i]? = some q := ⟨_, List.getElem?_eq_getElem hi⟩
    have hke : es[i].key = .ref q.2.1 := by
      have z := entry_at h4 i
      rw [hq, Array.getElem?_eq_getElem hlt] at z
      rw [Option.some.inj z]
      rfl
    refine wpAny_pyNext_keys_item_raw st1 ⟨o, h1, h2, h3⟩ hlt fun h' st2 sb => ?_
    have I1 : Inv X pins σ H { s with heap := h' } := I.turned (t' := s.toks) (fun b ob hb e => (sb.2 b hb).trans e) f0 f1 f3 f4 f5
    obtain ⟨oi, g1, g2, g3⟩ := id st2
    refine ⟨_, rfl, go_of (s := { s with heap := h' }) g1 g2 g3 (by decide) ⟨.ref q.2.1, H, I1, hke, ⟨rfl, q, hq, rfl⟩, ?_, fun b hb => (hf b hb).1⟩⟩
    show h'.IsKeyIter it d (i + 1) xs.length ep
    rw [← hsz]
    exact st2
  done := by
    intro X hP hw hK hc i pins s σ H E I hf st hg
    subst hP hw hK
    obtain ⟨hi, hd⟩ := hg
    obtain ⟨f0, f1, f2, f3, f4, f5⟩ := hf it (List.mem_singleton.mpr rfl)
    obtain ⟨o, es, h1, h2, h3, h4⟩ := nd_raw I hd
    have hsz : es.size = xs.length := size_of_entries h4
    have st1 : s.heap.IsKeyIter it d i es.size ep := by rw [hsz]; exact st
    exact wpAny_pyNext_keys_end_raw (I.ok.hd hc) st1 ⟨o, h1, h2, h3⟩ (by rw [hsz]; exact hi) fun h' eb => ⟨rfl, I.turned (t' := s.toks) (fun b ob hb e => eb b ob hb e) f0 f1 f3 f4 f5⟩
  self := fun A i s Q E st h => wpAny_pyIter_keyiter st h
theorem VA.at1 : ∀ {kvs : KVA} {xs : List (Ky × Addr × Value)} {i : Nat} {q : Ky × Addr × Value}, VA kvs xs → xs[i]? = some q → ∃ p, kvs[i]? = some p ∧ p.1 = q.1 ∧ p.2.1 = q.2.1
  | _, _, i, q, .nil, e => by simp at e
  | p :: _, _, 0, q, .cons h _, e => by
    simp only [List.getElem?_cons_zero, Option.some.injEq] at e
    subst e
    exact ⟨p, rfl, h.1, h.2.1⟩
  | _, _, i + 1, q, .cons _ t, e => by
    simp only [List.getElem?_cons_succ] at e ⊢
    exact VA.at1 t e
/-- what a walk of d's keys gives: the address of the i-th key -/
abbrev YKeys (kvs : KVA) : Nat → Hp → V → Hp → Prop := fun i H x H' => H' = H ∧ ∃ p, kvs[i]? = some p ∧ x = .ref p.2.1
def iNKeys (P : Program) (w : World) (td : TE) : TI := fun σ H R => td σ H fun x H1 => ∃ d kvs, x = .ref d ∧ ND P w H1 d kvs ∧ ∀ J, Walk J kvs.length (fun H => H d = H1 d) (YKeys kvs) → R J H1
theorem pi_nkeys {X : Cx} {tg l : Expr} {td : TE} (hl : PE X l td) : PI X tg l (iNKeys X.prog X.w td) := by
  refine ⟨fun pins s σ H R I h => ?_⟩
  refine thn (hl.run pins s σ H _ I h) fun v s1 ⟨x, H1, I1, r1, q1⟩ => ?_
  obtain ⟨d, kvs, rfl, x, q⟩ := q1
  cases r1
  obtain ⟨xs, ep, e, r⟩ := x.at_
  obtain ⟨o, es, h1, h2, h3, h4⟩ := nd_raw I1 e
  have hsz : es.size = xs.length := size_of_entries h4
  refine wpAny_pyIter_dict_raw x.lo ⟨o, h1, h2, h3⟩ ?_
  refine pi_one (tk := s1.toks) I1 _ (turn_nkeys (d := d) (xs := xs) (ep := ep)) ?_ (q _ ⟨fun i H hi hG => ?_, fun H hG => ?_, fun i H x H' hi hG hy => ?_⟩)
  · rw [hsz]
    exact ⟨_, Heap.get?_push_size _ rfl, rfl, rfl⟩
  · exact ⟨by rw [← r.len]; exact hi, hG.trans e⟩
  · exact ⟨Nat.le_of_eq r.len.symm, hG.trans e⟩
  · obtain ⟨rfl, q, hq, rfl⟩ := hy
    obtain ⟨p, hp, e1, e2⟩ := r.at1 hq
    exact ⟨rfl, p, hp, by rw [e2]⟩

/-! ### enumerate(t), t a tuple -/
theorem meets_enum1 {v : Value} {o : Obj} {G : Heap → Prop} (B : Begins v o G) :
    Meets (Builtin.«enumerate.__new__» ⟨[.type "enumerate", v], []⟩) (fun _ R s => G s.heap ∧
      R (.ok (.ret (.ref (s.heap.push o).objs.size))) { s with heap := (s.heap.push o).push { cls := .type "enumerate", data := .fields #[.none, .bool false, .ref s.heap.objs.size, rawInt 0, .none, .none] } }) :=
  .of_wp fun prog w A R s h => by
    obtain ⟨hp, g, dr, tk, os⟩ := s
    obtain ⟨hG, h⟩ := h
    have hsub := sub_enumerate
    have go : ∀ {A' : Around} {E : Value → Shared → Prop} {Q : Value → Shared → Prop}, Q (.ref hp.objs.size) ⟨hp.push o, g, dr, tk, os⟩ → wpAny (model prog w) A' (pyIter v) Q E ⟨hp, g, dr, tk, os⟩ :=
      fun q => B.iter prog w _ _ ⟨hp, g, dr, tk, os⟩ _ hG q
    wp_walk using go
    refine wpAny_stack_any fun st => wpAny_pure ?_
    split
    · rename_i c _ _ _ _ _
      cases (c == Value.type "enumerate")
      · wp_walk using go
        exact ⟨_, rfl, h⟩
      · wp_walk using go
        exact ⟨_, rfl, h⟩
    · wp_walk using go
      exact ⟨_, rfl, h⟩
section
variable {prog : Program} {w : World} {A : Around} {E : Value → Shared → Prop} {s : Shared}
theorem call_enum1 {v : Value} {o : Obj} {G : Heap → Prop} {Q : Value → Shared → Prop} (B : Begins v o G) (hG : G s.heap)
    (h : ∀ h', IsEnum h' (s.heap.objs.size + 1) s.heap.objs.size 0 .none → h'.get? s.heap.objs.size = some o → (∀ b u, s.heap.get? b = some u → h'.get? b = some u) → Q (.ref (s.heap.objs.size + 1)) { s with heap := h' }) :
    wpAny (model prog w) A (call (.type "enumerate") [v]) Q E s := by
  refine callType_new F.called_enumerate (by decide) (F.typeCall_enumerate_1 _) (F.newCall_enumerate_1 _) (fun obj => F.args_object_init_2 obj _) F.entry_enumerate_new (meets_enum1 B) ⟨hG, ?_⟩
  have hz : (s.heap.push o).objs.size = s.heap.objs.size + 1 := Heap.size_push ..
  have he : IsEnum ((s.heap.push o).push { cls := .type "enumerate", data := .fields #[.none, .bool false, .ref s.heap.objs.size, rawInt 0, .none, .none] }) (s.heap.objs.size + 1) s.heap.objs.size 0 .none := by
    have z := Heap.get?_push_size (s.heap.push o) (o := { cls := .type "enumerate", data := .fields #[.none, .bool false, .ref s.heap.objs.size, rawInt 0, .none, .none] }) rfl
    rw [hz] at z
    exact z
  show _ ∧ _
  rw [hz]
  exact ⟨⟨_, he, rfl⟩, h _ he (Heap.get?_push_of_some _ (Heap.get?_push_size _ B.free)) fun b u x => Heap.get?_push_of_some _ (Heap.get?_push_of_some _ x)⟩
end
def ItET (K : PySem.W.Frag) (a : Addr) (xs : List V) : It :=
  ⟨fun i H => i < xs.length ∧ SqT K H a xs, fun i H v H' => ∃ T x, v = .ref T ∧ H T = none ∧ H' = upd H T (.tup [.int (i : Nat), x]) ∧ xs[i]? = some x, fun i H => xs.length ≤ i ∧ SqT K H a xs⟩
theorem turn_enumT {P : Program} {w : World} {K : PySem.W.Frag} {elts : List Expr} {kk : Nat} {tpos : Pos} {xs : List V} (a e it : Addr) :
    Turn P w K (.Tuple elts kk tpos) (ItET K a xs) [e, it] e (fun i h => (∃ old, IsEnum h e it ((i : Nat) : Int) old) ∧ h.IsTupleIter it a i ∧ e ≠ it) where
  mem := List.mem_cons_self
  obj := fun i h st b hb => by
    obtain ⟨⟨old, he⟩, ⟨o, ho, hc, hd⟩, _⟩ := st
    rcases List.mem_cons.mp hb with z | z
    · rw [z]
      exact ⟨_, he, fun v q => nomatch q⟩
    · rw [List.mem_singleton.mp z]
      exact ⟨o, ho, fun v q => by rw [hd] at q; cases q⟩
  keep := fun i h h' st k => let ⟨⟨old, he⟩, hi, hne⟩ := st; ⟨⟨old, k e List.mem_cons_self _ he⟩, hi.at fun o q => k it (List.mem_cons_of_mem _ (List.mem_singleton.mpr rfl)) o q, hne⟩
  item := by
    intro X hP hw hK hc i pins s σ H E I hf st hg
    subst hP hw hK
    obtain ⟨⟨old, he⟩, hit, hne⟩ := st
    obtain ⟨hi, hq⟩ := hg
    obtain ⟨its, rv, ht, hz⟩ := I.tuple hq
    have hl := rv.length
    have hi2 : i < its.toArray.size := by rw [List.size_toArray]; omega
    have hel : e < s.heap.objs.size := Heap.lt_size he
    have hil : it < s.heap.objs.size := by obtain ⟨_, q, _⟩ := hit; exact Heap.lt_size q
    have ht2 : s.heap.IsTuple a its.toArray := ht
    have hea : e ≠ a := fun z => by
      obtain ⟨o, q, qc, _⟩ := ht
      rw [← z] at q
      have q2 := he
      unfold IsEnum at q2
      rw [q] at q2
      cases q2
      have z2 : Value.type "enumerate" = Value.type "tuple" := qc
      injection z2 with z3
      exact absurd z3 (by decide)
    have hia : a ≠ it := fun z => by
      obtain ⟨o, q, qc, _⟩ := ht
      obtain ⟨o', q', qc', _⟩ := hit
      rw [z, q'] at q
      cases q
      rw [qc] at qc'
      injection qc' with z3
      exact absurd z3 (by decide)
    have hh : X.A.in1.handled = none := I.ok.hd hc
    refine wpAny_pyNext_enum_itemD (Draws.tuple hh it a hia its.toArray) he ⟨hit, ht2⟩ hi2 hne (fun z => ?_) fun x h' tk hx ho st' hT hsz hk => ?_
    · rcases List.mem_cons.mp z with z | z
      · exact hne z
      · exact hea (List.mem_singleton.mp z)
    · have hx : its.toArray[i]? = some x := hx
      obtain ⟨y, hy⟩ : ∃ y, xs[i]? = some y := ⟨_, List.getElem?_eq_getElem hi⟩
      obtain ⟨u, hu, ru⟩ := rv.get hy
      rw [List.getElem?_toArray, hu] at hx
      cases hx
      refine ⟨_, rfl, wpAny_letOwnedTupleGo_enum (s := { s with heap := h', toks := tk + 1 }) ho fun h'' he' sb => ?_⟩
      have hT2 : h''.get? s.heap.objs.size = some { cls := .type "tuple", data := .seq #[.int i tk, x] } := (sb.2 _ (Nat.ne_of_gt hel)).trans hT
      have new : ObjOk X.prog X.w (upd H s.heap.objs.size (.tup [.int (i : Nat), y])) h'' s.heap.objs.size (.tup [.int (i : Nat), y]) :=
        ⟨by show 2 ≤ sizeLine; decide, [.int i tk, x], .cons ⟨_, rfl⟩ (.cons ru .nil), ⟨_, hT2, rfl, _, rfl⟩⟩
      have I1 : Inv X pins σ (upd H s.heap.objs.size (.tup [.int (i : Nat), y])) { s with heap := h'', toks := tk + 1 } :=
        I.turnedNew (ch := [e, it]) (fun b ob hb q => (sb.2 b (fun z => hb (by simp [z]))).trans (hk b ob (fun z => hb (by simp [z])) (fun z => hb (by simp [z])) q)) hf (Nat.le_refl _) new
      refine ⟨.ref s.heap.objs.size, _, I1, rfl, ⟨_, y, rfl, I.hok.fresh (Nat.le_refl _), rfl, hy⟩, ⟨⟨x, ?_⟩, st'.1.at fun o q => (sb.2 it (Ne.symm hne)).trans q, hne⟩, fun b hb => ?_⟩
      · have e1 : ((i + 1 : Nat) : Int) = (i : Int) + 1 := by omega
        rw [e1]
        exact he'
      · have hb' : b < s.heap.objs.size := by
          rcases List.mem_cons.mp hb with z | z
          · rw [z]; exact hel
          · rw [List.mem_singleton.mp z]; exact hil
        rw [upd_ne (Nat.ne_of_lt hb')]
        exact (hf b hb).1
  done := by
    intro X hP hw hK hc i pins s σ H E I hf st hg
    subst hP hw hK
    obtain ⟨⟨old, he⟩, hit, hne⟩ := st
    obtain ⟨hi, hq⟩ := hg
    obtain ⟨its, rv, ht, hz⟩ := I.tuple hq
    obtain ⟨f0, f1, f2, f3, f4, f5⟩ := hf it (List.mem_cons_of_mem _ (List.mem_singleton.mpr rfl))
    have hl := rv.length
    have hT : s.TypeIs (.ref e) "enumerate" := ⟨_, he, rfl⟩
    have hh : X.A.in1.handled = none := I.ok.hd hc
    unfold pyNext
    refine wpAny_bind (wpAny_attempt (wpAny_callSpecial?_slot (name := Str.ofString "__next__") hT F.slot_enumerate_next
      (wpAny_call_entry F.slot_enumerate_next hT F.entry_enumerate_next ?_ (F.args_enumerate_next_1 _))))
    show wpAny _ _ (field (.ref e) 2 >>= _) _ _ _
    refine wpAny_bind (wpAny_field he rfl (x := .ref it) rfl ?_)
    refine wpAny_bind (wpAny_nextOf_tuple_end hh hit (show s.heap.IsTuple a its.toArray from ht) (by rw [List.getElem?_toArray]; exact List.getElem?_eq_none (by omega)) fun h' x eb hx => ?_)
    obtain ⟨o, ho, hc'⟩ := hx
    refine wpAny_bind (wpAny_isInstance (T := "StopIteration") (b := true) ⟨o, ho, hc'⟩ isSubtype_stop ?_)
    exact wpAny_pure ⟨rfl, I.turned (t' := s.toks) (fun b ob hb q => eb b ob hb q) f0 f1 f3 f4 f5⟩
  self := fun A i s Q E st h => let ⟨⟨_, he⟩, _⟩ := st; wpAny_pyIter_enum he h
def iEnumT (K : PySem.W.Frag) (ta : TA) : TI := fun σ H R => ta σ H fun vs H1 => ∃ a xs, vs = [.ref a] ∧ SqT K H1 a xs ∧
  ∀ J, Walk J xs.length (fun H => SqT K H a xs) (YPair (fun i => some (.int (i : Nat))) (fun i => xs[i]?)) → R J H1
theorem pi_enumT {X : Cx} {e : Expr} {ta : TA} {p pos tpos : Pos} {elts : List Expr} {kk : Nat} (hg : Gl X "enumerate") (hm : X.mg "enumerate" = none) (ha : PA X [e] ta) (hs : starEach [e] X.env = [(false, eval e X.env)] := by rfl) :
    PI X (.Tuple elts kk tpos) (.Call (.Name "enumerate" p) [e] [] pos) (iEnumT X.K ta) := by
  refine ⟨fun pins s σ H R I h => ?_⟩
  refine Call_ (ld_blt I hg hm boot_enumerate (PyProof.Rows.callWith_type1 (thn (ha.run pos pins s σ H _ I h) fun us s1 ⟨vs, H1, I1, r1, q1⟩ => ?_) hs rfl))
  obtain ⟨a, xs, rfl, hq, q⟩ := q1
  obtain ⟨u, rfl, ru⟩ := vals1 r1
  cases ru
  obtain ⟨its, rv, ht, hz⟩ := I1.tuple hq
  refine call_enum1 (begins_tuple a its.toArray) (show s1.heap.IsTuple a its.toArray from ht) fun h' he hi hk => wpAny_pyIter_enum he ?_
  have I2 : Inv X pins σ H1 { s1 with heap := h' } := I1.kept (t' := s1.toks) hk
  refine ⟨s1.heap.objs.size + 1, [s1.heap.objs.size + 1, s1.heap.objs.size], _, _, H1, rfl, I2, turn_enumT (xs := xs) a (s1.heap.objs.size + 1) s1.heap.objs.size, ⟨⟨.none, he⟩, ⟨_, hi, rfl, rfl⟩, Nat.succ_ne_self _⟩, fun b hb => ?_, q _ ⟨fun i H hi hG => ⟨hi, hG⟩, fun H hG => ⟨Nat.le_refl _, hG⟩, fun i H x H' hi hG hy => ?_⟩⟩
  · have hb' : s1.heap.objs.size ≤ b := by
      rcases List.mem_cons.mp hb with z | z
      · rw [z]; exact Nat.le_succ _
      · rw [List.mem_singleton.mp z]; exact Nat.le_refl _
    exact I1.fpOk hb' (I1.hok.fresh hb')
  · obtain ⟨T, x', h1, h2, h3, h4⟩ := hy
    exact ⟨T, .int (i : Nat), x', h1, h2, h3, rfl, h4⟩
end G98

/-! W3b: dict comprehensions whose keys are such keys. -/
namespace G98
open PySem PySem.Spec PyProof.Rows L2

/-- the turn's store -/
theorem nd_dictSet {X : Cx} {pins : List (Addr × Obj)} {σ : L2.St} {H : Hp} {s : Shared} {E : Value → Shared → Prop} {D a : Addr} {kvs : KVA} {k : Ky} {v : V} {r : Value} {Q : Unit → Shared → Prop} (hu : X.A.units + 64 < cLine) (I : Inv X pins σ H s)
    (x : ND X.prog X.w H D kvs) (hk : KyAt H k a) (hz : kvs.length < sizeLine) (rv : RelV v r) (h : ∀ o s', ND X.prog X.w (upd H D o) D (putN kvs k a v) → Inv X pins σ (upd H D o) s' → Q () s') :
    wpAny (model X.prog X.w) X.A (dictSet D (.ref a) r) Q E s := by
  obtain ⟨xs, rel, dd⟩ := nd_dict I x
  have hr : (kyKind X.prog X.w).room X.A := by
    show X.A.units + 8 < cLine
    omega
  refine wpAny_dictSet_heap hr (ky_is I.hok hk) dd (fun h' dd' hs => ?_) (by rw [← rel.len]; exact x.sz)
  obtain ⟨o, nd, I2⟩ := nd_write (s.toks + (kyKind X.prog X.w).draws k) I x rel hk rv hz dd' hs
  exact h o _ nd I2
/-- one turn's end: key, value, store; Nx is to be reached -/
def dcTurn (P : Program) (w : World) (tk tv : TE) (D : Addr) (Nx : Hp → Prop) : L2.St → Hp → Prop := fun σ H => tk σ H fun y H1 => tv σ H1 fun z H2 => ∃ kvs k a, y = .ref a ∧ ND P w H2 D kvs ∧ KyAt H2 k a ∧ kvs.length < sizeLine ∧ ∀ o, ND P w (upd H2 D o) D (putN kvs k a z) → Nx (upd H2 D o)
/-- {k: v for target in iter if ..}: D the new dict -/
def tDcN (P : Program) (w : World) (wi : TI) (g : TG) (tt : TT) (tk tv : TE) (vs : List Nat) : TE := fun σ H Q => wi σ H fun J H1 => ∀ D o, H1 D = none → ND P w (upd H1 D o) D [] → ∃ W : Nat → Nat → Hp → Prop, (∃ m, W 0 m (upd H1 D o)) ∧ ∀ i m H, W i m H →
  (J.stop i H ∧ Q (.ref D) H) ∨ (J.go i H ∧ ∃ Nx : Hp → Prop, (∀ H', Nx H' → ∃ m', m' < m ∧ W (i + 1) m' H') ∧ ∀ x H', J.yld i H x H' → g x (wipe σ vs) H' fun σ2 H2 => wipe σ2 vs = wipe σ vs ∧ tt σ2 H2 fun b H3 =>
    if b = true then dcTurn P w tk tv D Nx σ2 H3 else Nx H3)
section
variable {X : Cx}
theorem dcn_core {pins : List (Addr × Obj)} {s : Shared} {σ : L2.St} {H : Hp} {Q : VK} {kx vx tg iter : Expr} {ifs : List Expr} {scope : Scope} {own : List (Str × Nat)} {pos pos' : Pos} {wi : TI} {g : TG} {tt : TT} {tk tv : TE} {use : Option (Value → Sem Unit)} {Qf : Value → Shared → Prop}
    (hu : X.A.units + 64 < cLine) (hc : X.calm = true) (hN : X.N.Nodup) (I : Inv X pins σ H s) (hi : PI X tg iter wi) (ok : BlkOk X.N X.env.scope scope own)
    (hg : ∀ (s : Shared) (H : Hp) (C : Addr) (cl : List (Str × Addr)) (fp : List Addr), PG (X.blk s H scope (compEnvC scope cl C X.env) fp) tg g)
    (ht : ∀ (s : Shared) (H : Hp) (C : Addr) (cl : List (Str × Addr)) (fp : List Addr), PTs (X.blk s H scope (compEnvC scope cl C X.env) fp) ifs tt)
    (hk : ∀ (s : Shared) (H : Hp) (C : Addr) (cl : List (Str × Addr)) (fp : List Addr), PE (X.blk s H scope (compEnvC scope cl C X.env) fp) kx tk)
    (he : ∀ (s : Shared) (H : Hp) (C : Addr) (cl : List (Str × Addr)) (fp : List Addr), PE (X.blk s H scope (compEnvC scope cl C X.env) fp) vx tv) (hs : ∀ x, foldedSetIterable iter X.env x = pure x)
    (h : tDcN X.prog X.w wi g tt tk tv (own.map (·.2)) σ H Q)
    (hRR : ∀ D C s' m H', Inv X pins σ H' s' → Q (.ref D) H' → s'.heap.Ns C m → FpOk X pins H' C → compPost (model X.prog X.w) X.A X.xe use Qf (.ref D) C (.ok .next) s') :
    wpAny (model X.prog X.w) X.A (comprehension (.DictComp kx vx [⟨tg, iter, ifs, 0⟩] scope pos) scope X.env pos' newDict false (eval iter X.env) use) Qf X.xe s := by
  have free' : ∀ y ∈ scope.names, y.2 = .free → ∃ c, X.env.cells.lookup y.1 = some c := fun y hy e => (ok.free y hy e).elim (fun z => I.ok.has _ (.inl z)) fun z => I.ok.has _ (.inr z)
  refine wpAny_comprehension_free (use := use) rfl hs (closure_ok free') ok.kind (fun y hy e => by rw [ok.uniq y hy, e]) (thn (hi.run pins s σ H _ I h) fun xv s1 hx => thn hx fun itv s2 h2 => ?_)
  obtain ⟨it, fp, tn, J, H2, rfl, I2, T, st2, f2, q⟩ := h2
  refine wpAny_newObj_type (newEnv_comp ?_)
  have hDn : H2 s2.heap.objs.size = none := I2.hok.fresh (Nat.le_refl _)
  have lo : (s2.heap.objs.size == sysModules) = false := beq_eq_false_iff_ne.mpr (Ne.symm (Nat.ne_of_lt I2.big))
  -- the new dict
  generalize hob : RawN X.prog X.w s2.heap.objs.size [] 0 = ob
  generalize hs3 : ({ s2 with heap := s2.heap.push { cls := .type "dict", data := .dict #[] } } : Shared) = s3
  generalize hD : s2.heap.objs.size = D at hDn lo hob ⊢
  have h3 : s3.heap = s2.heap.push { cls := .type "dict", data := .dict #[] } := by rw [← hs3]
  have I3 : Inv X pins σ (upd H2 D ob) s3 := by
    rw [← hs3, ← hob, ← hD]
    exact I2.laid (t' := s2.toks) (fun b o e => Heap.get?_push_of_some _ e) (Nat.le_refl _) (rawN_ok (Heap.get?_push_size _ rfl) ⟨rfl, rfl, rfl⟩ rfl rfl)
  have nd3 : ND X.prog X.w (upd H2 D ob) D [] := ⟨⟨[], 0, by rw [← hob]; exact upd_same, .nil⟩, fun p hp => (nomatch hp), List.nodup_nil, lo, Nat.zero_le _⟩
  obtain ⟨W, ⟨m0, w0⟩, turn⟩ := q D ob hDn nd3
  generalize hH3 : upd H2 D ob = H3 at I3 nd3 w0
  have f3 : ∀ b ∈ fp, FpOk X pins H3 b ∧ b < s3.heap.objs.size := fun b hb => by
    obtain ⟨o, e, _⟩ := T.obj _ _ st2 b hb
    have hlt := Heap.lt_size e
    refine ⟨⟨?_, (f2 b hb).2⟩, by rw [h3, Heap.size_push]; exact Nat.lt_succ_of_lt hlt⟩
    rw [← hH3, upd_ne (by rw [← hD]; exact Nat.ne_of_lt hlt)]
    exact (f2 b hb).1
  have st3 : tn 0 s3.heap := T.keep _ _ _ st2 fun b _ o e => by rw [h3]; exact Heap.get?_push_of_some _ e
  have I4 := block_start I3 ok hN f3
  generalize hcl : cellsFrom (s3.heap.objs.size + 1) scope.names (cloFrom X.env.cells scope.names []) = cl at I4
  have pg := hg s3 H3 s3.heap.objs.size cl fp
  have pt := ht s3 H3 s3.heap.objs.size cl fp
  have pk := hk s3 H3 s3.heap.objs.size cl fp
  have pe := he s3 H3 s3.heap.objs.size cl fp
  show codeAny _ _ (.compStart (.DictComp kx vx [⟨tg, iter, ifs, 0⟩] scope pos) 0 (.ref it) (.ref D) (compEnvC scope cl s3.heap.objs.size X.env)) (compPost (model X.prog X.w) X.A X.xe use Qf (.ref D) s3.heap.objs.size) { s3 with heap := pushCells (s3.heap.push { cls := .type "dict", data := .dict #[] }) scope.names }
  generalize hce : compEnvC scope cl s3.heap.objs.size X.env = ce at I4 pg pt pk pe ⊢
  have cL : ce.locals = s3.heap.objs.size := by subst hce; rfl
  generalize hs4 : ({ s3 with heap := pushCells (s3.heap.push { cls := .type "dict", data := .dict #[] }) scope.names } : Shared) = s4 at I4 ⊢
  have st4 : tn 0 s4.heap := T.keep _ _ _ st3 fun b _ o e => by rw [← hs4]; exact pushCells_keeps _ _ _ _ (Heap.get?_push_of_some _ e)
  generalize hXB : X.blk s3 H3 scope ce fp = XB at I4 pg pt pk pe
  have xP : XB.prog = X.prog := by subst hXB; rfl
  have xW : XB.w = X.w := by subst hXB; rfl
  have xK : XB.K = X.K := by subst hXB; rfl
  have xA : XB.A = X.A := by subst hXB; rfl
  have xE : XB.xe = fun _ _ => False := by subst hXB; rfl
  have xX : XB.ex = fp := by subst hXB; rfl
  have xp : XB.pn = [] := by subst hXB; rfl
  have xc : XB.calm = true := by subst hXB; exact hc
  have stat : ∀ {σ' : L2.St} {H' : Hp} {s' : Shared}, Inv XB [] σ' H' s' → (∀ b ∈ fp, H' b = none) → ∀ b ∈ fp, FpOk XB [] H' b := fun {σ' H' s'} I' hn b hb => by
    have hb' : b ∈ XB.ex := by rw [xX]; exact hb
    exact ⟨hn b hb, (I'.ok.exf b hb').1, I'.ok.exfs b hb', .inl hb', fun x c e => (I'.ok.exf b hb').2 x c e, fun p hp => by rw [xp] at hp; cases hp⟩
  have loop : codeAny (model X.prog X.w) X.A (.compLoop (.DictComp kx vx [⟨tg, iter, ifs, 0⟩] scope pos) 0 (.ref it) (.ref D) ce) (compPost (model X.prog X.w) X.A X.xe use Qf (.ref D) s3.heap.objs.size) s4 := by
    refine compLoop_anyD (fun n s' => ∃ i H', Inv XB [] (wipe σ (own.map (·.2))) H' s' ∧ tn i s'.heap ∧ (∀ b ∈ fp, H' b = none) ∧ W i n H') ?_ m0 ⟨0, H3, I4, st4, fun b hb => (f3 b hb).1.1, w0⟩
    rintro n s5 ⟨i, H5, I5, st5, n5, w5⟩
    rcases turn i n H5 w5 with ⟨stop, qq⟩ | ⟨go, Nx, hNx, step⟩
    · have td := T.done XB xP xW xK xc i [] s5 _ H5 (fun _ _ => False) I5 (stat I5 n5) st5 stop
      rw [xA] at td
      refine thnF td fun r s6 ⟨hr, I6⟩ => ?_
      subst hr
      have I6' : Inv (X.blk s3 H3 scope ce fp) [] (wipe σ (own.map (·.2))) H5 s6 := by rw [hXB]; exact I6
      have I7 : Inv X pins σ H5 s6 := I3.call' (ch := fp) I6'.os I6'.base I6'.hok I6'.bare fun b hb => ⟨(f3 b hb).1.2.2.2.1, (f3 b hb).1.2.1, (f3 b hb).1.2.2.2.2.1, (f3 b hb).1.2.2.2.2.2⟩
      have nC : H5 s3.heap.objs.size = none := by
        have z : H5 ce.locals = none := I6'.free
        rw [cL] at z
        exact z
      obtain ⟨m, hn, _⟩ := I6'.loc
      have hn : s6.heap.Ns ce.locals m := hn
      rw [cL] at hn
      exact hRR D s3.heap.objs.size s6 m H5 I7 qq hn (I3.fpOk (Nat.le_refl _) nC)
    · have ti := T.item XB xP xW xK xc i [] s5 _ H5 (fun _ _ => False) I5 (stat I5 n5) st5 go
      rw [xA] at ti
      refine thnF ti fun r s6 ⟨u, hr, h6⟩ => ?_
      subst hr
      refine thnF h6 fun _ s7 ⟨x, H7, I7, r7, y7, st7, n7⟩ => ?_
      have I7' := I7.pinned (stat I7 n7) (T.obj _ _ st7)
      have eE : ce = XB.env := by subst hXB; rfl
      have pgr := pg.run _ s7 _ H7 x u _ I7' r7 (step x H7 y7)
      rw [xP, xW, xA, xE, ← eE] at pgr
      refine thnF pgr fun _ s8 ⟨σ8, H8, I8, hw8, q8⟩ => ?_
      have ptr := pt.run _ s8 σ8 H8 _ I8 q8
      rw [xP, xW, xA, xE, ← eE] at ptr
      refine thnF ptr fun b s9 ⟨H9, I9, q9⟩ => ?_
      have fin : ∀ {s' : Shared} {H' : Hp}, Inv XB ([] ++ pinsAt fp s7.heap) σ8 H' s' → Nx H' → ∃ m, m < n ∧ ∃ i H', Inv XB [] (wipe σ (own.map (·.2))) H' s' ∧ tn i s'.heap ∧ (∀ b ∈ fp, H' b = none) ∧ W i m H' := fun {s' H'} I' nx => by
        obtain ⟨m', hm, w'⟩ := hNx H' nx
        have pin' : ∀ b ∈ fp, ∀ o, s7.heap.get? b = some o → s'.heap.get? b = some o ∧ H' b = none := fun b hb o e => by
          have z := I'.pin (b, o) (List.mem_append_right _ (List.mem_append_right _ (mem_pinsAt hb e)))
          exact ⟨z.1, z.2.1⟩
        have hl : (wipe σ (own.map (·.2))).length = σ8.length := by rw [← hw8, wipe_length]
        refine ⟨m', hm, i + 1, H', (I'.unpinned (pins := [])).weak hl (fun j v e => ?_), T.keep _ _ _ st7 fun b hb o e => (pin' b hb o e).1, fun b hb => ?_, w'⟩
        · rw [← hw8] at e
          exact (wipe_some e).1
        · obtain ⟨o, e, _⟩ := T.obj _ _ st7 b hb
          exact (pin' b hb o e).2
      cases b with
      | false =>
        rw [if_neg (by decide)] at q9 ⊢
        exact fin I9 q9
      | true =>
        rw [if_pos rfl] at q9 ⊢
        have pkr := pk.run _ s9 σ8 H9 _ I9 q9
        rw [xP, xW, xA, xE, ← eE] at pkr
        refine thnF pkr fun z s10 ⟨yk, H10, I10, r10, q10⟩ => ?_
        have per := pe.run _ s10 σ8 H10 _ I10 q10
        rw [xP, xW, xA, xE, ← eE] at per
        refine thnF per fun z2 s11 ⟨yv, H11, I11, r11, kvs, k, a, ek, x11, hk11, hz11, nx⟩ => ?_
        subst ek
        cases r10
        rw [← xP, ← xW] at x11 nx
        have fx := nd_dictSet (E := notedBy (model X.prog X.w) X.A ce fun e s' => compPost (model X.prog X.w) X.A X.xe use Qf (.ref D) s3.heap.objs.size (.error e) s') (Q := fun _ s' => ∃ m, m < n ∧ ∃ i H', Inv XB [] (wipe σ (own.map (·.2))) H' s' ∧ tn i s'.heap ∧ (∀ b ∈ fp, H' b = none) ∧ W i m H') (by rw [xA]; exact hu) I11 x11 hk11 hz11 r11 fun o s12 nd12 I12 => fin I12 (nx o nd12)
        rw [xP, xW, xA] at fx
        exact fx
  exact codeAny_compStart_dict loop (T.self X.A 0 _ _ _ st4 loop)
/-- as a value -/
theorem pe_dcn {kx vx tg iter : Expr} {ifs : List Expr} {scope : Scope} {own : List (Str × Nat)} {pos : Pos} {wi : TI} {g : TG} {tt : TT} {tk tv : TE} (hu : X.A.units + 64 < cLine) (hc : X.calm = true) (hN : X.N.Nodup) (hi : PI X tg iter wi) (ok : BlkOk X.N X.env.scope scope own)
    (hg : ∀ (s : Shared) (H : Hp) (C : Addr) (cl : List (Str × Addr)) (fp : List Addr), PG (X.blk s H scope (compEnvC scope cl C X.env) fp) tg g)
    (ht : ∀ (s : Shared) (H : Hp) (C : Addr) (cl : List (Str × Addr)) (fp : List Addr), PTs (X.blk s H scope (compEnvC scope cl C X.env) fp) ifs tt)
    (hk : ∀ (s : Shared) (H : Hp) (C : Addr) (cl : List (Str × Addr)) (fp : List Addr), PE (X.blk s H scope (compEnvC scope cl C X.env) fp) kx tk)
    (he : ∀ (s : Shared) (H : Hp) (C : Addr) (cl : List (Str × Addr)) (fp : List Addr), PE (X.blk s H scope (compEnvC scope cl C X.env) fp) vx tv) (hs : ∀ x, foldedSetIterable iter X.env x = pure x := by intro _; rfl) :
    PE X (.DictComp kx vx [⟨tg, iter, ifs, 0⟩] scope pos) (tDcN X.prog X.w wi g tt tk tv (own.map (·.2))) := by
  refine ⟨fun pins s σ H Q I h => ?_⟩
  rw [arm_eval_DictComp]
  refine dcn_core hu hc hN I hi ok hg ht hk he hs h fun D C s' m H' I' q hn f => ⟨m, hn, fun h'' sb => ?_⟩
  obtain ⟨f0, f1, f2, f3, f4, f5⟩ := f
  exact ⟨.ref D, H', I'.turned (t' := s'.toks) (fun b o hb e => (sb.2 b hb).trans e) f0 f1 f3 f4 f5, rfl, q⟩
end
/-- over a walk: Pv by the turn and the heap (the new dict at D within) -/
theorem dcn_it {P : Program} {w : World} {J : It} {n : Nat} {G : Hp → Prop} {Y : Nat → Hp → V → Hp → Prop} (wk : Walk J n G Y) {g : TG} {tt : TT} {tk tv : TE} {vs : List Nat} {σ : L2.St} {H1 : Hp} {D : Addr} {Qd : Hp → Prop} (Pv : Nat → Hp → Prop) (h0 : Pv 0 H1) (hG : ∀ i H, i ≤ n → Pv i H → G H)
    (hs : ∀ i x H H', i < n → Pv i H → Y i H x H' → g x (wipe σ vs) H' fun σ2 H2 => wipe σ2 vs = wipe σ vs ∧ tt σ2 H2 fun b H3 => if b = true then dcTurn P w tk tv D (Pv (i + 1)) σ2 H3 else Pv (i + 1) H3) (hd : ∀ H, Pv n H → Qd H) :
    ∃ W : Nat → Nat → Hp → Prop, (∃ m, W 0 m H1) ∧ ∀ i m H, W i m H →
      (J.stop i H ∧ Qd H) ∨ (J.go i H ∧ ∃ Nx : Hp → Prop, (∀ H', Nx H' → ∃ m', m' < m ∧ W (i + 1) m' H') ∧ ∀ x H', J.yld i H x H' → g x (wipe σ vs) H' fun σ2 H2 => wipe σ2 vs = wipe σ vs ∧ tt σ2 H2 fun b H3 =>
        if b = true then dcTurn P w tk tv D Nx σ2 H3 else Nx H3) := by
  refine ⟨fun i m H => m = n - i ∧ i ≤ n ∧ Pv i H, ⟨n, rfl, Nat.zero_le _, h0⟩, ?_⟩
  rintro i m H ⟨rfl, hi, p⟩
  rcases Nat.lt_or_eq_of_le hi with hlt | rfl
  · exact .inr ⟨wk.goes i H hlt (hG i H hi p), Pv (i + 1), fun H' p' => ⟨n - (i + 1), by omega, rfl, hlt, p'⟩, fun x H' y => hs i x H H' hlt p (wk.yields i H x H' hlt (hG i H hi p) y)⟩
  · exact .inl ⟨wk.stops H (hG i H hi p), hd H p⟩
end G98

/-! W3c: sorted of a list of data, of a dict's keys. -/
namespace G98
open PySem PySem.Spec PyProof.Rows L2

theorem each_vals {X : Cx} {pins : List (Addr × Obj)} {σ : L2.St} {H : Hp} {s : Shared} (I : Inv X pins σ H s) : ∀ {bs : List (V × PyData)} {us : List Value}, Vals (bs.map (·.1)) us → (∀ b ∈ bs, Dp X.K H b.1 b.2) →
    PySem.W.EachIs (fun v b => RelV b.1 v) us bs ∧ PySem.W.EachIs (fun v (b : V × PyData) => ∃ as, Reads s.heap v b.2 as) us bs
  | [], _, r, _ => by
    rw [List.map_nil] at r
    cases r
    exact ⟨.nil, .nil⟩
  | b :: bs, _, r, h => by
    rw [List.map_cons] at r
    cases r with
    | cons r1 r2 =>
      obtain ⟨e1, e2⟩ := each_vals I r2 fun b' hb => h b' (List.mem_cons_of_mem _ hb)
      obtain ⟨as, q⟩ := Dp.reads I _ _ _ (h b List.mem_cons_self) r1
      exact ⟨.cons r1 e1, .cons ⟨as, q⟩ e2⟩
theorem vals_each : ∀ {bs : List (V × PyData)} {us : List Value}, PySem.W.EachIs (fun v b => RelV b.1 v) us bs → Vals (bs.map (·.1)) us
  | _, _, .nil => .nil
  | _, _, .cons h t => .cons h (vals_each t)
/-- the order of a sort: no later one is less -/
abbrev Asc (l : List (V × PyData)) : Prop := l.Pairwise fun x y => PySem.W.dataLt y.2 x.2 = false
theorem asc_sort (bs : List (V × PyData)) : Asc (bs.mergeSort (PySem.W.dataLe false (·.2))) := by
  refine (PySem.W.sort_pairwise (PySem.W.sortLe_total (PyProof.Rows.listOrd PyProof.Rows.itemOrd) false fun b : V × PyData => PySem.W.keyToks b.2) bs).imp fun {a b} h => ?_
  have h : (!PySem.W.dataLt b.2 a.2) = true := h
  rw [Bool.not_eq_true'] at h
  exact h
/-- may be sorted -/
structure Srt (bs : List (V × PyData)) : Prop where
  alike : PySem.W.AllAlike (bs.map (·.2))
  kind : PySem.W.Sortable (bs.map (·.2))
  deep : ∀ b ∈ bs, b.2.depth ≤ 8
def rSortD (K : PySem.W.Frag) : List V → Hp → VK → Prop := fun vs H Q => ∃ (a : Addr) (bs : List (V × PyData)), vs = [.ref a] ∧ SqL K H a (bs.map (·.1)) ∧ (∀ b ∈ bs, Dp K H b.1 b.2) ∧ Srt bs ∧
  ∀ (out : List (V × PyData)) (p : Addr), out.Perm bs → Asc out → H p = none → Q (.ref p) (upd H p (.lst (out.map (·.1))))
theorem cr_sortD {X : Cx} (hu : X.A.units + 64 < cLine) : CallR X (.builtin "sorted") (rSortD X.K) := by
  intro pins s σ H xs us Q I r q
  obtain ⟨a, bs, rfl, hl, hd, ⟨s1, s2, s3⟩, q⟩ := q
  obtain ⟨u, rfl, ru⟩ := vals1 r
  cases ru
  obtain ⟨its, rv, pl, hz⟩ := I.list hl
  rw [List.length_map] at hz
  obtain ⟨e1, e2⟩ := each_vals I rv hd
  refine PySem.W.sorted_data (enc := fun b : V × PyData => b.2) (by rw [show its.toArray = its.toArray from rfl]; exact pl.isList) e1 e2 s1 s2 hz (fun b hb => ?_) fun out ho eo => ?_
  · have := s3 b hb
    show X.A.units + 2 + b.2.depth < cLine
    omega
  · obtain ⟨e, he⟩ := sortedAll_at s.heap its (List.toArray out)
    have hp : s.heap.objs.size ≤ s.heap.objs.size + 1 := Nat.le_succ _
    have hn := I.hok.fresh hp
    have rv' := vals_each eo
    have hz' : ((bs.mergeSort (PySem.W.dataLe false (·.2))).map (·.1)).length ≤ sizeLine := by
      rw [List.length_map, List.length_mergeSort]
      exact hz
    exact ⟨.ref (s.heap.objs.size + 1), _, I.laid (t' := s.toks) (o := .lst ((bs.mergeSort (PySem.W.dataLe false (·.2))).map (·.1))) (fun b u z => sortedAll_old z) hp ⟨hz', out, e, rv', he⟩, rfl, q _ _ (List.mergeSort_perm _ _) (asc_sort bs) hn⟩
/-! ### the keys of a dict -/
def Ky.data : Ky → PyData
  | .row ns => .tuple (ns.map .int)
  | .rst i ns => .tuple [.int i, .tuple (ns.map .int)]
theorem dpAll_ints {K : PySem.W.Frag} {H : Hp} : ∀ ns : List Int, DpAll K H (ns.map V.int) (ns.map PyData.int)
  | [] => .nil
  | n :: ns => .cons (.int n) (dpAll_ints ns)
theorem dp_ky {K : PySem.W.Frag} {H : Hp} : ∀ {k : Ky} {a : Addr}, KyAt H k a → Dp K H (.ref a) k.data
  | .row ns, a, h => .tup (SqT.of h) (dpAll_ints ns)
  | .rst i ns, a, ⟨r, h1, h2⟩ => .tup (SqT.of h1) (.cons (.int i) (.cons (.tup (SqT.of h2) (dpAll_ints ns)) .nil))
theorem depth_ky : ∀ k : Ky, k.data.depth ≤ 2
  | .row ns => by
    show PyData.depth (.tuple _) ≤ 2
    rw [PyData.depth, PySem.W.depth_ints]
    decide
  | .rst i ns => by
    show PyData.depth (.tuple _) ≤ 2
    rw [PyData.depth, PyData.depthAll, PyData.depthAll, PyData.depthAll, PyData.depth, PyData.depth, PySem.W.depth_ints]
    decide
/-- all rows that are not empty, or all rests -/
def KyS (ks : List Ky) : Prop := (∀ k ∈ ks, ∃ n ns, k = .row (n :: ns)) ∨ ∀ k ∈ ks, ∃ i ns, k = .rst i ns
theorem alike_tup (xs ys : List PyData) : PySem.W.alike (.tuple xs) (.tuple ys) = PySem.W.alikeAll xs ys := by
  simp only [PySem.W.alike]
theorem KyS.srt {bs : List (V × PyData)} {ks : List Ky} (h : KyS ks) (e : ∀ b ∈ bs, ∃ k ∈ ks, b.2 = k.data) : Srt bs := by
  refine ⟨fun d hd d' hd' => ?_, .inl fun d hd => ?_, fun b hb => ?_⟩
  · obtain ⟨b, hb, rfl⟩ := List.mem_map.mp hd
    obtain ⟨b', hb', rfl⟩ := List.mem_map.mp hd'
    obtain ⟨k, hk, e1⟩ := e b hb
    obtain ⟨k', hk', e2⟩ := e b' hb'
    rw [e1, e2]
    rcases h with h | h
    · obtain ⟨n, ns, rfl⟩ := h k hk
      obtain ⟨n', ns', rfl⟩ := h k' hk'
      show PySem.W.alike (.tuple _) (.tuple _) = true
      rw [alike_tup, PySem.W.alike_ints]
    · obtain ⟨i, ns, rfl⟩ := h k hk
      obtain ⟨i', ns', rfl⟩ := h k' hk'
      show PySem.W.alike (.tuple _) (.tuple _) = true
      rw [alike_tup]
      show PySem.W.alikeAll (_ :: _) (_ :: _) = true
      rw [PySem.W.alikeAll, PySem.W.alikeAll, alike_tup, PySem.W.alike_ints]
      simp [PySem.W.alike, PySem.W.alikeAll]
  · obtain ⟨b, hb, rfl⟩ := List.mem_map.mp hd
    obtain ⟨k, hk, e1⟩ := e b hb
    rw [e1]
    rcases h with h | h
    · obtain ⟨n, ns, rfl⟩ := h k hk
      exact ⟨_, _, rfl⟩
    · obtain ⟨i, ns, rfl⟩ := h k hk
      exact ⟨_, _, rfl⟩
  · obtain ⟨k, hk, e1⟩ := e b hb
    rw [e1]
    exact Nat.le_trans (depth_ky k) (by decide)
/-- data without lists: nothing of it can change -/
theorem ints_nil {h : Heap} : ∀ {ns : List Int} {vs : List Value} {as : List Addr}, ReadsAll h vs (ns.map PyData.int) as → as = []
  | [], _, _, r => by
    rw [List.map_nil] at r
    cases r
    rfl
  | n :: ns, _, _, r => by
    rw [List.map_cons] at r
    cases r with
    | cons r1 r2 =>
      cases r1
      rw [ints_nil r2]
      rfl
theorem all_split {h : Heap} {us : List Value} {d : PyData} {ds : List PyData} {as : List Addr} (r : ReadsAll h us (d :: ds) as) : ∃ v vs a1 a2, us = v :: vs ∧ as = a1 ++ a2 ∧ Reads h v d a1 ∧ ReadsAll h vs ds a2 := by
  cases r with
  | cons r1 r2 => exact ⟨_, _, _, _, rfl, rfl, r1, r2⟩
theorem bare_nil {h : Heap} {v : Value} {as : List Addr} (d : PyData) (hd : ∃ k : Ky, d = k.data) (r : Reads h v d as) : as = [] := by
  obtain ⟨k, rfl⟩ := hd
  cases k with
  | row ns =>
    have r : Reads h v (.tuple (ns.map .int)) as := r
    cases r with
    | tuple _ _ _ q => exact ints_nil q
  | rst i ns =>
    have r : Reads h v (.tuple [.int i, .tuple (ns.map .int)]) as := r
    cases r with
    | tuple _ _ _ q =>
      obtain ⟨_, _, a1, a2, _, rfl, q1, q2⟩ := all_split q
      obtain ⟨_, _, a3, a4, _, rfl, q3, q4⟩ := all_split q2
      cases q1
      cases q4
      have q3 : Reads h _ (.tuple (ns.map .int)) a3 := q3
      cases q3 with
      | tuple _ _ _ q => rw [ints_nil q]; rfl
theorem each_mem {α β : Type} {R R' : α → β → Prop} : ∀ {as : List α} {bs : List β}, PySem.W.EachIs R as bs → (∀ a b, b ∈ bs → R a b → R' a b) → PySem.W.EachIs R' as bs
  | _, _, .nil, _ => .nil
  | _, _, .cons h t, f => .cons (f _ _ List.mem_cons_self h) (each_mem t fun a b hb => f a b (List.mem_cons_of_mem _ hb))
/-- a key and where it stands -/
abbrev kyV (q : Ky × Addr) : V × PyData := (.ref q.2, q.1.data)
def rSortN (P : Program) (w : World) : List V → Hp → VK → Prop := fun vs H Q => ∃ (d : Addr) (kvs : KVA), vs = [.ref d] ∧ ND P w H d kvs ∧ KyS (kvs.map (·.1)) ∧
  ∀ (out : List (Ky × Addr)) (p : Addr), out.Perm (kvs.map fun q => (q.1, q.2.1)) → Asc (out.map kyV) → H p = none → Q (.ref p) (upd H p (.lst (out.map fun q => V.ref q.2)))
theorem perm_map_inv {α β : Type} (f : α → β) : ∀ {l : List β} {m : List α}, l.Perm (m.map f) → ∃ l' : List α, l'.Perm m ∧ l'.map f = l := by
  intro l m h
  generalize e : m.map f = m' at h
  induction h generalizing m with
  | nil =>
    cases m with
    | nil => exact ⟨[], .nil, rfl⟩
    | cons a m => simp at e
  | cons x h ih =>
    cases m with
    | nil => simp at e
    | cons a m =>
      rw [List.map_cons] at e
      injection e with e1 e2
      obtain ⟨l', p, q⟩ := ih e2
      exact ⟨a :: l', p.cons a, by rw [List.map_cons, q, e1]⟩
  | swap x y l =>
    match m, e with
    | [], e => simp at e
    | [a], e => simp at e
    | a :: b :: m, e =>
      rw [List.map_cons, List.map_cons] at e
      injection e with e1 e2
      injection e2 with e2 e3
      exact ⟨b :: a :: m, .swap a b m, by rw [List.map_cons, List.map_cons, e1, e2, e3]⟩
  | trans h1 h2 ih1 ih2 =>
    obtain ⟨l', p, q⟩ := ih2 e
    obtain ⟨l'', p', q'⟩ := ih1 q
    exact ⟨l'', p'.trans p, q'⟩
theorem cr_sortN {X : Cx} (hcalm : X.calm = true) (hu : X.A.units + 64 < cLine) : CallR X (.builtin "sorted") (rSortN X.prog X.w) := by
  intro pins s σ H xs us Q I r q
  obtain ⟨d, kvs, rfl, x, hK, q⟩ := q
  obtain ⟨u, rfl, ru⟩ := vals1 r
  cases ru
  obtain ⟨xs, ep, e, rel⟩ := x.at_
  obtain ⟨o, es, h1, h2, h3, h4⟩ := nd_raw I e
  have hsz : es.size = xs.length := size_of_entries h4
  have hz : es.size ≤ sizeLine := by rw [hsz, ← rel.len]; exact x.sz
  refine Calls.call_function_entry PyProof.Rows.kind_sorted PyProof.Rows.plain_sorted PyProof.Rows.entry_sorted (PyProof.Rows.args_sorted1 _) ?_
  unfold Builtin.«sorted»
  refine wpAny_bind (m := checkCount "sorted" 1 1 _) (wpAny_pure ?_)
  refine wpAny_bind (PySem.W.kdu_collect (A := X.A.in1) (KdlSrc.rawDict (es := es) (ep := ep) x.lo) (I.ok.hd hcalm) ⟨o, h1, h2, h3⟩ hz fun h' tk acc hk hacc => ?_)
  have hal : acc.toList.length = kvs.length := by rw [Array.length_toList, hacc.1, hsz, rel.len]
  have I1 : Inv X pins σ H { s with heap := h', toks := tk } := I.kept hk
  -- the items: the keys' tuples
  have rv : Vals ((kvs.map fun p => kyV (p.1, p.2.1)).map (·.1)) acc.toList := by
    refine vals_of_at (by rw [List.length_map, List.length_map, hal]) fun j y v ey ev => ?_
    rw [List.map_map, List.getElem?_map] at ey
    cases ek : kvs[j]? with
    | none => rw [ek] at ey; cases ey
    | some p =>
      rw [ek] at ey
      cases ey
      obtain ⟨hj, ev2⟩ := hacc.2 j v (by rw [← Array.getElem?_toList]; exact ev)
      have hjx : j < xs.length := by rw [← hsz]; exact hj
      obtain ⟨p', hp', _, e2⟩ := rel.at1 (List.getElem?_eq_getElem hjx)
      rw [ek] at hp'
      cases hp'
      have z := entry_at h4 j
      rw [List.getElem?_eq_getElem hjx, Array.getElem?_eq_getElem hj] at z
      rw [ev2, Option.some.inj z]
      show Value.ref _ = Value.ref p.2.1
      rw [e2]
  obtain ⟨e1, e2⟩ := each_vals I1 rv fun b hb => by
    obtain ⟨p, hp, rfl⟩ := List.mem_map.mp hb
    exact dp_ky (x.keys p hp)
  have hbare : ∀ b ∈ kvs.map (fun p => kyV (p.1, p.2.1)), ∃ k : Ky, b.2 = k.data := fun b hb => by
    obtain ⟨p, hp, rfl⟩ := List.mem_map.mp hb
    exact ⟨p.1, rfl⟩
  have S : Srt (kvs.map fun p => kyV (p.1, p.2.1)) := hK.srt fun b hb => by
    obtain ⟨p, hp, rfl⟩ := List.mem_map.mp hb
    exact ⟨p.1, List.mem_map.mpr ⟨p, hp, rfl⟩, rfl⟩
  refine wpAny_bind (wpAny_newList ?_ (by rw [hal]; exact x.sz))
  have hoL : (h'.push (seqObj "list" acc.toList.toArray 0)).get? h'.objs.size = some (seqObj "list" acc.toList.toArray 0) := Heap.get?_push_size _ rfl
  show wpAny _ _ _ _ _ { s with heap := h'.push (seqObj "list" acc.toList.toArray 0), toks := tk }
  have e3 : PySem.W.EachIs (fun v (b : V × PyData) => ∃ as, Reads (h'.push (seqObj "list" acc.toList.toArray 0)) v b.2 as ∧ h'.objs.size ∉ as) acc.toList (kvs.map fun p => kyV (p.1, p.2.1)) := by
    refine each_mem e2 fun v b hb ⟨as, rd⟩ => ⟨as, PyProof.Rows.Reads.keeps (fun _ _ q => Heap.get?_push_of_some _ q) rd, fun hm => ?_⟩
    rw [bare_nil b.2 (hbare b hb) rd] at hm
    cases hm
  refine wpAny_bind (wpAny_holding (PySem.W.list_sort_data (enc := fun b : V × PyData => b.2) (s := { s with heap := h'.push (seqObj "list" acc.toList.toArray 0), toks := tk }) hoL e1 e3 S.alike S.kind (by rw [List.length_map]; exact x.sz) (fun b hb => ?_) fun out ho eo => ?_))
  · have := S.deep b hb
    show X.A.units + 1 + 1 + b.2.depth < cLine
    omega
  · obtain ⟨ee, he⟩ := PyProof.Rows.sortedHeap_at (vs := acc.toList) (out := List.toArray out) hoL
    have hn := I1.hok.fresh (Nat.le_refl _)
    have pm : ((kvs.map fun p => kyV (p.1, p.2.1)).mergeSort (PySem.W.dataLe false fun b : V × PyData => b.2)).Perm ((kvs.map fun q => (q.1, q.2.1)).map kyV) := by
      rw [List.map_map]
      exact List.mergeSort_perm _ _
    obtain ⟨ks, p1, p2⟩ := perm_map_inv kyV pm
    have rv' := vals_each eo
    rw [← p2, List.map_map] at rv'
    have hz' : (ks.map fun q => V.ref q.2).length ≤ sizeLine := by
      rw [List.length_map, p1.length_eq, List.length_map]
      exact x.sz
    refine wpAny_pure ⟨_, rfl, .ref h'.objs.size, _, I1.laid (t' := tk) (o := .lst (ks.map fun q => V.ref q.2)) (fun b u z => ?_) (Nat.le_refl _) ⟨hz', out, ee, (show Vals (ks.map fun q => V.ref q.2) out from rv'), he⟩, rfl, q ks _ p1 (by rw [p2]; exact asc_sort _) hn⟩
    have hb : b < h'.objs.size := Heap.lt_size z
    rw [PyProof.Rows.sortedHeap_old (Nat.ne_of_lt hb) (by rw [size_push']; exact Nat.lt_succ_of_lt hb)]
    exact Heap.get?_push_of_some _ z
end G98

/-! W4a: functions that live on behind the def that made them: their cells are tracked; a call. -/
namespace G98
open PySem PySem.Spec PyProof.Rows L2 NdefX LamX

/-- the cell at c holds w -/
def CellO (c : Addr) (w : V) : HO := .ext fun h => ∃ u, L2.RelV w u ∧ h.IsCell c (some u)
theorem cellO_ok {P : Program} {w : World} {H : Hp} {h : Heap} {c : Addr} {v : V} {u : Value} (r : L2.RelV v u) (e : h.IsCell c (some u)) : ObjOk P w H h c (CellO c v) := by
  obtain ⟨o, e1, e2⟩ := id e
  exact ⟨⟨u, r, e⟩, ⟨o, e1⟩, fun _ _ ⟨u, r, o, a, b⟩ st => ⟨u, r, o, st _ a, b⟩⟩
theorem cellO_at {P : Program} {w : World} {H : Hp} {h : Heap} {c : Addr} {v : V} (ok : HOk P w H h) (e : H c = some (CellO c v)) : ∃ u, L2.RelV v u ∧ h.IsCell c (some u) := by
  obtain ⟨z, _, _⟩ := ok c _ e
  exact z
/-- the captured cells, tracked: what they hold -/
structure CloC (scope : Scope) (cl : List (Str × Addr)) (fr : List Str) (ws : List V) (H : Hp) : Prop where
  len : ws.length = fr.length
  mem : ∀ y c, (y, c) ∈ cl → (y, NameKind.free) ∈ scope.names ∧ ∃ (i : Nat) (w : V), fr[i]? = some y ∧ ws[i]? = some w ∧ H c = some (CellO c w)
  inj : ∀ x y c, (x, c) ∈ cl → (y, c) ∈ cl → x = y
  one : ∀ y c c', (y, c) ∈ cl → (y, c') ∈ cl → c = c'
  has : ∀ (i : Nat) (y : Str), fr[i]? = some y → ∃ c, (y, c) ∈ cl
theorem CloC.ext {scope : Scope} {cl : List (Str × Addr)} {fr : List Str} {ws : List V} {H H' : Hp} (C : CloC scope cl fr ws H) (e : ∀ c w, H c = some (CellO c w) → H' c = some (CellO c w)) : CloC scope cl fr ws H' :=
  ⟨C.len, fun y c h => let ⟨a, i, w, b, d, q⟩ := C.mem y c h; ⟨a, i, w, b, d, e c w q⟩, C.inj, C.one, C.has⟩
/-- its names: parameters, captured ones, its own (cells among them) -/
structure NScC (N ps fr : List Str) (sc : Scope) : Prop where
  kind : sc.kind = .function
  co : sc.isCoroutine = false
  gen : sc.isGenerator = false
  nd : N.Nodup
  pre : N.take (ps.length + fr.length) = ps ++ fr
  par : ∀ x ∈ ps, sc.names.lookup x = some .local ∨ sc.names.lookup x = some .cell
  free : ∀ y ∈ sc.names, y.2 = .free → y.1 ∈ fr
  frk : ∀ x ∈ fr, sc.names.lookup x = some .free
  uniq : ∀ y ∈ sc.names, sc.names.lookup y.1 = some y.2
def nscC (N ps fr : List Str) (sc : Scope) : Bool :=
  decide (sc.kind = .function) && !sc.isCoroutine && !sc.isGenerator && decide N.Nodup && decide (N.take (ps.length + fr.length) = ps ++ fr) && ps.all (fun x => decide (sc.names.lookup x = some .local) || decide (sc.names.lookup x = some .cell)) &&
    sc.names.all (fun y => !decide (y.2 = .free) || decide (y.1 ∈ fr)) && fr.all (fun x => decide (sc.names.lookup x = some .free)) && sc.names.all (fun y => decide (sc.names.lookup y.1 = some y.2))
theorem nscC_by {N ps fr : List Str} {sc : Scope} (h : nscC N ps fr sc = true) : NScC N ps fr sc := by
  unfold nscC at h
  simp only [Bool.and_eq_true, Bool.not_eq_true', decide_eq_true_eq, List.all_eq_true, Bool.or_eq_true, decide_eq_false_iff_not] at h
  obtain ⟨⟨⟨⟨⟨⟨⟨⟨h1, h2⟩, h3⟩, h4⟩, h5⟩, h6⟩, h7⟩, h8⟩, h9⟩ := h
  exact ⟨h1, h2, h3, h4, h5, h6, fun y hy e => (h7 y hy).elim (fun z => absurd e z) id, h8, h9⟩
/-- the frame that runs it -/
abbrev envC (F : NF) (f L : Addr) : Env := newEnv F.scope L mainGlobals (cellsFrom (L + 1) F.scope.names F.cl) (F.qual ++ ".<locals>.") (some f) (.ref F.c) none builtinsNs
/-- the context of its body -/
def ccx (P : Program) (w : World) (K : PySem.W.Frag) (mg : Str → Option Value) (base : Heap) (N : List Str) (F : NF) (f : Addr) (A : Around) (outer : List Env) (s : Shared) (H : Hp) : Cx where
  prog := P
  w := w
  K := K
  mg := mg
  base := base
  A := A.deeper (envC F f s.heap.objs.size)
  N := N
  s_0 := s
  H_0 := H
  env := envC F f s.heap.objs.size
  outer := outer
  stack := envC F f s.heap.objs.size :: outer
  ex := []
  calm := true
  fn := fun x => decide (F.scope.names.lookup x = some .cell)
  pn := []
  xe := fun _ _ => False
/-- the slots when nothing is bound yet -/
def st0 (N ps : List Str) (ws : List V) (vs : List V) : L2.St := vs.map some ++ (List.replicate (ps.length - vs.length) none ++ (ws.map some ++ List.replicate (N.length - ps.length - ws.length) none))
section
variable {P : Program} {w : World} {K : PySem.W.Frag} {mg : Str → Option Value} {base : Heap} {N ps fr : List Str} {F : NF} {f : Addr} {A : Around} {outer : List Env} {s : Shared} {H : Hp} {ws : List V}
theorem NScC.le (S : NScC N ps fr F.scope) : ps.length + fr.length ≤ N.length := by
  have q := congrArg List.length S.pre
  rw [List.length_take, List.length_append] at q
  omega
/-- at the entry, the cells' own tracks left out (H0) -/
theorem inv_c0 (S : NScC N ps fr F.scope) (hd : A.handled = none) (e0 : Env0 P w K mg base A outer s H) (C : ∀ y c, (y, c) ∈ F.cl → (y, NameKind.free) ∈ F.scope.names ∧ H c = none ∧ ∃ (i : Nat) (v : V) (u : Value), fr[i]? = some y ∧ ws[i]? = some v ∧ L2.RelV v u ∧ s.heap.IsCell c (some u))
    (len : ws.length = fr.length) (inj : ∀ x y c, (x, c) ∈ F.cl → (y, c) ∈ F.cl → x = y) (has : ∀ (i : Nat) (y : Str), fr[i]? = some y → ∃ c, (y, c) ∈ F.cl) :
    Inv (ccx P w K mg base N F f A outer s H) [] (st0 N ps ws []) H { s with heap := pushCells (s.heap.push { cls := .type "frame", data := .dict #[] }) F.scope.names } := by
  have le := S.le
  generalize hX : ccx P w K mg base N F f A outer s H = X
  have kp : ∀ b o, s.heap.get? b = some o → (pushCells (s.heap.push { cls := .type "frame", data := .dict #[] }) F.scope.names).get? b = some o := fun b o e => pushCells_keeps _ _ _ _ (Heap.get?_push_of_some _ e)
  have zsz : (s.heap.push { cls := .type "frame", data := .dict #[] }).objs.size = s.heap.objs.size + 1 := Heap.size_push ..
  have hcl : X.env.cells = cellsFrom (s.heap.push { cls := .type "frame", data := .dict #[] }).objs.size F.scope.names F.cl := by rw [zsz, ← hX]; rfl
  have mem : ∀ {y c}, X.env.cells.lookup y = some c → (y, c) ∈ F.cl ∨ ((y, NameKind.cell) ∈ F.scope.names ∧ s.heap.objs.size + 1 ≤ c ∧ CellAt (pushCells (s.heap.push { cls := .type "frame", data := .dict #[] }) F.scope.names) c none) := fun {y c} e => by
    rw [hcl] at e
    rcases cells_mem (PySem.mem_of_lookup e) with h | ⟨h1, h2, h3⟩
    · exact .inl h
    · rw [zsz] at h2
      exact .inr ⟨h1, h2, h3⟩
  have cellK : ∀ {c : Addr} {v : Option Value}, s.heap.IsCell c v → (pushCells (s.heap.push { cls := .type "frame", data := .dict #[] }) F.scope.names).IsCell c v := fun {c v} ⟨o, ho, hd⟩ => ⟨o, kp _ _ ho, hd⟩
  have ltC : ∀ {y c}, (y, c) ∈ F.cl → c < s.heap.objs.size := fun {y c} h => by
    obtain ⟨_, _, _, _, _, _, _, _, z⟩ := C y c h
    exact z.lt
  have noA : ∀ b : Addr, b ∉ X.ex := fun b z => by rw [← hX] at z; exact absurd (show b ∈ ([] : List Addr) from z) List.not_mem_nil
  have inFree : ∀ {y}, F.scope.names.lookup y = some .free → ∃ c, (y, c) ∈ F.cl ∧ X.env.cells.lookup y = some c := fun {y} hl => by
    obtain ⟨i, hi⟩ := List.mem_iff_getElem?.mp (S.free _ (PySem.mem_of_lookup hl) rfl)
    obtain ⟨c, hc⟩ := has i y hi
    obtain ⟨c', e'⟩ := mem_lookup (cells_acc (names := F.scope.names) (n := (s.heap.push { cls := .type "frame", data := .dict #[] }).objs.size) hc)
    rw [← hcl] at e'
    rcases mem e' with h | ⟨h, _⟩
    · exact ⟨c', h, e'⟩
    · have z := S.uniq _ h
      rw [hl] at z
      cases z
  have hns : (pushCells (s.heap.push { cls := .type "frame", data := .dict #[] }) F.scope.names).Ns s.heap.objs.size fun _ => none := by
    obtain ⟨o, es, ep, e, r⟩ := Heap.Ns.new s.heap (.type "frame")
    exact ⟨o, es, ep, pushCells_keeps _ _ _ _ e, r⟩
  have ok : X.Ok := by
    rw [← hX]
    rw [← hX] at hcl mem inFree
    refine ⟨e0.mod, S.kind, rfl, rfl, Nat.le_refl _, fun y z c e1 e2 => ?_, fun y hy => ?_, fun y c z e => ?_, fun _ => hd, Around.frames_deeper e0.frames, .inr ⟨rfl, rfl⟩, fun b z => absurd (show b ∈ ([] : List Addr) from z) List.not_mem_nil, e0.bs, e0.bsz,
      fun b _ _ => List.not_mem_nil, fun b z => absurd (show b ∈ ([] : List Addr) from z) List.not_mem_nil, e0.funs, e0.frf⟩
    · rw [hcl] at e1 e2
      refine cells_inj (fun p hp => ?_) (fun y z c a b => inj y z c a b) (PySem.mem_of_lookup e1) (PySem.mem_of_lookup e2)
      rw [zsz]
      exact Nat.lt_succ_of_lt (ltC (y := p.1) hp)
    · have hy : F.scope.names.lookup y = some .cell ∨ F.scope.names.lookup y = some .free := hy
      rcases hy with hy | hy
      · obtain ⟨c, hm⟩ := cells_has (n := (s.heap.push { cls := .type "frame", data := .dict #[] }).objs.size) (acc := F.cl) (PySem.mem_of_lookup hy)
        obtain ⟨c', e'⟩ := mem_lookup hm
        exact ⟨c', by rw [hcl]; exact e'⟩
      · obtain ⟨c, _, h⟩ := inFree hy
        exact ⟨c, h⟩
    · rcases mem e with h | ⟨_, h, _⟩
      · obtain ⟨h1, _⟩ := C y c h
        have z1 : F.scope.names.lookup y = some .cell := of_decide_eq_true z
        have z2 := S.uniq _ h1
        rw [z1] at z2
        cases z2
      · exact Nat.le_trans (Nat.le_succ _) h
  refine ⟨ok, by rw [← hX]; rfl, by exact e0.bare, by rw [← hX]; exact Un.kept kp, ⟨_, by rw [← hX]; exact hns, fun i y v e1 e2 e3 => ?_⟩, fun y c e => ?_, by rw [← hX]; exact e0.hok.fresh (Nat.le_refl _), fun y c e => ?_, fun q hq => ?_, by rw [← hX]; exact e0.hok.kept kp, ?_⟩
  · have e1 : N[i]? = some y := by rw [← hX] at e1; exact e1
    have sl : i < ps.length + fr.length ∧ ps.length ≤ i ∧ ws[i - ps.length]? = some v := by
      unfold st0 at e2
      rw [List.map_nil, List.nil_append, List.length_nil, Nat.sub_zero] at e2
      by_cases h1 : i < ps.length
      · rw [List.getElem?_append_left (by rw [List.length_replicate]; exact h1), List.getElem?_replicate, if_pos h1] at e2
        cases e2
      · rw [List.getElem?_append_right (by rw [List.length_replicate]; omega), List.length_replicate] at e2
        by_cases h2 : i < ps.length + fr.length
        · rw [List.getElem?_append_left (by rw [List.length_map]; omega), List.getElem?_map] at e2
          cases q : ws[i - ps.length]? with
          | none => rw [q] at e2; cases e2
          | some a => rw [q] at e2; cases e2; exact ⟨h2, by omega, rfl⟩
        · rw [List.getElem?_append_right (by rw [List.length_map]; omega), List.getElem?_replicate] at e2
          split at e2 <;> cases e2
    obtain ⟨s1, s2, s3⟩ := sl
    have hq : (ps ++ fr)[i]? = some y := by
      rw [← S.pre, List.getElem?_take_of_lt s1]
      exact e1
    rw [List.getElem?_append_right s2] at hq
    obtain ⟨c, hc, hlk⟩ := inFree (S.frk y (List.mem_of_getElem? hq))
    obtain ⟨_, _, j, v', u, h1, h2, h3, h4⟩ := C y c hc
    have ndF : fr.Nodup := by
      have q := S.nd.sublist (List.take_sublist (ps.length + fr.length) N)
      rw [S.pre] at q
      exact (List.nodup_append.mp q).2.1
    obtain rfl : j = i - ps.length := nd_ix ndF h1 hq
    rw [s3] at h2
    cases h2
    refine ⟨u, h3, .inr ⟨.inr ?_, c, hlk, cellK h4⟩⟩
    rw [← hX]
    exact S.frk y (List.mem_of_getElem? hq)
  · rcases mem e with h | ⟨_, _, h⟩
    · obtain ⟨_, _, _, _, u, _, _, _, z⟩ := C y c h
      exact ⟨_, cellK z⟩
    · exact ⟨_, h⟩
  · rcases mem e with h | ⟨_, h, _⟩
    · exact (C y c h).2.1
    · exact e0.hok.fresh (Nat.le_trans (Nat.le_succ _) h)
  · rw [← hX] at hq
    exact absurd (show q ∈ ([] : List (Addr × Obj)) ++ [] from hq) (by simp)
  · rw [← hX]
    show (st0 N ps ws []).length = N.length
    unfold st0
    simp only [List.map_nil, List.nil_append, List.length_append, List.length_replicate, List.length_map, List.length_nil]
    omega
theorem st0_full {vs : List V} (hv : vs.length = ps.length) : st0 N ps ws vs = startF N vs (ws.map some) := by
  unfold st0 startF
  rw [hv, Nat.sub_self, List.replicate_zero, List.nil_append, List.length_map]
theorem st0_set {vs : List V} {v : V} (hv : vs.length < ps.length) : (st0 N ps ws vs).set vs.length (some v) = st0 N ps ws (vs ++ [v]) := by
  unfold st0
  rw [List.set_append_right _ _ (by rw [List.length_map]; exact Nat.le_refl _), List.length_map, Nat.sub_self]
  obtain ⟨n, hn⟩ : ∃ n, ps.length - vs.length = n + 1 := ⟨ps.length - vs.length - 1, by omega⟩
  rw [hn, List.replicate_succ, List.cons_append, List.set_cons_zero, List.map_append, List.append_assoc, List.length_append]
  have e2 : ps.length - (vs.length + [v].length) = n := by
    simp only [List.length_singleton]
    omega
  rw [e2]
  rfl
/-- the parameters are bound, one by one -/
theorem bind_all {X : Cx} {M : Model} {A : Around} {E : Value → Shared → Prop} {Q : PUnit → Shared → Prop} {qs : List Str} (hN : X.N.Nodup) (g : Str × Value → PUnit → Sem (ForInStep PUnit)) (hg : ∀ x v r, g (x, v) r = (do storeName X.env x v; pure (.yield PUnit.unit))) :
    ∀ (rs : List Str) (vs1 vs2 : List V) (us2 : List Value) (s : Shared) (H : Hp), ps = qs ++ rs → vs1.length = qs.length → vs2.length = rs.length → Vals vs2 us2 → Inv X [] (st0 N ps ws vs1) H s → (∀ (i : Nat) x, ps[i]? = some x → X.N[i]? = some x ∧ Loc X.env.scope x ∧ (X.fn x = true ∨ X.env.scope.names.lookup x = some .local)) →
      (∀ s', Inv X [] (st0 N ps ws (vs1 ++ vs2)) H s' → Q PUnit.unit s') → wpAny M A (forIn (rs.zip us2) PUnit.unit g) Q E s
  | [], vs1, vs2, us2, s, H, hp, h1, h2, r, I, hx, h => by
    obtain rfl : vs2 = [] := List.length_eq_zero_iff.mp h2
    cases r
    rw [List.zip_nil_left, List.forIn_nil]
    refine wpAny_pure (h s ?_)
    rw [List.append_nil]
    exact I
  | x :: rs, vs1, vs2, us2, s, H, hp, h1, h2, r, I, hx, h => by
    match vs2, us2, r with
    | v :: vs2, u :: us2, .cons rv rr =>
      have hi : ps[vs1.length]? = some x := by
        rw [hp, h1, List.getElem?_append_right (Nat.le_refl _), Nat.sub_self]
        rfl
      obtain ⟨a, b, c⟩ := hx _ _ hi
      have hlt : vs1.length < ps.length := (List.getElem?_eq_some_iff.mp hi).1
      rw [List.zip_cons_cons, List.forIn_cons, hg]
      refine wpAny_bind (wpAny_bind (store_ok I hN a b rv (fun s' I' => wpAny_pure ?_) c))
      rw [st0_set hlt] at I'
      refine bind_all (qs := qs ++ [x]) hN g hg rs (vs1 ++ [v]) vs2 us2 s' H (by rw [hp, List.append_assoc]; rfl) (by rw [List.length_append, List.length_append, h1]; rfl) (by simpa using h2) rr I' hx fun s'' I'' => h s'' ?_
      rw [List.append_assoc] at I''
      exact I''
end
end G98

/-! W4b: what such a function promises; a call of a value that is one. -/
namespace G98
open PySem PySem.Spec PyProof.Rows L2 NdefX LamX

/-- the heap without what stands at cs; what stood there again -/
def hideC (H : Hp) (cs : List Addr) : Hp := fun b => if b ∈ cs then none else H b
def backC (H H1 : Hp) (cs : List Addr) : Hp := fun b => if b ∈ cs then H b else H1 b
theorem hideC_in {H : Hp} {cs : List Addr} {b : Addr} (h : b ∈ cs) : hideC H cs b = none := if_pos h
theorem hideC_out {H : Hp} {cs : List Addr} {b : Addr} (h : b ∉ cs) : hideC H cs b = H b := if_neg h
theorem backC_in {H H1 : Hp} {cs : List Addr} {b : Addr} (h : b ∈ cs) : backC H H1 cs b = H b := if_pos h
theorem backC_out {H H1 : Hp} {cs : List Addr} {b : Addr} (h : b ∉ cs) : backC H H1 cs b = H1 b := if_neg h
/-- all but what is told by a look alone -/
def NoExt (H H' : Hp) : Prop := ∀ b u, (∀ φ, u ≠ .ext φ) → H b = some u → H' b = some u
theorem same_noExt {H H' : Hp} (e : Same H H') : NoExt H H' := fun b u _ q => e b u q
theorem NoExt.trans {H H1 H2 : Hp} (a : NoExt H H1) (b : NoExt H1 H2) : NoExt H H2 := fun c u n q => b c u n (a c u n q)
theorem NoExt.tup {H H' : Hp} (e : NoExt H H') {b : Addr} {xs : List V} (h : H b = some (.tup xs)) : H' b = some (.tup xs) := e b _ (fun _ z => nomatch z) h
/-- cs are cells that hold the ws -/
def Cells (H : Hp) (cs : List Addr) : Prop := ∀ c ∈ cs, ∃ w, H c = some (CellO c w)
theorem cellO_ext {c : Addr} {w : V} : ∃ φ, CellO c w = .ext φ := ⟨_, rfl⟩
theorem Cells.out {H : Hp} {cs : List Addr} (C : Cells H cs) {b : Addr} {u : HO} (n : ∀ φ, u ≠ .ext φ) (e : H b = some u) : b ∉ cs := fun h => by
  obtain ⟨w, q⟩ := C b h
  rw [e] at q
  obtain ⟨φ, z⟩ := cellO_ext (c := b) (w := w)
  exact n φ ((Option.some.inj q).trans z)
theorem Cells.hide {H : Hp} {cs : List Addr} (C : Cells H cs) : NoExt H (hideC H cs) := fun b u n e => by
  rw [hideC_out (C.out n e)]
  exact e
theorem own_ne {a : Addr} (φ : Heap → Prop) : HO.own a ≠ .ext φ := fun z => nomatch z
theorem tup_ne {xs : List V} (φ : Heap → Prop) : HO.tup xs ≠ .ext φ := fun z => nomatch z
section
variable {P : Program} {w : World} {H H1 : Hp} {h h' : Heap} {cs : List Addr} {outer : List Env}
theorem hok_hide (ok : HOk P w H h) (C : Cells H cs) : HOk P w (hideC H cs) h := fun b u e => by
  by_cases hb : b ∈ cs
  · rw [hideC_in hb] at e
    cases e
  · rw [hideC_out hb] at e
    exact (ok b u e).stay (fun _ _ _ q => q) (fun c q => C.hide c _ own_ne q) fun c xs q => C.hide c _ tup_ne q
theorem un_free {fs ex : List Addr} {H H' : Hp} {h h' : Heap} (u : Un fs ex H H' h h') {b : Addr} {o : Obj} (e : h.get? b = some o) (n : H b = none) (hx : b ∉ ex) : H' b = none := u.free b o e n hx
/-- a cell behind the call -/
theorem cell_kept {fs : List Addr} (ok : HOk P w H h) (C : Cells H cs) (un : Un fs [] (hideC H cs) H1 h h') {c : Addr} (hc : c ∈ cs) {w' : V} (e : H c = some (CellO c w')) : H1 c = none ∧ ∃ u, L2.RelV w' u ∧ h'.IsCell c (some u) := by
  obtain ⟨u, r, o, ho, hd⟩ := cellO_at ok e
  refine ⟨un.free c o ho (hideC_in hc) List.not_mem_nil, u, r, ?_⟩
  obtain ⟨sl, q⟩ := un.any ho (hideC_in hc) List.not_mem_nil
  exact ⟨_, q, hd⟩
theorem hok_back {fs : List Addr} (ok : HOk P w H h) (C : Cells H cs) (un : Un fs [] (hideC H cs) H1 h h') (ok1 : HOk P w H1 h') : HOk P w (backC H H1 cs) h' := fun b u e => by
  have out : ∀ c u, H1 c = some u → c ∉ cs := fun c u q hc => by
    obtain ⟨w', z⟩ := C c hc
    rw [(cell_kept ok C un hc z).1] at q
    cases q
  by_cases hb : b ∈ cs
  · rw [backC_in hb] at e
    obtain ⟨w', z⟩ := C b hb
    rw [z] at e
    cases e
    obtain ⟨_, u, r, q⟩ := cell_kept ok C un hb z
    exact cellO_ok r q
  · rw [backC_out hb] at e
    exact (ok1 b u e).stay (fun _ _ _ q => q) (fun c q => by rw [backC_out (out c _ q)]; exact q) fun c xs q => by rw [backC_out (out c _ q)]; exact q
theorem un_back {fs : List Addr} (ok : HOk P w H h) (C : Cells H cs) (un : Un fs [] (hideC H cs) H1 h h') : Un fs [] H (backC H H1 cs) h h' := by
  have nc : ∀ b, H b = none → b ∉ cs := fun b e hb => by
    obtain ⟨w', z⟩ := C b hb
    rw [e] at z
    cases z
  have hid : ∀ b, H b = none → hideC H cs b = none := fun b e => by rw [hideC_out (nc b e)]; exact e
  refine ⟨fun b o e n hb hx => un.keep b o e (hid b n) hb hx, fun b o e n hb hx => un.slot b o e (hid b n) hb hx, fun b o e n hx => ?_, un.there, fun b xs e => ?_, fun b o u e => ?_, fun b ps e => ?_⟩
  · rw [backC_out (nc b n)]
    exact un.free b o e (hid b n) hx
  · have q := C.out (u := .tup xs) (fun _ z => nomatch z) e
    rw [backC_out q]
    exact un.tups b xs (by rw [hideC_out q]; exact e)
  · have q := C.out (u := .frz o u) (fun _ z => nomatch z) e
    rw [backC_out q]
    exact un.frzs b o u (by rw [hideC_out q]; exact e)
  · have q := C.out (u := .tbl ps) (fun _ z => nomatch z) e
    obtain ⟨more, z⟩ := un.tbls b ps (by rw [hideC_out q]; exact e)
    exact ⟨more, by rw [backC_out q]; exact z⟩
theorem same_back {H2 : Hp} (h : Same (hideC H cs) H2) : Same H (backC H H2 cs) := fun b o e => by
  by_cases hb : b ∈ cs
  · rw [backC_in hb]
    exact e
  · rw [backC_out hb]
    exact h b o (by rw [hideC_out hb]; exact e)
theorem noExt_back {H2 : Hp} (ok : HOk P w H h) (C : Cells H cs) {fs : List Addr} (un : Un fs [] (hideC H cs) H2 h h') : NoExt H2 (backC H H2 cs) := fun b u n e => by
  have hb : b ∉ cs := fun hb => by
    obtain ⟨w', z⟩ := C b hb
    rw [(cell_kept ok C un hb z).1] at e
    cases e
  rw [backC_out hb]
  exact e
end
/-- what a call of a value asks and gives, by values -/
abbrev RC := List V → Hp → VK → Prop
/-- the function at f does r, in every heap that holds what H holds -/
structure Mach (P : Program) (w : World) (K : PySem.W.Frag) (mg : Str → Option Value) (base : Heap) (k : Nat) (H : Hp) (f : Addr) (r : RC) : Prop where
  fn : ∃ F, H f = some (FnO f F)
  run : ∀ (A : Around) (outer : List Env) (s : Shared) (H' : Hp) (us : List Value) (vs : List V) (Q : VK), Room k A → Env0 P w K mg base A outer s H' → Same H H' → Vals vs us → r vs H' Q →
    codeAny (model P w) A (.call (.ref f) ⟨us, []⟩) (CR CX0 outer P w H' s Q E0) s
theorem Mach.same {P : Program} {w : World} {K : PySem.W.Frag} {mg : Str → Option Value} {base : Heap} {k : Nat} {H H' : Hp} {f : Addr} {r : RC} (m : Mach P w K mg base k H f r) (e : Same H H') : Mach P w K mg base k H' f r :=
  ⟨let ⟨F, q⟩ := m.fn; ⟨F, e _ _ q⟩, fun A outer s H2 us vs Q hr e0 e2 => m.run A outer s H2 us vs Q hr e0 (e.trans e2)⟩
theorem Mach.mono {P : Program} {w : World} {K : PySem.W.Frag} {mg : Str → Option Value} {base : Heap} {j k : Nat} {H : Hp} {f : Addr} {r : RC} (m : Mach P w K mg base j H f r) (h : j ≤ k) : Mach P w K mg base k H f r :=
  ⟨m.fn, fun A outer s H2 us vs Q hr => m.run A outer s H2 us vs Q (hr.mono h)⟩
section
variable {P : Program} {w : World} {K : PySem.W.Frag} {mg : Str → Option Value} {base : Heap} {N ps fr : List Str} {F : NF} {f : Addr} {k : Nat} {H : Hp} {ws : List V} {r : RC}
/-- THE RULE: a function with captured cells, by its body; the body sees the heap without these cells -/
theorem mach_of (S : NScC N ps fr F.scope) (hb : ∀ (doc pm ctv : Value) (us : List Value), us.length = ps.length → bindArgs (F.fd doc pm ctv) ⟨us, []⟩ = pure (ps.zip us)) (hf : H f = some (FnO f F)) (hc : H F.c = some (CodeO F.c F.qual)) (C : CloC F.scope F.cl fr ws H)
    (hN : ∀ (i : Nat) x, ps[i]? = some x → N[i]? = some x)
    (hbody : ∀ (A : Around) (outer : List Env) (s : Shared) (H' H0 : Hp) (vs : List V) (Q : VK), Room k (A.deeper (envC F f s.heap.objs.size)) → NoExt H H0 → NoExt H' H0 → r vs H' Q → vs.length = ps.length ∧
      ∃ t, PSs (ccx P w K mg base N F f A outer s H0) F.body t ∧ t { nx := fun _ _ => False, rt := fun v H2 => Same H0 H2 ∧ ∀ H3, NoExt H2 H3 → Same H' H3 → Q v H3 } (startF N vs (ws.map some)) H0) :
    Mach P w K mg base (k + 1) H f r := by
  refine ⟨⟨F, hf⟩, fun A outer s H' us vs Q hr e0 e2 rv hq => ?_⟩
  have C' := C.ext fun c w q => e2 _ _ q
  generalize hcs : F.cl.map (·.2) = cs
  have cc : Cells H' cs := fun c h => by
    rw [← hcs] at h
    obtain ⟨p, hp, rfl⟩ := List.mem_map.mp h
    obtain ⟨_, i, w, _, _, z⟩ := C'.mem p.1 p.2 hp
    exact ⟨w, z⟩
  have nH : NoExt H' (hideC H' cs) := cc.hide
  obtain ⟨hl, t, ht, hw⟩ := hbody A outer s H' (hideC H' cs) vs Q (hr.deeper _) ((same_noExt e2).trans nH) nH hq
  have e1 : Env0 P w K mg base A outer s (hideC H' cs) := by
    refine ⟨e0.frames, e0.mod, fun b o e => ⟨(e0.bs b o e).1, ?_⟩, e0.bsz, e0.funs, fun b hb => ?_, hok_hide e0.hok cc, e0.bare⟩
    · have z := (e0.bs b o e).2
      unfold hideC
      split
      · rfl
      · exact z
    · have z := e0.frf b hb
      unfold hideC
      split
      · rfl
      · exact z
  obtain ⟨od, sl, doc, pm, ctv, ho⟩ := fnO_at e0.hok (e2 _ _ hf)
  have ch : s.heap.CodeRec (.ref F.c) F.qual := codeO_at e0.hok (e2 _ _ hc)
  refine codeAny_call_function hr.depth ho rfl S.co S.gen rfl ch ?_
  rw [hb doc pm ctv us (by rw [← rv.length]; exact hl)]
  refine wpAny_pure ?_
  show wpAny _ _ (newFunctionEnv F.scope mainGlobals F.cl (ps.zip us) (F.qual ++ ".<locals>.") (some f) (.ref F.c) none builtinsNs) _ _ s
  have I0 : Inv (ccx P w K mg base N F f A outer s (hideC H' cs)) [] (st0 N ps ws []) (hideC H' cs) { s with heap := pushCells (s.heap.push { cls := .type "frame", data := .dict #[] }) F.scope.names } :=
    inv_c0 S hr.hd e1 (fun y c h => by
      obtain ⟨a, i, w', b, d, z⟩ := C'.mem y c h
      have hm : c ∈ cs := by rw [← hcs]; exact List.mem_map.mpr ⟨(y, c), h, rfl⟩
      obtain ⟨u, ru, hu⟩ := cellO_at e0.hok z
      exact ⟨a, hideC_in hm, i, w', u, b, d, ru, hu⟩) C'.len C'.inj C'.has
  simp only [newFunctionEnv, Option.isSome_none, Bool.false_eq_true, if_false]
  refine wpAny_bind (wpAny_alloc ?_)
  refine wpAny_bind (wpAny_layCells _ (fun n k c => rfl) F.scope.names F.cl _ _ ?_)
  rw [show ({ s with heap := s.heap.push { cls := .type "frame", data := .dict #[] } } : Shared).heap.objs.size = s.heap.objs.size + 1 from Heap.size_push ..]
  refine wpAny_bind (bind_all (X := ccx P w K mg base N F f A outer s (hideC H' cs)) (qs := []) (ps := ps) (ws := ws) S.nd _ (fun x v r => rfl) ps [] vs us _ _ rfl rfl hl rv I0 (fun i x hi => ?_) fun s' I => wpAny_pure ⟨I.nolimit, ?_⟩)
  · have hx := S.par x (List.mem_of_getElem? hi)
    refine ⟨hN i x hi, hx, ?_⟩
    rcases hx with z | z
    · exact .inr z
    · exact .inl (decide_eq_true z)
  · rw [List.nil_append, st0_full hl] at I
    refine codeAny_func ?_
    refine wpAny_mono (ht.run [] s' (startF N vs (ws.map some)) (hideC H' cs) _ I hw) (fun fl s2 hs => ?_) fun _ _ z => z.elim
    cases fl with
    | ret u =>
      obtain ⟨v, σ', H2, J, ru, q1, q2⟩ := hs
      have un := J.base
      have z : CE outer P w H' s Q u s2 := ⟨v, backC H' H2 cs, J.os, J.bare, un_back e0.hok cc un, hok_back e0.hok cc un J.hok, ru, q2 _ (noExt_back e0.hok cc un) (same_back q1)⟩
      exact z
    | next =>
      obtain ⟨_, _, _, z⟩ := hs
      exact z.elim
    | brk =>
      obtain ⟨_, _, _, z⟩ := hs
      exact z.elim
    | cont =>
      obtain ⟨_, _, _, z⟩ := hs
      exact z.elim
end
/-! ### calls of values -/
section
variable {X : Cx}
theorem run_mach {pins : List (Addr × Obj)} {σ : L2.St} {H : Hp} {s : Shared} {Q : VK} {f : Addr} {k : Nat} {r : RC} {us : List Value} {vs : List V} (m : Mach X.prog X.w X.K X.mg X.base k H f r) (hr : Room k X.A) (I : Inv X pins σ H s) (rv : Vals vs us) (q : r vs H Q) :
    wpAny (model X.prog X.w) X.A (call (.ref f) us) (EP X pins σ Q) X.xe s := by
  refine wpAny_call (codeAny_mono (m.run X.A X.stack s H us vs Q hr I.env0 (Same.refl H) rv q) fun r s' hq => ?_)
  cases r with
  | error e => exact hq.elim
  | ok fl =>
    cases fl with
    | ret u => exact I.after hq
    | next => exact False.elim hq
    | brk => exact False.elim hq
    | cont => exact False.elim hq
/-- e(..), e any expression but a dotted one -/
def tCallV (P : Program) (w : World) (K : PySem.W.Frag) (mg : Str → Option Value) (base : Heap) (k : Nat) (tf : TE) (t : TA) : TE := fun σ H Q => tf σ H fun x H1 => ∃ f F, x = .ref f ∧ H1 f = some (FnO f F) ∧
  t σ H1 fun vs H2 => ∃ r, Mach P w K mg base k H2 f r ∧ r vs H2 Q
theorem pe_callV {func e : Expr} {es : List Expr} {pos : Pos} {tf : TE} {t : TA} {k : Nat} (hr : Room k X.A) (hf : PE X func tf) (ha : PA X (e :: es) t)
    (he : eval (.Call func (e :: es) [] pos) X.env = (do callWith pos (← eval func X.env) [] (backTo pos (starEach (e :: es) X.env)) (backToKw pos (keywordEach [] X.env))) := by rfl)
    (hst : starEach (e :: es) X.env = (false, eval e X.env) :: starEach es X.env := by rfl) (hpl : (backTo pos (starEach es X.env)).any (·.1) = false := by rfl) :
    PE X (.Call func (e :: es) [] pos) (tCallV X.prog X.w X.K X.mg X.base k tf t) := by
  refine ⟨fun pins s σ H Q I h => ?_⟩
  refine Call_ (thn (hf.run pins s σ H _ I h) fun u s1 ⟨x, H1, I1, r1, f, F, ex, hF, q1⟩ => ?_) he
  subst ex
  cases r1
  refine PySem.W.callWith_F (first := []) (fnAt_of I1 hF) (thn (ha.run pos pins s1 σ H1 _ I1 q1) fun us s2 ⟨vs, H2, I2, rv, r, m, q⟩ => ?_) hst hpl
  obtain ⟨F', hF'⟩ := m.fn
  exact ⟨fnAt_of I2 hF', run_mach m hr I2 rv q⟩
/-- o.f(..), the field f of the instance a function -/
theorem getfield_ok {pins : List (Addr × Obj)} {σ : L2.St} {H : Hp} {s : Shared} {a C dx : Addr} {fs : List (Str × V)} {f : Str} {v : V} {A : Around} {E : Value → Shared → Prop} {pl : Sem Bool} {Q : Value × List Value → Shared → Prop} (I : Inv X pins σ H s) (e : H a = some (.ins C dx fs)) (c : Cls X.K C) (n : NoAttr X.K C f)
    (l : fs.lookup f = some v) (h : ∀ u s', Inv X pins σ H s' → L2.RelV v u → Q (u, []) s') : wpAny (model X.prog X.w) A (getMethod (.ref a) f pl) Q E s := by
  obtain ⟨mA, O, r, _, _, _⟩ := ins_get I.hok e
  obtain ⟨od, J, _⟩ := O.look
  exact PySem.W.method_usual I.kIn J (PySem.W.plainGet_of (c.get f)).1 (PySem.W.plainGet_of (c.get f)).2 n rfl (getattr_ok I e c n l h)
def tCallF (P : Program) (w : World) (K : PySem.W.Frag) (mg : Str → Option Value) (base : Heap) (k : Nat) (m : Str) (to : TE) (t : TA) : TE := fun σ H Q => to σ H fun x H1 => ∃ a C dx fs f F, x = .ref a ∧ H1 a = some (.ins C dx fs) ∧ Cls K C ∧ NoAttr K C m ∧ fs.lookup m = some (.ref f) ∧ H1 f = some (FnO f F) ∧
  t σ H1 fun vs H2 => ∃ r, Mach P w K mg base k H2 f r ∧ r vs H2 Q
theorem pe_callF {o e : Expr} {m : Str} {es : List Expr} {pos apos : Pos} {to : TE} {t : TA} {k : Nat} {pl : Sem Bool} (hr : Room k X.A) (ho : PE X o to) (ha : PA X (e :: es) t)
    (hst : starEach (e :: es) X.env = (false, eval e X.env) :: starEach es X.env := by rfl) (hpl : (backTo pos (starEach es X.env)).any (·.1) = false := by rfl)
    (ht : eval (.Call (.Attribute o m apos) (e :: es) [] pos) X.env = (do
      let ov ← eval o X.env
      standAt apos.atName
      let (f, first) ← holding [ov] (getMethod ov m pl)
      callWith pos f first (backTo pos (starEach (e :: es) X.env)) (backToKw pos (keywordEach [] X.env))) := by rfl) :
    PE X (.Call (.Attribute o m apos) (e :: es) [] pos) (tCallF X.prog X.w X.K X.mg X.base k m to t) := by
  refine ⟨fun pins s σ H Q I h => ?_⟩
  rw [ht]
  refine wpAny_bind (thn (ho.run pins s σ H _ I h) fun u s1 ⟨x, H1, I1, r1, a, C, dx, fs, f, F, ex, hi, hC, hn, hl, hF, q1⟩ => ?_)
  subst ex
  cases r1
  refine wpAny_bind (wpAny_standAt (wpAny_bind (wpAny_holding (getfield_ok I1 hi hC hn hl fun u s2 I2 ru => ?_))))
  cases ru
  refine PySem.W.callWith_F (first := []) (fnAt_of I2 hF) (thn (ha.run pos pins s2 σ H1 _ I2 q1) fun us s3 ⟨vs, H2, I3, rv, r, m, q⟩ => ?_) hst hpl
  obtain ⟨F', hF'⟩ := m.fn
  exact ⟨fnAt_of I3 hF', run_mach m hr I3 rv q⟩
end
end G98

/-! W4c: a def that hands back functions of its own: its cells are tracked behind it. -/
namespace G98
open PySem PySem.Spec PyProof.Rows L2 NdefX LamX

/-- a body that ends in return e; k is told the slots too -/
abbrev TR := (L2.St → V → Hp → Prop) → L2.St → Hp → Prop
structure PSsR (X : Cx) (sts : List Stmt) (t : TR) : Prop where
  run : ∀ (pins : List (Addr × Obj)) (s : Shared) (σ : L2.St) (H : Hp) (k : L2.St → V → Hp → Prop), Inv X pins σ H s → t k σ H →
    wpAny (model X.prog X.w) X.A (execs sts X.env) (fun f s' => ∃ u v σ' H', f = .ret u ∧ Inv X pins σ' H' s' ∧ L2.RelV v u ∧ k σ' v H') X.xe s
section
variable {X : Cx} {st : Stmt} {rest : List Stmt} {t1 : TS} {t2 : TR} {e : Expr} {te : TE} {pos : Pos}
def tSeqR (t1 : TS) (t2 : TR) : TR := fun k σ H => t1 { nx := fun σ' H' => t2 k σ' H', rt := fun _ _ => False } σ H
theorem pssR_cons (h1 : PS X st t1) (h2 : PSsR X rest t2) : PSsR X (st :: rest) (tSeqR t1 t2) := by
  refine ⟨fun pins s σ H k I h => ?_⟩
  refine wpAny_execs_cons (thn (h1.run pins s σ H _ I h) fun f s1 q => ?_)
  cases f with
  | next =>
    obtain ⟨σ', H', I', q⟩ := q
    exact h2.run pins s1 σ' H' k I' q
  | ret v =>
    obtain ⟨_, _, _, _, _, z⟩ := q
    exact z.elim
  | brk =>
    obtain ⟨_, _, _, z⟩ := q
    exact z.elim
  | cont =>
    obtain ⟨_, _, _, z⟩ := q
    exact z.elim
def tRetR (te : TE) : TR := fun k σ H => te σ H fun v H1 => k σ v H1
theorem pssR_ret (he : PE X e te) : PSsR X [.Return (some e) pos] (tRetR te) := by
  refine ⟨fun pins s σ H k I h => wpAny_execs_cons ?_⟩
  exact wpAny_Return_some (thn (he.run pins s σ H _ I h) fun u s1 ⟨v, H1, I1, r1, q1⟩ => ⟨u, v, σ, H1, rfl, I1, r1, q1⟩)
end
/-- the cells of the running def, at the end, tracked: H2 -/
structure Told (env : Env) (N : List Str) (σ : L2.St) (H1 H2 : Hp) : Prop where
  same : Same H1 H2
  cell : ∀ y c (j : Nat) w, env.cells.lookup y = some c → N[j]? = some y → env.scope.names.lookup y = some .cell → σ[j]? = some (some w) → H2 c = some (CellO c w)
  inj : ∀ x y c, env.cells.lookup x = some c → env.cells.lookup y = some c → x = y
  has : ∀ x, env.scope.names.lookup x = some .cell → ∃ c, env.cells.lookup x = some c
theorem told_of {X : Cx} {pins : List (Addr × Obj)} {σ : L2.St} {H : Hp} {s : Shared} (I : Inv X pins σ H s) (hN : X.N.Nodup) (hfn : ∀ x, X.fn x = true) :
    ∃ H2, Told X.env X.N σ H H2 ∧ HOk X.prog X.w H2 s.heap ∧ Un X.fs X.ex X.H_0 H2 X.s_0.heap s.heap := by
  classical
  let P : Addr → V → Prop := fun b w => ∃ (y : Str) (j : Nat), X.env.cells.lookup y = some b ∧ X.N[j]? = some y ∧ X.env.scope.names.lookup y = some .cell ∧ σ[j]? = some (some w)
  let H2 : Hp := fun b => if h : ∃ w, P b w then some (CellO b h.choose) else H b
  have uni : ∀ b w w', P b w → P b w' → w = w' := fun b w w' ⟨y, j, a1, a2, a3, a4⟩ ⟨y', j', b1, b2, b3, b4⟩ => by
    obtain rfl := I.ok.inj y y' b a1 b1
    obtain rfl := nodup_ix hN a2 b2
    rw [a4] at b4
    exact Option.some.inj (Option.some.inj b4)
  have at_ : ∀ b w, P b w → H2 b = some (CellO b w) := fun b w p => by
    have ex : ∃ w, P b w := ⟨w, p⟩
    show (if h : ∃ w, P b w then some (CellO b h.choose) else H b) = _
    rw [dif_pos ex, uni b _ w ex.choose_spec p]
  have out : ∀ b, (¬ ∃ w, P b w) → H2 b = H b := fun b n => dif_neg n
  have fr : ∀ b w, P b w → H b = none := fun b w ⟨y, _, a1, _⟩ => I.freeC y b a1
  have sm : Same H H2 := fun b o e => by
    rw [out b fun ⟨w, p⟩ => by rw [fr b w p] at e; cases e]
    exact e
  have outN : ∀ b, H b = none → b < X.s_0.heap.objs.size → H2 b = none := fun b e hl => by
    rw [out b fun ⟨w, y, j, a1, _⟩ => ?_]
    · exact e
    · have z := I.ok.cab y b (hfn y) a1
      exact absurd (Nat.lt_of_lt_of_le hl z) (Nat.lt_irrefl _)
  refine ⟨H2, ⟨sm, fun y c j w a1 a2 a3 a4 => at_ c w ⟨y, j, a1, a2, a3, a4⟩, I.ok.inj, fun x hx => I.ok.has x (.inl hx)⟩, fun b o e => ?_, ?_⟩
  · by_cases h : ∃ w, P b w
    · obtain ⟨w, p⟩ := h
      have p' := p
      rw [at_ b w p] at e
      cases e
      obtain ⟨y, j, a1, a2, a3, a4⟩ := p'
      obtain ⟨m, hn, hl⟩ := I.loc
      obtain ⟨u, r, l⟩ := hl j y w a2 a4 (.inr (.inl a3))
      rcases l with ⟨z, _⟩ | ⟨_, c, hc, hcell⟩
      · have z' : X.env.scope.names.lookup y = some .local := z
        rw [a3] at z'
        cases z'
      · rw [a1] at hc
        cases hc
        exact cellO_ok r hcell
    · rw [out b h] at e
      exact (I.hok b o e).stay (fun _ _ _ q => q) (fun c q => sm c _ q) fun c xs q => sm c _ q
  · have u := I.base
    exact ⟨fun b o e n hb hx => u.keep b o e n hb hx, fun b o e n hb hx => u.slot b o e n hb hx, fun b o e n hx => outN b (u.free b o e n hx) (Heap.lt_size e), u.there, fun b xs e => sm b _ (u.tups b xs e), fun b o x e => sm b _ (u.frzs b o x e),
      fun b ps e => let ⟨m, q⟩ := u.tbls b ps e; ⟨m, sm b _ q⟩⟩
section
variable {P : Program} {w : World} {K : PySem.W.Frag} {mg : Str → Option Value} {base : Heap}
/-- THE RULE for such a def -/
theorem Fun_mk {x qual : Str} {st : Stmt} {f : Addr} {fd : FuncData} {N ps : List Str} {k : Nat} {sp : Sp} {c : Addr} (F : Fun K x qual st f fd) (hcode : fd.code = .ref c) (S : FnScope N ps (defScope st)) (len : ∀ vs H Q E, sp vs H Q E → vs.length = ps.length)
    (hbody : ∀ (A : Around) (outer : List Env) (s : Shared) (H : Hp) (vs : List V) (Q : VK) (E : XK), Room k (A.deeper (envOfC qual (defScope st) s.heap.objs.size f (.ref c))) → sp vs H Q E →
      ∃ t, PSsR (cxOf CX0 P w K mg base N qual (defScope st) f (.ref c) A outer s H E).nox (defBody st) t ∧
        t (fun σ v H1 => ∀ H2, Told (cxOf CX0 P w K mg base N qual (defScope st) f (.ref c) A outer s H E).env N σ H1 H2 → Q v H2) (start N vs) H) : FnOk P w K mg base CX0 (k + 1) f fd ps sp := by
  obtain ⟨oc, od, kV, doc, pm, an, cdv, ct, osl, rfl, lk, hcd⟩ := F.ex
  obtain rfl : cdv = .ref c := hcode
  refine ⟨len, fun A outer s H args us vs Q E hr e0 hb r hsp => ?_⟩
  have hl := len _ _ _ _ hsp
  have KX : K.In s.heap := e0.mod.kin.keeps fun b o e => (e0.bs b o e).1
  have lim : s.heap.NoLimit := e0.mod.nolimit.keeps fun b o e => (e0.bs b o e).1
  refine codeAny_call_function hr.depth (KX _ _ lk) rfl S.co S.gen rfl (PySem.W.codeRec_of KX hcd) (hb _ _ _ _ ?_)
  refine wpAny_newFunctionEnv_cells S.kind (fun ⟨n, v⟩ hy => (S.par n (List.of_mem_zip hy).1).elim .inl fun q => .inr ⟨q, PySem.W.cellsFrom_some _ _ _ (.inl q)⟩) fun env he s1 x => ?_
  subst he
  refine ⟨lim.keeps x.toInCall.keep, codeAny_func ?_⟩
  obtain ⟨t, ht, hq⟩ := hbody A outer s H vs Q E (hr.deeper _) hsp
  have I := (inv_start (CX := CX0) (E := E) S hr.hd e0 hl r x).wish fun _ _ => False
  refine wpAny_mono (ht.run [] s1 (start N vs) H _ I hq) (fun fl s' hs => ?_) fun _ _ z => z.elim
  obtain ⟨u, v, σ', H', rfl, J, rv, q⟩ := hs
  obtain ⟨H2, T, ok, un⟩ := told_of J S.nd fun _ => rfl
  have z : CE outer P w H s Q u s' := ⟨v, H2, J.os, J.bare, un, ok, rv, q H2 T⟩
  exact z
end
end G98

/-! D1: the text by places; what the top has written. -/
namespace G98
open PySem PySem.Spec PyProof.Rows L2
def top (i : Nat) : Stmt := PySem.Challenge.pw_onesilent_k98_whole_machines_without_a_s.main.body.getD i (.Pass ⟨0, 0, 0, 0⟩)
abbrev s_is_integer : Stmt := top 3
abbrev s_is_within : Stmt := top 4
abbrev s_is_many : Stmt := top 5
abbrev s_is_sized : Stmt := top 6
abbrev s_is_pair : Stmt := top 7
abbrev s_is_row_of : Stmt := top 8
abbrev s_is_row : Stmt := top 9
abbrev s_are_rising : Stmt := top 10
abbrev s_is_lot_below : Stmt := top 11
abbrev s_check_many : Stmt := top 24
abbrev s_check_rounds : Stmt := top 25
abbrev s_is_miss : Stmt := top 26
abbrev s_is_round : Stmt := top 27
abbrev s_is_pattern_of : Stmt := top 28
abbrev s_check_pattern : Stmt := top 29
abbrev s_raw_shut_out : Stmt := top 30
abbrev s_shut_out : Stmt := top 31
abbrev s_is_no_function : Stmt := top 33
abbrev s_Folk_init : Stmt := inClass (top 34) 0
abbrev s_first_memories : Stmt := top 35
abbrev s_heard_of : Stmt := top 36
abbrev s_next_memories : Stmt := top 37
abbrev s_told_answer : Stmt := top 38
abbrev s_raw_memories : Stmt := top 39
abbrev s_raw_answers : Stmt := top 40
abbrev s_check_run : Stmt := top 41
abbrev s_answers : Stmt := top 42
abbrev s_is_small_row : Stmt := top 49
abbrev s_is_small_lot : Stmt := top 50
abbrev s_is_inputs_with_lot : Stmt := top 51
abbrev s_bad_part : Stmt := top 52
abbrev s_raw_rest : Stmt := top 53
abbrev s_completing_of : Stmt := top 54
abbrev s_Task_init : Stmt := inClass (top 55) 0
abbrev s_Task_keep : Stmt := inClass (top 55) 1
abbrev s_Task_eq : Stmt := inClass (top 55) 2
abbrev s_is_rest : Stmt := top 56
abbrev s_raw_rests : Stmt := top 57
abbrev s_is_rest_of : Stmt := top 58
abbrev s_check_rest : Stmt := top 59
abbrev s_raw_completing : Stmt := top 60
abbrev s_completing : Stmt := top 61
abbrev s_check_some : Stmt := top 63
abbrev s_covers_of : Stmt := top 64
abbrev s_rests_of_some : Stmt := top 65
abbrev s_raw_sure_bar : Stmt := top 66
abbrev s_sure_bar : Stmt := top 67
abbrev s_sure_plan : Stmt := top 68
abbrev s_law_pot : Stmt := top 70
abbrev s_law_draw : Stmt := top 71
abbrev s_law_any : Stmt := top 72
abbrev s_law_folk : Stmt := top 73
abbrev s_law_run : Stmt := top 74
abbrev s_law_split : Stmt := top 75
abbrev s_law_answerers : Stmt := top 76
abbrev s_law : Stmt := top 77
/-- the def of this name stands in the module -/
structure FunIs (K : PySem.W.Frag) (mg : Str → Option Value) (x : Str) (st : Stmt) : Prop where
  ex : ∃ (f : Addr) (fd : FuncData), Fun K x x st f fd ∧ mg x = some (.ref f)
/-- .. and keeps the promise sp -/
structure FnIs (P : Program) (w : World) (K : PySem.W.Frag) (mg : Str → Option Value) (base : Heap) (k : Nat) (x : Str) (ps : List Str) (sp : Sp) : Prop where
  ex : ∃ (f : Addr) (fd : FuncData), FnOk P w K mg base CX0 k f fd ps sp ∧ mg x = some (.ref f) ∧ PySem.W.keepIn K (.ref f) = true ∧ Binds K fd ps []
section
variable {P : Program} {w : World} {K : PySem.W.Frag} {mg : Str → Option Value} {base : Heap} {x : Str} {st : Stmt} {N ps : List Str} {k : Nat} {sp : Sp}
theorem FunIs.ok (F : FunIs K mg x st) (S : FnScope N ps (defScope st))
    (hb : ∀ (kV doc pm : Value) (an : Option Addr) (cdv ct : Value) (us : List Value), us.length = ps.length → bindArgs (PySem.W.fnOf x x (defArgs st) (defBody st) (defScope st) .none kV doc pm an cdv ct) ⟨us, []⟩ = pure (ps.zip us))
    (len : ∀ vs H Q E, sp vs H Q E → vs.length = ps.length)
    (hbody : ∀ (f : Addr) (cdv : Value) (A : Around) (outer : List Env) (s : Shared) (H : Hp) (vs : List V) (Q : VK) (E : XK), Room k (A.deeper (envOfC x (defScope st) s.heap.objs.size f cdv)) → sp vs H Q E →
      ∃ t, PSs (cxOf CX0 P w K mg base N x (defScope st) f cdv A outer s H E).nox (defBody st) t ∧ t { nx := fun _ H' => Q .non H', rt := Q } (start N vs) H) : FnIs P w K mg base (k + 1) x ps sp := by
  obtain ⟨f, fd, F, hm⟩ := F.ex
  exact ⟨f, fd, F.ok S len (fun cdv A outer s H vs Q E hr h => hbody f cdv A outer s H vs Q E hr h), hm, F.kp, F.binds hb⟩
theorem FnIs.mono {j : Nat} (F : FnIs P w K mg base j x ps sp) (h : j ≤ k) : FnIs P w K mg base k x ps sp := by
  obtain ⟨f, fd, F, q⟩ := F.ex
  exact ⟨f, fd, F.mono h, q⟩
end
/-- a call of such a def -/
theorem pe_fn {X : Cx} {k j : Nat} {x : Str} {ps : List Str} {sp : Sp} {p pos : Pos} {e : Expr} {es : List Expr} {t : TA} (F : FnIs X.prog X.w X.K X.mg X.base k x ps sp) (hr : Room j X.A) (ha : PA X (e :: es) t) (hk : k ≤ j := by decide) (hg : Gl X x := by rfl)
    (hdb : (x == ("__debug__" : Str)) = false := by decide) (he : starEach (e :: es) X.env = (false, eval e X.env) :: starEach es X.env := by rfl) (hpl : (backTo pos (starEach es X.env)).any (·.1) = false := by rfl) :
    PE X (.Call (.Name x p) (e :: es) [] pos) (tCall sp [] E0 t) := by
  obtain ⟨f, fd, F, hm, kp, b⟩ := F.ex
  exact pe_call F (hr.mono hk) hg hm kp b .nil pass0 ha hdb he hpl
/-- what of the module's names is still the built-in -/
structure Blt (mg : Str → Option Value) : Prop where
  b_isinstance : mg "isinstance" = none
  b_int : mg "int" = none
  b_bool : mg "bool" = none
  b_tuple : mg "tuple" = none
  b_len : mg "len" = none
  b_all : mg "all" = none
  b_zip : mg "zip" = none
  b_range : mg "range" = none
  b_enumerate : mg "enumerate" = none
  b_list : mg "list" = none
  b_sorted : mg "sorted" = none
  b_abs : mg "abs" = none
  b_str : mg "str" = none
  b_dict : mg "dict" = none
  c_LEAST_MANY : ∃ t, mg "LEAST_MANY" = some (.int 3 t)
  c_MOST_MANY : ∃ t, mg "MOST_MANY" = some (.int 5 t)
  c_MOST_ROUNDS : ∃ t, mg "MOST_ROUNDS" = some (.int 30 t)
  c_MOST_INPUTS : ∃ t, mg "MOST_INPUTS" = some (.int 60 t)
  c_MOST_ROWS : ∃ t, mg "MOST_ROWS" = some (.int 60 t)
  c_MOST_NUMBER : ∃ t, mg "MOST_NUMBER" = some (.int 9999 t)
  c_LEAST_OTHERS : ∃ t, mg "LEAST_OTHERS" = some (.int 2 t)
  c_MOST_OTHERS : ∃ t, mg "MOST_OTHERS" = some (.int 4 t)
/-- the defs of the module -/
structure Defs (K : PySem.W.Frag) (mg : Str → Option Value) : Prop where
  blt : Blt mg
  d_is_integer : FunIs K mg "is_integer" s_is_integer
  d_is_within : FunIs K mg "is_within" s_is_within
  d_is_many : FunIs K mg "is_many" s_is_many
  d_is_sized : FunIs K mg "is_sized" s_is_sized
  d_is_pair : FunIs K mg "is_pair" s_is_pair
  d_is_row_of : FunIs K mg "is_row_of" s_is_row_of
  d_is_row : FunIs K mg "is_row" s_is_row
  d_are_rising : FunIs K mg "are_rising" s_are_rising
  d_is_lot_below : FunIs K mg "is_lot_below" s_is_lot_below
  d_check_many : FunIs K mg "check_many" s_check_many
  d_check_rounds : FunIs K mg "check_rounds" s_check_rounds
  d_is_miss : FunIs K mg "is_miss" s_is_miss
  d_is_round : FunIs K mg "is_round" s_is_round
  d_is_pattern_of : FunIs K mg "is_pattern_of" s_is_pattern_of
  d_check_pattern : FunIs K mg "check_pattern" s_check_pattern
  d_raw_shut_out : FunIs K mg "raw_shut_out" s_raw_shut_out
  d_shut_out : FunIs K mg "shut_out" s_shut_out
  d_is_no_function : FunIs K mg "is_no_function" s_is_no_function
  d_first_memories : FunIs K mg "first_memories" s_first_memories
  d_heard_of : FunIs K mg "heard_of" s_heard_of
  d_next_memories : FunIs K mg "next_memories" s_next_memories
  d_told_answer : FunIs K mg "told_answer" s_told_answer
  d_raw_memories : FunIs K mg "raw_memories" s_raw_memories
  d_raw_answers : FunIs K mg "raw_answers" s_raw_answers
  d_check_run : FunIs K mg "check_run" s_check_run
  d_answers : FunIs K mg "answers" s_answers
  d_is_small_row : FunIs K mg "is_small_row" s_is_small_row
  d_is_small_lot : FunIs K mg "is_small_lot" s_is_small_lot
  d_is_inputs_with_lot : FunIs K mg "is_inputs_with_lot" s_is_inputs_with_lot
  d_bad_part : FunIs K mg "bad_part" s_bad_part
  d_raw_rest : FunIs K mg "raw_rest" s_raw_rest
  d_completing_of : FunIs K mg "completing_of" s_completing_of
  d_is_rest : FunIs K mg "is_rest" s_is_rest
  d_raw_rests : FunIs K mg "raw_rests" s_raw_rests
  d_is_rest_of : FunIs K mg "is_rest_of" s_is_rest_of
  d_check_rest : FunIs K mg "check_rest" s_check_rest
  d_raw_completing : FunIs K mg "raw_completing" s_raw_completing
  d_completing : FunIs K mg "completing" s_completing
  d_check_some : FunIs K mg "check_some" s_check_some
  d_covers_of : FunIs K mg "covers_of" s_covers_of
  d_rests_of_some : FunIs K mg "rests_of_some" s_rests_of_some
  d_raw_sure_bar : FunIs K mg "raw_sure_bar" s_raw_sure_bar
  d_sure_bar : FunIs K mg "sure_bar" s_sure_bar
  d_sure_plan : FunIs K mg "sure_plan" s_sure_plan
  d_law_pot : FunIs K mg "_law_pot" s_law_pot
  d_law_draw : FunIs K mg "_law_draw" s_law_draw
  d_law_any : FunIs K mg "_law_any" s_law_any
  d_law_run : FunIs K mg "_law_run" s_law_run
  d_law_split : FunIs K mg "_law_split" s_law_split
end G98

/-! E0: data in the heap; what gives data, whatever is added to the heap. -/
namespace G98
open PySem PySem.Spec PyProof.Rows L2

mutual
/-- v stands for the data d, by tuples and lists that are tracked -/
def Dt (H : Hp) : PyData → V → Prop
  | .none, v => v = .non
  | .bool b, v => v = .bl b
  | .int i, v => v = .int i
  | .str x, v => v = .str x
  | .list ds, v => ∃ a vs, v = .ref a ∧ H a = some (.lst vs) ∧ DtL H ds vs
  | .tuple ds, v => ∃ a vs, v = .ref a ∧ H a = some (.tup vs) ∧ DtL H ds vs
  | .dict _, _ => False
def DtL (H : Hp) : List PyData → List V → Prop
  | [], vs => vs = []
  | d :: ds, vs => ∃ v r, vs = v :: r ∧ Dt H d v ∧ DtL H ds r
end
mutual
theorem Dt.same {H H' : Hp} (e : Same H H') : ∀ {d : PyData} {v : V}, Dt H d v → Dt H' d v
  | .none, _, h => h
  | .bool _, _, h => h
  | .int _, _, h => h
  | .str _, _, h => h
  | .list _, _, ⟨a, vs, h1, h2, h3⟩ => ⟨a, vs, h1, e _ _ h2, DtL.same e h3⟩
  | .tuple _, _, ⟨a, vs, h1, h2, h3⟩ => ⟨a, vs, h1, e _ _ h2, DtL.same e h3⟩
  | .dict _, _, h => h
theorem DtL.same {H H' : Hp} (e : Same H H') : ∀ {ds : List PyData} {vs : List V}, DtL H ds vs → DtL H' ds vs
  | [], _, h => h
  | _ :: _, _, ⟨v, r, h1, h2, h3⟩ => ⟨v, r, h1, Dt.same e h2, DtL.same e h3⟩
end
mutual
theorem Dt.dp {K : PySem.W.Frag} {H : Hp} : ∀ {d : PyData} {v : V}, Dt H d v → Dp K H v d
  | .none, _, h => by rw [show _ = V.non from h]; exact .non
  | .bool b, _, h => by rw [show _ = V.bl b from h]; exact .bl b
  | .int i, _, h => by rw [show _ = V.int i from h]; exact .int i
  | .str x, _, h => by rw [show _ = V.str x from h]; exact .str x
  | .list _, _, ⟨a, vs, h1, h2, h3⟩ => by rw [h1]; exact .lst (SqL.of h2) (DtL.dp h3)
  | .tuple _, _, ⟨a, vs, h1, h2, h3⟩ => by rw [h1]; exact .tup (SqT.of h2) (DtL.dp h3)
  | .dict _, _, h => h.elim
theorem DtL.dp {K : PySem.W.Frag} {H : Hp} : ∀ {ds : List PyData} {vs : List V}, DtL H ds vs → DpAll K H vs ds
  | [], _, h => by rw [show _ = [] from h]; exact .nil
  | _ :: _, _, ⟨v, r, h1, h2, h3⟩ => by rw [h1]; exact .cons (Dt.dp h2) (DtL.dp h3)
end
theorem DtL.len {H : Hp} : ∀ {ds : List PyData} {vs : List V}, DtL H ds vs → vs.length = ds.length
  | [], _, h => by rw [show _ = [] from h]; rfl
  | _ :: _, _, ⟨v, r, h1, _, h3⟩ => by rw [h1, List.length_cons, List.length_cons, DtL.len h3]
theorem DtL.get {H : Hp} : ∀ {ds : List PyData} {vs : List V} {i : Nat} {d : PyData}, DtL H ds vs → ds[i]? = some d → ∃ v, vs[i]? = some v ∧ Dt H d v
  | [], _, _, _, _, e => by cases e
  | _ :: _, _, 0, _, ⟨v, r, h1, h2, _⟩, e => by cases e; rw [h1]; exact ⟨v, rfl, h2⟩
  | _ :: _, _, i + 1, _, ⟨v, r, h1, _, h3⟩, e => by
    obtain ⟨u, q1, q2⟩ := DtL.get (i := i) h3 e
    rw [h1]
    exact ⟨u, q1, q2⟩
theorem DtL.get' {H : Hp} {ds : List PyData} {vs : List V} {i : Nat} {v : V} (h : DtL H ds vs) (e : vs[i]? = some v) : ∃ d, ds[i]? = some d ∧ Dt H d v := by
  have hl : i < ds.length := by rw [← h.len]; exact (List.getElem?_eq_some_iff.mp e).1
  obtain ⟨u, q1, q2⟩ := h.get (List.getElem?_eq_getElem hl)
  rw [e] at q1
  cases q1
  exact ⟨_, List.getElem?_eq_getElem hl, q2⟩
theorem DtL.app {H : Hp} : ∀ {ds es : List PyData} {vs ws : List V}, DtL H ds vs → DtL H es ws → DtL H (ds ++ es) (vs ++ ws)
  | [], _, _, _, h, k => by rw [show _ = [] from h]; exact k
  | _ :: _, _, _, _, ⟨v, r, h1, h2, h3⟩, k => by rw [h1]; exact ⟨v, r ++ _, rfl, h2, DtL.app h3 k⟩
theorem DtL.one {H : Hp} {d : PyData} {v : V} (h : Dt H d v) : DtL H [d] [v] := ⟨v, [], rfl, h, rfl⟩
theorem DtL.ints {H : Hp} : ∀ ns : List Int, DtL H (ns.map .int) (ns.map .int)
  | [] => rfl
  | n :: ns => ⟨_, _, rfl, rfl, DtL.ints ns⟩
theorem DtL.ints' {H : Hp} : ∀ {ns : List Int} {vs : List V}, DtL H (ns.map .int) vs → vs = ns.map .int
  | [], _, h => h
  | n :: ns, _, ⟨v, r, h1, h2, h3⟩ => by
    rw [h1, DtL.ints' h3, show v = .int n from h2]
    rfl
theorem DtL.bools' {H : Hp} : ∀ {ns : List Bool} {vs : List V}, DtL H (ns.map .bool) vs → vs = ns.map .bl
  | [], _, h => h
  | n :: ns, _, ⟨v, r, h1, h2, h3⟩ => by
    rw [h1, DtL.bools' h3, show v = .bl n from h2]
    rfl
theorem DtL.take {H : Hp} : ∀ {ds : List PyData} {vs : List V} (n : Nat), DtL H ds vs → DtL H (ds.take n) (vs.take n)
  | [], _, n, h => by rw [show _ = [] from h, List.take_nil, List.take_nil]; exact rfl
  | _ :: _, _, 0, _ => by rw [List.take_zero, List.take_zero]; exact rfl
  | _ :: _, _, n + 1, ⟨v, r, h1, h2, h3⟩ => by rw [h1]; exact ⟨v, r.take n, rfl, h2, DtL.take n h3⟩
theorem DtL.drop {H : Hp} : ∀ {ds : List PyData} {vs : List V} (n : Nat), DtL H ds vs → DtL H (ds.drop n) (vs.drop n)
  | [], _, n, h => by rw [show _ = [] from h, List.drop_nil, List.drop_nil]; exact rfl
  | _ :: _, _, 0, h => by rw [List.drop_zero, List.drop_zero]; exact h
  | _ :: _, _, n + 1, ⟨v, r, h1, h2, h3⟩ => by rw [h1]; exact DtL.drop n h3
theorem DtL.mem {H : Hp} {ds : List PyData} {vs : List V} {d : PyData} (h : DtL H ds vs) (m : d ∈ ds) : ∃ v ∈ vs, Dt H d v := by
  obtain ⟨i, e⟩ := List.mem_iff_getElem?.mp m
  obtain ⟨v, e1, e2⟩ := h.get e
  exact ⟨v, List.mem_of_getElem? e1, e2⟩
abbrev dRow (ns : List Int) : PyData := .tuple (ns.map .int)
theorem Dt.row {H : Hp} {ns : List Int} {v : V} (h : Dt H (dRow ns) v) : ∃ a, v = .ref a ∧ H a = some (.tup (ns.map .int)) := by
  obtain ⟨a, vs, h1, h2, h3⟩ := h
  rw [h3.ints'] at h2
  exact ⟨a, h1, h2⟩
theorem Dt.ofRow {H : Hp} {ns : List Int} {a : Addr} (h : H a = some (.tup (ns.map .int))) : Dt H (dRow ns) (.ref a) := ⟨a, _, rfl, h, DtL.ints ns⟩
theorem Same.new {H : Hp} {p : Addr} {o : HO} (h : H p = none) : Same H (upd H p o) := fun b u e => by
  rw [upd_ne (ne_of_none e h)]
  exact e
theorem Same.mut {H H' : Hp} {p : Addr} {o : HO} (e : Same H H') (h : H p = none) : Same H (upd H' p o) := fun b u q => by
  rw [upd_ne (ne_of_none q h)]
  exact e _ _ q

mutual
/-- no list within -/
def noL : PyData → Bool
  | .tuple ds => noLs ds
  | .list _ => false
  | .dict _ => false
  | _ => true
def noLs : List PyData → Bool
  | [] => true
  | d :: ds => noL d && noLs ds
end
theorem noLs_of : ∀ {ds : List PyData}, (∀ d ∈ ds, noL d = true) → noLs ds = true
  | [], _ => rfl
  | d :: ds, h => by
    show (noL d && noLs ds) = true
    rw [h d List.mem_cons_self, noLs_of fun x hx => h x (List.mem_cons_of_mem _ hx)]
    rfl
theorem noLs_mem : ∀ {ds : List PyData}, noLs ds = true → ∀ d ∈ ds, noL d = true
  | d :: ds, h, x, hx => by
    have h : (noL d && noLs ds) = true := h
    rw [Bool.and_eq_true] at h
    rcases List.mem_cons.mp hx with e | m
    · rw [e]; exact h.1
    · exact noLs_mem h.2 x m
theorem noL_row (ns : List Int) : noL (dRow ns) = true := noLs_of (ds := ns.map .int) fun d hd => by
  obtain ⟨n, _, rfl⟩ := List.mem_map.mp hd
  rfl
mutual
/-- what is at D, a list or nothing, does not matter -/
theorem Dt.upd {H : Hp} {D : Addr} {o : HO} (hD : ∀ vs, H D ≠ some (.tup vs)) : ∀ {d : PyData} {v : V}, noL d = true → Dt H d v → Dt (upd H D o) d v
  | .none, _, _, h => h
  | .bool _, _, _, h => h
  | .int _, _, _, h => h
  | .str _, _, _, h => h
  | .tuple ds, _, n, ⟨a, vs, h1, h2, h3⟩ => ⟨a, vs, h1, by rw [upd_ne (fun q : a = D => hD vs (by rw [← q]; exact h2))]; exact h2, DtL.upd hD (show noLs ds = true from n) h3⟩
  | .list _, _, n, _ => nomatch n
  | .dict _, _, _, h => h.elim
theorem DtL.upd {H : Hp} {D : Addr} {o : HO} (hD : ∀ vs, H D ≠ some (.tup vs)) : ∀ {ds : List PyData} {vs : List V}, noLs ds = true → DtL H ds vs → DtL (upd H D o) ds vs
  | [], _, _, h => h
  | d :: ds, _, n, ⟨v, r, h1, h2, h3⟩ => by
    have n : (noL d && noLs ds) = true := n
    rw [Bool.and_eq_true] at n
    exact ⟨v, r, h1, Dt.upd hD n.1 h2, DtL.upd hD n.2 h3⟩
end
theorem lst_tup {H : Hp} {D : Addr} {xs : List V} (h : H D = some (.lst xs)) : ∀ vs, H D ≠ some (.tup vs) := fun vs q => by
  rw [h] at q
  cases q
theorem none_tup {H : Hp} {D : Addr} (h : H D = none) : ∀ vs, H D ≠ some (.tup vs) := fun vs q => by
  rw [h] at q
  cases q
/-! ### what gives data -/
def EvD (te : TE) (σ : L2.St) (H : Hp) (d : PyData) : Prop := ∀ H1, Same H H1 → ∀ Q : VK, (∀ v H2, Same H1 H2 → Dt H2 d v → Q v H2) → te σ H1 Q
def EvT (tt : TT) (σ : L2.St) (H : Hp) (b : Bool) : Prop := ∀ H1, Same H H1 → ∀ Q : Bool → Hp → Prop, (∀ H2, Same H1 H2 → Q b H2) → tt σ H1 Q
def EvA (ta : TA) (σ : L2.St) (H : Hp) (ds : List PyData) : Prop := ∀ H1, Same H H1 → ∀ Q : List V → Hp → Prop, (∀ vs H2, Same H1 H2 → DtL H2 ds vs → Q vs H2) → ta σ H1 Q
def EvO (to : TO) (σ : L2.St) (H : Hp) (o : Option Int) : Prop := ∀ H1, Same H H1 → ∀ Q : Option Int → Hp → Prop, (∀ H2, Same H1 H2 → Q o H2) → to σ H1 Q
section
variable {K : PySem.W.Frag} {σ : L2.St} {H H' : Hp} {ta tb tc te : TE} {t u : TT} {d d1 d2 : PyData} {i j : Int} {b c : Bool}
theorem EvD.mono (e : Same H H') (h : EvD te σ H d) : EvD te σ H' d := fun H1 e1 => h H1 (e.trans e1)
theorem EvT.mono (e : Same H H') (h : EvT t σ H b) : EvT t σ H' b := fun H1 e1 => h H1 (e.trans e1)
theorem EvD.is (h : EvD te σ H d) (e : d = d1) : EvD te σ H d1 := e ▸ h
theorem EvT.is (h : EvT t σ H b) (e : b = c) : EvT t σ H c := e ▸ h
theorem evd_var {k : Nat} {v : V} (h : σ[k]? = some (some v)) (hd : Dt H d v) : EvD (tVar k) σ H d := fun H1 e Q q => ⟨v, h, q v H1 (Same.refl _) (hd.same e)⟩
theorem evd_c {v : V} (hd : ∀ H, Dt H d v) : EvD (tC v) σ H d := fun H1 _ Q q => q v H1 (Same.refl _) (hd _)
theorem evd_int : EvD (tC (.int i)) σ H (.int i) := evd_c fun _ => rfl
theorem evd_bl : EvD (tC (.bl b)) σ H (.bool b) := evd_c fun _ => rfl
theorem evd_non : EvD (tC .non) σ H .none := evd_c fun _ => rfl
theorem evd_I0 {g : Int → Int → V} (ha : EvD ta σ H (.int i)) (hb : EvD tb σ H (.int j)) (hg : ∀ H, Dt H d (g i j)) : EvD (tOp (rI0 g) ta tb) σ H d := fun H1 e Q q =>
  ha H1 e _ fun x H2 e2 hx => hb H2 (e.trans e2) _ fun y H3 e3 hy => ⟨i, j, hx, hy, q _ _ (e2.trans e3) (hg _)⟩
theorem evd_I {C : Int → Int → Prop} {g : Int → Int → V} (ha : EvD ta σ H (.int i)) (hb : EvD tb σ H (.int j)) (hC : C i j) (hg : ∀ H, Dt H d (g i j)) : EvD (tOp (rI C g) ta tb) σ H d := fun H1 e Q q =>
  ha H1 e _ fun x H2 e2 hx => hb H2 (e.trans e2) _ fun y H3 e3 hy => ⟨i, j, hx, hy, hC, q _ _ (e2.trans e3) (hg _)⟩
theorem evd_add (ha : EvD ta σ H (.int i)) (hb : EvD tb σ H (.int j)) : EvD (tOp (rI0 fun i j => .int (i + j)) ta tb) σ H (.int (i + j)) := evd_I0 ha hb fun _ => rfl
theorem evd_sub (ha : EvD ta σ H (.int i)) (hb : EvD tb σ H (.int j)) : EvD (tOp (rI0 fun i j => .int (i - j)) ta tb) σ H (.int (i - j)) := evd_I0 ha hb fun _ => rfl
theorem evd_lt (ha : EvD ta σ H (.int i)) (hb : EvD tb σ H (.int j)) : EvD (tOp (rI0 fun i j => .bl (decide (i < j))) ta tb) σ H (.bool (decide (i < j))) := evd_I0 ha hb fun _ => rfl
theorem evd_gt (ha : EvD ta σ H (.int i)) (hb : EvD tb σ H (.int j)) : EvD (tOp (rI0 fun i j => .bl (decide (j < i))) ta tb) σ H (.bool (decide (j < i))) := evd_I0 ha hb fun _ => rfl
/-- None, an int -/
def scD : PyData → Bool
  | .none => true
  | .int _ => true
  | _ => false
def scV : PyData → V
  | .none => .non
  | .int i => .int i
  | _ => .non
theorem Dt.sc {v : V} (h : Dt H d v) (s : scD d = true) : v = scV d := by
  cases d <;> first | exact h | cases s
theorem scal_sc (h1 : scD d1 = true) (h2 : scD d2 = true) : scal (scV d1) (scV d2) = true := by
  cases d1 <;> cases h1 <;> cases d2 <;> cases h2 <;> rfl
theorem evd_eqS (ha : EvD ta σ H d1) (hb : EvD tb σ H d2) (h1 : scD d1 = true) (h2 : scD d2 = true) : EvD (tOp rEq ta tb) σ H (.bool (decide (scV d1 = scV d2))) := fun H1 e Q q =>
  ha H1 e _ fun x H2 e2 hx => hb H2 (e.trans e2) _ fun y H3 e3 hy => by
    rw [hx.sc h1, hy.sc h2]
    exact ⟨scal_sc h1 h2, q _ _ (e2.trans e3) rfl⟩
theorem evd_neS (ha : EvD ta σ H d1) (hb : EvD tb σ H d2) (h1 : scD d1 = true) (h2 : scD d2 = true) : EvD (tOp rNe ta tb) σ H (.bool (!decide (scV d1 = scV d2))) := fun H1 e Q q =>
  ha H1 e _ fun x H2 e2 hx => hb H2 (e.trans e2) _ fun y H3 e3 hy => by
    rw [hx.sc h1, hy.sc h2]
    exact ⟨scal_sc h1 h2, q _ _ (e2.trans e3) rfl⟩
theorem evd_eqI (ha : EvD ta σ H (.int i)) (hb : EvD tb σ H (.int j)) : EvD (tOp rEq ta tb) σ H (.bool (decide (i = j))) := (evd_eqS ha hb rfl rfl).is (by
  show PyData.bool (decide (V.int i = V.int j)) = _
  congr 1
  exact decide_eq_decide.mpr ⟨fun h => by injection h, fun h => by rw [h]⟩)
theorem evd_neI (ha : EvD ta σ H (.int i)) (hb : EvD tb σ H (.int j)) : EvD (tOp rNe ta tb) σ H (.bool (!decide (i = j))) := (evd_neS ha hb rfl rfl).is (by
  show PyData.bool (!decide (V.int i = V.int j)) = _
  congr 2
  exact decide_eq_decide.mpr ⟨fun h => by injection h, fun h => by rw [h]⟩)
/-- a <= b <= c -/
theorem evd_le2 {k : Int} (ha : EvD ta σ H (.int i)) (hb : EvD tb σ H (.int j)) (hc : EvD tc σ H (.int k)) :
    EvD (tChain (rI0 fun i j => .bl (decide (i ≤ j))) (rI0 fun i j => .bl (decide (i ≤ j))) ta tb tc) σ H (.bool (decide (i ≤ j) && decide (j ≤ k))) := fun H1 e Q q =>
  ha H1 e _ fun x H2 e2 hx => hb H2 (e.trans e2) _ fun y H3 e3 hy => ⟨i, j, hx, hy, _, rfl, by
    by_cases hij : i ≤ j
    · rw [if_pos (decide_eq_true hij)]
      refine hc H3 ((e.trans e2).trans e3) _ fun z H4 e4 hz => ⟨j, k, hy, hz, q _ _ ((e2.trans e3).trans e4) ?_⟩
      rw [decide_eq_true hij]
      exact rfl
    · rw [if_neg (by rw [decide_eq_false hij]; decide)]
      refine q _ _ (e2.trans e3) ?_
      rw [decide_eq_false hij]
      exact rfl⟩
def isNoneD : PyData → Bool
  | .none => true
  | _ => false
theorem Dt.isNone {v : V} (h : Dt H d v) : decide (v = .non) = isNoneD d := by
  cases d with
  | none => rw [show v = .non from h]; rfl
  | bool b => rw [show v = .bl b from h]; rfl
  | int b => rw [show v = .int b from h]; rfl
  | str b => rw [show v = .str b from h]; rfl
  | list b => obtain ⟨a, vs, h1, _⟩ := h; rw [h1]; rfl
  | tuple b => obtain ⟨a, vs, h1, _⟩ := h; rw [h1]; rfl
  | dict b => exact h.elim
theorem evd_isN (ha : EvD ta σ H d) : EvD (tIsN ta) σ H (.bool (isNoneD d)) := fun H1 e Q q => ha H1 e _ fun x H2 e2 hx => q _ _ e2 (by rw [hx.isNone]; exact rfl)
theorem evd_notN (ha : EvD ta σ H d) : EvD (tNotN ta) σ H (.bool (!isNoneD d)) := fun H1 e Q q => ha H1 e _ fun x H2 e2 hx => q _ _ e2 (by rw [hx.isNone]; exact rfl)
theorem evd_andV (ha : EvD ta σ H (.bool b)) (hb : b = true → EvD tb σ H (.bool c)) : EvD (tAndV ta tb) σ H (.bool (b && c)) := fun H1 e Q q =>
  ha H1 e _ fun x H2 e2 hx => ⟨b, hx, by
    cases b with
    | true => exact hb rfl H2 (e.trans e2) _ fun v H3 e3 hv => q v H3 (e2.trans e3) hv
    | false => exact q _ _ e2 rfl⟩
theorem evd_orV (ha : EvD ta σ H (.bool b)) (hb : b = false → EvD tb σ H (.bool c)) : EvD (tOrV ta tb) σ H (.bool (b || c)) := fun H1 e Q q =>
  ha H1 e _ fun x H2 e2 hx => ⟨b, hx, by
    cases b with
    | true => exact q _ _ e2 rfl
    | false => exact hb rfl H2 (e.trans e2) _ fun v H3 e3 hv => q v H3 (e2.trans e3) hv⟩
theorem evd_notV (ha : EvD ta σ H (.bool b)) : EvD (tNotV ta) σ H (.bool (!b)) := fun H1 e Q q => ha H1 e _ fun x H2 e2 hx => ⟨b, hx, q _ _ e2 rfl⟩
theorem evt_B (h : EvD te σ H (.bool b)) : EvT (tB te) σ H b := fun H1 e Q q => h H1 e _ fun x H2 e2 hx => ⟨b, hx, q H2 e2⟩
theorem evt_test (h : EvD te σ H (.bool b)) : EvT (tTest te) σ H b := fun H1 e Q q => h H1 e _ fun x H2 e2 hx => ⟨b, hx, q H2 e2⟩
theorem evt_yes : EvT tYes σ H true := fun H1 e Q q => q H1 (Same.refl _)
theorem evt_not (h : EvT t σ H b) : EvT (tNot t) σ H (!b) := fun H1 e Q q => h H1 e _ fun H2 e2 => q H2 e2
theorem evt_and (h : EvT t σ H b) (h2 : b = true → EvT u σ H c) : EvT (tAnd t u) σ H (b && c) := fun H1 e Q q => h H1 e _ fun H2 e2 => by
  cases b with
  | true => exact h2 rfl H2 (e.trans e2) _ fun H3 e3 => q H3 (e2.trans e3)
  | false => exact q _ e2
theorem evt_or (h : EvT t σ H b) (h2 : b = false → EvT u σ H c) : EvT (tOr t u) σ H (b || c) := fun H1 e Q q => h H1 e _ fun H2 e2 => by
  cases b with
  | true => exact q _ e2
  | false => exact h2 rfl H2 (e.trans e2) _ fun H3 e3 => q H3 (e2.trans e3)
theorem evd_if (h : EvT t σ H b) (h1 : b = true → EvD ta σ H d) (h2 : b = false → EvD tb σ H d) : EvD (tIf t ta tb) σ H d := fun H1 e Q q => h H1 e _ fun H2 e2 => by
  cases b with
  | true => exact h1 rfl H2 (e.trans e2) _ fun v H3 e3 => q v H3 (e2.trans e3)
  | false => exact h2 rfl H2 (e.trans e2) _ fun v H3 e3 => q v H3 (e2.trans e3)
theorem eva_nil : EvA tNil σ H [] := fun H1 e Q q => q [] H1 (Same.refl _) rfl
theorem eva_cons {tr : TA} {ds : List PyData} (h : EvD te σ H d) (hr : EvA tr σ H ds) : EvA (tCons te tr) σ H (d :: ds) := fun H1 e Q q =>
  h H1 e _ fun x H2 e2 hx => hr H2 (e.trans e2) _ fun xs H3 e3 hs => q _ _ (e2.trans e3) ⟨x, xs, rfl, hx.same e3, hs⟩
theorem evd_tup {tr : TA} {ds : List PyData} (h : EvA tr σ H ds) (hl : ds.length ≤ sizeLine) : EvD (tTup tr) σ H (.tuple ds) := fun H1 e Q q =>
  h H1 e _ fun vs H2 e2 hs => ⟨by rw [hs.len]; exact hl, fun p hp => q _ _ (e2.trans (Same.new hp)) ⟨p, vs, rfl, upd_same, hs.same (Same.new hp)⟩⟩
theorem evd_lst {tr : TA} {ds : List PyData} (h : EvA tr σ H ds) (hl : ds.length ≤ sizeLine) : EvD (tLst tr) σ H (.list ds) := fun H1 e Q q =>
  h H1 e _ fun vs H2 e2 hs => ⟨by rw [hs.len]; exact hl, fun p hp => q _ _ (e2.trans (Same.new hp)) ⟨p, vs, rfl, upd_same, hs.same (Same.new hp)⟩⟩
theorem evo_none : EvO tNoPart σ H none := fun H1 e Q q => q H1 (Same.refl _)
theorem evo_some (h : EvD te σ H (.int i)) : EvO (tPart te) σ H (some i) := fun H1 e Q q => h H1 e _ fun v H2 e2 hv => ⟨i, hv, q H2 e2⟩
theorem DtL.ixN {H : Hp} {ds : List PyData} {vs : List V} {i : Int} (h : DtL H ds vs) (ha : atI ds i = some d) : ∃ v, atI vs i = some v ∧ Dt H d v := by
  unfold atI at ha ⊢
  rw [h.len]
  cases e : L2.ixN ds.length i with
  | none => rw [e] at ha; cases ha
  | some k =>
    rw [e] at ha
    exact h.get ha
theorem evd_ixT {ds : List PyData} (ha : EvD ta σ H (.tuple ds)) (hb : EvD tb σ H (.int i)) (h : atI ds i = some d) : EvD (tOp (rIxT K) ta tb) σ H d := fun H1 e Q q =>
  ha H1 e _ fun x H2 e2 ⟨a, vs, hx, hA, hv⟩ => hb H2 (e.trans e2) _ fun y H3 e3 hy => by
    obtain ⟨v, h1, h2⟩ := (hv.same e3).ixN h
    exact ⟨a, vs, i, v, hx, hy, SqT.of (e3 _ _ hA), h1, q v H3 (e2.trans e3) h2⟩
theorem evd_ixL {ds : List PyData} (ha : EvD ta σ H (.list ds)) (hb : EvD tb σ H (.int i)) (h : atI ds i = some d) : EvD (tOp (rIxL K) ta tb) σ H d := fun H1 e Q q =>
  ha H1 e _ fun x H2 e2 ⟨a, vs, hx, hA, hv⟩ => hb H2 (e.trans e2) _ fun y H3 e3 hy => by
    obtain ⟨v, h1, h2⟩ := (hv.same e3).ixN h
    exact ⟨a, vs, i, v, hx, hy, SqL.of (e3 _ _ hA), h1, q v H3 (e2.trans e3) h2⟩
theorem EvA.one {tr : TA} (h : EvA tr σ H [d]) : ∀ H1, Same H H1 → ∀ Q : List V → Hp → Prop, (∀ v H2, Same H1 H2 → Dt H2 d v → Q [v] H2) → tr σ H1 Q := fun H1 e Q q => h H1 e _ fun vs H2 e2 ⟨v, r, h1, h2, h3⟩ => by
  rw [h1, show r = [] from h3]
  exact q v H2 e2 h2
/-- len, tuple, list, all -/
def rLenQ (K : PySem.W.Frag) : List V → Hp → VK → Prop := fun xs H Q => ∃ p ys, xs = [.ref p] ∧ (SqL K H p ys ∨ SqT K H p ys) ∧ Q (.int ys.length) H
theorem evd_lenT {ds : List PyData} (h : EvD te σ H (.tuple ds)) : EvD (tCB (rLenQ K) (tCons te tNil)) σ H (.int ds.length) := fun H1 e Q q =>
  h H1 e _ fun x H2 e2 ⟨a, vs, hx, hA, hv⟩ => ⟨a, vs, by rw [hx], .inr (SqT.of hA), q _ _ e2 (by rw [hv.len]; exact rfl)⟩
theorem evd_lenL {ds : List PyData} (h : EvD te σ H (.list ds)) : EvD (tCB (rLenQ K) (tCons te tNil)) σ H (.int ds.length) := fun H1 e Q q =>
  h H1 e _ fun x H2 e2 ⟨a, vs, hx, hA, hv⟩ => ⟨a, vs, by rw [hx], .inl (SqL.of hA), q _ _ e2 (by rw [hv.len]; exact rfl)⟩
def rTupQ (K : PySem.W.Frag) : List V → Hp → VK → Prop := fun xs H Q => ∃ p ys, xs = [.ref p] ∧ ((SqL K H p ys ∧ ∀ l, H l = none → Q (.ref l) (upd H l (.tup ys))) ∨ (SqT K H p ys ∧ Q (.ref p) H))
theorem evd_tupL {ds : List PyData} (h : EvD te σ H (.list ds)) : EvD (tCB (rTupQ K) (tCons te tNil)) σ H (.tuple ds) := fun H1 e Q q =>
  h H1 e _ fun x H2 e2 ⟨a, vs, hx, hA, hv⟩ => ⟨a, vs, by rw [hx], .inl ⟨SqL.of hA, fun l hl => q _ _ (e2.trans (Same.new hl)) ⟨l, vs, rfl, upd_same, hv.same (Same.new hl)⟩⟩⟩
def rListQ (K : PySem.W.Frag) : List V → Hp → VK → Prop := fun xs H Q => ∃ p ys, xs = [.ref p] ∧ (SqL K H p ys ∨ SqT K H p ys) ∧ ∀ l, H l = none → Q (.ref l) (upd H l (.lst ys))
theorem evd_listL {ds : List PyData} (h : EvD te σ H (.list ds)) : EvD (tCB (rListQ K) (tCons te tNil)) σ H (.list ds) := fun H1 e Q q =>
  h H1 e _ fun x H2 e2 ⟨a, vs, hx, hA, hv⟩ => ⟨a, vs, by rw [hx], .inl (SqL.of hA), fun l hl => q _ _ (e2.trans (Same.new hl)) ⟨l, vs, rfl, upd_same, hv.same (Same.new hl)⟩⟩
theorem evd_listT {ds : List PyData} (h : EvD te σ H (.tuple ds)) : EvD (tCB (rListQ K) (tCons te tNil)) σ H (.list ds) := fun H1 e Q q =>
  h H1 e _ fun x H2 e2 ⟨a, vs, hx, hA, hv⟩ => ⟨a, vs, by rw [hx], .inr (SqT.of hA), fun l hl => q _ _ (e2.trans (Same.new hl)) ⟨l, vs, rfl, upd_same, hv.same (Same.new hl)⟩⟩
theorem evd_all {bs : List Bool} (h : EvD te σ H (.list (bs.map .bool))) : EvD (tCB (rAll K) (tCons te tNil)) σ H (.bool (bs.all id)) := fun H1 e Q q =>
  h H1 e _ fun x H2 e2 ⟨a, vs, hx, hA, hv⟩ => ⟨a, bs, by rw [hx], by rw [← hv.bools']; exact SqL.of hA, q _ _ e2 rfl⟩
theorem evd_ltRow {ns ms : List Int} (ha : EvD ta σ H (dRow ns)) (hb : EvD tb σ H (dRow ms)) : EvD (tOp (rLtT K) ta tb) σ H (.bool (HT.lexLt ns ms)) := fun H1 e Q q =>
  ha H1 e _ fun x H2 e2 hx => hb H2 (e.trans e2) _ fun y H3 e3 hy => by
    obtain ⟨a, rfl, h1⟩ := hx.row
    obtain ⟨c, rfl, h2⟩ := hy.row
    exact ⟨a, c, ns, ms, rfl, rfl, SqT.of (e3 _ _ h1), SqT.of h2, q _ _ (e2.trans e3) rfl⟩
theorem evd_eqD (ha : EvD ta σ H d1) (hb : EvD tb σ H d2) (h1 : SeqAt.shaped d1 = true) (h2 : SeqAt.shaped d2 = true) : EvD (tOp (rEqD K) ta tb) σ H (.bool (PyData.eqv d1 d2)) := fun H1 e Q q =>
  ha H1 e _ fun x H2 e2 hx => hb H2 (e.trans e2) _ fun y H3 e3 hy => ⟨d1, d2, (hx.same e3).dp, hy.dp, h1, h2, q _ _ (e2.trans e3) rfl⟩
theorem evd_neD (ha : EvD ta σ H d1) (hb : EvD tb σ H d2) (h1 : SeqAt.shaped d1 = true) (h2 : SeqAt.shaped d2 = true) : EvD (tOp (rNeD K) ta tb) σ H (.bool (!PyData.eqv d1 d2)) := fun H1 e Q q =>
  ha H1 e _ fun x H2 e2 hx => hb H2 (e.trans e2) _ fun y H3 e3 hy => ⟨d1, d2, (hx.same e3).dp, hy.dp, h1, h2, q _ _ (e2.trans e3) rfl⟩
/-- t + u -/
theorem evd_cat {ds es : List PyData} (ha : EvD ta σ H (.tuple ds)) (hb : EvD tb σ H (.tuple es)) (hl : ds.length + es.length ≤ sizeLine) : EvD (tOp (rCatA K) ta tb) σ H (.tuple (ds ++ es)) := fun H1 e Q q =>
  ha H1 e _ fun x H2 e2 ⟨a, vs, hx, hA, hv⟩ => hb H2 (e.trans e2) _ fun y H3 e3 ⟨c, ws, hy, hB, hw⟩ => by
    refine ⟨a, c, vs, ws, hx, hy, SqT.of (e3 _ _ hA), SqT.of hB, by rw [hv.len, hw.len]; exact hl, fun z => ?_, fun _ z => ?_, fun _ _ p hp => ?_⟩
    · refine q _ _ (e2.trans e3) ⟨c, ws, rfl, hB, ?_⟩
      have q := (hv.same e3).app hw
      rw [z] at q
      exact q
    · refine q _ _ (e2.trans e3) ⟨a, vs, rfl, e3 _ _ hA, ?_⟩
      have q := (hv.same e3).app hw
      rw [z, List.append_nil] at q
      exact q
    · exact q _ _ ((e2.trans e3).trans (Same.new hp)) ⟨p, _, rfl, upd_same, ((hv.same e3).app hw).same (Same.new hp)⟩
end
end G98

/-! E1: walks over data, comprehensions, slices, calls, statements. -/
namespace G98
open PySem PySem.Spec PyProof.Rows L2

/-- a walk gives the data ds, one by one -/
def EvW (wi : TI) (σ : L2.St) (H : Hp) (ds : List PyData) : Prop := ∀ H1, Same H H1 → ∀ R : It → Hp → Prop,
  (∀ (J : It) (H2 : Hp) (G : Hp → Prop) (Y : Nat → Hp → V → Hp → Prop), Same H1 H2 → Walk J ds.length G Y → (∀ H', Same H2 H' → G H') → (∀ i H' v H'', i < ds.length → Same H2 H' → Y i H' v H'' → Same H' H'' ∧ ∃ d, ds[i]? = some d ∧ Dt H'' d v) → R J H2) → wi σ H1 R
section
variable {K : PySem.W.Frag} {P : Program} {w : World} {σ : L2.St} {H H' : Hp} {ta : TA} {te : TE} {t : TT} {d : PyData} {ds es : List PyData}
theorem EvW.is {wi : TI} (h : EvW wi σ H ds) (e : ds = es) : EvW wi σ H es := e ▸ h
theorem EvW.mono {wi : TI} (e : Same H H') (h : EvW wi σ H ds) : EvW wi σ H' ds := fun H1 e1 => h H1 (e.trans e1)
theorem evw_tup (h : EvD te σ H (.tuple ds)) : EvW (iTup K te) σ H ds := fun H1 e R q => h H1 e _ fun x H2 e2 ⟨a, vs, hx, hA, hv⟩ =>
  ⟨a, hx, ⟨vs, SqT.of hA⟩, q _ H2 _ _ e2 (hv.len ▸ walk_tup (K := K) (a := a) (xs := vs)) (fun H' e' => SqT.of (e' _ _ hA)) fun i H' v H'' _ e' y => by
    obtain ⟨y1, y2⟩ := y
    subst y1
    exact ⟨Same.refl _, (hv.same e').get' y2⟩⟩
theorem evw_list (h : EvD te σ H (.list ds)) : EvW (iList K te) σ H ds := fun H1 e R q => h H1 e _ fun x H2 e2 ⟨a, vs, hx, hA, hv⟩ =>
  ⟨a, hx, ⟨vs, SqL.of hA⟩, q _ H2 _ _ e2 (hv.len ▸ walk_list (K := K) (a := a) (xs := vs)) (fun H' e' => SqL.of (e' _ _ hA)) fun i H' v H'' _ e' y => by
    obtain ⟨y1, y2⟩ := y
    subst y1
    exact ⟨Same.refl _, (hv.same e').get' y2⟩⟩
def dNat (n : Nat) : PyData := .int (n : Int)
theorem evw_range {n : Nat} (h : EvA ta σ H [dNat n]) (hn : n ≤ 100000) : EvW (iRng1 ta) σ H ((List.range n).map dNat) := fun H1 e R q => h.one H1 e _ fun v H2 e2 hv => by
  have hl : ((List.range n).map dNat).length = n := by rw [List.length_map, List.length_range]
  refine ⟨(n : Int), by rw [show v = V.int n from hv], by omega, by omega, ?_⟩
  rw [Int.toNat_natCast]
  refine q _ H2 _ _ e2 (by rw [hl]; exact walk_range) (fun _ _ => trivial) fun i H' v H'' hi e' y => ?_
  obtain ⟨y1, y2⟩ := y
  subst y1
  rw [hl] at hi
  refine ⟨Same.refl _, dNat i, by rw [List.getElem?_map, List.getElem?_range hi]; rfl, ?_⟩
  rw [show v = V.int (0 + (i : Int)) from y2, Int.zero_add]
  exact rfl
theorem pair_dt {T : Addr} {d1 d2 : PyData} {x y : V} (hp : H T = none) (h1 : Dt H d1 x) (h2 : Dt H d2 y) : Same H (upd H T (.tup [x, y])) ∧ Dt (upd H T (.tup [x, y])) (.tuple [d1, d2]) (.ref T) :=
  ⟨Same.new hp, T, [x, y], rfl, upd_same, x, [y], rfl, h1.same (Same.new hp), DtL.one (h2.same (Same.new hp))⟩
theorem evw_enum (h : EvA ta σ H [.tuple ds]) : EvW (iEnumT K ta) σ H (ds.mapIdx fun i d => .tuple [dNat i, d]) := fun H1 e R q => h.one H1 e _ fun v H2 e2 ⟨a, vs, hx, hA, hv⟩ =>
  ⟨a, vs, by rw [hx], SqT.of hA, fun J W => q J H2 _ _ e2 (by rw [List.length_mapIdx, ← hv.len]; exact W) (fun H' e' => SqT.of (e' _ _ hA)) fun i H' v H'' hi e' y => by
    obtain ⟨T, x, y, rfl, hT, rfl, hx, hy⟩ := y
    cases hx
    obtain ⟨d, hd, hdt⟩ := (hv.same e').get' hy
    obtain ⟨k1, k2⟩ := pair_dt hT (show Dt H' (dNat i) (.int (i : Nat)) from rfl) hdt
    exact ⟨k1, _, by rw [List.getElem?_mapIdx, hd]; rfl, k2⟩⟩
theorem walk_zipT {a b : Addr} {xs ys : List V} {n : Nat} (hn : n = min xs.length ys.length) : Walk (RZ.ItzT K a b) n (fun H => SqT K H a xs ∧ SqT K H b ys) (YPair (fun i => xs[i]?) (fun i => ys[i]?)) := by
  refine ⟨fun i H hi ⟨h1, h2⟩ => ?_, fun H ⟨h1, h2⟩ => ⟨xs, ys, h1, h2, by omega⟩, fun i H x H' hi ⟨h1, h2⟩ hy => ?_⟩
  · have e1 : i < xs.length := by omega
    have e2 : i < ys.length := by omega
    exact ⟨xs, ys, _, _, h1, h2, List.getElem?_eq_getElem e1, List.getElem?_eq_getElem e2⟩
  · obtain ⟨T, x', y', k1, k2, k3, k4, k5⟩ := hy
    exact ⟨T, x', y', k1, k2, k3, k4 _ h1, k5 _ h2⟩
theorem evw_zip (h : EvA ta σ H [.tuple ds, .tuple es]) : EvW (RZ.iZipA K ta) σ H ((ds.zip es).map fun p => .tuple [p.1, p.2]) := fun H1 e R q => h H1 e _ fun vs H2 e2 hv => by
  obtain ⟨x1, r1, rfl, ⟨a, as, rfl, hA, ha⟩, x2, r2, rfl, ⟨b, bs, rfl, hB, hb⟩, rfl⟩ := hv
  have hl : ((ds.zip es).map fun p : PyData × PyData => PyData.tuple [p.1, p.2]).length = min as.length bs.length := by rw [List.length_map, List.length_zip, ha.len, hb.len]
  have hB := (Same.refl H2) _ _ hB
  refine ⟨a, b, as, bs, rfl, .inr ⟨SqT.of hA, SqT.of hB, q _ H2 (fun H' => SqT K H' a as ∧ SqT K H' b bs) (YPair (fun i => as[i]?) (fun i => bs[i]?)) e2 (by rw [hl]; exact walk_zipT rfl) (fun H' e' => ⟨SqT.of (e' _ _ hA), SqT.of (e' _ _ hB)⟩) fun i H' v H'' hi e' y => ?_⟩⟩
  obtain ⟨T, x, y, rfl, hT, rfl, hx, hy⟩ := y
  obtain ⟨d1, hd1, k1⟩ := (ha.same e').get' hx
  obtain ⟨d2, hd2, k2⟩ := (hb.same e').get' hy
  obtain ⟨q1, q2⟩ := pair_dt hT k1 k2
  exact ⟨q1, _, by rw [List.getElem?_map, (List.getElem?_zip_eq_some (z := (d1, d2))).mpr ⟨hd1, hd2⟩]; rfl, q2⟩
/-! ### comprehensions -/
theorem evd_lc {α : Type} {wi : TI} {g : TG} {vs : List Nat} (xs : List α) (enc : α → PyData) (p : α → Bool) (f : α → PyData) (hw : EvW wi σ H (xs.map enc)) (hz : xs.length ≤ 40000) (hn : ∀ x ∈ xs, noL (f x) = true)
    (hs : ∀ x v H1, x ∈ xs → Same H H1 → Dt H1 (enc x) v → ∀ Q : L2.St → Hp → Prop, (∀ σ2, wipe σ2 vs = wipe σ vs → EvT t σ2 H1 (p x) → (p x = true → EvD te σ2 H1 (f x)) → Q σ2 H1) → g v (wipe σ vs) H1 Q) :
    EvD (tLc wi g t te vs) σ H (.list ((xs.filter p).map f)) := fun H0 e Q q => hw H0 e _ fun J H1 G Y e1 W hG hY D hD => by
  have hl : (xs.map enc).length = xs.length := List.length_map _
  have hnn : ∀ i, noLs (((xs.take i).filter p).map f) = true := fun i => noLs_of fun d hd => by
    obtain ⟨x, hx, rfl⟩ := List.mem_map.mp hd
    exact hn x (List.mem_of_mem_take (List.mem_filter.mp hx).1)
  refine lc_it W (fun i H' => Same H1 H' ∧ ∃ acc, H' D = some (.lst acc) ∧ DtL H' (((xs.take i).filter p).map f) acc) ⟨Same.new hD, [], upd_same, rfl⟩ (fun i H' _ ⟨s1, _⟩ => hG H' s1) (fun i x H2 H3 hi ⟨s1, acc, ha, hd⟩ hy => ?_) fun H' ⟨s1, acc, ha, hd⟩ => ?_
  · obtain ⟨s2, d, hd1, hd2⟩ := hY i H2 x H3 hi s1 hy
    rw [hl] at hi
    have hx : xs[i]? = some xs[i] := List.getElem?_eq_getElem hi
    have e3 : d = enc xs[i] := by
      rw [List.getElem?_map, hx] at hd1
      exact (Option.some.inj hd1).symm
    rw [e3] at hd2
    have s13 : Same H1 H3 := s1.trans s2
    refine hs xs[i] x H3 (List.getElem_mem hi) ((e.trans e1).trans s13) hd2 _ fun σ2 hwp ht he => ⟨hwp, ?_⟩
    have tk : xs.take (i + 1) = xs.take i ++ [xs[i]] := by rw [List.take_succ_eq_append_getElem hi]
    refine ht H3 (Same.refl _) _ fun H4 s4 => ?_
    have hacc : acc.length ≤ i := by
      rw [hd.len, List.length_map]
      exact Nat.le_trans (List.length_filter_le _ _) (by rw [List.length_take]; omega)
    cases hp : p xs[i] with
    | true =>
      rw [if_pos rfl]
      refine he hp H4 s4 _ fun v H5 s5 hv => ?_
      have ha5 : H5 D = some (.lst acc) := s5 _ _ (s4 _ _ (s2 _ _ ha))
      refine ⟨acc, ha5, Nat.lt_of_le_of_lt (Nat.le_trans hacc (show i ≤ 40000 by omega)) (by decide), ?_, acc ++ [v], upd_same, ?_⟩
      · exact Same.mut ((s13.trans s4).trans s5) hD
      · rw [tk, List.filter_append, List.map_append, List.filter_cons, if_pos hp]
        exact DtL.app (DtL.upd (lst_tup ha5) (hnn i) (((hd.same s2).same s4).same s5)) (DtL.one (Dt.upd (lst_tup ha5) (hn _ (List.getElem_mem hi)) hv))
    | false =>
      rw [if_neg (by decide)]
      refine ⟨s13.trans s4, acc, s4 _ _ (s2 _ _ ha), ?_⟩
      rw [tk, List.filter_append, List.filter_cons, if_neg (by rw [hp]; decide), List.filter_nil, List.append_nil]
      exact (hd.same s2).same s4
  · rw [hl, List.take_length] at hd
    exact q _ _ (e1.trans s1) ⟨D, acc, rfl, ha, hd⟩
/-- [e for x in ..] -/
theorem evd_lc1 {α : Type} {wi : TI} {j : Nat} {vs : List Nat} (xs : List α) (enc : α → PyData) (f : α → PyData) (hw : EvW wi σ H (xs.map enc)) (hz : xs.length ≤ 40000) (hn : ∀ x ∈ xs, noL (f x) = true) (hwp : ∀ x, wipe ((wipe σ vs).set j (some x)) vs = wipe σ vs)
    (hs : ∀ x v H1, x ∈ xs → Same H H1 → Dt H1 (enc x) v → EvD te ((wipe σ vs).set j (some v)) H1 (f x)) : EvD (tLc wi (gName j) tYes te vs) σ H (.list (xs.map f)) := by
  have q := evd_lc (te := te) (t := tYes) (g := gName j) (vs := vs) xs enc (fun _ => true) f hw hz hn fun x v H1 hx e hv Q q => q _ (hwp v) evt_yes fun _ => hs x v H1 hx e hv
  rw [List.filter_eq_self.mpr fun _ _ => rfl] at q
  exact q
theorem evd_lcF {α : Type} {wi : TI} {j : Nat} {vs : List Nat} (xs : List α) (enc : α → PyData) (p : α → Bool) (f : α → PyData) (hw : EvW wi σ H (xs.map enc)) (hz : xs.length ≤ 40000) (hn : ∀ x ∈ xs, noL (f x) = true) (hwp : ∀ x, wipe ((wipe σ vs).set j (some x)) vs = wipe σ vs)
    (ht : ∀ x v H1, x ∈ xs → Same H H1 → Dt H1 (enc x) v → EvT t ((wipe σ vs).set j (some v)) H1 (p x))
    (hs : ∀ x v H1, x ∈ xs → Same H H1 → Dt H1 (enc x) v → p x = true → EvD te ((wipe σ vs).set j (some v)) H1 (f x)) : EvD (tLc wi (gName j) t te vs) σ H (.list ((xs.filter p).map f)) :=
  evd_lc (te := te) (t := t) (g := gName j) (vs := vs) xs enc p f hw hz hn fun x v H1 hx e hv Q q => q _ (hwp v) (ht x v H1 hx e hv) fun hp => hs x v H1 hx e hv hp
theorem pair_tg {i j : Nat} {d1 d2 : PyData} {v : V} {Q : L2.St → Hp → Prop} (h : Dt H (.tuple [d1, d2]) v) (q : ∀ x y, Dt H d1 x → Dt H d2 y → Q ((σ.set i (some x)).set j (some y)) H) : gTup K 2 (gCons (gName i) (gCons (gName j) gNil)) v σ H Q := by
  obtain ⟨a, vs, h1, h2, x, r, rfl, hx, y, r2, rfl, hy, rfl⟩ := h
  exact ⟨a, _, h1, SqT.of h2, rfl, x, _, rfl, y, _, rfl, rfl, q x y hx hy⟩
/-- [e for x, y in ..] -/
theorem evd_lc2 {α : Type} {wi : TI} {i j : Nat} {vs : List Nat} (xs : List α) (e1 e2 : α → PyData) (f : α → PyData) (hw : EvW wi σ H (xs.map fun x => .tuple [e1 x, e2 x])) (hz : xs.length ≤ 40000) (hn : ∀ x ∈ xs, noL (f x) = true) (hwp : ∀ x y, wipe (((wipe σ vs).set i (some x)).set j (some y)) vs = wipe σ vs)
    (hs : ∀ x v u H1, x ∈ xs → Same H H1 → Dt H1 (e1 x) v → Dt H1 (e2 x) u → EvD te (((wipe σ vs).set i (some v)).set j (some u)) H1 (f x)) : EvD (tLc wi (gTup K 2 (gCons (gName i) (gCons (gName j) gNil))) tYes te vs) σ H (.list (xs.map f)) := by
  have q := evd_lc (te := te) (t := tYes) (g := gTup K 2 (gCons (gName i) (gCons (gName j) gNil))) (vs := vs) xs (fun x => .tuple [e1 x, e2 x]) (fun _ => true) f hw hz hn fun x v H1 hx e hv Q q =>
    pair_tg hv fun a b ha hb => q _ (hwp a b) evt_yes fun _ => hs x a b H1 hx e ha hb
  rw [List.filter_eq_self.mpr fun _ _ => rfl] at q
  exact q
/-! ### slices -/
theorem cutN (n : Nat) (xs : List V) : cutV xs none (some (n : Int)) = xs.take n := by
  unfold cutV
  rw [HT.sIx_none, HT.sIx_nat, List.drop_zero, Nat.sub_zero]
  rcases Nat.le_total n xs.length with h | h
  · rw [Nat.min_eq_left h]
  · rw [Nat.min_eq_right h, List.take_of_length_le (Nat.le_refl _), List.take_of_length_le h]
theorem cutD (n : Nat) (xs : List V) : cutV xs (some (n : Int)) none = xs.drop n := by
  unfold cutV
  rw [HT.sIx_none, HT.sIx_nat]
  rcases Nat.le_total n xs.length with h | h
  · rw [Nat.min_eq_left h, List.take_of_length_le (by rw [List.length_drop]; omega)]
  · rw [Nat.min_eq_right h, List.drop_of_length_le (Nat.le_refl _), List.drop_of_length_le h, List.take_nil]
theorem evd_slT_take {n : Nat} {tl th : TO} (h : EvD te σ H (.tuple ds)) (h1 : EvO tl σ H none) (h2 : EvO th σ H (some (n : Int))) : EvD (tSl (rSlA K) te tl th) σ H (.tuple (ds.take n)) := fun H0 e Q q =>
  h H0 e _ fun x H1 e1 ⟨a, vs, hx, hA, hv⟩ => h1 H1 (e.trans e1) _ fun H2 e2 => h2 H2 ((e.trans e1).trans e2) _ fun H3 e3 => by
    have hA3 := e3 _ _ (e2 _ _ hA)
    have hv3 := (hv.same e2).same e3
    have e13 := (e1.trans e2).trans e3
    refine ⟨a, vs, hx, SqT.of hA3, fun ⟨_, z⟩ => q _ _ e13 ⟨a, vs, rfl, hA3, ?_⟩, fun _ p hp => q _ _ (e13.trans (Same.new hp)) ⟨p, _, rfl, upd_same, ?_⟩⟩
    · have hl := hv3.len
      rw [HT.sIx_nat] at z
      rw [List.take_of_length_le (by omega)]
      exact hv3
    · rw [cutN]
      exact (hv3.take n).same (Same.new hp)
theorem evd_slT_drop {n : Nat} {tl th : TO} (h : EvD te σ H (.tuple ds)) (h1 : EvO tl σ H (some (n : Int))) (h2 : EvO th σ H none) : EvD (tSl (rSlA K) te tl th) σ H (.tuple (ds.drop n)) := fun H0 e Q q =>
  h H0 e _ fun x H1 e1 ⟨a, vs, hx, hA, hv⟩ => h1 H1 (e.trans e1) _ fun H2 e2 => h2 H2 ((e.trans e1).trans e2) _ fun H3 e3 => by
    have hA3 := e3 _ _ (e2 _ _ hA)
    have hv3 := (hv.same e2).same e3
    have e13 := (e1.trans e2).trans e3
    refine ⟨a, vs, hx, SqT.of hA3, fun ⟨z, _⟩ => q _ _ e13 ⟨a, vs, rfl, hA3, ?_⟩, fun _ p hp => q _ _ (e13.trans (Same.new hp)) ⟨p, _, rfl, upd_same, ?_⟩⟩
    · have hl := hv3.len
      rw [HT.sIx_nat] at z
      rcases Nat.eq_zero_or_pos n with n0 | np
      · rw [n0, List.drop_zero]; exact hv3
      · have : vs.length = 0 := by omega
        have z1 : vs = [] := List.length_eq_zero_iff.mp this
        have z2 : ds = [] := List.length_eq_zero_iff.mp (by omega)
        rw [z1, z2, List.drop_nil]
        exact rfl
    · rw [cutD]
      exact (hv3.drop n).same (Same.new hp)
theorem evd_slL_take {n : Nat} {tl th : TO} (h : EvD te σ H (.list ds)) (h1 : EvO tl σ H none) (h2 : EvO th σ H (some (n : Int))) : EvD (tSl (rSlL K) te tl th) σ H (.list (ds.take n)) := fun H0 e Q q =>
  h H0 e _ fun x H1 e1 ⟨a, vs, hx, hA, hv⟩ => h1 H1 (e.trans e1) _ fun H2 e2 => h2 H2 ((e.trans e1).trans e2) _ fun H3 e3 => by
    refine ⟨a, vs, hx, SqL.of (e3 _ _ (e2 _ _ hA)), fun p hp => q _ _ (((e1.trans e2).trans e3).trans (Same.new hp)) ⟨p, _, rfl, upd_same, ?_⟩⟩
    rw [cutN]
    exact (((hv.same e2).same e3).take n).same (Same.new hp)
theorem evd_slL_drop {n : Nat} {tl th : TO} (h : EvD te σ H (.list ds)) (h1 : EvO tl σ H (some (n : Int))) (h2 : EvO th σ H none) : EvD (tSl (rSlL K) te tl th) σ H (.list (ds.drop n)) := fun H0 e Q q =>
  h H0 e _ fun x H1 e1 ⟨a, vs, hx, hA, hv⟩ => h1 H1 (e.trans e1) _ fun H2 e2 => h2 H2 ((e.trans e1).trans e2) _ fun H3 e3 => by
    refine ⟨a, vs, hx, SqL.of (e3 _ _ (e2 _ _ hA)), fun p hp => q _ _ (((e1.trans e2).trans e3).trans (Same.new hp)) ⟨p, _, rfl, upd_same, ?_⟩⟩
    rw [cutD]
    exact (((hv.same e2).same e3).drop n).same (Same.new hp)
/-! ### isinstance -/
def tyS : PyData → String
  | .none => "NoneType"
  | .bool _ => "bool"
  | .int _ => "int"
  | .str _ => "str"
  | .list _ => "list"
  | .tuple _ => "tuple"
  | .dict _ => "dict"
theorem Dt.ty {v : V} (h : Dt H d v) (hd : ∀ kvs, d ≠ .dict kvs) : TyX K H v (.type (tyS d)) := by
  cases d with
  | none => rw [show v = .non from h]; exact .base .non
  | bool b => rw [show v = .bl b from h]; exact .base (.bl b)
  | int b => rw [show v = .int b from h]; exact .base (.int b)
  | str b => rw [show v = .str b from h]; exact .base (.str b)
  | list b => obtain ⟨a, vs, h1, h2, _⟩ := h; rw [h1]; exact .base (.lst h2)
  | tuple b => obtain ⟨a, vs, h1, h2, _⟩ := h; rw [h1]; exact .base (.tup h2)
  | dict b => exact absurd rfl (hd b)
theorem evd_isi {n : String} {b : Bool} (h : EvD te σ H d) (hd : ∀ kvs, d ≠ .dict kvs) (hk : kitB (tyS d) n = some b) : EvD (tCB (rIsi K) (tCons te (tCons (tC (.ty n)) tNil))) σ H (.bool b) := fun H1 e Q q =>
  h H1 e _ fun x H2 e2 hx => ⟨x, .ty n, .type (tyS d), .type n, b, rfl, .ty n, hx.ty hd, kit_ty hk, q _ _ e2 rfl⟩
/-! ### a promise over data; a call -/
def spD (R : List PyData → PyData → Prop) : Sp := fun vs H Q _ => ∃ ds r, DtL H ds vs ∧ R ds r ∧ ∀ v H', Same H H' → Dt H' r v → Q v H'
theorem evd_call {R : List PyData → PyData → Prop} (h : EvA ta σ H ds) (hr : R ds d) : EvD (tCall (spD R) [] E0 ta) σ H d := fun H1 e Q q =>
  h H1 e _ fun vs H2 e2 hv => ⟨ds, d, by rw [List.append_nil]; exact hv, hr, fun v H' e' hd => q v H' (e2.trans e') hd⟩
theorem spD_len {R : List PyData → PyData → Prop} {n : Nat} (h : ∀ ds r, R ds r → ds.length = n) : ∀ vs H Q E, spD R vs H Q E → vs.length = n := fun vs H Q E ⟨ds, r, hd, hr, _⟩ => hd.len.trans (h ds r hr)
/-! ### statements -/
variable {D : Ends} {tu tw : TS}
theorem sd_ret (h : EvD te σ H d) (k : ∀ v H1, Same H H1 → Dt H1 d v → D.rt v H1) : tRet te D σ H := h H (Same.refl _) _ fun v H1 e hv => k v H1 e hv
theorem sd_if {b : Bool} (h : EvT t σ H b) (h1 : b = true → ∀ H1, Same H H1 → tu D σ H1) (h2 : b = false → ∀ H1, Same H H1 → tw D σ H1) : tIfS t tu tw D σ H := h H (Same.refl _) _ fun H1 e => by
  cases b with
  | true => exact h1 rfl H1 e
  | false => exact h2 rfl H1 e
theorem sd_asg {i : Nat} (h : EvD te σ H d) (k : ∀ v H1, Same H H1 → Dt H1 d v → D.nx (σ.set i (some v)) H1) : tAsg te (gName i) D σ H := h H (Same.refl _) _ fun v H1 e hv => k v H1 e hv
/-- a for over data -/
theorem sd_for {wi : TI} {g : TG} {tb : TS} (hw : EvW wi σ H ds)
    (k : ∀ H2, Same H H2 → ∃ Pv : Nat → L2.St → Hp → Prop, Pv 0 σ H2 ∧ (∀ i σ' H', i ≤ ds.length → Pv i σ' H' → Same H2 H') ∧
      (∀ i d v σ' H' H'', ds[i]? = some d → Pv i σ' H' → Same H' H'' → Dt H'' d v → g v σ' H'' fun σ2 H3 => tb { D with nx := Pv (i + 1), ct := Pv (i + 1), bk := D.nx } σ2 H3) ∧ ∀ σ' H', Pv ds.length σ' H' → D.nx σ' H') : tFor wi g tb D σ H :=
  hw H (Same.refl _) _ fun J H2 G Y e W hG hY => by
    obtain ⟨Pv, h0, hs, ht, hd⟩ := k H2 e
    refine for_it W Pv h0 (fun i σ' H' hi p => hG H' (hs i σ' H' hi p)) (fun i x σ' H' H'' hi p y => ?_) hd
    obtain ⟨e1, d, hd1, hd2⟩ := hY i H' x H'' hi (hs i σ' H' (Nat.le_of_lt hi) p) y
    exact ht i d x σ' H' H'' hd1 p e1 hd2
end
end G98

/-! E1b: walks while some of the heap is written; Hb: what stands. -/
namespace G98
open PySem PySem.Spec PyProof.Rows L2
def EvWb (Hb : Hp) (wi : TI) (σ : L2.St) (H : Hp) (ds : List PyData) : Prop := ∀ R : It → Hp → Prop,
  (∀ (J : It) (H2 : Hp) (G : Hp → Prop) (Y : Nat → Hp → V → Hp → Prop), Same H H2 → Walk J ds.length G Y → (∀ H', Same Hb H' → G H') → (∀ i H' v H'', i < ds.length → Same Hb H' → Y i H' v H'' → Same H' H'' ∧ ∃ d, ds[i]? = some d ∧ Dt H'' d v) → R J H2) → wi σ H R
section
variable {K : PySem.W.Frag} {σ : L2.St} {Hb H H' : Hp} {ta : TA} {te : TE} {d : PyData} {ds es : List PyData}
/-- a walk that stands on Hb alone: its iterable's parts are there -/
theorem ewb_tup {k : Nat} {v : V} (e : Same Hb H) (h : σ[k]? = some (some v)) (hd : Dt Hb (.tuple ds) v) : EvWb Hb (iTup K (tVar k)) σ H ds := fun R q => by
  obtain ⟨a, vs, rfl, hA, hv⟩ := hd
  exact ⟨_, h, a, rfl, ⟨vs, SqT.of (e _ _ hA)⟩, q _ H _ _ (Same.refl _) (hv.len ▸ walk_tup (K := K) (a := a) (xs := vs)) (fun H' e' => SqT.of (e' _ _ hA)) fun i H' v H'' _ e' y => by
    obtain ⟨y1, y2⟩ := y
    subst y1
    exact ⟨Same.refl _, (hv.same e').get' y2⟩⟩
theorem ewb_list {k : Nat} {v : V} (e : Same Hb H) (h : σ[k]? = some (some v)) (hd : Dt Hb (.list ds) v) : EvWb Hb (iList K (tVar k)) σ H ds := fun R q => by
  obtain ⟨a, vs, rfl, hA, hv⟩ := hd
  exact ⟨_, h, a, rfl, ⟨vs, SqL.of (e _ _ hA)⟩, q _ H _ _ (Same.refl _) (hv.len ▸ walk_list (K := K) (a := a) (xs := vs)) (fun H' e' => SqL.of (e' _ _ hA)) fun i H' v H'' _ e' y => by
    obtain ⟨y1, y2⟩ := y
    subst y1
    exact ⟨Same.refl _, (hv.same e').get' y2⟩⟩
theorem ewb_range {n : Nat} (h : EvA ta σ H [dNat n]) (hn : n ≤ 100000) : EvWb Hb (iRng1 ta) σ H ((List.range n).map dNat) := fun R q => h.one H (Same.refl _) _ fun v H2 e2 hv => by
  have hl : ((List.range n).map dNat).length = n := by rw [List.length_map, List.length_range]
  refine ⟨(n : Int), by rw [show v = V.int n from hv], by omega, by omega, ?_⟩
  rw [Int.toNat_natCast]
  refine q _ H2 _ _ e2 (by rw [hl]; exact walk_range) (fun _ _ => trivial) fun i H' v H'' hi e' y => ?_
  obtain ⟨y1, y2⟩ := y
  subst y1
  rw [hl] at hi
  refine ⟨Same.refl _, dNat i, by rw [List.getElem?_map, List.getElem?_range hi]; rfl, ?_⟩
  rw [show v = V.int (0 + (i : Int)) from y2, Int.zero_add]
  exact rfl
theorem ewb_enum {k : Nat} {v : V} (e : Same Hb H) (h : σ[k]? = some (some v)) (hd : Dt Hb (.tuple ds) v) : EvWb Hb (iEnumT K (tCons (tVar k) tNil)) σ H (ds.mapIdx fun i d => .tuple [dNat i, d]) := fun R q => by
  obtain ⟨a, vs, rfl, hA, hv⟩ := hd
  refine ⟨_, h, a, vs, rfl, SqT.of (e _ _ hA), fun J W => q J H _ _ (Same.refl _) (by rw [List.length_mapIdx, ← hv.len]; exact W) (fun H' e' => SqT.of (e' _ _ hA)) fun i H' v H'' hi e' y => ?_⟩
  obtain ⟨T, x, y, rfl, hT, rfl, hx, hy⟩ := y
  cases hx
  obtain ⟨d, hd, hdt⟩ := (hv.same e').get' hy
  obtain ⟨k1, k2⟩ := pair_dt hT (show Dt H' (dNat i) (.int (i : Nat)) from rfl) hdt
  exact ⟨k1, _, by rw [List.getElem?_mapIdx, hd]; rfl, k2⟩
/-- from a walk that leaves all as it was -/
theorem EvW.b {wi : TI} (h : EvW wi σ H ds) : ∀ R : It → Hp → Prop, (∀ (J : It) (H2 : Hp) (G : Hp → Prop) (Y : Nat → Hp → V → Hp → Prop), Same H H2 → Walk J ds.length G Y → (∀ H', Same H2 H' → G H') → (∀ i H' v H'', i < ds.length → Same H2 H' → Y i H' v H'' → Same H' H'' ∧ ∃ d, ds[i]? = some d ∧ Dt H'' d v) → R J H2) → wi σ H R := h H (Same.refl _)
variable {D : Ends} {tu tw : TS}
theorem sd_forb {wi : TI} {g : TG} {tb : TS} (hw : EvWb Hb wi σ H ds)
    (k : ∀ H2, Same H H2 → ∃ Pv : Nat → L2.St → Hp → Prop, Pv 0 σ H2 ∧ (∀ i σ' H', i ≤ ds.length → Pv i σ' H' → Same Hb H') ∧
      (∀ i d v σ' H' H'', ds[i]? = some d → Pv i σ' H' → Same H' H'' → Dt H'' d v → g v σ' H'' fun σ2 H3 => tb { D with nx := Pv (i + 1), ct := Pv (i + 1), bk := D.nx } σ2 H3) ∧ ∀ σ' H', Pv ds.length σ' H' → D.nx σ' H') : tFor wi g tb D σ H :=
  hw _ fun J H2 G Y e W hG hY => by
    obtain ⟨Pv, h0, hs, ht, hd⟩ := k H2 e
    refine for_it W Pv h0 (fun i σ' H' hi p => hG H' (hs i σ' H' hi p)) (fun i x σ' H' H'' hi p y => ?_) hd
    obtain ⟨e1, d, hd1, hd2⟩ := hY i H' x H'' hi (hs i σ' H' (Nat.le_of_lt hi) p) y
    exact ht i d x σ' H' H'' hd1 p e1 hd2
end
end G98

/-! E1c: a comprehension over a list that a call has given. -/
namespace G98
open PySem PySem.Spec PyProof.Rows L2
section
variable {K : PySem.W.Frag} {P : Program} {w : World} {σ : L2.St} {H1 : Hp} {te tl : TE} {t : TT}
theorem lc_data {α : Type} {J : It} {G : Hp → Prop} {Y : Nat → Hp → V → Hp → Prop} {g : TG} {vs : List Nat} {Q : VK} (xs : List α) (enc : α → PyData) (p : α → Bool) (f : α → PyData) (W : Walk J (xs.map enc).length G Y) (hG : ∀ H', Same H1 H' → G H')
    (hY : ∀ i H' v H'', i < (xs.map enc).length → Same H1 H' → Y i H' v H'' → Same H' H'' ∧ ∃ d, (xs.map enc)[i]? = some d ∧ Dt H'' d v) (hz : xs.length ≤ 40000) (hn : ∀ x ∈ xs, noL (f x) = true)
    (hs : ∀ x v H2, x ∈ xs → Same H1 H2 → Dt H2 (enc x) v → ∀ Q : L2.St → Hp → Prop, (∀ σ2, wipe σ2 vs = wipe σ vs → EvT t σ2 H2 (p x) → (p x = true → EvD te σ2 H2 (f x)) → Q σ2 H2) → g v (wipe σ vs) H2 Q)
    (q : ∀ v H', Same H1 H' → Dt H' (.list ((xs.filter p).map f)) v → Q v H') (D : Addr) (hD : H1 D = none) :
    ∃ W : Nat → Nat → Hp → Prop, (∃ m, W 0 m (upd H1 D (.lst []))) ∧ ∀ i m H, W i m H →
      (J.stop i H ∧ Q (.ref D) H) ∨ (J.go i H ∧ ∃ Nx : Hp → Prop, (∀ H', Nx H' → ∃ m', m' < m ∧ W (i + 1) m' H') ∧ ∀ x H', J.yld i H x H' → g x (wipe σ vs) H' fun σ2 H2 => wipe σ2 vs = wipe σ vs ∧ t σ2 H2 fun b H3 =>
        if b = true then te σ2 H3 fun y H4 => ∃ acc, H4 D = some (.lst acc) ∧ acc.length < sizeLine ∧ Nx (upd H4 D (.lst (acc ++ [y]))) else Nx H3) := by
  have hl : (xs.map enc).length = xs.length := List.length_map _
  have hnn : ∀ i, noLs (((xs.take i).filter p).map f) = true := fun i => noLs_of fun d hd => by
    obtain ⟨x, hx, rfl⟩ := List.mem_map.mp hd
    exact hn x (List.mem_of_mem_take (List.mem_filter.mp hx).1)
  refine lc_it W (fun i H' => Same H1 H' ∧ ∃ acc, H' D = some (.lst acc) ∧ DtL H' (((xs.take i).filter p).map f) acc) ⟨Same.new hD, [], upd_same, rfl⟩ (fun i H' _ ⟨s1, _⟩ => hG H' s1) (fun i x H2 H3 hi ⟨s1, acc, ha, hd⟩ hy => ?_) fun H' ⟨s1, acc, ha, hd⟩ => ?_
  · obtain ⟨s2, d, hd1, hd2⟩ := hY i H2 x H3 hi s1 hy
    rw [hl] at hi
    have hx : xs[i]? = some xs[i] := List.getElem?_eq_getElem hi
    have e3 : d = enc xs[i] := by
      rw [List.getElem?_map, hx] at hd1
      exact (Option.some.inj hd1).symm
    rw [e3] at hd2
    have s13 : Same H1 H3 := s1.trans s2
    refine hs xs[i] x H3 (List.getElem_mem hi) s13 hd2 _ fun σ2 hwp ht he => ⟨hwp, ?_⟩
    have tk : xs.take (i + 1) = xs.take i ++ [xs[i]] := by rw [List.take_succ_eq_append_getElem hi]
    refine ht H3 (Same.refl _) _ fun H4 s4 => ?_
    have hacc : acc.length ≤ i := by
      rw [hd.len, List.length_map]
      exact Nat.le_trans (List.length_filter_le _ _) (by rw [List.length_take]; omega)
    cases hp : p xs[i] with
    | true =>
      rw [if_pos rfl]
      refine he hp H4 s4 _ fun v H5 s5 hv => ?_
      have ha5 : H5 D = some (.lst acc) := s5 _ _ (s4 _ _ (s2 _ _ ha))
      refine ⟨acc, ha5, Nat.lt_of_le_of_lt (Nat.le_trans hacc (show i ≤ 40000 by omega)) (by decide), ?_, acc ++ [v], upd_same, ?_⟩
      · exact Same.mut ((s13.trans s4).trans s5) hD
      · rw [tk, List.filter_append, List.map_append, List.filter_cons, if_pos hp]
        exact DtL.app (DtL.upd (lst_tup ha5) (hnn i) (((hd.same s2).same s4).same s5)) (DtL.one (Dt.upd (lst_tup ha5) (hn _ (List.getElem_mem hi)) hv))
    | false =>
      rw [if_neg (by decide)]
      refine ⟨s13.trans s4, acc, s4 _ _ (s2 _ _ ha), ?_⟩
      rw [tk, List.filter_append, List.filter_cons, if_neg (by rw [hp]; decide), List.filter_nil, List.append_nil]
      exact (hd.same s2).same s4
  · rw [hl, List.take_length] at hd
    exact q _ _ s1 ⟨D, acc, rfl, ha, hd⟩
/-- [e for x in l if t], l told as data when it is there -/
theorem lc_listF {α : Type} {j : Nat} {vs : List Nat} {Q : VK} {v0 : V} (xs : List α) (enc : α → PyData) (p : α → Bool) (f : α → PyData) (hd : Dt H1 (.list (xs.map enc)) v0) (hz : xs.length ≤ 40000) (hn : ∀ x ∈ xs, noL (f x) = true) (hwp : ∀ x, wipe ((wipe σ vs).set j (some x)) vs = wipe σ vs)
    (ht : ∀ x v H2, x ∈ xs → Same H1 H2 → Dt H2 (enc x) v → EvT t ((wipe σ vs).set j (some v)) H2 (p x))
    (hs : ∀ x v H2, x ∈ xs → Same H1 H2 → Dt H2 (enc x) v → p x = true → EvD te ((wipe σ vs).set j (some v)) H2 (f x))
    (q : ∀ v H', Same H1 H' → Dt H' (.list ((xs.filter p).map f)) v → Q v H') :
    ∃ a, v0 = .ref a ∧ (∃ xs, SqL K H1 a xs) ∧ ∀ D, H1 D = none → ∃ W : Nat → Nat → Hp → Prop, (∃ m, W 0 m (upd H1 D (.lst []))) ∧ ∀ i m H, W i m H →
      ((Itl K a).stop i H ∧ Q (.ref D) H) ∨ ((Itl K a).go i H ∧ ∃ Nx : Hp → Prop, (∀ H', Nx H' → ∃ m', m' < m ∧ W (i + 1) m' H') ∧ ∀ x H', (Itl K a).yld i H x H' → gName j x (wipe σ vs) H' fun σ2 H2 => wipe σ2 vs = wipe σ vs ∧ t σ2 H2 fun b H3 =>
        if b = true then te σ2 H3 fun y H4 => ∃ acc, H4 D = some (.lst acc) ∧ acc.length < sizeLine ∧ Nx (upd H4 D (.lst (acc ++ [y]))) else Nx H3) := by
  obtain ⟨a, vs', rfl, hA, hv⟩ := hd
  refine ⟨a, rfl, ⟨vs', SqL.of hA⟩, fun D hD => ?_⟩
  exact lc_data (te := te) (t := t) (g := gName j) (vs := vs) xs enc p f (hv.len ▸ walk_list (K := K) (a := a) (xs := vs')) (fun H' e' => SqL.of (e' _ _ hA)) (fun i H' v H'' _ e' y => by
    obtain ⟨y1, y2⟩ := y
    subst y1
    exact ⟨Same.refl _, (hv.same e').get' y2⟩) hz hn (fun x v H2 hx e hv Q q => q _ (hwp v) (ht x v H2 hx e hv) fun hp => hs x v H2 hx e hv hp) q D hD
/-- a for over such a list; Hb: what must stand -/
theorem for_listD {Hb : Hp} {g : TG} {tb : TS} {D : Ends} {ds : List PyData} {v0 : V} (hd : Dt Hb (.list ds) v0) (e0 : Same Hb H1) (Pv : Nat → L2.St → Hp → Prop) (h0 : Pv 0 σ H1) (hk : ∀ i σ' H', i ≤ ds.length → Pv i σ' H' → Same Hb H')
    (hs : ∀ i d v σ' H', ds[i]? = some d → Pv i σ' H' → Dt H' d v → g v σ' H' fun σ2 H3 => tb { D with nx := Pv (i + 1), ct := Pv (i + 1), bk := D.nx } σ2 H3) (hend : ∀ σ' H', Pv ds.length σ' H' → D.nx σ' H') :
    ∃ a, v0 = .ref a ∧ (∃ xs, SqL K H1 a xs) ∧ ∃ W : Nat → Nat → L2.St → Hp → Prop, (∃ m, W 0 m σ H1) ∧ ∀ i m σ H, W i m σ H →
      ((Itl K a).stop i H ∧ D.nx σ H) ∨ ((Itl K a).go i H ∧ ∃ N : L2.St → Hp → Prop, (∀ σ' H', N σ' H' → ∃ m', m' < m ∧ W (i + 1) m' σ' H') ∧ ∀ x H', (Itl K a).yld i H x H' → g x σ H' fun σ2 H2 => tb { D with nx := N, ct := N, bk := D.nx } σ2 H2) := by
  obtain ⟨a, vs', rfl, hA, hv⟩ := hd
  refine ⟨a, rfl, ⟨vs', SqL.of (e0 _ _ hA)⟩, ?_⟩
  refine for_it (hv.len ▸ walk_list (K := K) (a := a) (xs := vs')) Pv h0 (fun i σ' H' hi p => SqL.of (hk i σ' H' hi p _ _ hA)) (fun i x σ' H' H'' hi p y => ?_) hend
  obtain ⟨y1, y2⟩ := y
  subst y1
  obtain ⟨d, hd1, hd2⟩ := (hv.same (hk i σ' H'' (Nat.le_of_lt hi) p)).get' y2
  exact hs i d x σ' H'' hd1 p hd2
end
end G98

/-! E2: the checks. -/
namespace G98
open PySem PySem.Spec PyProof.Rows L2
section
variable {P : Program} {w : World} {K : PySem.W.Frag} {mg : Str → Option Value} {base : Heap}
def R_is_integer : List PyData → PyData → Prop := fun ds r => ∃ (i : Int), ds = [.int i] ∧ r = .bool true
theorem sc_is_integer : FnScope ["thing"] ["thing"] (defScope s_is_integer) := ⟨rfl, rfl, rfl, by decide +kernel, rfl, by decide +kernel, by decide +kernel⟩
theorem ok_is_integer (D : Defs K mg) : FnIs P w K mg base 1 "is_integer" ["thing"] (spD R_is_integer) := by
  refine D.d_is_integer.ok sc_is_integer (fun _ _ _ _ _ _ us hl => match us, hl with | [_], _ => rfl) (spD_len fun ds r h => ?_) (fun f cdv A outer s H vs Q E hr h => ?_)
  · obtain ⟨_, rfl, _⟩ := h
    rfl
  · obtain ⟨ds, r, hd, ⟨i, rfl, rfl⟩, k⟩ := h
    obtain ⟨v0, _, rfl, h0, rfl⟩ := hd
    refine ⟨_, pss_one (ps_ret (pe_and (pe_callB call_isi (by rfl) D.blt.b_isinstance (by decide +kernel) (pa_cons (pv 0) (pa_cons (pe_bltn (v := .ty "int") (by rfl) D.blt.b_int (by decide +kernel) rfl) pa_nil))) (pe_one (pe_not (pe_callB call_isi (by rfl) D.blt.b_isinstance (by decide +kernel) (pa_cons (pv 0) (pa_cons (pe_bltn (v := .ty "bool") (by rfl) D.blt.b_bool (by decide +kernel) rfl) pa_nil))))))), ?_⟩
    exact sd_ret (evd_andV (evd_isi (b := true) (evd_var rfl h0) (fun _ z => nomatch z) (show kitB "int" "int" = some true by decide +kernel)) fun _ => evd_notV (evd_isi (b := false) (evd_var rfl h0) (fun _ z => nomatch z) (show kitB "int" "bool" = some false by decide +kernel))) k
def R_is_within : List PyData → PyData → Prop := fun ds r => ∃ (i a b : Int), ds = [.int i, .int a, .int b] ∧ a ≤ i ∧ i ≤ b ∧ r = .bool true
theorem sc_is_within : FnScope ["thing", "least", "most"] ["thing", "least", "most"] (defScope s_is_within) := ⟨rfl, rfl, rfl, by decide +kernel, rfl, by decide +kernel, by decide +kernel⟩
theorem ok_is_within (D : Defs K mg) : FnIs P w K mg base 2 "is_within" ["thing", "least", "most"] (spD R_is_within) := by
  refine D.d_is_within.ok sc_is_within (fun _ _ _ _ _ _ us hl => match us, hl with | [_, _, _], _ => rfl) (spD_len fun ds r h => ?_) (fun f cdv A outer s H vs Q E hr h => ?_)
  · obtain ⟨_, _, _, rfl, _⟩ := h
    rfl
  · obtain ⟨ds, r, hd, ⟨i, a, b, rfl, c1, c2, rfl⟩, k⟩ := h
    obtain ⟨v0, _, rfl, h0, v1, _, rfl, h1, v2, _, rfl, h2, rfl⟩ := hd
    refine ⟨_, pss_one (ps_ret (pe_and (pe_fn (ok_is_integer D) hr (pa_cons (pv 0) pa_nil)) (pe_one (pe_chain op_le op_le (pv 1) (pv 0) (pv 2))))), ?_⟩
    refine sd_ret ((evd_andV (evd_call (R := R_is_integer) (eva_cons (evd_var rfl h0) eva_nil) ⟨i, rfl, rfl⟩) fun _ => evd_le2 (evd_var rfl h1) (evd_var rfl h0) (evd_var rfl h2)).is ?_) k
    rw [decide_eq_true c1, decide_eq_true c2]
    rfl
def R_is_many : List PyData → PyData → Prop := fun ds r => ∃ (i : Int), ds = [.int i] ∧ 3 ≤ i ∧ i ≤ 5 ∧ r = .bool true
theorem sc_is_many : FnScope ["thing"] ["thing"] (defScope s_is_many) := ⟨rfl, rfl, rfl, by decide +kernel, rfl, by decide +kernel, by decide +kernel⟩
theorem ok_is_many (D : Defs K mg) : FnIs P w K mg base 3 "is_many" ["thing"] (spD R_is_many) := by
  refine D.d_is_many.ok sc_is_many (fun _ _ _ _ _ _ us hl => match us, hl with | [_], _ => rfl) (spD_len fun ds r h => ?_) (fun f cdv A outer s H vs Q E hr h => ?_)
  · obtain ⟨_, rfl, _⟩ := h
    rfl
  · obtain ⟨ds, r, hd, ⟨i, rfl, c1, c2, rfl⟩, k⟩ := h
    obtain ⟨v0, _, rfl, h0, rfl⟩ := hd
    obtain ⟨tLENY, mLENY⟩ := D.blt.c_LEAST_MANY
    obtain ⟨tMONY, mMONY⟩ := D.blt.c_MOST_MANY
    refine ⟨_, pss_one (ps_ret (pe_fn (ok_is_within D) hr (pa_cons (pv 0) (pa_cons (pe_glob (v := .int 3) (by rfl) mLENY ⟨_, rfl⟩) (pa_cons (pe_glob (v := .int 5) (by rfl) mMONY ⟨_, rfl⟩) pa_nil))))), ?_⟩
    exact sd_ret (evd_call (R := R_is_within) (eva_cons (evd_var rfl h0) (eva_cons evd_int (eva_cons evd_int eva_nil))) ⟨i, 3, 5, rfl, c1, c2, rfl⟩) k
def R_is_sized : List PyData → PyData → Prop := fun ds r => ∃ (ds0 : List PyData) (a b : Int), ds = [.tuple ds0, .int a, .int b] ∧ a ≤ ds0.length ∧ (ds0.length : Int) ≤ b ∧ r = .bool true
theorem sc_is_sized : FnScope ["thing", "least", "most"] ["thing", "least", "most"] (defScope s_is_sized) := ⟨rfl, rfl, rfl, by decide +kernel, rfl, by decide +kernel, by decide +kernel⟩
theorem ok_is_sized (D : Defs K mg) : FnIs P w K mg base 1 "is_sized" ["thing", "least", "most"] (spD R_is_sized) := by
  refine D.d_is_sized.ok sc_is_sized (fun _ _ _ _ _ _ us hl => match us, hl with | [_, _, _], _ => rfl) (spD_len fun ds r h => ?_) (fun f cdv A outer s H vs Q E hr h => ?_)
  · obtain ⟨_, _, _, rfl, _⟩ := h
    rfl
  · obtain ⟨ds, r, hd, ⟨ds0, a, b, rfl, c1, c2, rfl⟩, k⟩ := h
    obtain ⟨v0, _, rfl, h0, v1, _, rfl, h1, v2, _, rfl, h2, rfl⟩ := hd
    refine ⟨_, pss_one (ps_ret (pe_and (pe_callB call_isi (by rfl) D.blt.b_isinstance (by decide +kernel) (pa_cons (pv 0) (pa_cons (pe_bltn (v := .ty "tuple") (by rfl) D.blt.b_tuple (by decide +kernel) rfl) pa_nil))) (pe_one (pe_chain op_le op_le (pv 1) (pe_callB call_len_seq (by rfl) D.blt.b_len PySem.boot_len (pa_cons (pv 0) pa_nil)) (pv 2))))), ?_⟩
    refine sd_ret ((evd_andV (evd_isi (b := true) (evd_var rfl h0) (fun _ z => nomatch z) (show kitB "tuple" "tuple" = some true by decide +kernel)) fun _ => evd_le2 (evd_var rfl h1) (evd_lenT (evd_var rfl h0)) (evd_var rfl h2)).is ?_) k
    rw [decide_eq_true c1, decide_eq_true c2]
    rfl
def R_is_pair : List PyData → PyData → Prop := fun ds r => ∃ (a b : PyData), ds = [.tuple [a, b]] ∧ r = .bool true
theorem sc_is_pair : FnScope ["thing"] ["thing"] (defScope s_is_pair) := ⟨rfl, rfl, rfl, by decide +kernel, rfl, by decide +kernel, by decide +kernel⟩
theorem ok_is_pair (D : Defs K mg) : FnIs P w K mg base 2 "is_pair" ["thing"] (spD R_is_pair) := by
  refine D.d_is_pair.ok sc_is_pair (fun _ _ _ _ _ _ us hl => match us, hl with | [_], _ => rfl) (spD_len fun ds r h => ?_) (fun f cdv A outer s H vs Q E hr h => ?_)
  · obtain ⟨_, _, rfl, _⟩ := h
    rfl
  · obtain ⟨ds, r, hd, ⟨a, b, rfl, rfl⟩, k⟩ := h
    obtain ⟨v0, _, rfl, h0, rfl⟩ := hd
    refine ⟨_, pss_one (ps_ret (pe_fn (ok_is_sized D) hr (pa_cons (pv 0) (pa_cons pe_int (pa_cons pe_int pa_nil))))), ?_⟩
    exact sd_ret (evd_call (R := R_is_sized) (eva_cons (evd_var rfl h0) (eva_cons evd_int (eva_cons evd_int eva_nil))) ⟨[a, b], 2, 2, rfl, (show (2 : Int) ≤ 2 by decide), (show (2 : Int) ≤ 2 by decide), rfl⟩) k
theorem all_true {α : Type} (xs : List α) (f : α → PyData) (h : ∀ x ∈ xs, f x = .bool true) : xs.map f = (List.replicate xs.length true).map .bool := by
  rw [List.map_replicate]
  exact List.eq_replicate_iff.mpr ⟨List.length_map _, fun b hb => by
    obtain ⟨x, hx, rfl⟩ := List.mem_map.mp hb
    exact h x hx⟩
theorem evd_allT {K : PySem.W.Frag} {σ : L2.St} {H : Hp} {te : TE} {n : Nat} (h : EvD te σ H (.list (List.replicate n (.bool true)))) : EvD (tCB (rAll K) (tCons te tNil)) σ H (.bool true) := by
  have e : (List.replicate n (PyData.bool true)) = (List.replicate n true).map .bool := by rw [List.map_replicate]
  rw [e] at h
  refine (evd_all h).is ?_
  congr 1
  rw [List.all_eq_true]
  intro b hb
  exact (List.mem_replicate.mp hb).2
theorem map_true {α : Type} (xs : List α) : (xs.map fun _ => PyData.bool true) = List.replicate xs.length (.bool true) := by
  rw [List.map_const']
def R_is_row_of : List PyData → PyData → Prop := fun ds r => ∃ (ns : List Int) (m : Int), ds = [dRow ns, .int m] ∧ m = ns.length ∧ ns.length ≤ 100 ∧ r = .bool true
theorem sc_is_row_of : FnScope ["thing", "many", "item"] ["thing", "many"] (defScope s_is_row_of) := ⟨rfl, rfl, rfl, by decide +kernel, rfl, by decide +kernel, by decide +kernel⟩
theorem ok_is_row_of (D : Defs K mg) : FnIs P w K mg base 2 "is_row_of" ["thing", "many"] (spD R_is_row_of) := by
  refine D.d_is_row_of.ok sc_is_row_of (fun _ _ _ _ _ _ us hl => match us, hl with | [_, _], _ => rfl) (spD_len fun ds r h => ?_) (fun f cdv A outer s H vs Q E hr h => ?_)
  · obtain ⟨_, _, rfl, _⟩ := h
    rfl
  · obtain ⟨ds, r, hd, ⟨ns, m, rfl, c1, c2, rfl⟩, k⟩ := h
    obtain ⟨v0, _, rfl, h0, v1, _, rfl, h1, rfl⟩ := hd
    refine ⟨_, pss_one (ps_ret (pe_and (pe_fn (ok_is_sized D) hr (pa_cons (pv 0) (pa_cons (pv 1) (pa_cons (pv 1) pa_nil)))) (pe_one (pe_callB (id := "all") (cr_all rfl) (by rfl) D.blt.b_all (by decide +kernel) (pa_cons (pe_lc (own := [("item", 2)]) (g := (gName 2)) (tt := tYes) rfl sc_is_row_of.nd (pi_tup (pv 0)) (blkOk_by (N := ["thing", "many", "item"]) (sc := defScope s_is_row_of) (by decide +kernel)) (fun _ _ _ _ _ => pg_name (i := 2) sc_is_row_of.nd rfl (Or.inl rfl)) (fun _ _ _ _ _ => pts_nil) (fun _ _ _ _ _ => pe_fn (ok_is_integer D) hr (pa_cons (pv 2) pa_nil))) pa_nil))))), ?_⟩
    have hs := fun v H1 (e : Same H H1) (hv : Dt H1 (.bool true) v) => k v H1 e hv
    refine sd_ret ((evd_andV (evd_call (R := R_is_sized) (eva_cons (evd_var rfl h0) (eva_cons (evd_var rfl h1) (eva_cons (evd_var rfl h1) eva_nil))) ⟨ns.map .int, m, m, rfl, by rw [List.length_map]; omega, by rw [List.length_map]; omega, rfl⟩) fun _ => evd_allT (n := ns.length) ?_).is rfl) hs
    rw [← map_true]
    exact evd_lc1 ns .int (fun _ => .bool true) (evw_tup (evd_var rfl h0)) (by omega) (fun _ _ => rfl) (fun _ => rfl) fun i v H1 _ e hv => evd_call (R := R_is_integer) (eva_cons (evd_var rfl hv) eva_nil) ⟨i, rfl, rfl⟩
def R_is_row : List PyData → PyData → Prop := fun ds r => ∃ (ns : List Int), ds = [dRow ns] ∧ 3 ≤ ns.length ∧ ns.length ≤ 5 ∧ r = .bool true
theorem sc_is_row : FnScope ["thing"] ["thing"] (defScope s_is_row) := ⟨rfl, rfl, rfl, by decide +kernel, rfl, by decide +kernel, by decide +kernel⟩
theorem ok_is_row (D : Defs K mg) : FnIs P w K mg base 4 "is_row" ["thing"] (spD R_is_row) := by
  refine D.d_is_row.ok sc_is_row (fun _ _ _ _ _ _ us hl => match us, hl with | [_], _ => rfl) (spD_len fun ds r h => ?_) (fun f cdv A outer s H vs Q E hr h => ?_)
  · obtain ⟨_, rfl, _⟩ := h
    rfl
  · obtain ⟨ds, r, hd, ⟨ns, rfl, c1, c2, rfl⟩, k⟩ := h
    obtain ⟨v0, _, rfl, h0, rfl⟩ := hd
    refine ⟨_, pss_one (ps_ret (pe_and (pe_callB call_isi (by rfl) D.blt.b_isinstance (by decide +kernel) (pa_cons (pv 0) (pa_cons (pe_bltn (v := .ty "tuple") (by rfl) D.blt.b_tuple (by decide +kernel) rfl) pa_nil))) (pe_and (pe_fn (ok_is_many D) hr (pa_cons (pe_callB call_len_seq (by rfl) D.blt.b_len PySem.boot_len (pa_cons (pv 0) pa_nil)) pa_nil)) (pe_one (pe_fn (ok_is_row_of D) hr (pa_cons (pv 0) (pa_cons (pe_callB call_len_seq (by rfl) D.blt.b_len PySem.boot_len (pa_cons (pv 0) pa_nil)) pa_nil))))))), ?_⟩
    have hl : (ns.map PyData.int).length = ns.length := List.length_map _
    exact sd_ret (evd_andV (evd_isi (b := true) (evd_var rfl h0) (fun _ z => nomatch z) (show kitB "tuple" "tuple" = some true by decide +kernel)) fun _ => evd_andV (evd_call (R := R_is_many) (d := .bool true) (eva_cons (evd_lenT (evd_var rfl h0)) eva_nil) ⟨_, rfl, by omega, by omega, rfl⟩) fun _ => evd_call (R := R_is_row_of) (d := .bool true) (eva_cons (evd_var rfl h0) (eva_cons (evd_lenT (evd_var rfl h0)) eva_nil)) ⟨ns, _, rfl, by omega, by omega, rfl⟩) k
def riseI (ns : List Int) : Prop := ∀ p ∈ ns.zip (ns.drop 1), p.1 < p.2
def riseR (rs : List (List Int)) : Prop := ∀ p ∈ rs.zip (rs.drop 1), HT.lexLt p.1 p.2 = true
theorem zip_drop {α : Type} (xs : List α) (enc : α → PyData) : (((xs.map enc).zip ((xs.map enc).drop 1)).map fun p : PyData × PyData => PyData.tuple [p.1, p.2]) = (xs.zip (xs.drop 1)).map fun p => .tuple [enc p.1, enc p.2] := by
  rw [← List.map_drop, List.zip_map, List.map_map]
  rfl
theorem zip_len {α : Type} (xs : List α) : (xs.zip (xs.drop 1)).length ≤ xs.length := by
  rw [List.length_zip]
  omega
def R_are_rising : List PyData → PyData → Prop := fun ds r => ((∃ ns : List Int, ds = [dRow ns] ∧ riseI ns ∧ ns.length ≤ 100) ∨ (∃ rs : List (List Int), ds = [.tuple (rs.map dRow)] ∧ riseR rs ∧ rs.length ≤ 100)) ∧ r = .bool true
theorem sc_are_rising : FnScope ["things", "one", "other"] ["things"] (defScope s_are_rising) := ⟨rfl, rfl, rfl, by decide +kernel, rfl, by decide +kernel, by decide +kernel⟩
theorem ok_are_rising (D : Defs K mg) : FnIs P w K mg base 1 "are_rising" ["things"] (spD R_are_rising) := by
  refine D.d_are_rising.ok sc_are_rising (fun _ _ _ _ _ _ us hl => match us, hl with | [_], _ => rfl) (spD_len fun ds r h => ?_) (fun f cdv A outer s H vs Q E hr h => ?_)
  · obtain ⟨⟨_, rfl, _⟩ | ⟨_, rfl, _⟩, _⟩ := h <;> rfl
  · obtain ⟨ds, r, hd, ⟨⟨ns, rfl, c1, c2⟩ | ⟨ns, rfl, c1, c2⟩, rfl⟩, k⟩ := h
    · obtain ⟨v0, _, rfl, h0, rfl⟩ := hd
      refine ⟨_, pss_one (ps_ret (pe_callB (id := "all") (cr_all rfl) (by rfl) D.blt.b_all (by decide +kernel) (pa_cons (pe_lc (own := [("one", 1), ("other", 2)]) (g := (gTup K 2 (gCons (gName 1) (gCons (gName 2) gNil)))) (tt := tYes) rfl sc_are_rising.nd (RZ.pi_zipA (by rfl) D.blt.b_zip (pa_cons (pv 0) (pa_cons (pe_slice sl_tupA (pv 0) (po_some pe_int) po_none) pa_nil))) (blkOk_by (N := ["things", "one", "other"]) (sc := defScope s_are_rising) (by decide +kernel)) (fun _ _ _ _ _ => pg_tup rfl (pgs_cons (pg_name (i := 1) sc_are_rising.nd rfl (Or.inl rfl)) (pgs_cons (pg_name (i := 2) sc_are_rising.nd rfl (Or.inl rfl)) pgs_nil))) (fun _ _ _ _ _ => pts_nil) (fun _ _ _ _ _ => pe_cmpR (r := rI0 fun i j => .bl (decide (i < j))) op_lt (pv 1) (pv 2) (nomark _))) pa_nil))), ?_⟩
      refine sd_ret (evd_allT (n := (ns.zip (ns.drop 1)).length) ?_) k
      rw [← map_true]
      exact evd_lc2 (ns.zip (ns.drop 1)) (fun p => .int p.1) (fun p => .int p.2) (fun _ => .bool true) ((evw_zip (eva_cons (evd_var rfl h0) (eva_cons (evd_slT_drop (n := 1) (evd_var rfl h0) (evo_some evd_int) evo_none) eva_nil))).is (zip_drop ns .int)) (Nat.le_trans (zip_len _) (by omega)) (fun _ _ => rfl) (fun _ _ => rfl) fun p v u H1 hp e hv hu => (evd_lt (evd_var rfl hv) (evd_var rfl hu)).is (by rw [decide_eq_true (c1 p hp)])
    · obtain ⟨v0, _, rfl, h0, rfl⟩ := hd
      have hu := Nat.lt_of_le_of_lt (Nat.le_add_right _ 64) hr.units
      refine ⟨_, pss_one (ps_ret (pe_callB (id := "all") (cr_all rfl) (by rfl) D.blt.b_all (by decide +kernel) (pa_cons (pe_lc (own := [("one", 1), ("other", 2)]) (g := (gTup K 2 (gCons (gName 1) (gCons (gName 2) gNil)))) (tt := tYes) rfl sc_are_rising.nd (RZ.pi_zipA (by rfl) D.blt.b_zip (pa_cons (pv 0) (pa_cons (pe_slice sl_tupA (pv 0) (po_some pe_int) po_none) pa_nil))) (blkOk_by (N := ["things", "one", "other"]) (sc := defScope s_are_rising) (by decide +kernel)) (fun _ _ _ _ _ => pg_tup rfl (pgs_cons (pg_name (i := 1) sc_are_rising.nd rfl (Or.inl rfl)) (pgs_cons (pg_name (i := 2) sc_are_rising.nd rfl (Or.inl rfl)) pgs_nil))) (fun _ _ _ _ _ => pts_nil) (fun _ _ _ _ _ => pe_cmpR (r := rLtT K) (op_ltT hu) (pv 1) (pv 2) (nomark _))) pa_nil))), ?_⟩
      refine sd_ret (evd_allT (n := (ns.zip (ns.drop 1)).length) ?_) k
      rw [← map_true]
      exact evd_lc2 (ns.zip (ns.drop 1)) (fun p => dRow p.1) (fun p => dRow p.2) (fun _ => .bool true) ((evw_zip (eva_cons (evd_var rfl h0) (eva_cons (evd_slT_drop (n := 1) (evd_var rfl h0) (evo_some evd_int) evo_none) eva_nil))).is (zip_drop ns dRow)) (Nat.le_trans (zip_len _) (by omega)) (fun _ _ => rfl) (fun _ _ => rfl) fun p v u H1 hp e hv hu => (evd_ltRow (evd_var rfl hv) (evd_var rfl hu)).is (by rw [c1 p hp])
def R_is_lot_below : List PyData → PyData → Prop := fun ds r => ∃ (ns : List Int) (m : Int), ds = [dRow ns, .int m] ∧ (∀ n ∈ ns, 0 ≤ n ∧ n < m) ∧ riseI ns ∧ ns.length ≤ 100 ∧ r = .bool true
theorem sc_is_lot_below : FnScope ["thing", "many", "item"] ["thing", "many"] (defScope s_is_lot_below) := ⟨rfl, rfl, rfl, by decide +kernel, rfl, by decide +kernel, by decide +kernel⟩
theorem ok_is_lot_below (D : Defs K mg) : FnIs P w K mg base 3 "is_lot_below" ["thing", "many"] (spD R_is_lot_below) := by
  refine D.d_is_lot_below.ok sc_is_lot_below (fun _ _ _ _ _ _ us hl => match us, hl with | [_, _], _ => rfl) (spD_len fun ds r h => ?_) (fun f cdv A outer s H vs Q E hr h => ?_)
  · obtain ⟨_, _, rfl, _⟩ := h
    rfl
  · obtain ⟨ds, r, hd, ⟨ns, m, rfl, c1, c2, c3, rfl⟩, k⟩ := h
    obtain ⟨v0, _, rfl, h0, v1, _, rfl, h1, rfl⟩ := hd
    refine ⟨_, pss_one (ps_ret (pe_and (pe_callB call_isi (by rfl) D.blt.b_isinstance (by decide +kernel) (pa_cons (pv 0) (pa_cons (pe_bltn (v := .ty "tuple") (by rfl) D.blt.b_tuple (by decide +kernel) rfl) pa_nil))) (pe_and (pe_callB (id := "all") (cr_all rfl) (by rfl) D.blt.b_all (by decide +kernel) (pa_cons (pe_lc (own := [("item", 2)]) (g := (gName 2)) (tt := tYes) rfl sc_is_lot_below.nd (pi_tup (pv 0)) (blkOk_by (N := ["thing", "many", "item"]) (sc := defScope s_is_lot_below) (by decide +kernel)) (fun _ _ _ _ _ => pg_name (i := 2) sc_is_lot_below.nd rfl (Or.inl rfl)) (fun _ _ _ _ _ => pts_nil) (fun _ _ _ _ _ => pe_fn (ok_is_within D) hr (pa_cons (pv 2) (pa_cons pe_int (pa_cons (pe_op op_sub (pv 1) pe_int) pa_nil))))) pa_nil)) (pe_one (pe_fn (ok_are_rising D) hr (pa_cons (pv 0) pa_nil)))))), ?_⟩
    refine sd_ret (evd_andV (evd_isi (b := true) (evd_var rfl h0) (fun _ z => nomatch z) (show kitB "tuple" "tuple" = some true by decide +kernel)) fun _ => evd_andV (b := true) (c := true) (evd_allT (n := ns.length) ?_) fun _ => evd_call (R := R_are_rising) (eva_cons (evd_var rfl h0) eva_nil) ⟨.inl ⟨ns, rfl, c2, c3⟩, rfl⟩) k
    rw [← map_true]
    exact evd_lc1 ns .int (fun _ => .bool true) (evw_tup (evd_var rfl h0)) (by omega) (fun _ _ => rfl) (fun _ => rfl) fun i v H1 hi e hv => evd_call (R := R_is_within) (eva_cons (evd_var rfl hv) (eva_cons evd_int (eva_cons (evd_sub (evd_var rfl (h1.same e)) evd_int) eva_nil))) ⟨i, 0, m - 1, rfl, (c1 i hi).1, by have := (c1 i hi).2; omega, rfl⟩
end
end G98

/-! E3r: a tuple taken k times, k any small number. -/
namespace G98
open PySem PySem.Spec PyProof.Rows L2
theorem tuple_mul_once (l : Addr) (items : Array Value) (n : Nat) (dd : Option Addr) (sl : Array (Option Value)) (u : Tok) :
    Meets (Builtin.«tuple.__mul__» ⟨[.ref l, .int 1 u], []⟩) (fun _ R s => s.heap.get? l = some { cls := .type "tuple", dict := dd, data := .seq items n, slots := sl } ∧
      R (.ok (.ret (Value.ref l))) { s with heap := s.heap, toks := s.toks }) :=
  .of_wp fun prog w A R s h => by
    obtain ⟨hp, g, d, tk, os⟩ := s
    obtain ⟨hl, h⟩ := h
    have f1 := AutoSeq1.idx_int
    have c0 : (decide ((1 : Int) < -(2 ^ 63)) || decide ((1 : Int) ≥ 2 ^ 63)) = false := by decide
    have c1 : (items.isEmpty || (1 : Int) == 1) = true := by rw [show ((1 : Int) == 1) = true from rfl, Bool.or_true]
    wp_walk using wpAny_loadPart' hl
    repeat (first
      | (refine wpAny_ite_false (decide_eq_false (by rw [c0]; exact Bool.false_ne_true)) ?_; wp_walk using wpAny_loadPart' hl)
      | (refine wpAny_ite_true (decide_eq_true c1) ?_; wp_walk using wpAny_loadPart' hl))
    exact ⟨_, rfl, h⟩
theorem tuple_mul_none (l : Addr) (items : Array Value) (n : Nat) (dd : Option Addr) (sl : Array (Option Value)) (u : Tok) (hi : items.isEmpty = false) :
    Meets (Builtin.«tuple.__mul__» ⟨[.ref l, .int 0 u], []⟩) (fun _ R s => s.heap.get? l = some { cls := .type "tuple", dict := dd, data := .seq items n, slots := sl } ∧
      R (.ok (.ret (Value.ref s.heap.objs.size))) { s with heap := s.heap.push { cls := Value.type "tuple", data := Data.seq #[] }, toks := s.toks }) :=
  .of_wp fun prog w A R s h => by
    obtain ⟨hp, g, d, tk, os⟩ := s
    obtain ⟨hl, h⟩ := h
    have f1 := AutoSeq1.idx_int
    have c0 : (decide ((0 : Int) < -(2 ^ 63)) || decide ((0 : Int) ≥ 2 ^ 63)) = false := by decide
    have c1 : (items.isEmpty || (0 : Int) == 1) = false := by rw [hi]; rfl
    have c2 : (decide ((0 : Int) ≤ 0) || items.isEmpty) = true := by rw [decide_eq_true (Int.le_refl 0)]; rfl
    wp_walk using wpAny_loadPart' hl
    repeat (first
      | (refine wpAny_ite_false (decide_eq_false (by rw [c0]; exact Bool.false_ne_true)) ?_; wp_walk using wpAny_loadPart' hl)
      | (refine wpAny_ite_false (decide_eq_false (by rw [c1]; exact Bool.false_ne_true)) ?_; wp_walk using wpAny_loadPart' hl)
      | (refine wpAny_ite_true (decide_eq_true c2) ?_; wp_walk using wpAny_loadPart' hl))
    exact ⟨_, rfl, h⟩
def rRepA (K : PySem.W.Frag) : R2 := fun x y H Q => ∃ l k xs, x = .ref l ∧ y = .int k ∧ SqT K H l xs ∧ xs ≠ [] ∧ 0 ≤ k ∧ k ≤ 1000 ∧ xs.length ≤ 1000 ∧ (k = 1 → Q (.ref l) H) ∧ (k ≠ 1 → ∀ p, H p = none → Q (.ref p) (upd H p (.tup (List.replicate k.toNat xs).flatten)))
theorem op_repA {X : Cx} : OpR X (binaryOp .Mult) (rRepA X.K) := by
  intro pins s σ H x y v u Q I rx ry h
  obtain ⟨l, k, xs, rfl, rfl, hT, hne, h1, h2, hz, q1, q2⟩ := h
  by_cases hk : 2 ≤ k
  · exact op_repT pins s σ H _ _ v u Q I rx ry ⟨l, k, xs, rfl, rfl, hT, hne, hk, h2, hz, q2 (by omega)⟩
  cases rx
  obtain ⟨t, rfl⟩ := ry
  obtain ⟨its, r, ⟨⟨cls, dd, data, sl⟩, ho, hc, n, hd⟩, hs⟩ := I.tuple hT
  simp only at hc hd
  subst hc hd
  have hi : its.toArray.isEmpty = false := by
    cases its with
    | nil => cases r; exact absurd rfl hne
    | cons a b => rfl
  rcases (show k = 1 ∨ k = 0 by omega) with rfl | rfl
  · exact wpAny_binaryOp_repeat_ref (T := "tuple") (U := "int") (by decide) ⟨_, ho, rfl⟩ (fun s' => typeIs_int s' 1 t) noFill_tuple_mul F.fills_int_mul F.slot_int_rmul repeat_tuple F.slot_int_index.lookup
      (call_meets F.slot_int_rmul (typeIs_int s 1 t) F.entry_int_rmul (F.args_int_rmul_2 _ _) (int_rmul_tuple 1 t l its.toArray n dd sl)
        ⟨ho, rfl, ⟨_, ho, rfl⟩, call_meets F.slot_tuple_mul ⟨_, ho, rfl⟩ F.entry_tuple_mul (F.args_tuple_mul_2 _ _) (tuple_mul_once l its.toArray n dd sl t) ⟨ho, .ref l, H, I, rfl, q1 rfl⟩⟩)
  · refine wpAny_binaryOp_repeat_ref (T := "tuple") (U := "int") (by decide) ⟨_, ho, rfl⟩ (fun s' => typeIs_int s' 0 t) noFill_tuple_mul F.fills_int_mul F.slot_int_rmul repeat_tuple F.slot_int_index.lookup
      (call_meets F.slot_int_rmul (typeIs_int s 0 t) F.entry_int_rmul (F.args_int_rmul_2 _ _) (int_rmul_tuple 0 t l its.toArray n dd sl)
        ⟨ho, rfl, ⟨_, ho, rfl⟩, call_meets F.slot_tuple_mul ⟨_, ho, rfl⟩ F.entry_tuple_mul (F.args_tuple_mul_2 _ _) (tuple_mul_none l its.toArray n dd sl t hi) ⟨ho, ?_⟩⟩)
    exact ⟨.ref s.heap.objs.size, _, I.laid (t' := s.toks) (o := .tup []) (fun b ob q => Heap.get?_push_of_some _ q) (Nat.le_refl _) ⟨Nat.zero_le _, [], .nil, IsTup.new _ _⟩, rfl, q2 (by decide) _ (I.hok.fresh (Nat.le_refl _))⟩
theorem evd_rep1 {K : PySem.W.Frag} {σ : L2.St} {H : Hp} {ta tb : TE} {d : PyData} {k : Nat} (ha : EvD ta σ H (.tuple [d])) (hb : EvD tb σ H (dNat k)) (hk : k ≤ 1000) : EvD (tOp (rRepA K) ta tb) σ H (.tuple (List.replicate k d)) := fun H1 e Q q =>
  ha H1 e _ fun x H2 e2 ⟨a, vs, hx, hA, hv⟩ => hb H2 (e.trans e2) _ fun y H3 e3 hy => by
    obtain ⟨v, r, rfl, hd, rfl⟩ := hv
    have hd3 := hd.same e3
    refine ⟨a, k, [v], hx, hy, SqT.of (e3 _ _ hA), by simp, by omega, by omega, (show 1 ≤ 1000 by decide), fun h1 => ?_, fun h1 p hp => ?_⟩
    · have : k = 1 := by omega
      subst this
      exact q _ _ (e2.trans e3) ⟨a, [v], rfl, e3 _ _ hA, DtL.one hd3⟩
    · refine q _ _ ((e2.trans e3).trans (Same.new hp)) ⟨p, _, rfl, upd_same, ?_⟩
      rw [Int.toNat_natCast]
      have : ∀ m, DtL (upd H3 p (.tup (List.replicate k [v]).flatten)) (List.replicate m d) (List.replicate m [v]).flatten := fun m => by
        induction m with
        | zero => exact rfl
        | succ m ih =>
          rw [List.replicate_succ, List.replicate_succ, List.flatten_cons]
          exact ⟨v, _, rfl, hd3.same (Same.new hp), ih⟩
      exact this k
end G98

/-! E3: patterns. -/
namespace G98
open PySem PySem.Spec PyProof.Rows L2
section
variable {P : Program} {w : World} {K : PySem.W.Frag} {mg : Str → Option Value} {base : Heap}
section
variable {σ : L2.St} {H : Hp} {ta : TA} {te : TE} {D : Ends}
theorem evw_enumF {n : Nat} (f : Nat → PyData) (h : EvA ta σ H [.tuple ((List.range n).map f)]) : EvW (iEnumT K ta) σ H ((List.range n).map fun i => .tuple [dNat i, f i]) := (evw_enum h).is (by
  refine List.ext_getElem? fun i => ?_
  rw [List.getElem?_mapIdx, List.getElem?_map, List.getElem?_map, Option.map_map]
  cases e : (List.range n)[i]? with
  | none => rfl
  | some j =>
    have hj := List.getElem?_eq_some_iff.mp e
    obtain ⟨h1, h2⟩ := hj
    rw [List.getElem_range] at h2
    subst h2
    rfl)
theorem sd_drop {d : PyData} (h : EvD te σ H d) (k : ∀ v H1, Same H H1 → Dt H1 d v → D.nx σ H1) : tDrop te D σ H := h H (Same.refl _) _ fun v H1 e hv => k v H1 e hv
/-- if not test: raise .. -/
theorem sd_ok {t : TT} {tu : TS} (h : EvT t σ H true) (k : ∀ H1, Same H H1 → D.nx σ H1) : tIfS (tNot t) tu tNext D σ H := sd_if (evt_not h) (fun z => nomatch z) fun _ H1 e => k H1 e
end
def MissOk (m : Int) (me : Nat) (d : PyData) : Prop := d = .none ∨ ∃ x : Int, d = .int x ∧ 0 ≤ x ∧ x < m ∧ x ≠ (me : Int)
def R_check_many : List PyData → PyData → Prop := fun ds_ res_ => ∃ (i : Int), ds_ = [.int i] ∧ 3 ≤ i ∧ i ≤ 5 ∧ res_ = .none
theorem sc_check_many : FnScope ["thing"] ["thing"] (defScope s_check_many) := ⟨rfl, rfl, rfl, by decide +kernel, rfl, by decide +kernel, by decide +kernel⟩
theorem ok_check_many (D : Defs K mg) : FnIs P w K mg base 4 "check_many" ["thing"] (spD R_check_many) := by
  refine D.d_check_many.ok sc_check_many (fun _ _ _ _ _ _ us hl => match us, hl with | [_], _ => rfl) (spD_len fun ds r h => ?_) (fun f cdv A outer s H vs Q E hr h => ?_)
  · obtain ⟨_, rfl, _⟩ := h
    rfl
  · obtain ⟨_, _, hd, ⟨i, rfl, c1, c2, rfl⟩, k⟩ := h
    obtain ⟨v0, _, rfl, h0, rfl⟩ := hd
    refine ⟨_, pss_one (ps_if (pt_not (pt_val (pe_fn (ok_is_many D) hr (pa_cons (pv 0) pa_nil)))) pss_never pss_nil), ?_⟩
    exact sd_ok (evt_B (evd_call (R := R_is_many) (d := .bool true) (eva_cons (evd_var rfl h0) eva_nil) ⟨i, rfl, c1, c2, rfl⟩)) fun H1 e => k _ H1 e rfl
def R_check_rounds : List PyData → PyData → Prop := fun ds_ res_ => ∃ (i : Int), ds_ = [.int i] ∧ 0 ≤ i ∧ i ≤ 30 ∧ res_ = .none
theorem sc_check_rounds : FnScope ["thing"] ["thing"] (defScope s_check_rounds) := ⟨rfl, rfl, rfl, by decide +kernel, rfl, by decide +kernel, by decide +kernel⟩
theorem ok_check_rounds (D : Defs K mg) : FnIs P w K mg base 3 "check_rounds" ["thing"] (spD R_check_rounds) := by
  refine D.d_check_rounds.ok sc_check_rounds (fun _ _ _ _ _ _ us hl => match us, hl with | [_], _ => rfl) (spD_len fun ds r h => ?_) (fun f cdv A outer s H vs Q E hr h => ?_)
  · obtain ⟨_, rfl, _⟩ := h
    rfl
  · obtain ⟨_, _, hd, ⟨i, rfl, c1, c2, rfl⟩, k⟩ := h
    obtain ⟨v0, _, rfl, h0, rfl⟩ := hd
    obtain ⟨tMODS, mMODS⟩ := D.blt.c_MOST_ROUNDS
    refine ⟨_, pss_one (ps_if (pt_not (pt_val (pe_fn (ok_is_within D) hr (pa_cons (pv 0) (pa_cons pe_int (pa_cons (pe_glob (v := .int 30) (by rfl) mMODS ⟨_, rfl⟩) pa_nil)))))) pss_never pss_nil), ?_⟩
    exact sd_ok (evt_B (evd_call (R := R_is_within) (d := .bool true) (eva_cons (evd_var rfl h0) (eva_cons evd_int (eva_cons evd_int eva_nil))) ⟨i, 0, 30, rfl, c1, c2, rfl⟩)) fun H1 e => k _ H1 e rfl
def R_is_miss : List PyData → PyData → Prop := fun ds_ res_ => ∃ (m : Int) (me : Nat) (d : PyData), ds_ = [.int m, dNat me, d] ∧ MissOk m me d ∧ res_ = .bool true
theorem sc_is_miss : FnScope ["many", "me", "thing"] ["many", "me", "thing"] (defScope s_is_miss) := ⟨rfl, rfl, rfl, by decide +kernel, rfl, by decide +kernel, by decide +kernel⟩
theorem ok_is_miss (D : Defs K mg) : FnIs P w K mg base 3 "is_miss" ["many", "me", "thing"] (spD R_is_miss) := by
  refine D.d_is_miss.ok sc_is_miss (fun _ _ _ _ _ _ us hl => match us, hl with | [_, _, _], _ => rfl) (spD_len fun ds r h => ?_) (fun f cdv A outer s H vs Q E hr h => ?_)
  · obtain ⟨_, _, _, rfl, _⟩ := h
    rfl
  · obtain ⟨_, _, hd, ⟨m, me, d, rfl, c, rfl⟩, k⟩ := h
    obtain ⟨v0, _, rfl, h0, v1, _, rfl, h1, v2, _, rfl, h2, rfl⟩ := hd
    refine ⟨_, pss_one (ps_ret (pe_or (pe_cmp (pc_isN (pv 2))) (pe_one (pe_and (pe_fn (ok_is_within D) hr (pa_cons (pv 2) (pa_cons pe_int (pa_cons (pe_op op_sub (pv 0) pe_int) pa_nil)))) (pe_one (pe_cmpR op_ne (pv 2) (pv 1) (nomark _))))))), ?_⟩
    rcases c with rfl | ⟨x, rfl, c1, c2, c3⟩
    · exact sd_ret (evd_orV (b := true) (c := true) (evd_isN (d := .none) (evd_var rfl h2)) fun z => nomatch z) k
    · exact sd_ret (evd_orV (b := false) (c := true) (evd_isN (d := .int x) (evd_var rfl h2)) fun _ => evd_andV (b := true) (c := true) (evd_call (R := R_is_within) (d := .bool true) (eva_cons (evd_var rfl h2) (eva_cons evd_int (eva_cons (evd_sub (evd_var rfl h0) evd_int) eva_nil))) ⟨x, 0, m - 1, rfl, c1, by omega, rfl⟩) fun _ => (evd_neI (evd_var rfl h2) (evd_var rfl h1)).is (by rw [decide_eq_false c3]; rfl)) k
def R_is_round : List PyData → PyData → Prop := fun ds_ res_ => ∃ (n : Nat) (f : Nat → PyData), ds_ = [dNat n, .tuple ((List.range n).map f)] ∧ n ≤ 100 ∧ (∀ i < n, MissOk n i (f i)) ∧ res_ = .bool true
theorem sc_is_round : FnScope ["many", "thing", "me", "missed"] ["many", "thing"] (defScope s_is_round) := ⟨rfl, rfl, rfl, by decide +kernel, rfl, by decide +kernel, by decide +kernel⟩
theorem ok_is_round (D : Defs K mg) : FnIs P w K mg base 4 "is_round" ["many", "thing"] (spD R_is_round) := by
  refine D.d_is_round.ok sc_is_round (fun _ _ _ _ _ _ us hl => match us, hl with | [_, _], _ => rfl) (spD_len fun ds r h => ?_) (fun f cdv A outer s H vs Q E hr h => ?_)
  · obtain ⟨_, _, rfl, _⟩ := h
    rfl
  · obtain ⟨_, _, hd, ⟨n, f, rfl, c1, c2, rfl⟩, k⟩ := h
    obtain ⟨v0, _, rfl, h0, v1, _, rfl, h1, rfl⟩ := hd
    refine ⟨_, pss_one (ps_ret (pe_and (pe_fn (ok_is_sized D) hr (pa_cons (pv 1) (pa_cons (pv 0) (pa_cons (pv 0) pa_nil)))) (pe_one (pe_callB (id := "all") (cr_all rfl) (by rfl) D.blt.b_all (by decide +kernel) (pa_cons (pe_lc (own := [("me", 2), ("missed", 3)]) (g := (gTup K 2 (gCons (gName 2) (gCons (gName 3) gNil)))) (tt := tYes) rfl sc_is_round.nd (pi_enumT (by rfl) D.blt.b_enumerate (pa_cons (pv 1) pa_nil)) (blkOk_by (N := ["many", "thing", "me", "missed"]) (sc := defScope s_is_round) (by decide +kernel)) (fun _ _ _ _ _ => pg_tup rfl (pgs_cons (pg_name (i := 2) sc_is_round.nd rfl (Or.inl rfl)) (pgs_cons (pg_name (i := 3) sc_is_round.nd rfl (Or.inl rfl)) pgs_nil))) (fun _ _ _ _ _ => pts_nil) (fun _ _ _ _ _ => pe_fn (ok_is_miss D) hr (pa_cons (pv 0) (pa_cons (pv 2) (pa_cons (pv 3) pa_nil))))) pa_nil))))), ?_⟩
    have hl : ((List.range n).map f).length = n := by rw [List.length_map, List.length_range]
    refine sd_ret (evd_andV (b := true) (c := true) (evd_call (R := R_is_sized) (d := .bool true) (eva_cons (evd_var rfl h1) (eva_cons (evd_var rfl h0) (eva_cons (evd_var rfl h0) eva_nil))) ⟨_, n, n, rfl, by omega, by omega, rfl⟩) fun _ => evd_allT (n := (List.range n).length) ?_) k
    rw [← map_true]
    exact evd_lc2 (List.range n) (fun i => dNat i) f (fun _ => .bool true) (evw_enumF f (eva_cons (evd_var rfl h1) eva_nil)) (by rw [List.length_range]; omega) (fun _ _ => rfl) (fun _ _ => rfl) fun i v u H1 hi e hv hu => (evd_call (R := R_is_miss) (d := .bool true) (eva_cons (evd_var rfl (h0.same e)) (eva_cons (evd_var rfl hv) (eva_cons (evd_var rfl hu) eva_nil))) ⟨n, i, f i, rfl, c2 i (List.mem_range.mp hi), rfl⟩)
def R_is_pattern_of : List PyData → PyData → Prop := fun ds_ res_ => ∃ (n r : Nat) (rows : List PyData), ds_ = [dNat n, dNat r, .tuple rows] ∧ rows.length = r ∧ r ≤ 30 ∧ (∀ d ∈ rows, R_is_round [dNat n, d] (.bool true)) ∧ res_ = .bool true
theorem sc_is_pattern_of : FnScope ["many", "rounds", "thing", "least", "most", "item"] ["many", "rounds", "thing"] (defScope s_is_pattern_of) := ⟨rfl, rfl, rfl, by decide +kernel, rfl, by decide +kernel, by decide +kernel⟩
theorem ok_is_pattern_of (D : Defs K mg) : FnIs P w K mg base 5 "is_pattern_of" ["many", "rounds", "thing"] (spD R_is_pattern_of) := by
  refine D.d_is_pattern_of.ok sc_is_pattern_of (fun _ _ _ _ _ _ us hl => match us, hl with | [_, _, _], _ => rfl) (spD_len fun ds r h => ?_) (fun f cdv A outer s H vs Q E hr h => ?_)
  · obtain ⟨_, _, _, rfl, _⟩ := h
    rfl
  · obtain ⟨_, _, hd, ⟨n, r, rows, rfl, c1, c2, c3, rfl⟩, k⟩ := h
    obtain ⟨v0, _, rfl, h0, v1, _, rfl, h1, v2, _, rfl, h2, rfl⟩ := hd
    obtain ⟨tMODS, mMODS⟩ := D.blt.c_MOST_ROUNDS
    refine ⟨_, pss_cons (ps_asg (pe_ifExp (pt_cmp (pc_isN (pv 1))) (pe_tup (pa_cons pe_int (pa_cons (pe_glob (v := .int 30) (by rfl) mMODS ⟨_, rfl⟩) pa_nil))) (pe_tup (pa_cons (pv 1) (pa_cons (pv 1) pa_nil)))) (pg_tup rfl (pgs_cons (pg_name (i := 3) sc_is_pattern_of.nd rfl (Or.inl rfl)) (pgs_cons (pg_name (i := 4) sc_is_pattern_of.nd rfl (Or.inl rfl)) pgs_nil)))) (pss_one (ps_ret (pe_and (pe_fn (ok_is_sized D) hr (pa_cons (pv 2) (pa_cons (pv 3) (pa_cons (pv 4) pa_nil)))) (pe_one (pe_callB (id := "all") (cr_all rfl) (by rfl) D.blt.b_all (by decide +kernel) (pa_cons (pe_lc (own := [("item", 5)]) (g := (gName 5)) (tt := tYes) rfl sc_is_pattern_of.nd (pi_tup (pv 2)) (blkOk_by (N := ["many", "rounds", "thing", "least", "most", "item"]) (sc := defScope s_is_pattern_of) (by decide +kernel)) (fun _ _ _ _ _ => pg_name (i := 5) sc_is_pattern_of.nd rfl (Or.inl rfl)) (fun _ _ _ _ _ => pts_nil) (fun _ _ _ _ _ => pe_fn (ok_is_round D) hr (pa_cons (pv 0) (pa_cons (pv 5) pa_nil)))) pa_nil)))))), ?_⟩
    refine evd_if (d := .tuple [dNat r, dNat r]) (evt_B (b := false) (evd_isN (d := dNat r) (evd_var rfl h1))) (fun z => nomatch z) (fun _ => evd_tup (eva_cons (evd_var rfl h1) (eva_cons (evd_var rfl h1) eva_nil)) (show 2 ≤ sizeLine by decide)) H (Same.refl _) _ fun v H1 e hv => pair_tg hv fun x y hx hy => ?_
    refine sd_ret (evd_andV (b := true) (c := true) (evd_call (R := R_is_sized) (d := .bool true) (eva_cons (evd_var rfl (h2.same e)) (eva_cons (evd_var rfl hx) (eva_cons (evd_var rfl hy) eva_nil))) ⟨rows, r, r, rfl, by omega, by omega, rfl⟩) fun _ => evd_allT (n := rows.length) ?_) fun v H2 e2 hv => k v H2 (e.trans e2) hv
    rw [← map_true]
    exact evd_lc1 rows id (fun _ => .bool true) (evw_tup (evd_var rfl (by rw [List.map_id]; exact h2.same e))) (by omega) (fun _ _ => rfl) (fun _ => rfl) fun d v H2 hi e2 hv => (evd_call (R := R_is_round) (d := .bool true) (eva_cons (evd_var rfl ((h0.same e).same e2)) (eva_cons (evd_var rfl hv) eva_nil)) (c3 d hi))
def R_check_pattern : List PyData → PyData → Prop := fun ds_ res_ => ∃ (n r : Nat) (rows : List PyData), ds_ = [dNat n, dNat r, .tuple rows] ∧ rows.length = r ∧ r ≤ 30 ∧ (∀ d ∈ rows, R_is_round [dNat n, d] (.bool true)) ∧ res_ = .none
theorem sc_check_pattern : FnScope ["many", "rounds", "thing"] ["many", "rounds", "thing"] (defScope s_check_pattern) := ⟨rfl, rfl, rfl, by decide +kernel, rfl, by decide +kernel, by decide +kernel⟩
theorem ok_check_pattern (D : Defs K mg) : FnIs P w K mg base 6 "check_pattern" ["many", "rounds", "thing"] (spD R_check_pattern) := by
  refine D.d_check_pattern.ok sc_check_pattern (fun _ _ _ _ _ _ us hl => match us, hl with | [_, _, _], _ => rfl) (spD_len fun ds r h => ?_) (fun f cdv A outer s H vs Q E hr h => ?_)
  · obtain ⟨_, _, _, rfl, _⟩ := h
    rfl
  · obtain ⟨_, _, hd, ⟨n, r, rows, rfl, c1, c2, c3, rfl⟩, k⟩ := h
    obtain ⟨v0, _, rfl, h0, v1, _, rfl, h1, v2, _, rfl, h2, rfl⟩ := hd
    refine ⟨_, pss_one (ps_if (pt_not (pt_val (pe_fn (ok_is_pattern_of D) hr (pa_cons (pv 0) (pa_cons (pv 1) (pa_cons (pv 2) pa_nil)))))) pss_never pss_nil), ?_⟩
    exact sd_ok (evt_B (evd_call (R := R_is_pattern_of) (d := .bool true) (eva_cons (evd_var rfl h0) (eva_cons (evd_var rfl h1) (eva_cons (evd_var rfl h2) eva_nil))) ⟨n, r, rows, rfl, c1, c2, c3, rfl⟩)) fun H1 e => k _ H1 e rfl
/-- the row of the pattern that shuts i out -/
def shD (i me : Nat) : PyData := if me = i then .none else dNat i
def shRow (n i : Nat) : PyData := .tuple ((List.range n).map (shD i))
theorem noL_shD (i me : Nat) : noL (shD i me) = true := by
  unfold shD
  split <;> rfl
def R_raw_shut_out : List PyData → PyData → Prop := fun ds_ res_ => ∃ (n r i : Nat), ds_ = [dNat n, dNat r, dNat i] ∧ n ≤ 100 ∧ r ≤ 30 ∧ res_ = .tuple (List.replicate r (shRow n i))
theorem sc_raw_shut_out : FnScope ["many", "rounds", "i", "me"] ["many", "rounds", "i"] (defScope s_raw_shut_out) := ⟨rfl, rfl, rfl, by decide +kernel, rfl, by decide +kernel, by decide +kernel⟩
theorem ok_raw_shut_out (D : Defs K mg) : FnIs P w K mg base 1 "raw_shut_out" ["many", "rounds", "i"] (spD R_raw_shut_out) := by
  refine D.d_raw_shut_out.ok sc_raw_shut_out (fun _ _ _ _ _ _ us hl => match us, hl with | [_, _, _], _ => rfl) (spD_len fun ds r h => ?_) (fun f cdv A outer s H vs Q E hr h => ?_)
  · obtain ⟨_, _, _, rfl, _⟩ := h
    rfl
  · obtain ⟨_, _, hd, ⟨n, r, i, rfl, c1, c2, rfl⟩, k⟩ := h
    obtain ⟨v0, _, rfl, h0, v1, _, rfl, h1, v2, _, rfl, h2, rfl⟩ := hd
    refine ⟨_, pss_one (ps_ret (pe_op op_repA (pe_tup (pa_cons (pe_callTy (T := "tuple") call_tuple_of (by rfl) D.blt.b_tuple (by decide +kernel) (pa_cons (pe_lc (own := [("me", 3)]) (g := (gName 3)) (tt := tYes) rfl sc_raw_shut_out.nd (pi_range1 (by rfl) D.blt.b_range (pa_cons (pv 0) pa_nil)) (blkOk_by (N := ["many", "rounds", "i", "me"]) (sc := defScope s_raw_shut_out) (by decide +kernel)) (fun _ _ _ _ _ => pg_name (i := 3) sc_raw_shut_out.nd rfl (Or.inl rfl)) (fun _ _ _ _ _ => pts_nil) (fun _ _ _ _ _ => pe_ifExp (pt_cmpR op_eq (pv 3) (pv 2) (nomark _)) pe_non (pv 2))) pa_nil)) pa_nil)) (pv 1))), ?_⟩
    refine sd_ret (evd_rep1 (d := shRow n i) (evd_tup (eva_cons (evd_tupL ?_) eva_nil) (show 1 ≤ sizeLine by decide)) (evd_var rfl h1) (by omega)) k
    exact evd_lc1 (List.range n) dNat (shD i) (evw_range (eva_cons (evd_var rfl h0) eva_nil) (by omega)) (by rw [List.length_range]; omega) (fun me _ => noL_shD i me) (fun _ => rfl) fun me v H1 _ e hv => by
      refine evd_if (b := decide (me = i)) (evt_test ((evd_eqI (evd_var rfl hv) (evd_var rfl (h2.same e))).is ?_)) (fun z => ?_) fun z => ?_
      · congr 1
        exact decide_eq_decide.mpr ⟨fun q => by omega, fun q => by omega⟩
      · unfold shD
        rw [if_pos (of_decide_eq_true z)]
        exact evd_non
      · unfold shD
        rw [if_neg (of_decide_eq_false z)]
        exact evd_var rfl (h2.same e)
def R_shut_out : List PyData → PyData → Prop := fun ds_ res_ => ∃ (n r i : Nat), ds_ = [dNat n, dNat r, dNat i] ∧ 3 ≤ n ∧ n ≤ 5 ∧ r ≤ 30 ∧ i < n ∧ res_ = .tuple (List.replicate r (shRow n i))
theorem sc_shut_out : FnScope ["many", "rounds", "i"] ["many", "rounds", "i"] (defScope s_shut_out) := ⟨rfl, rfl, rfl, by decide +kernel, rfl, by decide +kernel, by decide +kernel⟩
theorem ok_shut_out (D : Defs K mg) : FnIs P w K mg base 5 "shut_out" ["many", "rounds", "i"] (spD R_shut_out) := by
  refine D.d_shut_out.ok sc_shut_out (fun _ _ _ _ _ _ us hl => match us, hl with | [_, _, _], _ => rfl) (spD_len fun ds r h => ?_) (fun f cdv A outer s H vs Q E hr h => ?_)
  · obtain ⟨_, _, _, rfl, _⟩ := h
    rfl
  · obtain ⟨_, _, hd, ⟨n, r, i, rfl, c1, c2, c3, c4, rfl⟩, k⟩ := h
    obtain ⟨v0, _, rfl, h0, v1, _, rfl, h1, v2, _, rfl, h2, rfl⟩ := hd
    refine ⟨_, pss_cons (ps_expr (pe_fn (ok_check_many D) hr (pa_cons (pv 0) pa_nil))) (pss_cons (ps_expr (pe_fn (ok_check_rounds D) hr (pa_cons (pv 1) pa_nil))) (pss_cons (ps_if (pt_not (pt_val (pe_fn (ok_is_within D) hr (pa_cons (pv 2) (pa_cons pe_int (pa_cons (pe_op op_sub (pv 0) pe_int) pa_nil)))))) pss_never pss_nil) (pss_one (ps_ret (pe_fn (ok_raw_shut_out D) hr (pa_cons (pv 0) (pa_cons (pv 1) (pa_cons (pv 2) pa_nil)))))))), ?_⟩
    refine sd_drop (evd_call (R := R_check_many) (d := .none) (eva_cons (evd_var rfl h0) eva_nil) ⟨n, rfl, by omega, by omega, rfl⟩) fun _ H1 e1 _ => sd_drop (evd_call (R := R_check_rounds) (d := .none) (eva_cons (evd_var rfl (h1.same e1)) eva_nil) ⟨r, rfl, by omega, by omega, rfl⟩) fun _ H2 e2 _ => sd_ok (evt_B (evd_call (R := R_is_within) (d := .bool true) (eva_cons (evd_var rfl (h2.same (e1.trans e2))) (eva_cons evd_int (eva_cons (evd_sub (evd_var rfl (h0.same (e1.trans e2))) evd_int) eva_nil))) ⟨i, 0, (n : Int) - 1, rfl, by omega, by omega, rfl⟩)) fun H3 e3 => ?_
    have e := (e1.trans e2).trans e3
    exact sd_ret (evd_call (R := R_raw_shut_out) (d := .tuple (List.replicate r (shRow n i))) (eva_cons (evd_var rfl (h0.same e)) (eva_cons (evd_var rfl (h1.same e)) (eva_cons (evd_var rfl (h2.same e)) eva_nil))) ⟨n, r, i, rfl, by omega, c3, rfl⟩) fun v H4 e4 hv => k v H4 (e.trans e4) hv
end
end G98

/-! E4: tasks, the parts that are data alone. -/
namespace G98
open PySem PySem.Spec PyProof.Rows L2
section
variable {P : Program} {w : World} {K : PySem.W.Frag} {mg : Str → Option Value} {base : Heap}
theorem evd_le2' {σ : L2.St} {H : Hp} {ta tb tc : TE} {i j k : Int} (ha : EvD ta σ H (.int i)) (hb : EvD tb σ H (.int j)) (hc : EvD tc σ H (.int k)) (h1 : i ≤ j) (h2 : j ≤ k) :
    EvD (tChain (rI0 fun i j => .bl (decide (i ≤ j))) (rI0 fun i j => .bl (decide (i ≤ j))) ta tb tc) σ H (.bool true) := (evd_le2 ha hb hc).is (by rw [decide_eq_true h1, decide_eq_true h2]; rfl)
abbrev Row (n : Nat) (ns : List Int) : Prop := ns.length = n ∧ ∀ x ∈ ns, 0 ≤ x ∧ x ≤ 9999
abbrev Ent := List Int × List (List Int)
abbrev dLot (rs : List (List Int)) : PyData := .tuple (rs.map dRow)
abbrev dEnt (e : Ent) : PyData := .tuple [dRow e.1, dLot e.2]
abbrev dLots (es : List Ent) : PyData := .tuple (es.map dEnt)
structure LotOk (n : Nat) (rs : List (List Int)) : Prop where
  any : 1 ≤ rs.length
  few : rs.length ≤ 60
  rows : ∀ r ∈ rs, Row n r
  rise : riseR rs
structure EntOk (n : Nat) (e : Ent) : Prop where
  row : Row n e.1
  lot : LotOk n e.2
structure LotsOk (n : Nat) (es : List Ent) : Prop where
  n3 : 3 ≤ n
  n5 : n ≤ 5
  any : 1 ≤ es.length
  few : es.length ≤ 60
  each : ∀ e ∈ es, EntOk n e
  nd : (es.map (·.1)).Nodup
  rise : ∀ (i : Nat) (e e' : Ent), es[i]? = some e → es[i + 1]? = some e' → HT.lexLt e.1 e'.1 = true
def R_is_small_row : List PyData → PyData → Prop := fun ds_ res_ => ∃ (n : Nat) (ns : List Int), ds_ = [dRow ns, dNat n] ∧ n ≤ 5 ∧ Row n ns ∧ res_ = .bool true
theorem sc_is_small_row : FnScope ["thing", "many", "item"] ["thing", "many"] (defScope s_is_small_row) := ⟨rfl, rfl, rfl, by decide +kernel, rfl, by decide +kernel, by decide +kernel⟩
theorem ok_is_small_row (D : Defs K mg) : FnIs P w K mg base 3 "is_small_row" ["thing", "many"] (spD R_is_small_row) := by
  refine D.d_is_small_row.ok sc_is_small_row (fun _ _ _ _ _ _ us hl => match us, hl with | [_, _], _ => rfl) (spD_len fun ds r h => ?_) (fun f cdv A outer s H vs Q E hr h => ?_)
  · obtain ⟨_, _, rfl, _⟩ := h
    rfl
  · obtain ⟨_, _, hd, ⟨n, ns, rfl, c0, ⟨c1, c2⟩, rfl⟩, k⟩ := h
    obtain ⟨v0, _, rfl, h0, v1, _, rfl, h1, rfl⟩ := hd
    obtain ⟨tMOER, mMOER⟩ := D.blt.c_MOST_NUMBER
    refine ⟨_, pss_one (ps_ret (pe_and (pe_fn (ok_is_row_of D) hr (pa_cons (pv 0) (pa_cons (pv 1) pa_nil))) (pe_one (pe_callB (id := "all") (cr_all rfl) (by rfl) D.blt.b_all (by decide +kernel) (pa_cons (pe_lc (own := [("item", 2)]) (g := (gName 2)) (tt := tYes) rfl sc_is_small_row.nd (pi_tup (pv 0)) (blkOk_by (N := ["thing", "many", "item"]) (sc := defScope s_is_small_row) (by decide +kernel)) (fun _ _ _ _ _ => pg_name (i := 2) sc_is_small_row.nd rfl (Or.inl rfl)) (fun _ _ _ _ _ => pts_nil) (fun _ _ _ _ _ => pe_chain op_le op_le pe_int (pv 2) (pe_glob (v := .int 9999) (by rfl) mMOER ⟨_, rfl⟩))) pa_nil))))), ?_⟩
    refine sd_ret (evd_andV (b := true) (c := true) (evd_call (R := R_is_row_of) (d := .bool true) (eva_cons (evd_var rfl h0) (eva_cons (evd_var rfl h1) eva_nil)) ⟨ns, n, rfl, by omega, by omega, rfl⟩) fun _ => evd_allT (n := ns.length) ?_) k
    rw [← map_true]
    exact evd_lc1 ns .int (fun _ => .bool true) (evw_tup (evd_var rfl h0)) (by omega) (fun _ _ => rfl) (fun _ => rfl) fun i v H1 hi e hv => evd_le2' evd_int (evd_var rfl hv) evd_int (c2 i hi).1 (c2 i hi).2
def R_is_small_lot : List PyData → PyData → Prop := fun ds_ res_ => ∃ (n : Nat) (rs : List (List Int)), ds_ = [dLot rs, dNat n] ∧ n ≤ 5 ∧ LotOk n rs ∧ res_ = .bool true
theorem sc_is_small_lot : FnScope ["thing", "many", "row"] ["thing", "many"] (defScope s_is_small_lot) := ⟨rfl, rfl, rfl, by decide +kernel, rfl, by decide +kernel, by decide +kernel⟩
theorem ok_is_small_lot (D : Defs K mg) : FnIs P w K mg base 4 "is_small_lot" ["thing", "many"] (spD R_is_small_lot) := by
  refine D.d_is_small_lot.ok sc_is_small_lot (fun _ _ _ _ _ _ us hl => match us, hl with | [_, _], _ => rfl) (spD_len fun ds r h => ?_) (fun f cdv A outer s H vs Q E hr h => ?_)
  · obtain ⟨_, _, rfl, _⟩ := h
    rfl
  · obtain ⟨_, _, hd, ⟨n, rs, rfl, c0, c1, rfl⟩, k⟩ := h
    obtain ⟨v0, _, rfl, h0, v1, _, rfl, h1, rfl⟩ := hd
    obtain ⟨tMOWS, mMOWS⟩ := D.blt.c_MOST_ROWS
    refine ⟨_, pss_cons (ps_if (PW.pt (pw_or (pt_not (pt_val (pe_fn (ok_is_sized D) hr (pa_cons (pv 0) (pa_cons pe_int (pa_cons (pe_glob (v := .int 60) (by rfl) mMOWS ⟨_, rfl⟩) pa_nil)))))) (pw_or1 (pt_not (pt_val (pe_callB (id := "all") (cr_all rfl) (by rfl) D.blt.b_all (by decide +kernel) (pa_cons (pe_lc (own := [("row", 2)]) (g := (gName 2)) (tt := tYes) rfl sc_is_small_lot.nd (pi_tup (pv 0)) (blkOk_by (N := ["thing", "many", "row"]) (sc := defScope s_is_small_lot) (by decide +kernel)) (fun _ _ _ _ _ => pg_name (i := 2) sc_is_small_lot.nd rfl (Or.inl rfl)) (fun _ _ _ _ _ => pts_nil) (fun _ _ _ _ _ => pe_fn (ok_is_small_row D) hr (pa_cons (pv 2) (pa_cons (pv 1) pa_nil)))) pa_nil))))))) pss_never pss_nil) (pss_one (ps_ret (pe_fn (ok_are_rising D) hr (pa_cons (pv 0) pa_nil)))), ?_⟩
    have hl : (rs.map dRow).length = rs.length := List.length_map _
    have c2 := c1.any
    have c3 := c1.few
    refine sd_if (b := false) (evt_or (b := false) (c := false) (evt_not (b := true) (evt_B (evd_call (R := R_is_sized) (d := .bool true) (eva_cons (evd_var rfl h0) (eva_cons evd_int (eva_cons evd_int eva_nil))) ⟨_, 1, 60, rfl, by omega, by omega, rfl⟩))) fun _ => evt_not (b := true) (evt_B (evd_allT (n := rs.length) ?_))) (fun z => nomatch z) fun _ H1 e => ?_
    · rw [← map_true]
      exact evd_lc1 rs dRow (fun _ => .bool true) (evw_tup (evd_var rfl h0)) (by omega) (fun _ _ => rfl) (fun _ => rfl) fun i v H1 hi e hv => (evd_call (R := R_is_small_row) (d := .bool true) (eva_cons (evd_var rfl hv) (eva_cons (evd_var rfl (h1.same e)) eva_nil)) ⟨n, i, rfl, c0, c1.rows i hi, rfl⟩)
    · exact sd_ret (evd_call (R := R_are_rising) (d := .bool true) (eva_cons (evd_var rfl (h0.same e)) eva_nil) ⟨.inr ⟨rs, rfl, c1.rise, by omega⟩, rfl⟩) fun v H2 e2 hv => k v H2 (e.trans e2) hv
def R_is_inputs_with_lot : List PyData → PyData → Prop := fun ds_ res_ => ∃ (n : Nat) (e : Ent), ds_ = [dEnt e, dNat n] ∧ n ≤ 5 ∧ EntOk n e ∧ res_ = .bool true
theorem sc_is_inputs_with_lot : FnScope ["thing", "many"] ["thing", "many"] (defScope s_is_inputs_with_lot) := ⟨rfl, rfl, rfl, by decide +kernel, rfl, by decide +kernel, by decide +kernel⟩
theorem ok_is_inputs_with_lot (D : Defs K mg) : FnIs P w K mg base 5 "is_inputs_with_lot" ["thing", "many"] (spD R_is_inputs_with_lot) := by
  refine D.d_is_inputs_with_lot.ok sc_is_inputs_with_lot (fun _ _ _ _ _ _ us hl => match us, hl with | [_, _], _ => rfl) (spD_len fun ds r h => ?_) (fun f cdv A outer s H vs Q E hr h => ?_)
  · obtain ⟨_, _, rfl, _⟩ := h
    rfl
  · obtain ⟨_, _, hd, ⟨n, e, rfl, c0, c1, rfl⟩, k⟩ := h
    obtain ⟨v0, _, rfl, h0, v1, _, rfl, h1, rfl⟩ := hd
    refine ⟨_, pss_one (ps_ret (pe_and (pe_fn (ok_is_pair D) hr (pa_cons (pv 0) pa_nil)) (pe_and (pe_fn (ok_is_small_row D) hr (pa_cons (pe_ix ix_tup (pv 0) pe_int (fun _ _ => rfl)) (pa_cons (pv 1) pa_nil))) (pe_one (pe_fn (ok_is_small_lot D) hr (pa_cons (pe_ix ix_tup (pv 0) pe_int (fun _ _ => rfl)) (pa_cons (pv 1) pa_nil))))))), ?_⟩
    exact sd_ret (evd_andV (b := true) (c := true) (evd_call (R := R_is_pair) (d := .bool true) (eva_cons (evd_var rfl h0) eva_nil) ⟨_, _, rfl, rfl⟩) fun _ => evd_andV (b := true) (c := true) (evd_call (R := R_is_small_row) (d := .bool true) (eva_cons (evd_ixT (evd_var rfl h0) evd_int (atI_nat (j := 0) rfl)) (eva_cons (evd_var rfl h1) eva_nil)) ⟨n, e.1, rfl, c0, c1.row, rfl⟩) fun _ => (evd_call (R := R_is_small_lot) (d := .bool true) (eva_cons (evd_ixT (evd_var rfl h0) evd_int (atI_nat (j := 1) rfl)) (eva_cons (evd_var rfl h1) eva_nil)) ⟨n, e.2, rfl, c0, c1.lot, rfl⟩)) k
def R_bad_part : List PyData → PyData → Prop := fun ds_ res_ => ∃ (n : Nat) (es : List Ent), ds_ = [dNat n, dLots es] ∧ LotsOk n es ∧ res_ = .none
theorem sc_bad_part : FnScope ["many", "lots", "number", "thing"] ["many", "lots"] (defScope s_bad_part) := ⟨rfl, rfl, rfl, by decide +kernel, rfl, by decide +kernel, by decide +kernel⟩
theorem ok_bad_part (D : Defs K mg) : FnIs P w K mg base 6 "bad_part" ["many", "lots"] (spD R_bad_part) := by
  refine D.d_bad_part.ok sc_bad_part (fun _ _ _ _ _ _ us hl => match us, hl with | [_, _], _ => rfl) (spD_len fun ds r h => ?_) (fun f cdv A outer s H vs Q E hr h => ?_)
  · obtain ⟨_, _, rfl, _⟩ := h
    rfl
  · obtain ⟨_, _, hd, ⟨n, es, rfl, c, rfl⟩, k⟩ := h
    obtain ⟨v0, _, rfl, h0, v1, _, rfl, h1, rfl⟩ := hd
    obtain ⟨tMOTS, mMOTS⟩ := D.blt.c_MOST_INPUTS
    have hu := Nat.lt_of_le_of_lt (Nat.le_add_right _ 64) hr.units
    refine ⟨_, pss_cons (ps_if (pt_not (pt_val (pe_fn (ok_is_many D) hr (pa_cons (pv 0) pa_nil)))) pss_never pss_nil) (pss_cons (ps_if (pt_not (pt_val (pe_fn (ok_is_sized D) hr (pa_cons (pv 1) (pa_cons pe_int (pa_cons (pe_glob (v := .int 60) (by rfl) mMOTS ⟨_, rfl⟩) pa_nil)))))) pss_never pss_nil) (pss_cons (ps_for PassesOwn.never rfl (pi_enumT (by rfl) D.blt.b_enumerate (pa_cons (pv 1) pa_nil)) (pg_tup rfl (pgs_cons (pg_name (i := 2) sc_bad_part.nd rfl (Or.inl rfl)) (pgs_cons (pg_name (i := 3) sc_bad_part.nd rfl (Or.inl rfl)) pgs_nil))) (pss_one (ps_if (PW.pt (pw_or (pt_not (pt_val (pe_fn (ok_is_inputs_with_lot D) hr (pa_cons (pv 3) (pa_cons (pv 0) pa_nil))))) (pw_or1 (PW.pt (pw_and (pt_cmpR op_gt (pv 2) pe_int (nomark _)) (pw_and1 (pt_not (pt_cmpR (op_ltT hu) (pe_ix ix_tup (pe_ix ix_tup (pv 1) (pe_op op_sub (pv 2) pe_int) (fun _ _ => rfl)) pe_int (fun _ _ => rfl)) (pe_ix ix_tup (pv 3) pe_int (fun _ _ => rfl)) (nomark _))))))))) pss_never pss_nil))) (pss_one (ps_ret pe_non)))), ?_⟩
    obtain ⟨n3, n5, m1, m2, each, _, rise⟩ := c
    have hl : (es.map dEnt).length = es.length := List.length_map _
    refine sd_ok (evt_B (evd_call (R := R_is_many) (d := .bool true) (eva_cons (evd_var rfl h0) eva_nil) ⟨n, rfl, by omega, by omega, rfl⟩)) fun H1 e1 => sd_ok (evt_B (evd_call (R := R_is_sized) (d := .bool true) (eva_cons (evd_var rfl (h1.same e1)) (eva_cons evd_int (eva_cons evd_int eva_nil))) ⟨_, 1, 60, rfl, by omega, by omega, rfl⟩)) fun H2 e2 => ?_
    have e := e1.trans e2
    refine sd_for (ds := (es.map dEnt).mapIdx fun i d => .tuple [dNat i, d]) (evw_enum (eva_cons (evd_var rfl (h1.same e)) eva_nil)) fun H3 e3 => ⟨fun i σ' H' => Same H3 H' ∧ ∃ a b, σ' = [some v0, some v1, a, b], ⟨Same.refl _, _, _, rfl⟩, fun i σ' H' _ p => p.1, fun i d v σ' H' H'' hd ⟨p1, a, b, p2⟩ e5 hv => ?_, fun σ' H' ⟨p1, _⟩ => by
      dsimp only
      exact sd_ret evd_non fun v H4 e4 hv => k v H4 ((e.trans e3).trans (p1.trans e4)) hv⟩
    subst p2
    rw [List.getElem?_mapIdx, List.getElem?_map] at hd
    cases he : es[i]? with
    | none => rw [he] at hd; cases hd
    | some ent =>
      rw [he] at hd
      have hd : some (PyData.tuple [dNat i, dEnt ent]) = some d := hd
      cases hd
      have e6 := ((e.trans e3).trans p1).trans e5
      refine pair_tg hv fun x y hx hy => ?_
      refine sd_if (b := false) (evt_or (b := false) (c := false) (evt_not (b := true) (evt_B (evd_call (R := R_is_inputs_with_lot) (d := .bool true) (eva_cons (evd_var rfl hy) (eva_cons (evd_var rfl (h0.same e6)) eva_nil)) ⟨n, ent, rfl, n5, each ent (List.mem_of_getElem? he), rfl⟩))) fun _ => ?_) (fun z => nomatch z) fun _ H4 e4 => ⟨(p1.trans e5).trans e4, _, _, rfl⟩
      refine (evt_and (b := decide ((0 : Int) < (i : Int))) (c := false) (evt_test (evd_gt (evd_var rfl hx) evd_int)) fun hi => ?_).is (Bool.and_false _)
      have hi : (0 : Int) < (i : Int) := of_decide_eq_true hi
      obtain ⟨j, rfl⟩ : ∃ j, i = j + 1 := ⟨i - 1, by omega⟩
      have hj : j < es.length := by
        have := (List.getElem?_eq_some_iff.mp he).1
        omega
      have hr2 := rise j es[j] ent (List.getElem?_eq_getElem hj) he
      refine evt_not (b := true) (evt_test ((evd_ltRow (ns := es[j].1) (ms := ent.1) ?_ ?_).is (by rw [hr2])))
      · refine evd_ixT (ds := [dRow es[j].1, dLot es[j].2]) (evd_ixT (i := ((j + 1 : Nat) : Int) - 1) (ds := es.map dEnt) (evd_var rfl (h1.same e6)) (evd_sub (evd_var rfl hx) evd_int) ?_) evd_int (atI_nat (j := 0) rfl)
        rw [show ((j + 1 : Nat) : Int) - 1 = (j : Int) by omega]
        refine atI_nat ?_
        rw [List.getElem?_map, List.getElem?_eq_getElem hj]
        rfl
      · exact evd_ixT (evd_var rfl hy) evd_int (atI_nat (j := 0) rfl)
/-- the row without the place i -/
def dele (i : Nat) (ns : List Int) : List Int := ns.take i ++ ns.drop (i + 1)
abbrev dRest (i : Nat) (ns : List Int) : PyData := .tuple [dNat i, dRow ns]
def R_raw_rest : List PyData → PyData → Prop := fun ds_ res_ => ∃ (ns : List Int) (i : Nat), ds_ = [dRow ns, dNat i] ∧ ns.length ≤ 100 ∧ res_ = dRest i (dele i ns)
theorem sc_raw_rest : FnScope ["row", "i"] ["row", "i"] (defScope s_raw_rest) := ⟨rfl, rfl, rfl, by decide +kernel, rfl, by decide +kernel, by decide +kernel⟩
theorem ok_raw_rest (D : Defs K mg) : FnIs P w K mg base 1 "raw_rest" ["row", "i"] (spD R_raw_rest) := by
  refine D.d_raw_rest.ok sc_raw_rest (fun _ _ _ _ _ _ us hl => match us, hl with | [_, _], _ => rfl) (spD_len fun ds r h => ?_) (fun f cdv A outer s H vs Q E hr h => ?_)
  · obtain ⟨_, _, rfl, _⟩ := h
    rfl
  · obtain ⟨_, _, hd, ⟨ns, i, rfl, c, rfl⟩, k⟩ := h
    obtain ⟨v0, _, rfl, h0, v1, _, rfl, h1, rfl⟩ := hd
    refine ⟨_, pss_one (ps_ret (pe_tup (pa_cons (pv 1) (pa_cons (pe_op op_catA (pe_slice sl_tupA (pv 0) po_none (po_some (pv 1))) (pe_slice sl_tupA (pv 0) (po_some (pe_op op_add (pv 1) pe_int)) po_none)) pa_nil)))), ?_⟩
    have hh : dRow (dele i ns) = .tuple ((ns.map .int).take i ++ (ns.map .int).drop (i + 1)) := by
      show PyData.tuple ((ns.take i ++ ns.drop (i + 1)).map .int) = _
      rw [List.map_append, List.map_take, List.map_drop]
    refine sd_ret (evd_tup (ds := [dNat i, dRow (dele i ns)]) (eva_cons (evd_var rfl h1) (eva_cons ?_ eva_nil)) (show 2 ≤ sizeLine by decide)) k
    rw [hh]
    refine evd_cat (evd_slT_take (n := i) (evd_var rfl h0) evo_none (evo_some (evd_var rfl h1))) (evd_slT_drop (n := i + 1) (evd_var rfl h0) (evo_some (i := ((i + 1 : Nat) : Int)) ?_) evo_none) ?_
    · exact (evd_add (evd_var rfl h1) evd_int).is (by congr 1)
    · rw [List.length_take, List.length_drop, List.length_map, sizeLine_eq]
      omega
end
end G98

/-! E5a: a dict of lists of rows, filled by setdefault(..).append(..). -/
namespace G98
open PySem PySem.Spec PyProof.Rows L2
def lv (kvs : KVA) (k : Ky) : Option V := (lk kvs k).map (·.2)
theorem lv_put (kvs : KVA) (k j : Ky) (a : Addr) (v : V) : lv (putN kvs k a v) j = if j = k then some v else lv kvs j := lk_put kvs k j a v
theorem lv_none {kvs : KVA} {k : Ky} : lv kvs k = none ↔ lk kvs k = none := by
  unfold lv
  cases lk kvs k <;> simp
theorem lv_of {kvs : KVA} {k : Ky} {a : Addr} {v : V} (h : lk kvs k = some (a, v)) : lv kvs k = some v := by
  unfold lv
  rw [h]
  rfl
theorem lk_of {kvs : KVA} {k : Ky} {v : V} (h : lv kvs k = some v) : ∃ a, lk kvs k = some (a, v) := by
  unfold lv at h
  cases e : lk kvs k with
  | none => rw [e] at h; cases h
  | some p => rw [e] at h; cases h; exact ⟨p.1, rfl⟩
/-- the rows that were kept under k -/
def hits (ps : List (Ky × List Int)) (k : Ky) : List (List Int) := (ps.filter fun q => decide (q.1 = k)).map (·.2)
theorem hits_app (ps : List (Ky × List Int)) (k j : Ky) (r : List Int) : hits (ps ++ [(k, r)]) j = if k = j then hits ps j ++ [r] else hits ps j := by
  unfold hits
  rw [List.filter_append, List.map_append, List.filter_cons]
  by_cases h : k = j
  · rw [if_pos (by simp [h]), if_pos h]
    rfl
  · rw [if_neg (by simp [h]), if_neg h]
    simp
theorem hits_nil {ps : List (Ky × List Int)} {k : Ky} : hits ps k = [] ↔ ∀ q ∈ ps, q.1 ≠ k := by
  unfold hits
  rw [List.map_eq_nil_iff, List.filter_eq_nil_iff]
  simp
theorem hits_len (ps : List (Ky × List Int)) (k : Ky) : (hits ps k).length ≤ ps.length := by
  unfold hits
  rw [List.length_map]
  exact List.length_filter_le _ _
/-- the dict at d holds the lists of ps -/
structure CompB (P : Program) (w : World) (H0 H : Hp) (d : Addr) (ps : List (Ky × List Int)) : Prop where
  same : Same H0 H
  d0 : H0 d = none
  ex : ∃ kvs, ND P w H d kvs ∧ kvs.length ≤ ps.length ∧ (∀ k, lv kvs k = none → hits ps k = []) ∧
    (∀ k v, lv kvs k = some v → hits ps k ≠ [] ∧ ∃ l vs, v = .ref l ∧ H0 l = none ∧ H l = some (.lst vs) ∧ DtL H ((hits ps k).map dRow) vs) ∧
    ∀ k k' l, lv kvs k = some (.ref l) → lv kvs k' = some (.ref l) → k = k'
theorem CompB.go {P : Program} {w : World} {H0 H H' : Hp} {d : Addr} {ps : List (Ky × List Int)} (C : CompB P w H0 H d ps) (e : Same H H') : CompB P w H0 H' d ps := by
  obtain ⟨s, d0, kvs, x, hl, h1, h2, h3⟩ := C
  refine ⟨s.trans e, d0, kvs, x.same e, hl, h1, fun k v hv => ?_, h3⟩
  obtain ⟨q0, l, vs, q1, q2, q3, q4⟩ := h2 k v hv
  exact ⟨q0, l, vs, q1, q2, e _ _ q3, q4.same e⟩
theorem noLs_rows (rs : List (List Int)) : noLs (rs.map dRow) = true := noLs_of fun d hd => by
  obtain ⟨r, _, rfl⟩ := List.mem_map.mp hd
  exact noL_row r
theorem nd_ext {P : Program} {w : World} {H : Hp} {d l : Addr} {kvs : KVA} {xs : List V} {o : HO} (x : ND P w H d kvs) (h : H l = some (.lst xs)) : ND P w (upd H l o) d kvs := by
  have hld : d ≠ l := fun z => by
    obtain ⟨_, _, e, _⟩ := x.at_
    rw [z, h] at e
    cases e
  refine x.ext (upd_ne hld) fun b ys e => ?_
  rw [upd_ne (fun z => by rw [z, h] at e; cases e)]
  exact e
/-- a key is given -/
def EvK (te : TE) (σ : L2.St) (H : Hp) (k : Ky) : Prop := ∀ H1, Same H H1 → ∀ Q : VK, (∀ a H2, Same H1 H2 → KyAt H2 k a → Q (.ref a) H2) → te σ H1 Q
theorem KyAt.same {H H' : Hp} {k : Ky} {a : Addr} (e : Same H H') (h : KyAt H k a) : KyAt H' k a := h.ext fun b xs q => e b _ q
theorem ky_rest {H : Hp} {i : Nat} {ns : List Int} {v : V} (h : Dt H (dRest i ns) v) : ∃ a, v = .ref a ∧ KyAt H (.rst i ns) a := by
  obtain ⟨a, vs, rfl, h1, x, r, rfl, hx, y, r2, rfl, hy, rfl⟩ := h
  obtain ⟨c, rfl, hc⟩ := Dt.row hy
  rw [show x = V.int i from hx] at h1
  exact ⟨a, rfl, c, h1, hc⟩
theorem ky_row {H : Hp} {ns : List Int} {v : V} (h : Dt H (dRow ns) v) : ∃ a, v = .ref a ∧ KyAt H (.row ns) a := Dt.row h
theorem EvD.rest {te : TE} {σ : L2.St} {H : Hp} {i : Nat} {ns : List Int} (h : EvD te σ H (dRest i ns)) : EvK te σ H (.rst i ns) := fun H1 e Q q => h H1 e _ fun v H2 e2 hv => by
  obtain ⟨a, rfl, hk⟩ := ky_rest hv
  exact q a H2 e2 hk
theorem EvD.rowK {te : TE} {σ : L2.St} {H : Hp} {ns : List Int} (h : EvD te σ H (dRow ns)) : EvK te σ H (.row ns) := fun H1 e Q q => h H1 e _ fun v H2 e2 hv => by
  obtain ⟨a, rfl, hk⟩ := ky_row hv
  exact q a H2 e2 hk
/-- found.setdefault(key, []).append(row) -/
theorem comp_step {P : Program} {w : World} {K : PySem.W.Frag} {H0 H : Hp} {d : Addr} {ps : List (Ky × List Int)} {σ : L2.St} {D : Ends} {i jx : Nat} {tk : TE} {vx : V} {k : Ky} {row : List Int} (C : CompB P w H0 H d ps) (hi : σ[i]? = some (some (.ref d))) (hk : EvK tk σ H k) (hjx : σ[jx]? = some (some vx)) (hx : Dt H (dRow row) vx) (hz : ps.length ≤ 10000)
    (q : ∀ H', CompB P w H0 H' d (ps ++ [(k, row)]) → Dt H' (dRow row) vx → D.nx σ H') : tDrop (tBM K "list" rAppend (tSetD P w (tVar i) (tCons tk (tCons (tLst tNil) tNil))) (tCons (tVar jx) tNil)) D σ H := by
  obtain ⟨kvs0, x0, _⟩ := C.ex
  refine ⟨_, hi, d, rfl, ⟨kvs0, x0⟩, hk H (Same.refl _) _ fun a H1 e1 ha => ⟨Nat.zero_le _, fun l0 hl0 => ?_⟩⟩
  have e2 : Same H1 (upd H1 l0 (.lst [])) := Same.new hl0
  have C2 := C.go (e1.trans e2)
  obtain ⟨kvs, x, hln, h1, h2, h3⟩ := C2.ex
  have l00 : H0 l0 = none := (C.same.trans e1).free hl0
  refine ⟨kvs, k, a, _, rfl, x, ha.same e2, Nat.lt_of_le_of_lt (Nat.le_trans hln hz) (by decide), fun b u hu => ?_, fun hn o x' => ?_⟩
  · obtain ⟨hne, l, vs, rfl, q2, q3, q4⟩ := h2 k u (lv_of hu)
    have hv := hx.same (e1.trans e2)
    refine ⟨.inl ⟨rfl, _, SqL.of q3⟩, vx, hjx, ?_⟩
    refine ⟨l, vs, vx, rfl, rfl, q3, ?_, q _ ⟨Same.mut C2.same q2, C.d0, kvs, nd_ext x q3, by rw [List.length_append]; omega, fun j hj => ?_, fun j v' hj => ?_, h3⟩ (Dt.upd (lst_tup q3) (noL_row _) hv)⟩
    · rw [q4.len, List.length_map]
      exact Nat.lt_of_le_of_lt (Nat.le_trans (hits_len ps k) hz) (by decide)
    · rw [hits_app, if_neg (fun z => by rw [← z, lv_of hu] at hj; cases hj)]
      exact h1 j hj
    · rw [hits_app]
      by_cases hkj : k = j
      · rw [if_pos hkj]
        refine ⟨by simp, l, vs ++ [vx], ?_, q2, upd_same, ?_⟩
        · rw [← hkj, lv_of hu] at hj
          exact (Option.some.inj hj).symm
        · rw [List.map_append, ← hkj]
          exact DtL.app (DtL.upd (lst_tup q3) (noLs_rows _) q4) (DtL.one (Dt.upd (lst_tup q3) (noL_row _) hv))
      · rw [if_neg hkj]
        obtain ⟨hne', l', vs', rfl, k2, k3, k4⟩ := h2 j v' hj
        have hll : l' ≠ l := fun z => hkj (h3 k j l (lv_of hu) (z ▸ hj))
        exact ⟨hne', l', vs', rfl, k2, by rw [upd_ne hll]; exact k3, DtL.upd (lst_tup q3) (noLs_rows _) k4⟩
  · have w1 : ∃ φ, (upd H1 l0 (.lst [])) d = some (.ext φ) := by
      obtain ⟨_, _, w1, _⟩ := x.at_
      exact ⟨_, w1⟩
    obtain ⟨φ, w1⟩ := w1
    have ld : l0 ≠ d := fun z => by
      rw [← z, upd_same] at w1
      cases w1
    have hD0 : ∀ vs, (upd H1 l0 (.lst [])) d ≠ some (.tup vs) := fun vs z => by
      rw [w1] at z
      cases z
    have hl3 : (upd (upd H1 l0 (.lst [])) d o) l0 = some (.lst []) := by rw [upd_ne ld, upd_same]
    have hv := Dt.upd (o := o) hD0 (noL_row row) (hx.same (e1.trans e2))
    have hkn : lv kvs k = none := lv_none.mpr hn
    have hh := h1 k hkn
    have notl0 : ∀ j l', lv kvs j = some (.ref l') → l' ≠ l0 := fun j l' hj z => by
      obtain ⟨hne, l, vs, k1, k2, k3, k4⟩ := h2 j _ hj
      cases k1
      rw [z, upd_same] at k3
      cases k3
      have := k4.len
      rw [List.length_map] at this
      exact hne (List.length_eq_zero_iff.mp this.symm)
    refine ⟨.inl ⟨rfl, [], SqL.of hl3⟩, vx, hjx, l0, [], vx, rfl, rfl, hl3, by decide, q _ ⟨?_, C.d0, putN kvs k a (.ref l0), nd_ext x' hl3, ?_, fun j hj => ?_, fun j v' hj => ?_, fun j j' l' hj hj' => ?_⟩ (Dt.upd (lst_tup hl3) (noL_row _) hv)⟩
    · exact Same.mut (Same.mut C2.same C.d0) l00
    · have := length_put kvs k a (.ref l0)
      rw [List.length_append]
      have : [(k, row)].length = 1 := rfl
      omega
    · rw [lv_put] at hj
      split at hj
      · cases hj
      · rename_i hjk
        rw [hits_app, if_neg (Ne.symm hjk)]
        exact h1 j hj
    · rw [lv_put] at hj
      rw [hits_app]
      split at hj
      · rename_i hjk
        cases hj
        rw [if_pos hjk.symm, hjk, hh]
        refine ⟨by simp, l0, [] ++ [vx], rfl, l00, upd_same, DtL.one (Dt.upd (lst_tup hl3) (noL_row _) hv)⟩
      · rename_i hjk
        rw [if_neg (Ne.symm hjk)]
        obtain ⟨hne', l', vs', rfl, k2, k3, k4⟩ := h2 j v' hj
        have hl'd : l' ≠ d := fun z => by rw [z, w1] at k3; cases k3
        exact ⟨hne', l', vs', rfl, k2, by rw [upd_ne (notl0 j l' hj), upd_ne hl'd]; exact k3, DtL.upd (lst_tup hl3) (noLs_rows _) (DtL.upd hD0 (noLs_rows _) k4)⟩
    · rw [lv_put] at hj hj'
      split at hj
      · cases hj
        split at hj'
        · rename_i z1 z2
          rw [z1, z2]
        · exact absurd rfl (notl0 j' _ hj')
      · split at hj'
        · cases hj'
          exact absurd rfl (notl0 j _ hj)
        · exact h3 j j' l' hj hj'
end G98

/-! D2: the classes, the makers of functions; how the end gives the facts. -/
namespace G98
open PySem PySem.Spec PyProof.Rows L2 NdefX LamX
structure TaskC (K : PySem.W.Frag) (mg : Str → Option Value) (C fI fK : Addr) (fdI fdK : FuncData) : Prop where
  cl : Cls K C
  nM : NoAttr K C "many"
  nL : NoAttr K C "lots"
  nK : NoAttr K C "kept_lots"
  nC : NoAttr K C "kept_completing"
  mgC : mg "Task" = some (.ref C)
  made : Mk K C fI
  FI : Fun K "__init__" "Task.__init__" s_Task_init fI fdI
  mK : Meth K C "keep" fK
  FK : Fun K "keep" "Task.keep" s_Task_keep fK fdK
structure FolkC (K : PySem.W.Frag) (mg : Str → Option Value) (C fI : Addr) (fdI : FuncData) : Prop where
  cl : Cls K C
  nR : NoAttr K C "rounds"
  nB : NoAttr K C "kept_begin"
  nS : NoAttr K C "kept_step"
  nA : NoAttr K C "kept_answer"
  mgC : mg "Folk" = some (.ref C)
  made : Mk K C fI
  FI : Fun K "__init__" "Folk.__init__" s_Folk_init fI fdI
/-- a def that hands back its own defs -/
structure MakerIs (K : PySem.W.Frag) (mg : Str → Option Value) (x : Str) (st : Stmt) (c T : Addr) : Prop where
  ex : ∃ (f : Addr) (fd : FuncData), Fun K x x st f fd ∧ fd.code = .ref c ∧ mg x = some (.ref f)
  hd : PySem.W.codeHdIn K c T = true
  lo : K.lookup T = none
structure Top (K : PySem.W.Frag) (mg : Str → Option Value) : Prop where
  defs : Defs K mg
  task : ∃ C fI fK fdI fdK, TaskC K mg C fI fK fdI fdK
  folk : ∃ C fI fdI, FolkC K mg C fI fdI
  m1 : ∃ c, MakerIs K mg "_law_folk" s_law_folk c 550
  m2 : ∃ c, MakerIs K mg "_law_answerers" s_law_answerers c 565
  law : FunIs K mg "law" s_law
section
variable {K : PySem.W.Frag} {mg : Str → Option Value} {h : Heap} {x qual : Str} {st : Stmt} {f c T C fI : Addr} {oc : Value} {od an : Option Addr} {osl : Array (Option Value)} {kV doc pm cdv ct : Value}
theorem NoAttr.of {y : Str} (e : PySem.W.findIn K (.ref C) y = some none) : NoAttr K C y := e
theorem Top.of (_ : K.In h) (_ : h.Ns mainGlobals mg) (t : Top K mg) : Top K mg := t
theorem FunIs.of (X : K.In h) (G : h.Ns mainGlobals mg) (a : PySem.W.nsIn K mainGlobals x = some (some (.ref f))) (l : K.lookup f = some ⟨oc, od, .func (PySem.W.fnOf x x (defArgs st) (defBody st) (defScope st) .none kV doc pm an cdv ct), osl⟩)
    (c : PySem.W.codeIn K cdv x = true) (k : PySem.W.keepIn K (.ref f) = true) : FunIs K mg x st := ⟨f, _, fun_mk l c k, PySem.W.mg_of X G a⟩
theorem MakerIs.of (X : K.In h) (G : h.Ns mainGlobals mg) (a : PySem.W.nsIn K mainGlobals x = some (some (.ref f))) (l : K.lookup f = some ⟨oc, od, .func (PySem.W.fnOf x x (defArgs st) (defBody st) (defScope st) .none kV doc pm an (.ref c) ct), osl⟩)
    (cc : PySem.W.codeIn K (.ref c) x = true) (k : PySem.W.keepIn K (.ref f) = true) (hd : PySem.W.codeHdIn K c T = true) (lo : K.lookup T = none) : MakerIs K mg x st c T := ⟨⟨f, _, fun_mk l cc k, rfl, PySem.W.mg_of X G a⟩, hd, lo⟩
theorem fun_mk' (l : K.lookup f = some ⟨oc, od, .func (PySem.W.fnOf x qual (defArgs st) (defBody st) (defScope st) .none kV doc pm an cdv ct), osl⟩)
    (c : PySem.W.codeIn K cdv qual = true) (k : PySem.W.keepIn K (.ref f) = true) : Fun K x qual st f (PySem.W.fnOf x qual (defArgs st) (defBody st) (defScope st) .none kV doc pm an cdv ct) := fun_mk l c k
theorem mgi_of {i : Int} {t : Tok} (X : K.In h) (G : h.Ns mainGlobals mg) (a : PySem.W.nsIn K mainGlobals x = some (some (.int i t))) : ∃ t, mg x = some (.int i t) := ⟨t, PySem.W.mg_of X G a⟩
theorem Cls.of (pg : PySem.W.plainGet K C Str.empty = true) (hd : PySem.W.hasDictIn K C = true) (po : PySem.W.plainOver K C = true) (sa : PySem.W.findIn K (.ref C) "__setattr__" = some (some (.builtin "object.__setattr__"))) : Cls K C := ⟨pg, hd, po, sa⟩
theorem Mk.of (a : PySem.W.findIn K (.ref C) "__init__" = some (some (.ref f))) (m : PySem.W.makesIn K C = true) (i : PySem.W.isFn K (.ref f) = true) (k : PySem.W.keepIn K (.ref C) = true) : Mk K C f := ⟨m, a, i, k⟩
theorem Meth.of {m : Str} (a : PySem.W.findIn K (.ref C) m = some (some (.ref f))) (i : PySem.W.isFn K (.ref f) = true) (k : PySem.W.keepIn K (.ref f) = true) : Meth K C m f := ⟨a, i, k⟩
end
end G98

/-! E5: tasks. -/
namespace G98
open PySem PySem.Spec PyProof.Rows L2
section
variable {P : Program} {w : World} {K : PySem.W.Frag} {mg : Str → Option Value} {base : Heap}
/-- what is kept of the lots: each row under each of its rests -/
def prs (n : Nat) (es : List Ent) : List (Ky × List Int) := es.flatMap fun e => (List.range n).map fun (i : Nat) => (Ky.rst i (dele i e.1), e.1)
theorem prs_snoc (n : Nat) (es : List Ent) (e : Ent) : prs n (es ++ [e]) = prs n es ++ (List.range n).map fun (i : Nat) => (Ky.rst i (dele i e.1), e.1) := by
  unfold prs
  rw [List.flatMap_append, List.flatMap_cons, List.flatMap_nil, List.append_nil]
theorem prs_len (n : Nat) (es : List Ent) : (prs n es).length = es.length * n := by
  induction es with
  | nil => exact (Nat.zero_mul n).symm
  | cons e es ih =>
    unfold prs at ih ⊢
    rw [List.flatMap_cons, List.length_append, List.length_map, List.length_range, ih, List.length_cons, Nat.succ_mul, Nat.add_comm]
theorem prs_take {n : Nat} {es : List Ent} {a : Nat} {e : Ent} (h : es[a]? = some e) : prs n (es.take (a + 1)) = prs n (es.take a) ++ (List.range n).map fun (i : Nat) => (Ky.rst i (dele i e.1), e.1) := by
  obtain ⟨ha, rfl⟩ := List.getElem?_eq_some_iff.mp h
  rw [List.take_succ_eq_append_getElem ha, prs_snoc]
theorem take_range (n i : Nat) (h : i < n) : (List.range n).take (i + 1) = (List.range n).take i ++ [i] := by
  have hl : i < (List.range n).length := by rw [List.length_range]; exact h
  rw [List.take_succ_eq_append_getElem hl, List.getElem_range]
def spCO (P : Program) (w : World) : Sp := fun vs H Q _ => ∃ n es, DtL H [dNat n, dLots es] vs ∧ LotsOk n es ∧ ∀ d H', CompB P w H H' d (prs n es) → Q (.ref d) H'
theorem sc_completing_of : FnScope ["many", "lots", "found", "inputs", "lot", "i"] ["many", "lots"] (defScope s_completing_of) := ⟨rfl, rfl, rfl, by decide +kernel, rfl, by decide +kernel, by decide +kernel⟩
theorem ok_completing_of (D : Defs K mg) : FnIs P w K mg base 2 "completing_of" ["many", "lots"] (spCO P w) := by
  refine D.d_completing_of.ok sc_completing_of (fun _ _ _ _ _ _ us hl => match us, hl with | [_, _], _ => rfl) (fun vs H Q E h => ?_) (fun f cdv A outer s H vs Q E hr h => ?_)
  · obtain ⟨_, _, hd, _⟩ := h
    exact hd.len
  · obtain ⟨n, es, hd, c, k⟩ := h
    obtain ⟨v0, _, rfl, h0, v1, _, rfl, h1, rfl⟩ := hd
    have c1 := c.n5
    have c2 := c.few
    refine ⟨_, pss_cons (ps_set (i := 2) sc_completing_of.nd rfl (Or.inl rfl) pe_nnew) (pss_cons (ps_for PassesOwn.never rfl (pi_tup (pv 1)) (pg_tup rfl (pgs_cons (pg_name (i := 3) sc_completing_of.nd rfl (Or.inl rfl)) (pgs_cons (pg_name (i := 4) sc_completing_of.nd rfl (Or.inl rfl)) pgs_nil)))
      (pss_one (ps_for PassesOwn.never rfl (pi_range1 (by rfl) D.blt.b_range (pa_cons (pv 0) pa_nil)) (pg_name (i := 5) sc_completing_of.nd rfl (Or.inl rfl)) (pss_one (ps_expr (pe_bm PySem.F.plainAttrs_list PySem.F.slot_list_append PySem.F.type_list_append mt_append (pe_setd hr.units (pv 2) (pa_cons (pe_fn (ok_raw_rest D) hr (pa_cons (pv 3) (pa_cons (pv 5) pa_nil))) (pa_cons (pe_lst pa_nil) pa_nil))) (pa_cons (pv 3) pa_nil))))))) (pss_one (ps_ret (pv 2)))), ?_⟩
    intro d od hd0 nd0
    have C0 : CompB P w H (upd H d od) d (prs n (es.take 0)) := ⟨Same.new hd0, hd0, [], nd0, Nat.le_refl _, fun _ _ => rfl, fun k v hv => (by cases (show (none : Option V) = some v from hv)), fun _ _ l hv => (by cases (show (none : Option V) = some (.ref l) from hv))⟩
    refine sd_forb (ds := es.map dEnt) (ewb_tup C0.same rfl h1) fun H2 e2 => ⟨fun a σ' H' => CompB P w H H' d (prs n (es.take a)) ∧ (∃ x y z, σ' = [some v0, some v1, some (.ref d), x, y, z]), ⟨C0.go e2, ⟨_, _, _, rfl⟩⟩, fun a σ' H' _ p => p.1.same, fun a dd v σ' H' H'' hdd ⟨C, ⟨x, y, z, p2⟩⟩ e5 hv => ?_, fun σ' H' ⟨C, ⟨x, y, z, p2⟩⟩ => ?_⟩
    · rw [List.getElem?_map] at hdd
      cases he : es[a]? with
      | none => rw [he] at hdd; cases hdd
      | some ent =>
        rw [he] at hdd
        cases (show some (dEnt ent) = some dd from hdd)
        subst p2
        refine pair_tg hv fun vr vl hvr hvl => ?_
        have hm := List.mem_of_getElem? he
        have hrow := (c.each ent hm).row.1
        have ha : a < es.length := (List.getElem?_eq_some_iff.mp he).1
        refine sd_forb (Hb := H) (ds := (List.range n).map dNat) (ewb_range (eva_cons (evd_var rfl (h0.same (C.same.trans e5))) eva_nil) (by omega)) fun H3 e3 => ⟨fun b σ' H4 => CompB P w H H4 d (prs n (es.take a) ++ ((List.range n).take b).map fun (i : Nat) => (Ky.rst i (dele i ent.1), ent.1)) ∧ (∃ z, σ' = [some v0, some v1, some (.ref d), some vr, some vl, z]) ∧ Dt H4 (dRow ent.1) vr, ⟨?_, ⟨_, rfl⟩, hvr.same e3⟩, fun b σ' H' _ p => p.1.same, fun b db vb σ' H4 H5 hdb ⟨C4, ⟨z4, p4⟩, hr4⟩ e6 hvb => ?_, fun σ' H4 ⟨C4, ⟨z4, p4⟩, _⟩ => ?_⟩
        · rw [List.take_zero, List.map_nil, List.append_nil]
          exact C.go (e5.trans e3)
        · subst p4
          have hb : b < n := by
            have := (List.getElem?_eq_some_iff.mp hdb).1
            rw [List.length_map, List.length_range] at this
            exact this
          rw [List.getElem?_map, List.getElem?_range hb] at hdb
          cases (show some (dNat b) = some db from hdb)
          have C5 := C4.go e6
          have hv5 := hr4.same e6
          refine comp_step (k := .rst b (dele b ent.1)) (row := ent.1) C5 rfl (EvD.rest (i := b) (evd_call (R := R_raw_rest) (d := dRest b (dele b ent.1)) (eva_cons (evd_var rfl hv5) (eva_cons (evd_var rfl hvb) eva_nil)) ⟨ent.1, b, rfl, by omega, rfl⟩)) rfl hv5 ?_ fun H6 C6 hv6 => ⟨?_, ⟨_, rfl⟩, hv6⟩
          · have q1 := prs_len n (es.take a)
            rw [List.length_append, List.length_map, List.length_take, List.length_range, q1, List.length_take]
            have : min a es.length * n ≤ 60 * 5 := Nat.mul_le_mul (by omega) c1
            omega
          · rw [take_range n b hb, List.map_append, ← List.append_assoc]
            exact C6
        · subst p4
          refine ⟨?_, ⟨_, _, _, rfl⟩⟩
          rw [prs_take he]
          have tn : (List.range n).take n = List.range n := List.take_of_length_le (by rw [List.length_range]; exact Nat.le_refl _)
          rw [List.length_map, List.length_range, tn] at C4
          exact C4
    · subst p2
      rw [List.length_map, List.take_length] at C
      exact ⟨_, rfl, k d H' C⟩
theorem nodup_at {α : Type} {l : List α} (h : l.Nodup) {i j : Nat} {x : α} (h1 : l[i]? = some x) (h2 : l[j]? = some x) : i = j := by
  have hp := List.pairwise_iff_getElem.mp h
  obtain ⟨hi, e1⟩ := List.getElem?_eq_some_iff.mp h1
  obtain ⟨hj, e2⟩ := List.getElem?_eq_some_iff.mp h2
  rcases Nat.lt_trichotomy i j with q | q | q
  · exact absurd (e1.trans e2.symm) (hp i j hi hj q)
  · exact q
  · exact absurd (e2.trans e1.symm) (hp j i hj hi q)
theorem map_at {α β : Type} {l : List α} {f : α → β} {i : Nat} (hi : i < l.length) : (l.map f)[i]? = some (f l[i]) := by
  rw [List.getElem?_map, List.getElem?_eq_getElem hi]
  rfl
/-- the dict at d gives each row's lot -/
def LotsB (P : Program) (w : World) (H : Hp) (d : Addr) (es : List Ent) : Prop := ∃ kvs, ND P w H d kvs ∧ kvs.length ≤ es.length ∧ ∀ e ∈ es, ∃ v, lv kvs (.row e.1) = some v ∧ Dt H (dLot e.2) v
theorem noL_lot (rs : List (List Int)) : noL (dLot rs) = true := noLs_rows rs
theorem noL_ent (e : Ent) : noL (dEnt e) = true := noLs_of (ds := [dRow e.1, dLot e.2]) fun d hd => by
  rcases List.mem_cons.mp hd with rfl | hd
  · exact noL_row _
  · rw [List.mem_singleton.mp hd]
    exact noL_lot _
theorem LotsB.go {P : Program} {w : World} {H H' : Hp} {d : Addr} {es : List Ent} (h : LotsB P w H d es) (e : Same H H') : LotsB P w H' d es := by
  obtain ⟨kvs, x, hl, h1⟩ := h
  exact ⟨kvs, x.same e, hl, fun q hq => let ⟨v, a, b⟩ := h1 q hq; ⟨v, a, b.same e⟩⟩
/-- an instance written at x matters to none of this -/
theorem ins_tup {H : Hp} {x C dx : Addr} {fs : List (Str × V)} (h : H x = some (.ins C dx fs)) : ∀ vs, H x ≠ some (.tup vs) := fun vs q => by
  rw [h] at q
  cases q
theorem nd_ins {P : Program} {w : World} {H : Hp} {d x C dx : Addr} {fs : List (Str × V)} {kvs : KVA} {o : HO} (n : ND P w H d kvs) (h : H x = some (.ins C dx fs)) : ND P w (upd H x o) d kvs := by
  have hld : d ≠ x := fun z => by
    obtain ⟨_, _, e, _⟩ := n.at_
    rw [z, h] at e
    cases e
  refine n.ext (upd_ne hld) fun b ys e => ?_
  rw [upd_ne (fun z => by rw [z, h] at e; cases e)]
  exact e
theorem LotsB.ins {P : Program} {w : World} {H : Hp} {d x C dx : Addr} {fs : List (Str × V)} {es : List Ent} {o : HO} (l : LotsB P w H d es) (h : H x = some (.ins C dx fs)) : LotsB P w (upd H x o) d es := by
  obtain ⟨kvs, n, hl, h1⟩ := l
  exact ⟨kvs, nd_ins n h, hl, fun q hq => let ⟨v, a, b⟩ := h1 q hq; ⟨v, a, Dt.upd (ins_tup h) (noL_lot _) b⟩⟩
theorem CompB.ins {P : Program} {w : World} {H0 H : Hp} {d x C dx : Addr} {fs : List (Str × V)} {ps : List (Ky × List Int)} {o : HO} (l : CompB P w H0 H d ps) (h : H x = some (.ins C dx fs)) : CompB P w (fun _ => none) (upd H x o) d ps := by
  obtain ⟨s, d0, kvs, n, hl, h1, h2, h3⟩ := l
  refine ⟨fun b u e => (nomatch e), rfl, kvs, nd_ins n h, hl, h1, fun k v hv => ?_, h3⟩
  obtain ⟨q0, l, vs, q1, q2, q3, q4⟩ := h2 k v hv
  exact ⟨q0, l, vs, q1, rfl, by rw [upd_ne (fun z => by rw [z, h] at q3; cases q3)]; exact q3, DtL.upd (ins_tup h) (noLs_rows _) q4⟩
def tfs (n : Nat) (vl : V) (d1 d2 : Addr) : List (Str × V) := putF "kept_completing" (.ref d2) (putF "kept_lots" (.ref d1) (putF "lots" vl (putF "many" (.int n) [])))
/-- a task of the lots es -/
def TaskAt (C : Addr) (P : Program) (w : World) (H : Hp) (a : Addr) (n : Nat) (es : List Ent) : Prop :=
  ∃ dx vl d1 d2, H a = some (.ins C dx (tfs n vl d1 d2)) ∧ Dt H (dLots es) vl ∧ LotsB P w H d1 es ∧ CompB P w (fun _ => none) H d2 (prs n es)
theorem TaskAt.go {C : Addr} {P : Program} {w : World} {H H' : Hp} {a : Addr} {n : Nat} {es : List Ent} (t : TaskAt C P w H a n es) (e : Same H H') : TaskAt C P w H' a n es := by
  obtain ⟨dx, vl, d1, d2, h1, h2, h3, h4⟩ := t
  exact ⟨dx, vl, d1, d2, e _ _ h1, h2.same e, h3.go e, h4.go e⟩
theorem noLs_ents (es : List Ent) : noLs (es.map dEnt) = true := noLs_of fun d hd => by
  obtain ⟨e, _, rfl⟩ := List.mem_map.mp hd
  exact noL_ent e
def spKeep (C : Addr) (P : Program) (w : World) : Sp := fun vs H Q _ => ∃ (H0 : Hp) (x dx : Addr) (vn vl : V) (n : Nat) (es : List Ent), vs = [.ref x, vn, vl] ∧ Same H0 H ∧ H0 x = none ∧ H x = some (.ins C dx []) ∧ DtL H0 [dNat n, dLots es] [vn, vl] ∧ LotsOk n es ∧ ∀ H', TaskAt C P w H' x n es → Same H0 H' → Q .non H'
theorem sc_Task_keep : FnScope ["self", "many", "lots", "inputs", "lot"] ["self", "many", "lots"] (defScope s_Task_keep) := ⟨rfl, rfl, rfl, by decide +kernel, rfl, by decide +kernel, by decide +kernel⟩
theorem ok_Task_keep {C fI fK : Addr} {fdI fdK : FuncData} (D : Defs K mg) (T : TaskC K mg C fI fK fdI fdK) : FnOk P w K mg base CX0 3 fK fdK ["self", "many", "lots"] (spKeep C P w) := by
  refine T.FK.ok sc_Task_keep (fun vs H Q E h => ?_) (fun cdv A outer s H vs Q E hr h => ?_)
  · obtain ⟨_, _, _, _, _, _, _, rfl, _⟩ := h
    rfl
  · obtain ⟨H0, x, dx, vn, vl, n, es, rfl, s0, hx0, hx, hd, c, k⟩ := h
    obtain ⟨_, _, hh, h0, _, _, hh1, h1, hh2⟩ := hd
    cases hh
    cases hh1
    cases hh2
    have hn0 : vn = V.int n := h0
    subst hn0
    refine ⟨_, pss_cons (ps_fld (pv 0) (pv 1) rfl) (pss_cons (ps_fld (pv 0) (pv 2) rfl)
      (pss_cons (ps_fld (pv 0) (pe_dcn (own := [("inputs", 3), ("lot", 4)]) (g := gTup K 2 (gCons (gName 3) (gCons (gName 4) gNil))) (tt := tYes) hr.units rfl sc_Task_keep.nd (pi_tup (pv 2)) (blkOk_by (N := ["self", "many", "lots", "inputs", "lot"]) (sc := defScope s_Task_keep) (by decide +kernel))
        (fun _ _ _ _ _ => pg_tup rfl (pgs_cons (pg_name (i := 3) sc_Task_keep.nd rfl (Or.inl rfl)) (pgs_cons (pg_name (i := 4) sc_Task_keep.nd rfl (Or.inl rfl)) pgs_nil))) (fun _ _ _ _ _ => pts_nil) (fun _ _ _ _ _ => pv 3) (fun _ _ _ _ _ => pv 4)) rfl)
      (pss_one (ps_fld (pv 0) (pe_fn (ok_completing_of D) hr (pa_cons (pv 1) (pa_cons (pv 2) pa_nil))) rfl)))), ?_⟩
    refine ⟨_, rfl, _, rfl, x, C, dx, [], rfl, hx, T.cl, T.nM, by decide, _, rfl, _, rfl, x, C, dx, _, rfl, upd_same, T.cl, T.nL, (by show 1 < 1000; decide), ?_⟩
    generalize hg : upd (upd H x (.ins C dx (putF "many" (.int n) []))) x (.ins C dx (putF "lots" vl (putF "many" (.int n) []))) = H2
    have e2 : Same H0 H2 := by
      rw [← hg]
      exact Same.mut (Same.mut s0 hx0) hx0
    have hx2 : H2 x = some (.ins C dx (putF "lots" vl (putF "many" (.int n) []))) := by
      rw [← hg]
      exact upd_same
    have hw : EvWb H0 (iTup K (tVar 2)) [some (.ref x), some (.int n), some vl, none, none] H2 (es.map dEnt) := ewb_tup e2 rfl h1
    dsimp only [tSeq, sFld, tDcN]
    refine hw _ fun J H3 G Y e3 W hG hY => ?_
    intro D od hD nD
    have hl : (es.map dEnt).length = es.length := List.length_map _
    have c2 := c.few
    refine dcn_it W (fun i H' => Same H3 H' ∧ LotsB P w H' D (es.take i)) ⟨Same.new hD, [], nD, Nat.zero_le _, fun e he => by rw [List.take_zero] at he; cases he⟩ (fun i H' _ ⟨s1, _⟩ => hG H' ((e2.trans e3).trans s1)) (fun i v H4 H5 hi ⟨s1, hL⟩ hy => ?_) fun H4 ⟨s1, hL⟩ => ?_
    · obtain ⟨s2, dd, hd1, hd2⟩ := hY i H4 v H5 hi ((e2.trans e3).trans s1) hy
      rw [hl] at hi
      have hi' : es[i]? = some es[i] := List.getElem?_eq_getElem hi
      rw [List.getElem?_map, hi'] at hd1
      cases (show some (dEnt es[i]) = some dd from hd1)
      refine pair_tg hd2 fun vr vt hvr hvt => ⟨rfl, ?_⟩
      dsimp only [tYes]
      rw [if_pos rfl]
      obtain ⟨a, rfl, hka⟩ := ky_row hvr
      obtain ⟨kvs, nk, hkl, hk⟩ := hL.go s2
      rw [List.length_take] at hkl
      have nD5 : ∀ ys, H5 D ≠ some (.tup ys) := fun ys z => by
        obtain ⟨_, _, e, _⟩ := nk.at_
        rw [e] at z
        cases z
      refine ⟨_, rfl, _, rfl, kvs, .row es[i].1, a, rfl, nk, hka, Nat.lt_of_le_of_lt (show kvs.length ≤ 60 by omega) (by decide), fun o no => ⟨Same.mut (s1.trans s2) hD, _, no, ?_, fun e he => ?_⟩⟩
      · have := length_put kvs (.row es[i].1) a vt
        rw [List.length_take]
        omega
      · rw [List.take_succ_eq_append_getElem hi] at he
        rw [lv_put]
        by_cases hee : e.1 = es[i].1
        · rw [if_pos (by rw [hee])]
          have : e = es[i] := by
            obtain ⟨j, hj, rfl⟩ := List.getElem_of_mem (List.mem_of_mem_take (show e ∈ es.take (i + 1) by rw [List.take_succ_eq_append_getElem hi]; exact he))
            have q3 : j = i := nodup_at c.nd ((map_at hj).trans (congrArg some hee)) (map_at hi)
            subst q3
            rfl
          rw [this]
          exact ⟨vt, rfl, Dt.upd nD5 (noL_lot _) hvt⟩
        · rw [if_neg (fun z => hee (by injection z))]
          rcases List.mem_append.mp he with he | he
          · obtain ⟨v, q1, q2⟩ := hk e he
            exact ⟨v, q1, Dt.upd nD5 (noL_lot _) q2⟩
          · exact absurd (by rw [List.mem_singleton.mp he]) hee
    · rw [hl, List.take_length] at hL
      have hx4 := s1 _ _ (e3 _ _ hx2)
      refine ⟨_, rfl, x, C, dx, _, rfl, hx4, T.cl, T.nK, (by show 2 < 1000; decide), ?_⟩
      have e4 : Same H0 (upd H4 x (.ins C dx (putF "kept_lots" (.ref D) (putF "lots" vl (putF "many" (.int n) []))))) := Same.mut ((e2.trans e3).trans s1) hx0
      have hL5 := hL.ins (o := .ins C dx (putF "kept_lots" (.ref D) (putF "lots" vl (putF "many" (.int n) [])))) hx4
      have hx5 : (upd H4 x (.ins C dx (putF "kept_lots" (.ref D) (putF "lots" vl (putF "many" (.int n) []))))) x = some (.ins C dx (putF "kept_lots" (.ref D) (putF "lots" vl (putF "many" (.int n) [])))) := upd_same
      generalize upd H4 x (.ins C dx (putF "kept_lots" (.ref D) (putF "lots" vl (putF "many" (.int n) [])))) = H5 at e4 hL5 hx5
      refine ⟨_, rfl, _, rfl, n, es, ⟨_, _, rfl, rfl, _, _, rfl, h1.same e4, rfl⟩, c, fun d2 H6 C6 => ?_⟩
      have hx6 := C6.same _ _ hx5
      refine ⟨_, rfl, x, C, dx, _, rfl, hx6, T.cl, T.nC, (by show 3 < 1000; decide), ?_⟩
      refine k _ ⟨dx, vl, D, d2, upd_same, Dt.upd (ins_tup hx6) (noLs_ents es) (h1.same (e4.trans C6.same)), (hL5.go C6.same).ins hx6, C6.ins hx6⟩ (Same.mut (e4.trans C6.same) hx0)
end
end G98

/-! E6: tasks. -/
namespace G98
open PySem PySem.Spec PyProof.Rows L2
section
variable {P : Program} {w : World} {K : PySem.W.Frag} {mg : Str → Option Value} {base : Heap}
/-- a value is given, nothing is changed -/
def EvX (te : TE) (σ : L2.St) (H : Hp) (v : V) : Prop := ∀ H1, Same H H1 → ∀ Q : VK, Q v H1 → te σ H1 Q
section
variable {σ : L2.St} {H H' : Hp} {ta tb te : TE} {d : PyData}
theorem EvX.dat {v : V} (h : EvX te σ H v) (hd : Dt H d v) : EvD te σ H d := fun H1 e Q q => h H1 e _ (q v H1 (Same.refl _) (hd.same e))
theorem evx_var {k : Nat} {v : V} (h : σ[k]? = some (some v)) : EvX (tVar k) σ H v := fun H1 e Q q => ⟨v, h, q⟩
theorem evx_fld {k : Nat} {a C dx : Addr} {fs : List (Str × V)} {f : Str} {v : V} (h : σ[k]? = some (some (.ref a))) (hi : H a = some (.ins C dx fs)) (c : Cls K C) (n : NoAttr K C f) (l : fs.lookup f = some v) : EvX (tFld K (tVar k) f) σ H v := fun H1 e Q q =>
  ⟨_, h, a, C, dx, fs, v, rfl, e _ _ hi, c, n, l, q⟩
theorem inV_ints (i : Int) : ∀ ns : List Int, inV (.int i) (ns.map .int) = decide (i ∈ ns)
  | [] => rfl
  | n :: ns => by
    show ((n == i) || inV (.int i) (ns.map .int)) = _
    rw [inV_ints i ns, Bool.eq_iff_iff, Bool.or_eq_true, beq_iff_eq, decide_eq_true_iff, decide_eq_true_iff, List.mem_cons]
    exact ⟨fun h => h.imp Eq.symm id, fun h => h.imp Eq.symm id⟩
theorem flat_ints (ns : List Int) : (ns.map V.int).all flatV = true := by
  rw [List.all_eq_true]
  intro x hx
  obtain ⟨n, _, rfl⟩ := List.mem_map.mp hx
  rfl
theorem evd_inI {i : Int} {ns : List Int} (ha : EvD ta σ H (.int i)) (hb : EvD tb σ H (dRow ns)) : EvD (tOp (rIn K false) ta tb) σ H (.bool (decide (i ∈ ns))) := fun H1 e Q q =>
  ha H1 e _ fun x H2 e2 hx => hb H2 (e.trans e2) _ fun y H3 e3 hy => by
    obtain ⟨a, rfl, h1⟩ := hy.row
    refine ⟨a, ns.map .int, rfl, .inr (SqT.of h1), by rw [show x = V.int i from hx]; rfl, flat_ints ns, q _ _ (e2.trans e3) ?_⟩
    rw [show x = V.int i from hx, if_neg (by decide), inV_ints]
    exact rfl
end
theorem tfs_many (n : Nat) (vl : V) (d1 d2 : Addr) : (tfs n vl d1 d2).lookup ("many" : Str) = some (.int n) := by
  unfold tfs
  rw [lookup_putF, if_neg (by decide +kernel), lookup_putF, if_neg (by decide +kernel), lookup_putF, if_neg (by decide +kernel), lookup_putF, if_pos rfl]
theorem tfs_lots (n : Nat) (vl : V) (d1 d2 : Addr) : (tfs n vl d1 d2).lookup ("lots" : Str) = some vl := by
  unfold tfs
  rw [lookup_putF, if_neg (by decide +kernel), lookup_putF, if_neg (by decide +kernel), lookup_putF, if_pos rfl]
theorem tfs_kl (n : Nat) (vl : V) (d1 d2 : Addr) : (tfs n vl d1 d2).lookup ("kept_lots" : Str) = some (.ref d1) := by
  unfold tfs
  rw [lookup_putF, if_neg (by decide +kernel), lookup_putF, if_pos rfl]
theorem tfs_kc (n : Nat) (vl : V) (d1 d2 : Addr) : (tfs n vl d1 d2).lookup ("kept_completing" : Str) = some (.ref d2) := by
  unfold tfs
  rw [lookup_putF, if_pos rfl]
theorem tfs_no (n : Nat) (vl : V) (d1 d2 : Addr) : (tfs n vl d1 d2).lookup ("keep" : Str) = none := by
  unfold tfs
  rw [lookup_putF, if_neg (by decide +kernel), lookup_putF, if_neg (by decide +kernel), lookup_putF, if_neg (by decide +kernel), lookup_putF, if_neg (by decide +kernel)]
  rfl
theorem sc_Task_init : FnScope ["self", "many", "lots", "part"] ["self", "many", "lots"] (defScope s_Task_init) := ⟨rfl, rfl, rfl, by decide +kernel, rfl, by decide +kernel, by decide +kernel⟩
theorem ok_Task_init {C fI fK : Addr} {fdI fdK : FuncData} (D : Defs K mg) (T : TaskC K mg C fI fK fdI fdK) : FnOk P w K mg base CX0 7 fI fdI ["self", "many", "lots"] (spKeep C P w) := by
  refine T.FI.ok sc_Task_init (fun vs H Q E h => ?_) (fun cdv A outer s H vs Q E hr h => ?_)
  · obtain ⟨_, _, _, _, _, _, _, rfl, _⟩ := h
    rfl
  · obtain ⟨H0, x, dx, vn, vl, n, es, rfl, s0, hx0, hx, hd, c, k⟩ := h
    have b : Binds K fdK ["self", "many", "lots"] [] := T.FK.binds fun _ _ _ _ _ _ us hl => match us, hl with | [_, _, _], _ => rfl
    refine ⟨_, pss_cons (ps_set (i := 3) sc_Task_init.nd rfl (Or.inl rfl) (pe_fn (ok_bad_part D) hr (pa_cons (pv 1) (pa_cons (pv 2) pa_nil)))) (pss_cons (ps_if (pt_cmp (pc_notN (pv 3))) pss_never pss_nil) (pss_one (ps_expr (pe_meth (pv 0) T.cl T.mK (ok_Task_keep D T) (hr.mono (by decide)) b .nil pass0 (pa_cons (pv 1) (pa_cons (pv 2) pa_nil)))))), ?_⟩
    have hd' := hd
    obtain ⟨_, _, hh, h0, _, _, hh1, h1, hh2⟩ := hd'
    cases hh
    cases hh1
    cases hh2
    refine evd_call (R := R_bad_part) (d := .none) (eva_cons (evd_var rfl (h0.same s0)) (eva_cons (evd_var rfl (h1.same s0)) eva_nil)) ⟨n, es, rfl, c, rfl⟩ H (Same.refl _) _ fun v H1 e1 hv => ?_
    refine sd_if (b := false) (evt_B (evd_notN (d := .none) (evd_var rfl hv))) (fun z => nomatch z) fun _ H2 e2 => ?_
    exact ⟨_, rfl, x, dx, [], rfl, e2 _ _ (e1 _ _ hx), rfl, _, rfl, _, rfl, H0, x, dx, vn, vl, n, es, rfl, (s0.trans e1).trans e2, hx0, e2 _ _ (e1 _ _ hx), hd, c, fun H' t e => k H' t e⟩
def R_is_rest : List PyData → PyData → Prop := fun ds_ res_ => ∃ (i : Nat) (ns : List Int), ds_ = [dRest i ns] ∧ 2 ≤ ns.length ∧ ns.length ≤ 4 ∧ i ≤ ns.length ∧ res_ = .bool true
theorem sc_is_rest : FnScope ["thing"] ["thing"] (defScope s_is_rest) := ⟨rfl, rfl, rfl, by decide +kernel, rfl, by decide +kernel, by decide +kernel⟩
theorem ok_is_rest (D : Defs K mg) : FnIs P w K mg base 3 "is_rest" ["thing"] (spD R_is_rest) := by
  refine D.d_is_rest.ok sc_is_rest (fun _ _ _ _ _ _ us hl => match us, hl with | [_], _ => rfl) (spD_len fun ds r h => ?_) (fun f cdv A outer s H vs Q E hr h => ?_)
  · obtain ⟨_, _, rfl, _⟩ := h
    rfl
  · obtain ⟨_, _, hd, ⟨i, ns, rfl, c1, c2, c3, rfl⟩, k⟩ := h
    obtain ⟨v0, _, rfl, h0, rfl⟩ := hd
    obtain ⟨tLERS, mLERS⟩ := D.blt.c_LEAST_OTHERS
    obtain ⟨tMORS, mMORS⟩ := D.blt.c_MOST_OTHERS
    refine ⟨_, pss_cons (ps_if (PW.pt (pw_or (pt_not (pt_val (pe_fn (ok_is_pair D) hr (pa_cons (pv 0) pa_nil)))) (pw_or1 (pt_not (pt_val (pe_fn (ok_is_sized D) hr (pa_cons (pe_ix ix_tup (pv 0) pe_int (fun _ _ => rfl)) (pa_cons (pe_glob (v := .int 2) (by rfl) mLERS ⟨_, rfl⟩) (pa_cons (pe_glob (v := .int 4) (by rfl) mMORS ⟨_, rfl⟩) pa_nil))))))))) pss_never pss_nil) (pss_one (ps_ret (pe_and (pe_fn (ok_is_row_of D) hr (pa_cons (pe_ix ix_tup (pv 0) pe_int (fun _ _ => rfl)) (pa_cons (pe_callB call_len_seq (by rfl) D.blt.b_len PySem.boot_len (pa_cons (pe_ix ix_tup (pv 0) pe_int (fun _ _ => rfl)) pa_nil)) pa_nil))) (pe_one (pe_fn (ok_is_within D) hr (pa_cons (pe_ix ix_tup (pv 0) pe_int (fun _ _ => rfl)) (pa_cons pe_int (pa_cons (pe_callB call_len_seq (by rfl) D.blt.b_len PySem.boot_len (pa_cons (pe_ix ix_tup (pv 0) pe_int (fun _ _ => rfl)) pa_nil)) pa_nil)))))))), ?_⟩
    have hl : (ns.map PyData.int).length = ns.length := List.length_map _
    refine sd_if (b := false) (evt_or (b := false) (c := false) (evt_not (b := true) (evt_B (evd_call (R := R_is_pair) (d := .bool true) (eva_cons (evd_var rfl h0) eva_nil) ⟨_, _, rfl, rfl⟩))) fun _ => evt_not (b := true) (evt_B (evd_call (R := R_is_sized) (d := .bool true) (eva_cons (evd_ixT (evd_var rfl h0) evd_int (atI_nat (j := 1) rfl)) (eva_cons evd_int (eva_cons evd_int eva_nil))) ⟨ns.map .int, 2, 4, rfl, by omega, by omega, rfl⟩))) (fun z => nomatch z) fun _ H1 e => ?_
    have h0 := h0.same e
    exact sd_ret (evd_andV (b := true) (c := true) (evd_call (R := R_is_row_of) (d := .bool true) (eva_cons (evd_ixT (evd_var rfl h0) evd_int (atI_nat (j := 1) rfl)) (eva_cons (evd_lenT (evd_ixT (evd_var rfl h0) evd_int (atI_nat (j := 1) rfl))) eva_nil)) ⟨ns, _, rfl, by omega, by omega, rfl⟩) fun _ => (evd_call (R := R_is_within) (d := .bool true) (eva_cons (evd_ixT (evd_var rfl h0) evd_int (atI_nat (j := 0) rfl)) (eva_cons evd_int (eva_cons (evd_lenT (evd_ixT (evd_var rfl h0) evd_int (atI_nat (j := 1) rfl))) eva_nil))) ⟨i, 0, _, rfl, by omega, by omega, rfl⟩)) fun v H2 e2 hv => k v H2 (e.trans e2) hv
/-- what the task at a holds -/
theorem TaskAt.get {C a : Addr} {P : Program} {w : World} {H : Hp} {n : Nat} {es : List Ent} (t : TaskAt C P w H a n es) : ∃ dx vl d1 d2, H a = some (.ins C dx (tfs n vl d1 d2)) ∧ Dt H (dLots es) vl ∧ LotsB P w H d1 es ∧ CompB P w (fun _ => none) H d2 (prs n es) := t
def spIRO (C : Addr) (P : Program) (w : World) : Sp := fun vs H Q _ => ∃ (a : Addr) (v : V) (n i : Nat) (es : List Ent) (ns : List Int), vs = [.ref a, v] ∧ TaskAt C P w H a n es ∧ Dt H (dRest i ns) v ∧ (2 ≤ ns.length ∧ ns.length ≤ 4 ∧ i ≤ ns.length) ∧ hits (prs n es) (.rst i ns) ≠ [] ∧ ∀ H', Same H H' → Q (.bl true) H'
theorem sc_is_rest_of : FnScope ["task", "thing"] ["task", "thing"] (defScope s_is_rest_of) := ⟨rfl, rfl, rfl, by decide +kernel, rfl, by decide +kernel, by decide +kernel⟩
theorem ok_is_rest_of (D : Defs K mg) {C fI fK : Addr} {fdI fdK : FuncData} (T : TaskC K mg C fI fK fdI fdK) : FnIs P w K mg base 4 "is_rest_of" ["task", "thing"] (spIRO C P w) := by
  refine D.d_is_rest_of.ok sc_is_rest_of (fun _ _ _ _ _ _ us hl => match us, hl with | [_, _], _ => rfl) (fun vs H Q E h => ?_) (fun f cdv A outer s H vs Q E hr h => ?_)
  · obtain ⟨_, _, _, _, _, _, rfl, _⟩ := h
    rfl
  · obtain ⟨a, v, n, i, es, ns, rfl, t, hv, ⟨c1, c2, c3⟩, hh, k⟩ := h
    refine ⟨_, pss_one (ps_ret (pe_and (pe_fn (ok_is_rest D) hr (pa_cons (pv 1) pa_nil)) (pe_one (pe_cmpR (op_inN hr.units) (pv 1) (pe_fld (pv 0) rfl) (by with_unfolding_all rfl))))), ?_⟩
    refine (evd_call (R := R_is_rest) (d := .bool true) (eva_cons (evd_var rfl hv) eva_nil) ⟨i, ns, rfl, c1, c2, c3, rfl⟩) H (Same.refl _) _ fun v1 H1 e1 hv1 => ?_
    have t1 := t.go e1
    have hb1 : v1 = .bl true := hv1
    subst hb1
    obtain ⟨dx, vl, d1, d2, g1, g2, g3, g4⟩ := t1
    refine ⟨true, rfl, ?_⟩
    rw [if_pos rfl]
    refine ⟨_, rfl, ?_⟩
    refine evx_fld (k := 0) rfl g1 T.cl T.nC (tfs_kc _ _ _ _) H1 (Same.refl _) _ ?_
    obtain ⟨av, rfl, hk⟩ := ky_rest (hv.same e1)
    obtain ⟨_, _, kvs, nd, _, z1, z2, _⟩ := g4
    refine ⟨d2, kvs, _, av, rfl, rfl, nd, hk, ?_⟩
    cases e : lk kvs (.rst i ns) with
    | none => exact absurd (z1 _ (lv_none.mpr e)) hh
    | some p => exact k H1 e1
def spCR (C : Addr) (P : Program) (w : World) : Sp := fun vs H Q _ => ∃ (a : Addr) (v : V) (n i : Nat) (es : List Ent) (ns : List Int), vs = [.ref a, v] ∧ TaskAt C P w H a n es ∧ Dt H (dRest i ns) v ∧ (2 ≤ ns.length ∧ ns.length ≤ 4 ∧ i ≤ ns.length) ∧ hits (prs n es) (.rst i ns) ≠ [] ∧ ∀ H', Same H H' → Q .non H'
theorem sc_check_rest : FnScope ["task", "thing"] ["task", "thing"] (defScope s_check_rest) := ⟨rfl, rfl, rfl, by decide +kernel, rfl, by decide +kernel, by decide +kernel⟩
theorem ok_check_rest (D : Defs K mg) {C fI fK : Addr} {fdI fdK : FuncData} (T : TaskC K mg C fI fK fdI fdK) : FnIs P w K mg base 5 "check_rest" ["task", "thing"] (spCR C P w) := by
  refine D.d_check_rest.ok sc_check_rest (fun _ _ _ _ _ _ us hl => match us, hl with | [_, _], _ => rfl) (fun vs H Q E h => ?_) (fun f cdv A outer s H vs Q E hr h => ?_)
  · obtain ⟨_, _, _, _, _, _, rfl, _⟩ := h
    rfl
  · obtain ⟨a, v, n, i, es, ns, rfl, t, hv, c, hh, k⟩ := h
    refine ⟨_, pss_one (ps_if (pt_not (pt_val (pe_fn (ok_is_rest_of D T) hr (pa_cons (pv 0) (pa_cons (pv 1) pa_nil))))) pss_never pss_nil), ?_⟩
    refine sd_ok (evt_B fun H1 e Q q => ?_) fun H1 e => k H1 e
    exact ⟨_, rfl, _, rfl, a, v, n, i, es, ns, rfl, t.go e, hv.same e, c, hh, fun H2 e2 => q _ H2 e2 rfl⟩
/-- the rows that fit a rest, as a new list -/
def spRC (C : Addr) (P : Program) (w : World) : Sp := fun vs H Q _ => ∃ (a : Addr) (v : V) (n i : Nat) (es : List Ent) (ns : List Int), vs = [.ref a, v] ∧ TaskAt C P w H a n es ∧ Dt H (dRest i ns) v ∧ hits (prs n es) (.rst i ns) ≠ [] ∧ ∀ v' H', Same H H' → Dt H' (.list ((hits (prs n es) (.rst i ns)).map dRow)) v' → Q v' H'
theorem sc_raw_completing : FnScope ["task", "rest"] ["task", "rest"] (defScope s_raw_completing) := ⟨rfl, rfl, rfl, by decide +kernel, rfl, by decide +kernel, by decide +kernel⟩
theorem ok_raw_completing (D : Defs K mg) {C fI fK : Addr} {fdI fdK : FuncData} (T : TaskC K mg C fI fK fdI fdK) : FnIs P w K mg base 1 "raw_completing" ["task", "rest"] (spRC C P w) := by
  refine D.d_raw_completing.ok sc_raw_completing (fun _ _ _ _ _ _ us hl => match us, hl with | [_, _], _ => rfl) (fun vs H Q E h => ?_) (fun f cdv A outer s H vs Q E hr h => ?_)
  · obtain ⟨_, _, _, _, _, _, rfl, _⟩ := h
    rfl
  · obtain ⟨a, v, n, i, es, ns, rfl, t, hv, hh, k⟩ := h
    refine ⟨_, pss_one (ps_ret (pe_callTy (T := "list") call_list_of (by rfl) D.blt.b_list (by decide +kernel) (pa_cons (pe_nget hr.units (pe_fld (pv 0) rfl) (pv 1) (fun _ _ => rfl)) pa_nil))), ?_⟩
    obtain ⟨dx, vl, d1, d2, g1, g2, g3, g4⟩ := t
    obtain ⟨av, rfl, hk⟩ := ky_rest hv
    obtain ⟨_, _, kvs, nd, _, z1, z2, _⟩ := g4
    dsimp only [tRet, tCB, tCons, tNGet]
    refine evx_fld (k := 0) rfl g1 T.cl T.nC (tfs_kc _ _ _ _) H (Same.refl _) _ ⟨_, rfl, ?_⟩
    cases e : lk kvs (.rst i ns) with
    | none => exact absurd (z1 _ (lv_none.mpr e)) hh
    | some p =>
      obtain ⟨_, l, vs, e2, _, e4, e5⟩ := z2 _ _ (lv_of (a := p.1) (v := p.2) e)
      refine ⟨d2, kvs, _, av, p.1, p.2, rfl, rfl, nd, hk, e, ?_⟩
      rw [e2]
      exact ⟨l, vs, rfl, .inl (SqL.of e4), fun l' hl => k _ _ (Same.new hl) ⟨l', vs, rfl, upd_same, e5.same (Same.new hl)⟩⟩
def spCP (C : Addr) (P : Program) (w : World) : Sp := fun vs H Q _ => ∃ (a : Addr) (v : V) (n i : Nat) (es : List Ent) (ns : List Int), vs = [.ref a, v] ∧ TaskAt C P w H a n es ∧ Dt H (dRest i ns) v ∧ (2 ≤ ns.length ∧ ns.length ≤ 4 ∧ i ≤ ns.length) ∧ hits (prs n es) (.rst i ns) ≠ [] ∧ ∀ v' H', Same H H' → Dt H' (.list ((hits (prs n es) (.rst i ns)).map dRow)) v' → Q v' H'
theorem sc_completing : FnScope ["task", "rest"] ["task", "rest"] (defScope s_completing) := ⟨rfl, rfl, rfl, by decide +kernel, rfl, by decide +kernel, by decide +kernel⟩
theorem ok_completing (D : Defs K mg) {C fI fK : Addr} {fdI fdK : FuncData} (T : TaskC K mg C fI fK fdI fdK) : FnIs P w K mg base 6 "completing" ["task", "rest"] (spCP C P w) := by
  refine D.d_completing.ok sc_completing (fun _ _ _ _ _ _ us hl => match us, hl with | [_, _], _ => rfl) (fun vs H Q E h => ?_) (fun f cdv A outer s H vs Q E hr h => ?_)
  · obtain ⟨_, _, _, _, _, _, rfl, _⟩ := h
    rfl
  · obtain ⟨a, v, n, i, es, ns, rfl, t, hv, c, hh, k⟩ := h
    refine ⟨_, pss_cons (ps_expr (pe_fn (ok_check_rest D T) hr (pa_cons (pv 0) (pa_cons (pv 1) pa_nil)))) (pss_one (ps_ret (pe_fn (ok_raw_completing D T) hr (pa_cons (pv 0) (pa_cons (pv 1) pa_nil))))), ?_⟩
    refine ⟨_, rfl, _, rfl, a, v, n, i, es, ns, rfl, t, hv, c, hh, fun H1 e1 => ?_⟩
    exact ⟨_, rfl, _, rfl, a, v, n, i, es, ns, rfl, t.go e1, hv.same e1, hh, fun v' H2 e2 h2 => k v' H2 (e1.trans e2) h2⟩
end
end G98

/-! E7a: dicts made by comprehensions, told by their keys. -/
namespace G98
open PySem PySem.Spec PyProof.Rows L2
section
variable {K : PySem.W.Frag} {P : Program} {w : World} {σ : L2.St} {H : Hp} {td tk te : TE}
/-- a dict is given whose keys are so -/
def EvN (P : Program) (w : World) (te : TE) (σ : L2.St) (H : Hp) (Φ : List Ky → Prop) : Prop := ∀ H1, Same H H1 → ∀ Q : VK, (∀ d kvs H2, Same H1 H2 → ND P w H2 d kvs → Φ (kvs.map (·.1)) → Q (.ref d) H2) → te σ H1 Q
theorem evd_lot {d1 : Addr} {es : List Ent} {e : Ent} (hd : EvX td σ H (.ref d1)) (hL : LotsB P w H d1 es) (he : e ∈ es) (hk : EvD tk σ H (dRow e.1)) : EvD (tNGet P w td tk) σ H (dLot e.2) := fun H1 s1 Q q => hd H1 s1 _ <| hk H1 s1 _ fun v H2 s2 hv => by
  obtain ⟨a, rfl, hka⟩ := ky_row hv
  obtain ⟨kvs, x, _, h⟩ := hL.go (s1.trans s2)
  obtain ⟨u, h1, h2⟩ := h e he
  obtain ⟨b, hb⟩ := lk_of h1
  exact ⟨d1, kvs, _, a, b, u, rfl, rfl, x, hka, hb, q u H2 s2 h2⟩
theorem keys_sub {kvs : KVA} {k : Ky} {a : Addr} {v : V} {Φ : Ky → Prop} (h : ∀ j ∈ kvs.map (·.1), Φ j) (hk : Φ k) : ∀ j ∈ (putN kvs k a v).map (·.1), Φ j := fun j hj => by
  rw [keys_put] at hj
  split at hj
  · exact h j hj
  · rcases List.mem_append.mp hj with hj | hj
    · exact h j hj
    · rw [List.mem_singleton.mp hj]
      exact hk
theorem evn_dc {α : Type} {wi : TI} {j : Nat} {vs : List Nat} {v0 : V} (xs : List α) (enc : α → PyData) (kf : α → Ky) (hw : EvW wi σ H (xs.map enc)) (hz : xs.length ≤ 1000) (hwp : ∀ x, wipe ((wipe σ vs).set j (some x)) vs = wipe σ vs)
    (hs : ∀ x v H1, x ∈ xs → Same H H1 → Dt H1 (enc x) v → EvK tk ((wipe σ vs).set j (some v)) H1 (kf x)) : EvN P w (tDcN P w wi (gName j) tYes tk (tC v0) vs) σ H (fun ks => ks.length ≤ xs.length ∧ ∀ k ∈ ks, ∃ x ∈ xs, k = kf x) := fun H0 e Q q => hw H0 e _ fun J H1 G Y e1 W hG hY => by
  intro D od hD nD
  have hl : (xs.map enc).length = xs.length := List.length_map _
  refine dcn_it W (fun i H' => Same H1 H' ∧ ∃ kvs, ND P w H' D kvs ∧ kvs.length ≤ i ∧ ∀ k ∈ kvs.map (·.1), ∃ x ∈ xs, k = kf x) ⟨Same.new hD, [], nD, Nat.le_refl _, fun k hk => by cases hk⟩ (fun i H' _ ⟨s1, _⟩ => hG H' s1) (fun i x H2 H3 hi ⟨s1, kvs, hx, hln, hks⟩ hy => ?_) fun H' ⟨s1, kvs, hx, hln, hks⟩ => ?_
  · obtain ⟨s2, d, hd1, hd2⟩ := hY i H2 x H3 hi s1 hy
    rw [hl] at hi
    have e3 : d = enc xs[i] := by
      rw [List.getElem?_map, List.getElem?_eq_getElem hi] at hd1
      exact (Option.some.inj hd1).symm
    rw [e3] at hd2
    refine ⟨hwp x, ?_⟩
    dsimp only [tYes]
    rw [if_pos rfl]
    refine hs xs[i] x H3 (List.getElem_mem hi) ((e.trans e1).trans (s1.trans s2)) hd2 H3 (Same.refl _) _ fun a H4 s4 ha => ?_
    refine ⟨kvs, kf xs[i], a, rfl, hx.same (s2.trans s4), ha, Nat.lt_of_le_of_lt (show kvs.length ≤ 1000 by omega) (by decide), fun o no => ⟨Same.mut ((s1.trans s2).trans s4) hD, _, no, ?_, ?_⟩⟩
    · have := length_put kvs (kf xs[i]) a v0
      omega
    · exact keys_sub hks ⟨xs[i], List.getElem_mem hi, rfl⟩
  · rw [hl] at hln
    exact q D kvs H' (e1.trans s1) hx ⟨by rw [List.length_map]; exact hln, hks⟩
/-- {k: True for k in found if k in told} -/
theorem evn_both {jf jt jc : Nat} {vs : List Nat} {v0 : V} {d1 d2 : Addr} {k1 k2 : KVA} (h1 : ND P w H d1 k1) (h2 : ND P w H d2 k2) (hf : σ[jf]? = some (some (.ref d1))) (hwp : ∀ x, wipe ((wipe σ vs).set jc (some x)) vs = wipe σ vs) (hz : k1.length ≤ 1000)
    (ht : ∀ x, ((wipe σ vs).set jc (some x))[jt]? = some (some (.ref d2))) (hc : ∀ x, ((wipe σ vs).set jc (some x))[jc]? = some (some x)) :
    EvN P w (tDcN P w (iNKeys P w (tVar jf)) (gName jc) (tTest (tOp (rInN P w) (tVar jc) (tVar jt))) (tVar jc) (tC v0) vs) σ H (fun ks => ks.length ≤ k1.length ∧ ∀ k ∈ ks, k ∈ k1.map (·.1) ∧ k ∈ k2.map (·.1)) := fun H0 e Q q => by
  have n1 := h1.same e
  have n2 := h2.same e
  refine ⟨_, hf, d1, k1, rfl, n1, fun J W => ?_⟩
  intro D od hD nD
  obtain ⟨w1, w2, w3, _⟩ := n1.at_
  refine dcn_it W (fun i H' => Same H0 H' ∧ ∃ kvs, ND P w H' D kvs ∧ kvs.length ≤ i ∧ ∀ k ∈ kvs.map (·.1), k ∈ k1.map (·.1) ∧ k ∈ k2.map (·.1)) ⟨Same.new hD, [], nD, Nat.le_refl _, fun k hk => by cases hk⟩ (fun i H' _ ⟨s1, _⟩ => (s1 _ _ w3).trans w3.symm) (fun i x H2 H3 hi ⟨s1, kvs, hx, hln, hks⟩ hy => ?_) fun H' ⟨s1, kvs, hx, hln, hks⟩ => ?_
  · obtain ⟨rfl, ⟨k, a, u⟩, hp, rfl⟩ := hy
    have hka := (n1.same s1).keys _ (List.mem_of_getElem? hp)
    refine ⟨hwp _, ?_⟩
    refine ⟨_, hc _, _, ht _, d2, k2, k, a, rfl, rfl, n2.same s1, hka, _, rfl, ?_⟩
    rw [lk_isSome]
    by_cases hm : k ∈ k2.map (·.1)
    · rw [decide_eq_true hm]
      dsimp only
      rw [if_pos rfl]
      refine ⟨_, hc _, kvs, k, a, rfl, hx, hka, Nat.lt_of_le_of_lt (show kvs.length ≤ 1000 by omega) (by decide), fun o no => ⟨Same.mut s1 hD, _, no, ?_, ?_⟩⟩
      · have := length_put kvs k a v0
        omega
      · exact keys_sub hks ⟨List.mem_map.mpr ⟨_, List.mem_of_getElem? hp, rfl⟩, hm⟩
    · rw [decide_eq_false hm]
      dsimp only
      rw [if_neg (by decide)]
      exact ⟨s1, kvs, hx, Nat.le_succ_of_le hln, hks⟩
  · exact q D kvs H' s1 hx ⟨by rw [List.length_map]; exact hln, hks⟩
end
end G98

/-! E7: sure bars and plans. -/
namespace G98
open PySem PySem.Spec PyProof.Rows L2
section
variable {P : Program} {w : World} {K : PySem.W.Frag} {mg : Str → Option Value} {base : Heap}
/-- the rests -/
abbrev dR (k : Nat × List Int) : PyData := dRest k.1 k.2
def kyN : Ky → Nat × List Int
  | .rst i ns => (i.toNat, ns)
  | .row ns => (0, ns)
theorem prs_rst {n : Nat} {es : List Ent} {q : Ky × List Int} (h : q ∈ prs n es) : ∃ (i : Nat) (e : Ent), e ∈ es ∧ i < n ∧ q = (.rst i (dele i e.1), e.1) := by
  obtain ⟨e, he, h⟩ := List.mem_flatMap.mp h
  obtain ⟨i, hi, rfl⟩ := List.mem_map.mp h
  exact ⟨i, e, he, List.mem_range.mp hi, rfl⟩
theorem hits_ne {ps : List (Ky × List Int)} {k : Ky} : hits ps k ≠ [] ↔ ∃ q ∈ ps, q.1 = k := by
  rw [Ne, hits_nil]
  constructor
  · intro h
    refine Classical.byContradiction fun hn => h fun q hq e => hn ⟨q, hq, e⟩
  · rintro ⟨q, hq, e⟩ h
    exact h q hq e
structure RestsOf (n : Nat) (es : List Ent) (ks : List (Nat × List Int)) : Prop where
  mem : ∀ k, k ∈ ks ↔ hits (prs n es) (.rst k.1 k.2) ≠ []
  asc : ks.Pairwise fun x y => PySem.W.dataLt (dR y) (dR x) = false
  few : ks.length ≤ 1000
def spRR (C : Addr) (P : Program) (w : World) : Sp := fun vs H Q _ => ∃ (a : Addr) (n : Nat) (es : List Ent), vs = [.ref a] ∧ TaskAt C P w H a n es ∧ (prs n es).length ≤ 1000 ∧ ∀ v' H' ks, Same H H' → Dt H' (.list (ks.map dR)) v' → RestsOf n es ks → Q v' H'
theorem sc_raw_rests : FnScope ["task"] ["task"] (defScope s_raw_rests) := ⟨rfl, rfl, rfl, by decide +kernel, rfl, by decide +kernel, by decide +kernel⟩
theorem ok_raw_rests (D : Defs K mg) {C fI fK : Addr} {fdI fdK : FuncData} (T : TaskC K mg C fI fK fdI fdK) : FnIs P w K mg base 1 "raw_rests" ["task"] (spRR C P w) := by
  refine D.d_raw_rests.ok sc_raw_rests (fun _ _ _ _ _ _ us hl => match us, hl with | [_], _ => rfl) (fun vs H Q E h => ?_) (fun f cdv A outer s H vs Q E hr h => ?_)
  · obtain ⟨_, _, _, rfl, _⟩ := h
    rfl
  · obtain ⟨a, n, es, rfl, t, hz, k⟩ := h
    refine ⟨_, pss_one (ps_ret (pe_callB (id := "sorted") (cr_sortN rfl hr.units) (by rfl) D.blt.b_sorted (by decide +kernel) (pa_cons (pe_fld (pv 0) rfl) pa_nil))), ?_⟩
    obtain ⟨dx, vl, d1, d2, g1, g2, g3, g4⟩ := t
    obtain ⟨_, _, kvs, nd, hln, z1, z2, _⟩ := g4
    dsimp only [tRet, tCB, tCons]
    refine evx_fld (k := 0) rfl g1 T.cl T.nC (tfs_kc _ _ _ _) H (Same.refl _) _ ?_
    have hkey : ∀ j, j ∈ kvs.map (·.1) ↔ hits (prs n es) j ≠ [] := fun j => by
      have q := lk_isSome (kvs := kvs) (k := j)
      constructor
      · intro hj
        rw [decide_eq_true hj] at q
        obtain ⟨p, hp⟩ := Option.isSome_iff_exists.mp q
        exact (z2 j p.2 (lv_of (a := p.1) hp)).1
      · intro hj
        by_cases hm : j ∈ kvs.map (·.1)
        · exact hm
        · rw [decide_eq_false hm] at q
          refine absurd (z1 j (lv_none.mpr ?_)) hj
          cases e : lk kvs j with
          | none => rfl
          | some p => rw [e] at q; cases q
    have hform : ∀ j ∈ kvs.map (·.1), ∃ (i : Nat) (ns : List Int), j = .rst i ns := fun j hj => by
      obtain ⟨q, hq, rfl⟩ := hits_ne.mp ((hkey j).mp hj)
      obtain ⟨i, e, _, _, rfl⟩ := prs_rst hq
      exact ⟨i, _, rfl⟩
    refine ⟨d2, kvs, rfl, nd, .inr fun j hj => (let ⟨i, ns, e⟩ := hform j hj; ⟨i, ns, e⟩), fun out p perm asc hp => ?_⟩
    have hout : ∀ q ∈ out, ∃ (i : Nat) (ns : List Int), q.1 = .rst i ns ∧ KyAt H q.1 q.2 := fun q hq => by
      obtain ⟨u, hu, rfl⟩ := List.mem_map.mp (perm.mem_iff.mp hq)
      obtain ⟨i, ns, e⟩ := hform u.1 (List.mem_map.mpr ⟨u, hu, rfl⟩)
      exact ⟨i, ns, e, nd.keys u hu⟩
    have hkd : ∀ q ∈ out, dR (kyN q.1) = q.1.data := fun q hq => by
      obtain ⟨i, ns, e, _⟩ := hout q hq
      rw [e]
      show dRest (Int.toNat (i : Int)) ns = _
      rw [Int.toNat_natCast]
      rfl
    refine k _ _ (out.map fun q => kyN q.1) (Same.new hp) ⟨p, _, rfl, upd_same, ?_⟩ ⟨fun kk => ?_, ?_, ?_⟩
    · have : ∀ l : List (Ky × Addr), (∀ q ∈ l, q ∈ out) → DtL (upd H p (.lst (out.map fun q => V.ref q.2))) ((l.map fun q => kyN q.1).map dR) (l.map fun q => V.ref q.2) := fun l => by
        induction l with
        | nil => exact fun _ => rfl
        | cons q l ih =>
          intro hm
          refine ⟨_, _, rfl, ?_, ih fun x hx => hm x (List.mem_cons_of_mem _ hx)⟩
          obtain ⟨i, ns, e, hk⟩ := hout q (hm q List.mem_cons_self)
          rw [hkd q (hm q List.mem_cons_self)]
          rw [e] at hk
          rw [e]
          obtain ⟨r, r1, r2⟩ := hk.same (Same.new hp)
          exact ⟨q.2, _, rfl, r1, _, _, rfl, rfl, DtL.one (Dt.ofRow r2)⟩
      exact this out fun _ h => h
    · have hm : ∀ j, j ∈ out.map (·.1) ↔ j ∈ kvs.map (·.1) := fun j => by
        have := (perm.map (·.1)).mem_iff (a := j)
        rw [List.map_map] at this
        exact this
      constructor
      · intro hk
        obtain ⟨q, hq, rfl⟩ := List.mem_map.mp hk
        obtain ⟨i, ns, e, _⟩ := hout q hq
        have := (hkey q.1).mp ((hm q.1).mp (List.mem_map.mpr ⟨q, hq, rfl⟩))
        rw [e] at this ⊢
        show hits (prs n es) (.rst (Int.toNat (i : Int) : Nat) ns) ≠ []
        rw [Int.toNat_natCast]
        exact this
      · intro hk
        obtain ⟨q, hq, e⟩ := List.mem_map.mp ((hm _).mpr ((hkey _).mpr hk))
        refine List.mem_map.mpr ⟨q, hq, ?_⟩
        rw [e]
        show (Int.toNat (kk.1 : Int), kk.2) = kk
        rw [Int.toNat_natCast]
    · rw [List.pairwise_map]
      have := List.pairwise_map.mp asc
      refine List.Pairwise.imp_of_mem (fun {x y} hx hy h => ?_) this
      rw [hkd x hx, hkd y hy]
      exact h
    · rw [List.length_map, perm.length_eq, List.length_map]
      omega
def spCS (C : Addr) (P : Program) (w : World) : Sp := fun vs H Q _ => ∃ (a : Addr) (v : V) (n : Nat) (es : List Ent) (ss : List Int), vs = [.ref a, v] ∧ TaskAt C P w H a n es ∧ Dt H (dRow ss) v ∧ (∀ s ∈ ss, 0 ≤ s ∧ s < (n : Int)) ∧ riseI ss ∧ ss.length ≤ 100 ∧ ss.length ≠ n ∧ ∀ H', Same H H' → Q .non H'
theorem sc_check_some : FnScope ["task", "some"] ["task", "some"] (defScope s_check_some) := ⟨rfl, rfl, rfl, by decide +kernel, rfl, by decide +kernel, by decide +kernel⟩
theorem ok_check_some (D : Defs K mg) {C fI fK : Addr} {fdI fdK : FuncData} (T : TaskC K mg C fI fK fdI fdK) : FnIs P w K mg base 4 "check_some" ["task", "some"] (spCS C P w) := by
  refine D.d_check_some.ok sc_check_some (fun _ _ _ _ _ _ us hl => match us, hl with | [_, _], _ => rfl) (fun vs H Q E h => ?_) (fun f cdv A outer s H vs Q E hr h => ?_)
  · obtain ⟨_, _, _, _, _, rfl, _⟩ := h
    rfl
  · obtain ⟨a, v, n, es, ss, rfl, t, hv, c1, c2, c3, c4, k⟩ := h
    refine ⟨_, pss_one (ps_if (PW.pt (pw_or (pt_not (pt_val (pe_fn (ok_is_lot_below D) hr (pa_cons (pv 1) (pa_cons (pe_fld (pv 0) rfl) pa_nil))))) (pw_or1 (pt_cmpR op_eq (pe_callB call_len_seq (by rfl) D.blt.b_len PySem.boot_len (pa_cons (pv 1) pa_nil)) (pe_fld (pv 0) rfl) (nomark _))))) pss_never pss_nil), ?_⟩
    obtain ⟨dx, vl, d1, d2, g1, g2, g3, g4⟩ := t
    have hm : EvD (tFld K (tVar 0) "many") (L2.start ["task", "some"] [.ref a, v]) H (dNat n) := (evx_fld (k := 0) rfl g1 T.cl T.nM (tfs_many _ _ _ _)).dat rfl
    refine sd_if (b := false) (evt_or (b := false) (c := false) (evt_not (b := true) (evt_B (evd_call (R := R_is_lot_below) (d := .bool true) (eva_cons (evd_var rfl hv) (eva_cons hm eva_nil)) ⟨ss, n, rfl, c1, c2, c3, rfl⟩))) fun _ => evt_test ((evd_eqI (i := ((ss.map PyData.int).length : Int)) (j := (n : Int)) (evd_lenT (evd_var rfl hv)) hm).is ?_)) (fun z => nomatch z) fun _ H1 e => k H1 e
    rw [List.length_map, decide_eq_false (by omega)]
structure SomeRests (n : Nat) (es : List Ent) (ss : List Int) (ks : List (Nat × List Int)) : Prop where
  mem : ∀ k, k ∈ ks ↔ hits (prs n es) (.rst k.1 k.2) ≠ [] ∧ (k.1 : Int) ∈ ss
  asc : ks.Pairwise fun x y => PySem.W.dataLt (dR y) (dR x) = false
  few : ks.length ≤ 1000
theorem noL_dR (k : Nat × List Int) : noL (dR k) = true := noLs_of (ds := [dNat k.1, dRow k.2]) fun d hd => by
  rcases List.mem_cons.mp hd with rfl | hd
  · rfl
  · rw [List.mem_singleton.mp hd]
    exact noL_row _
def spRS (C : Addr) (P : Program) (w : World) : Sp := fun vs H Q _ => ∃ (a : Addr) (v : V) (n : Nat) (es : List Ent) (ss : List Int), vs = [.ref a, v] ∧ TaskAt C P w H a n es ∧ (prs n es).length ≤ 1000 ∧ Dt H (dRow ss) v ∧ ∀ v' H' ks, Same H H' → Dt H' (.list (ks.map dR)) v' → SomeRests n es ss ks → Q v' H'
theorem sc_rests_of_some : FnScope ["task", "some", "rest"] ["task", "some"] (defScope s_rests_of_some) := ⟨rfl, rfl, rfl, by decide +kernel, rfl, by decide +kernel, by decide +kernel⟩
theorem ok_rests_of_some (D : Defs K mg) {C fI fK : Addr} {fdI fdK : FuncData} (T : TaskC K mg C fI fK fdI fdK) : FnIs P w K mg base 2 "rests_of_some" ["task", "some"] (spRS C P w) := by
  refine D.d_rests_of_some.ok sc_rests_of_some (fun _ _ _ _ _ _ us hl => match us, hl with | [_, _], _ => rfl) (fun vs H Q E h => ?_) (fun f cdv A outer s H vs Q E hr h => ?_)
  · obtain ⟨_, _, _, _, _, rfl, _⟩ := h
    rfl
  · obtain ⟨a, v, n, es, ss, rfl, t, hz, hv, k⟩ := h
    refine ⟨_, pss_one (ps_ret (pe_lc (own := [("rest", 2)]) (g := gName 2) rfl sc_rests_of_some.nd (pi_list (pe_fn (ok_raw_rests D T) hr (pa_cons (pv 0) pa_nil))) (blkOk_by (N := ["task", "some", "rest"]) (sc := defScope s_rests_of_some) (by decide +kernel)) (fun _ _ _ _ _ => pg_name (i := 2) sc_rests_of_some.nd rfl (Or.inl rfl)) (fun _ _ _ _ _ => pts_one (pt_cmpR (r := rIn K false) op_in_seq (pe_ix (r := rIxT K) ix_tup (pv 2) pe_int (fun _ _ => rfl)) (pv 1) (by with_unfolding_all rfl))) (fun _ _ _ _ _ => pv 2))), ?_⟩
    dsimp only [tRet, tLc, iList, tCall, tCons, tNil]
    refine ⟨_, rfl, a, n, es, rfl, t, hz, fun v' H1 ks e1 hv' R => ?_⟩
    refine lc_listF ks dR (fun x => decide ((x.1 : Int) ∈ ss)) dR hv' (by have := R.few; omega) (fun x _ => noL_dR x) (fun _ => rfl) (fun x u H2 _ e2 hu => evt_test (evd_inI (evd_ixT (evd_var rfl hu) evd_int (atI_nat (j := 0) rfl)) (evd_var rfl (hv.same (e1.trans e2))))) (fun x u H2 _ _ hu _ => evd_var rfl hu) fun v2 H2 e2 h2 => k v2 H2 _ (e1.trans e2) h2 ⟨fun kk => ?_, ?_, ?_⟩
    · rw [List.mem_filter, decide_eq_true_iff, R.mem]
    · exact R.asc.filter _
    · exact Nat.le_trans (List.length_filter_le _ _) R.few
/-- no cover fits all -/
def NoCov (n : Nat) (es : List Ent) (i : Nat) (ns : List Int) : Prop := ∀ c : List Int, ∃ e ∈ es, dele i e.1 = ns ∧ c ∉ e.2.map (dele i)
theorem hits_mem {n : Nat} {es : List Ent} {i : Nat} {ns r : List Int} : r ∈ hits (prs n es) (.rst i ns) ↔ ∃ e ∈ es, i < n ∧ r = e.1 ∧ dele i e.1 = ns := by
  unfold hits
  rw [List.mem_map]
  constructor
  · rintro ⟨q, hq, rfl⟩
    obtain ⟨hq1, hq2⟩ := List.mem_filter.mp hq
    obtain ⟨j, e, he, hj, rfl⟩ := prs_rst hq1
    have hq2 : Ky.rst j (dele j e.1) = Ky.rst i ns := of_decide_eq_true hq2
    injection hq2 with h1 h2
    have : j = i := by omega
    subst this
    exact ⟨e, he, hj, rfl, h2⟩
  · rintro ⟨e, he, hi, rfl, rfl⟩
    exact ⟨(.rst i (dele i e.1), e.1), List.mem_filter.mpr ⟨List.mem_flatMap.mpr ⟨e, he, List.mem_map.mpr ⟨i, List.mem_range.mpr hi, rfl⟩⟩, decide_eq_true rfl⟩, rfl⟩
theorem dele_len {i : Nat} {ns : List Int} (h : i < ns.length) : (dele i ns).length + 1 = ns.length := by
  unfold dele
  rw [List.length_append, List.length_take, List.length_drop]
  omega
def spCov (C : Addr) (P : Program) (w : World) : Sp := fun vs H Q _ => ∃ (a : Addr) (v : V) (n i : Nat) (es : List Ent) (ns : List Int), vs = [.ref a, v] ∧ TaskAt C P w H a n es ∧ LotsOk n es ∧ Dt H (dRest i ns) v ∧ hits (prs n es) (.rst i ns) ≠ [] ∧ ∀ l xs H', Same H H' → H' l = some (.lst xs) → (NoCov n es i ns → xs = []) → Q (.ref l) H'
/-- found, behind the first j of the rows rs -/
def FoundIs (P : Program) (w : World) (H : Hp) (n i : Nat) (es : List Ent) (done : List (List Int)) (u : V) : Prop :=
  if done = [] then u = .non else ∃ d kvs, u = .ref d ∧ ND P w H d kvs ∧ kvs.length ≤ 60 ∧ ∀ k ∈ kvs.map (·.1), ∃ c : List Int, k = .row c ∧ c.length + 1 = n ∧ ∀ r ∈ done, ∀ e ∈ es, e.1 = r → c ∈ e.2.map (dele i)
theorem FoundIs.nil {P : Program} {w : World} {H : Hp} {n i : Nat} {es : List Ent} {rs : List (List Int)} : FoundIs P w H n i es (rs.take 0) .non := by
  unfold FoundIs
  rw [List.take_zero, if_pos rfl]
theorem FoundIs.go {P : Program} {w : World} {H H' : Hp} {n i : Nat} {es : List Ent} {done : List (List Int)} {u : V} (h : FoundIs P w H n i es done u) (e : Same H H') : FoundIs P w H' n i es done u := by
  unfold FoundIs at h ⊢
  split
  · rename_i hd
    rw [if_pos hd] at h
    exact h
  · rename_i hd
    rw [if_neg hd] at h
    obtain ⟨d, kvs, h1, h2, h3⟩ := h
    exact ⟨d, kvs, h1, h2.same e, h3⟩
theorem ent_of {n : Nat} {es : List Ent} (h : LotsOk n es) {e e' : Ent} (h1 : e ∈ es) (h2 : e' ∈ es) (q : e.1 = e'.1) : e = e' := by
  obtain ⟨j, hj, rfl⟩ := List.getElem_of_mem h1
  obtain ⟨k, hk, rfl⟩ := List.getElem_of_mem h2
  have := nodup_at h.nd ((map_at hj).trans (congrArg some q)) (map_at hk)
  subst this
  rfl
theorem sc_covers_of : FnScope ["task", "rest", "found", "inputs", "told", "row", "cover"] ["task", "rest"] (defScope s_covers_of) := ⟨rfl, rfl, rfl, by decide +kernel, rfl, by decide +kernel, by decide +kernel⟩
theorem ok_covers_of (D : Defs K mg) {C fI fK : Addr} {fdI fdK : FuncData} (T : TaskC K mg C fI fK fdI fdK) : FnIs P w K mg base 2 "covers_of" ["task", "rest"] (spCov C P w) := by
  refine D.d_covers_of.ok sc_covers_of (fun _ _ _ _ _ _ us hl => match us, hl with | [_, _], _ => rfl) (fun vs H Q E h => ?_) (fun f cdv A outer s H vs Q E hr h => ?_)
  · obtain ⟨_, _, _, _, _, _, rfl, _⟩ := h
    rfl
  · obtain ⟨a, v, n, i, es, ns, rfl, t, ok, hv, hh, k⟩ := h
    refine ⟨_, pss_cons (ps_set (i := 2) sc_covers_of.nd rfl (Or.inl rfl) pe_non) (pss_cons (ps_for PassesOwn.never rfl (pi_list (pe_fn (ok_raw_completing D T) hr (pa_cons (pv 0) (pa_cons (pv 1) pa_nil)))) (pg_name (i := 3) sc_covers_of.nd rfl (Or.inl rfl))
      (pss_cons (ps_set (i := 4) sc_covers_of.nd rfl (Or.inr rfl) (pe_dcn (own := [("row", 5)]) (g := gName 5) hr.units rfl sc_covers_of.nd (pi_tup (pe_nget hr.units (pe_fld (pv 0) rfl) (pv 3) (fun _ _ => rfl))) (blkOk_by (N := ["task", "rest", "found", "inputs", "told", "row", "cover"]) (sc := defScope s_covers_of) (by decide +kernel)) (fun _ _ _ _ _ => pg_name (i := 5) sc_covers_of.nd rfl (Or.inl rfl)) (fun _ _ _ _ _ => pts_nil) (fun _ _ _ _ _ => (pe_ix (r := rIxT K) ix_tup (pe_fn (ok_raw_rest D) hr (pa_cons (pv 5) (pa_cons (pe_ix (r := rIxT K) ix_tup (pv 1) pe_int (fun _ _ => rfl)) pa_nil))) pe_int (fun _ _ => rfl))) (fun _ _ _ _ _ => pe_bl)))
      (pss_one (ps_set (i := 2) sc_covers_of.nd rfl (Or.inl rfl) (pe_ifExp (pt_cmp (pc_isN (pv 2))) (pv 4) (pe_dcn (own := [("cover", 6)]) (g := gName 6) hr.units rfl sc_covers_of.nd (pi_nkeys (pv 2)) (blkOk_by (N := ["task", "rest", "found", "inputs", "told", "row", "cover"]) (sc := defScope s_covers_of) (by decide +kernel)) (fun _ _ _ _ _ => pg_name (i := 6) sc_covers_of.nd rfl (Or.inl rfl)) (fun _ _ _ _ _ => pts_one (pt_cmpR (r := rInN P w) (op_inN hr.units) (pv 6) (pv 4) (by with_unfolding_all rfl))) (fun _ _ _ _ _ => pv 6) (fun _ _ _ _ _ => pe_bl)))))))
      (pss_one (ps_ret (pe_callB (id := "sorted") (cr_sortN rfl hr.units) (by rfl) D.blt.b_sorted (by decide +kernel) (pa_cons (pv 2) pa_nil))))), ?_⟩
    have hin : i < n ∧ ∀ r ∈ hits (prs n es) (.rst i ns), ∃ e ∈ es, r = e.1 ∧ dele i e.1 = ns := by
      refine ⟨?_, fun r hr => let ⟨e, a, _, b, c⟩ := hits_mem.mp hr; ⟨e, a, b, c⟩⟩
      cases e : hits (prs n es) (.rst i ns) with
      | nil => exact absurd e hh
      | cons r l =>
        obtain ⟨_, _, q, _⟩ := hits_mem.mp (show r ∈ hits (prs n es) (.rst i ns) by rw [e]; exact List.mem_cons_self)
        exact q
    obtain ⟨hin, hrs⟩ := hin
    refine ⟨_, rfl, _, rfl, a, v, n, i, es, ns, rfl, t, hv, hh, fun v' H1 e1 hv' => ?_⟩
    generalize hrs0 : hits (prs n es) (.rst i ns) = rs at hv' hh hrs
    have hl : (rs.map dRow).length = rs.length := List.length_map _
    refine for_listD (Hb := H1) hv' (Same.refl _) (fun j σ' H' => Same H1 H' ∧ ∃ u x y, σ' = [some (.ref a), some v, some u, x, y, none, none] ∧ FoundIs P w H' n i es (rs.take j) u) ⟨Same.refl _, .non, none, none, rfl, FoundIs.nil⟩ (fun _ _ _ _ p => p.1) (fun j d vr σ' H2 hd p hvr => ?_) (fun σ' H2 p => ?_)
    · obtain ⟨s2, u, x, y, rfl, hF⟩ := p
      obtain ⟨r, hr, rfl⟩ : ∃ r, rs[j]? = some r ∧ dRow r = d := by
        rw [List.getElem?_map] at hd
        cases e : rs[j]? with
        | none => rw [e] at hd; cases hd
        | some r => rw [e] at hd; exact ⟨r, rfl, Option.some.inj hd⟩
      obtain ⟨ent, hent, rfl, hdel⟩ := hrs r (List.mem_of_getElem? hr)
      obtain ⟨dx, vl, d1, d2, g1, g2, g3, g4⟩ := t.go (e1.trans s2)
      have hlot := ok.each ent hent
      have hv2 := hv.same (e1.trans s2)
      have hN : EvN P w (tDcN P w (iTup K (tNGet P w (tFld K (tVar 0) "kept_lots") (tVar 3))) (gName 5) tYes (tOp (rIxT K) (tCall (spD R_raw_rest) [] E0 (tCons (tVar 5) (tCons (tOp (rIxT K) (tVar 1) (tC (.int 0))) tNil))) (tC (.int 1))) (tC (.bl true)) [5]) [some (.ref a), some v, some u, some vr, y, none, none] H2 (fun ks => ks.length ≤ ent.2.length ∧ ∀ k ∈ ks, ∃ x ∈ ent.2, k = .row (dele i x)) :=
        evn_dc ent.2 dRow (fun x => .row (dele i x)) (evw_tup (evd_lot (evx_fld (k := 0) rfl g1 T.cl T.nK (tfs_kl _ _ _ _)) g3 hent (evd_var rfl hvr))) (by have := hlot.lot.few; omega) (fun _ => rfl) fun x vx H3 hx e3 hvx => EvD.rowK (evd_ixT (ds := [dNat i, dRow (dele i x)]) (evd_call (R := R_raw_rest) (eva_cons (evd_var rfl hvx) (eva_cons (evd_ixT (evd_var rfl (hv2.same e3)) evd_int (atI_nat (j := 0) rfl)) eva_nil)) ⟨x, i, rfl, by have := (hlot.lot.rows x hx).1; have := ok.n5; omega, rfl⟩) evd_int (atI_nat (j := 1) rfl))
      dsimp only [gName, tSeq, tAsg]
      refine hN H2 (Same.refl _) _ fun dt kt H3 e3 nt ⟨ht1, ht2⟩ => ?_
      rw [List.length_map] at ht1
      have hfew := hlot.lot.few
      have hrow : ∀ x ∈ ent.2, (dele i x).length + 1 = n := fun x hx => by
        have := (hlot.lot.rows x hx).1
        rw [dele_len (by omega)]
        exact this
      have htk : rs.take (j + 1) = rs.take j ++ [ent.1] := by
        obtain ⟨hj, e⟩ := List.getElem?_eq_some_iff.mp hr
        rw [List.take_succ_eq_append_getElem hj, e]
      have hne : rs.take (j + 1) ≠ [] := by rw [htk]; simp
      unfold FoundIs at hF
      by_cases hj : rs.take j = []
      · rw [if_pos hj] at hF
        subst hF
        refine ⟨_, rfl, _, rfl, ?_⟩
        refine ⟨_, rfl, s2.trans e3, .ref dt, some vr, some (.ref dt), rfl, ?_⟩
        unfold FoundIs
        rw [if_neg hne]
        refine ⟨dt, kt, rfl, nt, by omega, fun k hk => ?_⟩
        obtain ⟨x, hx, rfl⟩ := ht2 k hk
        refine ⟨_, rfl, hrow x hx, fun r' hr' e' he' heq => ?_⟩
        rw [htk, hj, List.nil_append] at hr'
        rw [List.mem_singleton.mp hr'] at heq
        rw [ent_of ok he' hent heq]
        exact List.mem_map.mpr ⟨x, hx, rfl⟩
      · rw [if_neg hj] at hF
        obtain ⟨df, kf, rfl, nf, hlf, hkf⟩ := hF
        have hB : EvN P w (tDcN P w (iNKeys P w (tVar 2)) (gName 6) (tTest (tOp (rInN P w) (tVar 6) (tVar 4))) (tVar 6) (tC (.bl true)) [6]) [some (.ref a), some v, some (.ref df), some vr, some (.ref dt), none, none] H3 (fun ks => ks.length ≤ kf.length ∧ ∀ k ∈ ks, k ∈ kf.map (·.1) ∧ k ∈ kt.map (·.1)) :=
          evn_both (nf.same e3) nt rfl (fun _ => rfl) (by omega) (fun _ => rfl) (fun _ => rfl)
        refine ⟨_, rfl, _, rfl, ?_⟩
        dsimp only
        rw [if_neg (fun z => nomatch (of_decide_eq_true z))]
        refine hB H3 (Same.refl _) _ fun db kb H4 e4 nb ⟨hb1, hb2⟩ => ?_
        rw [List.length_map] at hb1
        refine ⟨(s2.trans e3).trans e4, .ref db, some vr, some (.ref dt), rfl, ?_⟩
        unfold FoundIs
        rw [if_neg hne]
        refine ⟨db, kb, rfl, nb, by omega, fun k hk => ?_⟩
        obtain ⟨hk1, hk2⟩ := hb2 k hk
        obtain ⟨c, rfl, hc1, hc2⟩ := hkf k hk1
        obtain ⟨x, hx, hcx⟩ := ht2 _ hk2
        refine ⟨c, rfl, hc1, fun r' hr' e' he' heq => ?_⟩
        rw [htk] at hr'
        rcases List.mem_append.mp hr' with hr' | hr'
        · exact hc2 r' hr' e' he' heq
        · rw [List.mem_singleton.mp hr'] at heq
          rw [ent_of ok he' hent heq]
          injection hcx with hcx
          exact List.mem_map.mpr ⟨x, hx, hcx.symm⟩
    · obtain ⟨s2, u, x, y, rfl, hF⟩ := p
      rw [hl, List.take_length] at hF
      unfold FoundIs at hF
      rw [if_neg hh] at hF
      obtain ⟨df, kf, rfl, nf, hlf, hkf⟩ := hF
      refine ⟨_, rfl, df, kf, rfl, nf, .inl fun k hk => ?_, fun out p perm _ hp => k p _ _ ((e1.trans s2).trans (Same.new hp)) upd_same fun hno => ?_⟩
      · obtain ⟨c, rfl, hc, _⟩ := hkf k hk
        have := ok.n3
        cases c with
        | nil => exact absurd hc (by simp only [List.length_nil]; omega)
        | cons z zs => exact ⟨z, zs, rfl⟩
      · cases kf with
        | nil =>
          have := perm.length_eq
          rw [List.length_map] at this
          rw [List.length_eq_zero_iff.mp this]
          rfl
        | cons z zs =>
          obtain ⟨c, _, _, hc⟩ := hkf z.1 List.mem_cons_self
          obtain ⟨e, he, hed, hcn⟩ := hno c
          refine absurd (hc e.1 ?_ e he rfl) hcn
          rw [← hrs0]
          exact hits_mem.mpr ⟨e, he, hin, rfl, hed⟩
end
end G98

/-! E8: sure bars. -/
namespace G98
open PySem PySem.Spec PyProof.Rows L2
section
variable {P : Program} {w : World} {K : PySem.W.Frag} {mg : Str → Option Value} {base : Heap}
structure BarIn (C : Addr) (P : Program) (w : World) (H : Hp) (a : Addr) (v : V) (n : Nat) (es : List Ent) (ss : List Int) (i : Nat) (ns : List Int) : Prop where
  task : TaskAt C P w H a n es
  ok : LotsOk n es
  few : (prs n es).length ≤ 1000
  some : Dt H (dRow ss) v
  fit : hits (prs n es) (.rst i ns) ≠ []
  mem : (i : Int) ∈ ss
  bar : NoCov n es i ns
theorem BarIn.go {C a : Addr} {P : Program} {w : World} {H H' : Hp} {v : V} {n i : Nat} {es : List Ent} {ss ns : List Int} (b : BarIn C P w H a v n es ss i ns) (e : Same H H') : BarIn C P w H' a v n es ss i ns := ⟨b.task.go e, b.ok, b.few, b.some.same e, b.fit, b.mem, b.bar⟩
def spRSB (C : Addr) (P : Program) (w : World) : Sp := fun vs H Q _ => ∃ (a : Addr) (v : V) (n i : Nat) (es : List Ent) (ss ns : List Int), vs = [.ref a, v] ∧ BarIn C P w H a v n es ss i ns ∧
  ∀ v' H' ks k, Same H H' → SomeRests n es ss ks → k ∈ ks → Dt H' (dR k) v' → (ks.head? = some (i, ns) → k = (i, ns)) → Q v' H'
theorem sc_raw_sure_bar : FnScope ["task", "some", "rest"] ["task", "some"] (defScope s_raw_sure_bar) := ⟨rfl, rfl, rfl, by decide +kernel, rfl, by decide +kernel, by decide +kernel⟩
theorem ok_raw_sure_bar (D : Defs K mg) {C fI fK : Addr} {fdI fdK : FuncData} (T : TaskC K mg C fI fK fdI fdK) : FnIs P w K mg base 3 "raw_sure_bar" ["task", "some"] (spRSB C P w) := by
  refine D.d_raw_sure_bar.ok sc_raw_sure_bar (fun _ _ _ _ _ _ us hl => match us, hl with | [_, _], _ => rfl) (fun vs H Q E h => ?_) (fun f cdv A outer s H vs Q E hr h => ?_)
  · obtain ⟨_, _, _, _, _, _, _, rfl, _⟩ := h
    rfl
  · obtain ⟨a, v, n, i, es, ss, ns, rfl, b, k⟩ := h
    refine ⟨_, pss_cons (ps_for PassesOwn.never rfl (pi_list (pe_fn (ok_rests_of_some D T) hr (pa_cons (pv 0) (pa_cons (pv 1) pa_nil)))) (pg_name (i := 2) sc_raw_sure_bar.nd rfl (Or.inl rfl)) (pss_one (ps_if (pt_cmpR op_eq (pe_callB call_len_seq (by rfl) D.blt.b_len PySem.boot_len (pa_cons (pe_fn (ok_covers_of D T) hr (pa_cons (pv 0) (pa_cons (pv 2) pa_nil))) pa_nil)) pe_int (nomark _)) (pss_one (ps_ret (pv 2))) pss_nil))) (pss_one (ps_ret pe_non)), ?_⟩
    refine ⟨_, rfl, _, rfl, a, v, n, es, ss, rfl, b.task, b.few, b.some, fun v' H1 ks e1 hv' R => ?_⟩
    have hl : (ks.map dR).length = ks.length := List.length_map _
    refine for_listD (Hb := H1) hv' (Same.refl _) (fun j σ' H' => Same H1 H' ∧ (∃ x, σ' = [some (.ref a), some v, x]) ∧ ∀ m < j, ks[m]? ≠ some (i, ns)) ⟨Same.refl _, ⟨_, rfl⟩, fun m hm => absurd hm (Nat.not_lt_zero m)⟩ (fun _ _ _ _ p => p.1) (fun j d vr σ' H2 hd p hvr => ?_) (fun σ' H2 p => ?_)
    · obtain ⟨s2, ⟨x, rfl⟩, hm⟩ := p
      obtain ⟨kk, hk, rfl⟩ : ∃ r, ks[j]? = some r ∧ dR r = d := by
        rw [List.getElem?_map] at hd
        cases e : ks[j]? with
        | none => rw [e] at hd; cases hd
        | some r => rw [e] at hd; exact ⟨r, rfl, Option.some.inj hd⟩
      have hin := List.mem_of_getElem? hk
      have hfit := ((R.mem kk).mp hin).1
      have e2 := e1.trans s2
      refine ⟨_, rfl, _, rfl, a, vr, n, kk.1, es, kk.2, rfl, b.task.go e2, b.ok, hvr, hfit, fun l xs H3 e3 hxs hno => ?_⟩
      refine ⟨l, xs, rfl, .inl (SqL.of hxs), rfl, _, rfl, ?_⟩
      by_cases hx : xs.length = 0
      · dsimp only
        rw [if_pos (by rw [hx]; rfl)]
        refine ⟨_, rfl, k vr H3 ks kk (e2.trans e3) R hin (hvr.same e3) fun hh => ?_⟩
        rcases Nat.eq_zero_or_pos j with rfl | hj
        · rw [List.head?_eq_getElem?] at hh
          exact Option.some.inj (hk.symm.trans hh)
        · rw [List.head?_eq_getElem?] at hh
          exact absurd hh (hm 0 hj)
      · dsimp only
        rw [if_neg (fun z => hx (by
          have z := of_decide_eq_true z
          injection z with z
          omega))]
        refine ⟨s2.trans e3, ⟨_, rfl⟩, fun m hmj hmk => ?_⟩
        rcases Nat.lt_succ_iff_lt_or_eq.mp hmj with q | q
        · exact hm m q hmk
        · rw [q, hk] at hmk
          cases hmk
          exact hx (by rw [hno b.bar]; rfl)
    · obtain ⟨s2, ⟨x, rfl⟩, hm⟩ := p
      rw [hl] at hm
      obtain ⟨m, hm2⟩ := List.mem_iff_getElem?.mp ((R.mem (i, ns)).mpr ⟨b.fit, b.mem⟩)
      exact absurd hm2 (hm m (List.getElem?_eq_some_iff.mp hm2).1)
structure SomeOk (n : Nat) (ss : List Int) : Prop where
  all : ∀ s ∈ ss, 0 ≤ s ∧ s < (n : Int)
  rise : riseI ss
  few : ss.length ≤ 100
  part : ss.length ≠ n
def spSB (C : Addr) (P : Program) (w : World) : Sp := fun vs H Q _ => ∃ (a : Addr) (v : V) (n i : Nat) (es : List Ent) (ss ns : List Int), vs = [.ref a, v] ∧ SomeOk n ss ∧ BarIn C P w H a v n es ss i ns ∧
  ∀ v' H' ks k, Same H H' → SomeRests n es ss ks → k ∈ ks → Dt H' (dR k) v' → (ks.head? = some (i, ns) → k = (i, ns)) → Q v' H'
def spSP (C : Addr) (P : Program) (w : World) : Sp := fun vs H Q _ => ∃ (a : Addr) (v : V) (n i : Nat) (es : List Ent) (ss ns : List Int), vs = [.ref a, v] ∧ SomeOk n ss ∧ BarIn C P w H a v n es ss i ns ∧ ∀ H', Same H H' → Q .non H'
theorem sc_sure_bar : FnScope ["task", "some"] ["task", "some"] (defScope s_sure_bar) := ⟨rfl, rfl, rfl, by decide +kernel, rfl, by decide +kernel, by decide +kernel⟩
theorem ok_sure_bar (D : Defs K mg) {C fI fK : Addr} {fdI fdK : FuncData} (T : TaskC K mg C fI fK fdI fdK) : FnIs P w K mg base 5 "sure_bar" ["task", "some"] (spSB C P w) := by
  refine D.d_sure_bar.ok sc_sure_bar (fun _ _ _ _ _ _ us hl => match us, hl with | [_, _], _ => rfl) (fun vs H Q E h => ?_) (fun f cdv A outer s H vs Q E hr h => ?_)
  · obtain ⟨_, _, _, _, _, _, _, rfl, _⟩ := h
    rfl
  · obtain ⟨a, v, n, i, es, ss, ns, rfl, c, b, k⟩ := h
    refine ⟨_, pss_cons (ps_expr (pe_fn (ok_check_some D T) hr (pa_cons (pv 0) (pa_cons (pv 1) pa_nil)))) (pss_one (ps_ret (pe_fn (ok_raw_sure_bar D T) hr (pa_cons (pv 0) (pa_cons (pv 1) pa_nil))))), ?_⟩
    refine ⟨_, rfl, _, rfl, a, v, n, es, ss, rfl, b.task, b.some, c.all, c.rise, c.few, c.part, fun H1 e1 => ?_⟩
    exact ⟨_, rfl, _, rfl, a, v, n, i, es, ss, ns, rfl, b.go e1, fun v' H' ks kk e R hk hd hh => k v' H' ks kk (e1.trans e) R hk hd hh⟩
theorem sc_sure_plan : FnScope ["task", "some", "rest"] ["task", "some"] (defScope s_sure_plan) := ⟨rfl, rfl, rfl, by decide +kernel, rfl, by decide +kernel, by decide +kernel⟩
theorem ok_sure_plan (D : Defs K mg) {C fI fK : Addr} {fdI fdK : FuncData} (T : TaskC K mg C fI fK fdI fdK) : FnIs P w K mg base 5 "sure_plan" ["task", "some"] (spSP C P w) := by
  refine D.d_sure_plan.ok sc_sure_plan (fun _ _ _ _ _ _ us hl => match us, hl with | [_, _], _ => rfl) (fun vs H Q E h => ?_) (fun f cdv A outer s H vs Q E hr h => ?_)
  · obtain ⟨_, _, _, _, _, _, _, rfl, _⟩ := h
    rfl
  · obtain ⟨a, v, n, i, es, ss, ns, rfl, c, b, k⟩ := h
    refine ⟨_, pss_cons (ps_expr (pe_fn (ok_check_some D T) hr (pa_cons (pv 0) (pa_cons (pv 1) pa_nil)))) (pss_cons (ps_if (pt_cmp (pc_notN (pe_fn (ok_raw_sure_bar D T) hr (pa_cons (pv 0) (pa_cons (pv 1) pa_nil))))) (pss_one (ps_ret pe_non)) pss_nil) pss_never), ?_⟩
    refine ⟨_, rfl, _, rfl, a, v, n, es, ss, rfl, b.task, b.some, c.all, c.rise, c.few, c.part, fun H1 e1 => ?_⟩
    refine ⟨_, rfl, _, rfl, a, v, n, i, es, ss, ns, rfl, b.go e1, fun v' H' ks kk e R hk hd hh => ⟨true, ?_, ?_⟩⟩
    · obtain ⟨x, _, rfl, _⟩ := hd
      rfl
    · dsimp only
      rw [if_pos rfl]
      exact k H' (e1.trans e)
end
end G98

/-! E9: the pot, draws. -/
namespace G98
open PySem PySem.Spec PyProof.Rows L2
section
variable {P : Program} {w : World} {K : PySem.W.Frag} {mg : Str → Option Value} {base : Heap}
/-- all but p is kept -/
def Dr (p : Addr) (H H' : Hp) : Prop := ∀ b u, b ≠ p → H b = some u → H' b = some u
theorem Dr.refl (p : Addr) (H : Hp) : Dr p H H := fun _ _ _ h => h
theorem Dr.trans {p : Addr} {H H1 H2 : Hp} (a : Dr p H H1) (b : Dr p H1 H2) : Dr p H H2 := fun c u n h => b c u n (a c u n h)
theorem same_dr {p : Addr} {H H' : Hp} (e : Same H H') : Dr p H H' := fun b u _ h => e b u h
theorem Dr.upd {p : Addr} {H : Hp} {o : HO} : Dr p H (upd H p o) := fun b u n h => by
  rw [upd_ne n]
  exact h
mutual
theorem Dt.dr {p : Addr} {H H' : Hp} (e : Dr p H H') (hp : ∀ vs, H p ≠ some (.tup vs)) : ∀ {d : PyData} {v : V}, noL d = true → Dt H d v → Dt H' d v
  | .none, _, _, h => h
  | .bool _, _, _, h => h
  | .int _, _, _, h => h
  | .str _, _, _, h => h
  | .tuple ds, _, n, ⟨a, vs, h1, h2, h3⟩ => ⟨a, vs, h1, e _ _ (fun q : a = p => hp vs (by rw [← q]; exact h2)) h2, DtL.dr e hp (show noLs ds = true from n) h3⟩
  | .list _, _, n, _ => nomatch n
  | .dict _, _, _, h => h.elim
theorem DtL.dr {p : Addr} {H H' : Hp} (e : Dr p H H') (hp : ∀ vs, H p ≠ some (.tup vs)) : ∀ {ds : List PyData} {vs : List V}, noLs ds = true → DtL H ds vs → DtL H' ds vs
  | [], _, _, h => h
  | d :: ds, _, n, ⟨v, r, h1, h2, h3⟩ => by
    have n : (noL d && noLs ds) = true := n
    rw [Bool.and_eq_true] at n
    exact ⟨v, r, h1, Dt.dr e hp n.1 h2, DtL.dr e hp n.2 h3⟩
end
/-- the pot's data -/
abbrev potD (cells : List Int) (a b s t : Int) : PyData := .list [.list (cells.map .int), .int a, .int b, .int s, .int t]
structure PotOk (cells : List Int) (a b s t : Int) : Prop where
  cells : ∀ x ∈ cells, 0 ≤ x
  a0 : 0 ≤ a
  b0 : 0 ≤ b
  s0 : 0 ≤ s
  t0 : 0 ≤ t
def PotAt (H : Hp) (p c : Addr) : Prop := ∃ cells a b s t, PotOk cells a b s t ∧ c ≠ p ∧ H c = some (.lst (cells.map .int)) ∧ H p = some (.lst [.ref c, .int a, .int b, .int s, .int t])
theorem PotAt.go {H H' : Hp} {p c : Addr} (h : PotAt H p c) (e : Same H H') : PotAt H' p c := by
  obtain ⟨cells, a, b, s, t, h1, h2, h3, h4⟩ := h
  exact ⟨cells, a, b, s, t, h1, h2, e _ _ h3, e _ _ h4⟩
theorem PotAt.notup {H : Hp} {p c : Addr} (h : PotAt H p c) : ∀ vs, H p ≠ some (.tup vs) := by
  obtain ⟨cells, a, b, s, t, _, _, _, h4⟩ := h
  exact lst_tup h4
section
variable {σ : L2.St} {H H' : Hp} {ta tb te : TE} {i j : Int}
def rIntQ : List V → Hp → VK → Prop := fun xs H Q => (∃ i, xs = [.int i] ∧ Q (.int i) H) ∨ ∃ k, xs = [.bl k] ∧ Q (.int (if k then 1 else 0)) H
theorem evd_intI (h : EvD te σ H (.int i)) : EvD (tCB rIntQ (tCons te tNil)) σ H (.int i) := fun H1 e Q q => h H1 e _ fun x H2 e2 hx => .inl ⟨i, by rw [show x = V.int i from hx], q _ _ e2 rfl⟩
theorem evd_intB {b : Bool} (h : EvD te σ H (.bool b)) : EvD (tCB rIntQ (tCons te tNil)) σ H (.int (if b then 1 else 0)) := fun H1 e Q q => h H1 e _ fun x H2 e2 hx => .inr ⟨b, by rw [show x = V.bl b from hx], q _ _ e2 rfl⟩
def rAbsQ : List V → Hp → VK → Prop := fun xs H Q => ∃ i, xs = [.int i] ∧ Q (.int (if i < 0 then -i else i)) H
theorem evd_abs (h : EvD te σ H (.int i)) : EvD (tCB rAbsQ (tCons te tNil)) σ H (.int (if i < 0 then -i else i)) := fun H1 e Q q => h H1 e _ fun x H2 e2 hx => ⟨i, by rw [show x = V.int i from hx], q _ _ e2 rfl⟩
theorem evd_mul (ha : EvD ta σ H (.int i)) (hb : EvD tb σ H (.int j)) (h : CMul i j) : EvD (tOp (rI CMul fun i j => .int (i * j)) ta tb) σ H (.int (i * j)) := evd_I ha hb h fun _ => rfl
theorem evd_mod (ha : EvD ta σ H (.int i)) (hb : EvD tb σ H (.int j)) (h : 0 < j) : EvD (tOp (rI (fun _ j => 0 < j) fun i j => .int (i % j)) ta tb) σ H (.int (i % j)) := evd_I ha hb h fun _ => rfl
theorem evd_div (ha : EvD ta σ H (.int i)) (hb : EvD tb σ H (.int j)) (h : CDiv i j) : EvD (tOp (rI CDiv fun i j => .int (i / j)) ta tb) σ H (.int (i / j)) := evd_I ha hb h fun _ => rfl
theorem evd_pow (ha : EvD ta σ H (.int i)) (hb : EvD tb σ H (.int j)) (h : CPow i j) : EvD (tOp (rI CPow fun i j => .int (i ^ j.toNat)) ta tb) σ H (.int (i ^ j.toNat)) := evd_I ha hb h fun _ => rfl
theorem evd_ge (ha : EvD ta σ H (.int i)) (hb : EvD tb σ H (.int j)) : EvD (tOp (rI0 fun i j => .bl (decide (j ≤ i))) ta tb) σ H (.bool (decide (j ≤ i))) := evd_I0 ha hb fun _ => rfl
variable {D : Ends}
theorem sd_put {xs : List V} {p : Addr} {kp : Nat} {k : Nat} {d : PyData} {g : Int} (h : EvD te σ H d) (hv : σ[kp]? = some (some (.ref p))) (hp : H p = some (.lst xs)) (hg : g = (k : Int)) (hk : k < xs.length) (q : ∀ v H1, Same H H1 → Dt H1 d v → D.nx σ (upd H1 p (.lst (xs.set k v)))) : tAsg te (gSub (tVar kp) (tC (.int g)) rSetL) D σ H :=
  h H (Same.refl _) _ fun v H1 e hd => ⟨_, hv, p, xs, g, k, rfl, rfl, e _ _ hp, by
    rw [hg]
    unfold L2.ixN
    rw [if_pos (by omega), if_pos (by omega), Int.toNat_natCast], q v H1 e hd⟩
end
def spDraw : Sp := fun vs H Q _ => ∃ (p c : Addr) (m : Int), vs = [.ref p, .int m] ∧ PotAt H p c ∧ 0 < m ∧ m ≤ 1000 ∧ ∀ (n : Int) H', 0 ≤ n → n < m → Dr p H H' → PotAt H' p c → Q (.int n) H'
theorem pot_dt {H : Hp} {p c : Addr} {cells : List Int} {a b s t : Int} (h1 : H c = some (.lst (cells.map .int))) (h2 : H p = some (.lst [.ref c, .int a, .int b, .int s, .int t])) : Dt H (potD cells a b s t) (.ref p) :=
  ⟨p, _, rfl, h2, _, _, rfl, ⟨c, _, rfl, h1, DtL.ints cells⟩, _, _, rfl, rfl, _, _, rfl, rfl, _, _, rfl, rfl, _, _, rfl, rfl, rfl⟩
/-- behind a put -/
theorem pot_put {H H1 : Hp} {p c : Addr} {cells : List Int} {o : HO} (hc : c ≠ p) (h1 : H c = some (.lst (cells.map .int))) (e : Same H H1) : (upd H1 p o) c = some (.lst (cells.map .int)) := by
  rw [upd_ne hc]
  exact e _ _ h1
theorem sc_law_draw : FnScope ["_law_pot_here", "_law_many", "_law_cell", "_law_digit", "_law_number"] ["_law_pot_here", "_law_many"] (defScope s_law_draw) := ⟨rfl, rfl, rfl, by decide +kernel, rfl, by decide +kernel, by decide +kernel⟩
theorem ok_law_draw (D : Defs K mg) : FnIs P w K mg base 1 "_law_draw" ["_law_pot_here", "_law_many"] spDraw := by
  refine D.d_law_draw.ok sc_law_draw (fun _ _ _ _ _ _ us hl => match us, hl with | [_, _], _ => rfl) (fun vs H Q E h => ?_) (fun f cdv A outer s H vs Q E hr h => ?_)
  · obtain ⟨_, _, _, rfl, _⟩ := h
    rfl
  · obtain ⟨p, c, m, rfl, hP, hm0, hm1, k⟩ := h
    refine ⟨_, Evl.pss_cut (ps_if (PW.pt (pw_and (pt_cmpR op_eq (pe_ix (r := rIxL K) ix_list (pv 0) pe_int (fun _ _ => rfl)) pe_int (nomark _)) (pw_and1 (pt_cmpR op_lt (pe_ix (r := rIxL K) ix_list (pv 0) pe_int (fun _ _ => rfl)) (pe_callB call_len_seq (by rfl) D.blt.b_len PySem.boot_len (pa_cons (pe_ix (r := rIxL K) ix_list (pv 0) pe_int (fun _ _ => rfl)) pa_nil)) (nomark _))))) (pss_cons (ps_set (i := 2) sc_law_draw.nd rfl (Or.inl rfl) (pe_ix (r := rIxL K) ix_list (pe_ix (r := rIxL K) ix_list (pv 0) pe_int (fun _ _ => rfl)) (pe_ix (r := rIxL K) ix_list (pv 0) pe_int (fun _ _ => rfl)) (fun _ _ => rfl))) (pss_cons (ps_asg (pe_op op_add (pe_ix (r := rIxL K) ix_list (pv 0) pe_int (fun _ _ => rfl)) pe_int) (pg_sub (pv 0) pe_int set_list)) (pss_cons (ps_asg (pe_op op_mod (pe_callTy (T := "int") call_int1 (by rfl) D.blt.b_int (by decide +kernel) (pa_cons (pe_op op_add (pe_op op_add (pe_op op_mul (pe_ix (r := rIxL K) ix_list (pv 0) pe_int (fun _ _ => rfl)) pe_int) (pv 2)) pe_int) pa_nil)) pe_int) (pg_sub (pv 0) pe_int set_list)) (pss_one (ps_if (pt_cmpR op_ge (pv 2) (pe_op op_pow pe_int pe_int) (nomark _)) (pss_one (ps_asg (pv 2) (pg_sub (pv 0) pe_int set_list))) pss_nil))))) pss_nil) (Evl.pss_cut (ps_if (pt_cmpR op_gt (pe_ix (r := rIxL K) ix_list (pv 0) pe_int (fun _ _ => rfl)) pe_int (nomark _)) (pss_cons (ps_set (i := 3) sc_law_draw.nd rfl (Or.inl rfl) (pe_op op_mod (pe_callTy (T := "int") call_int1 (by rfl) D.blt.b_int (by decide +kernel) (pa_cons (pe_ix (r := rIxL K) ix_list (pv 0) pe_int (fun _ _ => rfl)) pa_nil)) (pv 1))) (pss_cons (ps_asg (pe_op op_fdiv (pe_ix (r := rIxL K) ix_list (pv 0) pe_int (fun _ _ => rfl)) (pv 1)) (pg_sub (pv 0) pe_int set_list)) (pss_one (ps_ret (pv 3))))) pss_nil) (pss_cons (ps_asg (pe_op op_add (pe_ix (r := rIxL K) ix_list (pv 0) pe_int (fun _ _ => rfl)) pe_int) (pg_sub (pv 0) pe_int set_list)) (pss_cons (ps_set (i := 4) sc_law_draw.nd rfl (Or.inl rfl) (pe_op op_mod (pe_callTy (T := "int") call_int1 (by rfl) D.blt.b_int (by decide +kernel) (pa_cons (pe_op op_mul (pe_callTy (T := "int") call_int1 (by rfl) D.blt.b_int (by decide +kernel) (pa_cons (pe_op op_add (pe_ix (r := rIxL K) ix_list (pv 0) pe_int (fun _ _ => rfl)) (pe_op op_mul pe_int (pe_ix (r := rIxL K) ix_list (pv 0) pe_int (fun _ _ => rfl)))) pa_nil)) pe_int) pa_nil)) pe_int)) (pss_cons (ps_set (i := 4) sc_law_draw.nd rfl (Or.inl rfl) (pe_op op_mod (pe_callTy (T := "int") call_int1 (by rfl) D.blt.b_int (by decide +kernel) (pa_cons (pe_op op_mul (pv 4) (pe_op op_add (pe_op op_fdiv (pv 4) pe_int) pe_int)) pa_nil)) pe_int)) (pss_cons (ps_set (i := 4) sc_law_draw.nd rfl (Or.inl rfl) (pe_op op_mod (pe_callTy (T := "int") call_int1 (by rfl) D.blt.b_int (by decide +kernel) (pa_cons (pe_op op_mul (pv 4) (pe_op op_add (pe_op op_fdiv (pv 4) pe_int) pe_int)) pa_nil)) pe_int)) (pss_one (ps_ret (pe_op op_mod (pe_callTy (T := "int") call_int1 (by rfl) D.blt.b_int (by decide +kernel) (pa_cons (pe_op op_fdiv (pv 4) pe_int) pa_nil)) (pv 1))))))))), ?_⟩
    refine Evl.q_cut (M := fun σ' H' => Dr p H H' ∧ PotAt H' p c ∧ ∃ c0, σ' = [some (.ref p), some (.int m), c0, none, none]) ?_ fun σ' H1 hM => ?_
    · obtain ⟨cells, a, b, s, t, ok, hc, h1, h2⟩ := id hP
      have hp := pot_dt h1 h2
      refine sd_if (b := decide (b = 0) && decide (a < (cells.length : Int))) (evt_and (evt_test (evd_eqI (evd_ixL (evd_var rfl hp) evd_int (atI_nat (j := 2) rfl)) evd_int)) fun _ => evt_test ((evd_lt (evd_ixL (evd_var rfl hp) evd_int (atI_nat (j := 1) rfl)) (evd_lenL (ds := cells.map .int) (evd_ixL (evd_var rfl hp) evd_int (atI_nat (j := 0) rfl)))).is (by rw [List.length_map]))) (fun hb H2 e2 => ?_) fun _ H2 e2 => ⟨(same_dr e2), hP.go e2, _, rfl⟩
      obtain ⟨_, ha⟩ := Bool.and_eq_true_iff.mp hb
      have ha : a < (cells.length : Int) := of_decide_eq_true ha
      obtain ⟨aN, rfl⟩ : ∃ n : Nat, a = n := ⟨a.toNat, by have := ok.a0; omega⟩
      have haN : aN < cells.length := by omega
      have hcell := ok.cells cells[aN] (List.getElem_mem haN)
      refine sd_asg (d := .int cells[aN]) (evd_ixL (ds := cells.map .int) (evd_ixL (evd_var rfl (hp.same e2)) evd_int (atI_nat (j := 0) rfl)) (evd_ixL (evd_var rfl (hp.same e2)) evd_int (atI_nat (j := 1) rfl)) (atI_nat (by rw [List.getElem?_map, List.getElem?_eq_getElem haN]; rfl))) fun v H3 e3 hv => ?_
      have hv : v = V.int cells[aN] := hv
      subst hv
      have e23 := e2.trans e3
      refine sd_put (kp := 0) (k := 1) (d := .int ((aN : Int) + 1)) (evd_add (evd_ixL (evd_var rfl (hp.same e23)) evd_int (atI_nat (j := 1) rfl)) evd_int) rfl (e23 _ _ h2) rfl (show 1 < 5 by decide) fun v H4 e4 hv => ?_
      have hv : v = V.int ((aN : Int) + 1) := hv
      subst hv
      have e24 := e23.trans e4
      have h1' := pot_put (o := .lst [.ref c, .int ((aN : Int) + 1), .int b, .int s, .int t]) hc h1 e24
      have h2' : (upd H4 p (.lst [.ref c, .int ((aN : Int) + 1), .int b, .int s, .int t])) p = _ := upd_same
      have hdr : Dr p H (upd H4 p (.lst [.ref c, .int ((aN : Int) + 1), .int b, .int s, .int t])) := (same_dr e24).trans Dr.upd
      rw [show ([V.ref c, V.int (aN : Int), V.int b, V.int s, V.int t].set 1 (V.int ((aN : Int) + 1))) = [V.ref c, V.int ((aN : Int) + 1), V.int b, V.int s, V.int t] from rfl]
      generalize upd H4 p (.lst [.ref c, .int ((aN : Int) + 1), .int b, .int s, .int t]) = H5 at h1' h2' hdr
      have hp5 := pot_dt h1' h2'
      refine sd_put (kp := 0) (k := 3) (d := .int ((s * 69621 + cells[aN] + 11) % 2147483629)) (evd_mod (evd_intI (evd_add (evd_add (evd_mul (evd_ixL (evd_var rfl hp5) evd_int (atI_nat (j := 3) rfl)) evd_int (.inr ⟨by decide, by decide⟩)) (evd_var rfl rfl)) evd_int)) evd_int (by decide)) rfl h2' rfl (show 3 < 5 by decide) fun v H6 e6 hv => ?_
      have hv : v = V.int ((s * 69621 + cells[aN] + 11) % 2147483629) := hv
      subst hv
      have hs0 : 0 ≤ (s * 69621 + cells[aN] + 11) % 2147483629 := Int.emod_nonneg _ (by decide)
      generalize (s * 69621 + cells[aN] + 11) % 2147483629 = s' at hs0
      have h1'' := pot_put (o := .lst [.ref c, .int ((aN : Int) + 1), .int b, .int s', .int t]) hc h1' e6
      have h2'' : (upd H6 p (.lst [.ref c, .int ((aN : Int) + 1), .int b, .int s', .int t])) p = _ := upd_same
      have hdr' : Dr p H (upd H6 p (.lst [.ref c, .int ((aN : Int) + 1), .int b, .int s', .int t])) := (hdr.trans (same_dr e6)).trans Dr.upd
      rw [show ([V.ref c, V.int ((aN : Int) + 1), V.int b, V.int s, V.int t].set 3 (V.int s')) = [V.ref c, V.int ((aN : Int) + 1), V.int b, V.int s', V.int t] from rfl]
      generalize upd H6 p (.lst [.ref c, .int ((aN : Int) + 1), .int b, .int s', .int t]) = H7 at h1'' h2'' hdr'
      have ok' : PotOk cells ((aN : Int) + 1) b s' t := ⟨ok.cells, by omega, ok.b0, hs0, ok.t0⟩
      refine sd_if (evt_test (evd_ge (i := cells[aN]) (evd_var rfl rfl) (evd_pow evd_int evd_int ⟨by decide, by decide, by decide⟩))) (fun _ H8 e8 => ?_) fun _ H8 e8 => ⟨hdr'.trans (same_dr e8), ⟨cells, _, _, _, _, ok', hc, e8 _ _ h1'', e8 _ _ h2''⟩, _, rfl⟩
      refine sd_put (kp := 0) (k := 2) (d := .int cells[aN]) (evd_var rfl rfl) rfl (e8 _ _ h2'') rfl (show 2 < 5 by decide) fun v H9 e9 hv => ?_
      have hv : v = V.int cells[aN] := hv
      subst hv
      exact ⟨((hdr'.trans (same_dr e8)).trans (same_dr e9)).trans Dr.upd, ⟨cells, (aN : Int) + 1, cells[aN], s', t, ⟨ok.cells, by omega, hcell, hs0, ok.t0⟩, hc, pot_put hc h1'' (e8.trans e9), upd_same⟩, _, rfl⟩
    obtain ⟨dr1, hP1, c0, rfl⟩ := hM
    refine Evl.q_cut (M := fun σ' H' => Dr p H H' ∧ PotAt H' p c ∧ ∃ c0, σ' = [some (.ref p), some (.int m), c0, none, none]) ?_ fun σ' H2 hM => ?_
    · obtain ⟨cells, a, b, s, t, ok, hc, h1, h2⟩ := id hP1
      have hp := pot_dt h1 h2
      refine sd_if (evt_test (evd_gt (evd_ixL (evd_var rfl hp) evd_int (atI_nat (j := 2) rfl)) evd_int)) (fun _ H2 e2 => ?_) fun _ H2 e2 => ⟨dr1.trans (same_dr e2), hP1.go e2, _, rfl⟩
      refine sd_asg (d := .int (b % m)) (evd_mod (evd_intI (evd_ixL (evd_var rfl (hp.same e2)) evd_int (atI_nat (j := 2) rfl))) (evd_var rfl rfl) hm0) fun v H3 e3 hv => ?_
      have hv : v = V.int (b % m) := hv
      subst hv
      have e23 := e2.trans e3
      refine sd_put (kp := 0) (k := 2) (d := .int (b / m)) (evd_div (evd_ixL (evd_var rfl (hp.same e23)) evd_int (atI_nat (j := 2) rfl)) (evd_var rfl rfl) ⟨hm0, by omega⟩) rfl (e23 _ _ h2) rfl (show 2 < 5 by decide) fun v H4 e4 hv => ?_
      have hv : v = V.int (b / m) := hv
      subst hv
      exact ⟨_, rfl, k (b % m) _ (Int.emod_nonneg _ (by omega)) (Int.emod_lt_of_pos _ hm0) ((dr1.trans (same_dr (e23.trans e4))).trans Dr.upd) ⟨cells, a, b / m, s, t, ⟨ok.cells, ok.a0, Int.ediv_nonneg ok.b0 (by omega), ok.s0, ok.t0⟩, hc, pot_put hc h1 (e23.trans e4), upd_same⟩⟩
    obtain ⟨dr2, hP2, c1, rfl⟩ := hM
    obtain ⟨cells, a, b, s, t, ok, hc, h1, h2⟩ := id hP2
    have hp := pot_dt h1 h2
    refine sd_put (kp := 0) (k := 4) (d := .int (t + 1)) (evd_add (evd_ixL (evd_var rfl hp) evd_int (atI_nat (j := 4) rfl)) evd_int) rfl h2 rfl (show 4 < 5 by decide) fun v H3 e3 hv => ?_
    have hv : v = V.int (t + 1) := hv
    subst hv
    have h1' := pot_put (o := .lst [.ref c, .int a, .int b, .int s, .int (t + 1)]) hc h1 e3
    have h2' : (upd H3 p (.lst [.ref c, .int a, .int b, .int s, .int (t + 1)])) p = _ := upd_same
    have dr3 : Dr p H (upd H3 p (.lst [.ref c, .int a, .int b, .int s, .int (t + 1)])) := (dr2.trans (same_dr e3)).trans Dr.upd
    rw [show ([V.ref c, V.int a, V.int b, V.int s, V.int t].set 4 (V.int (t + 1))) = [V.ref c, V.int a, V.int b, V.int s, V.int (t + 1)] from rfl]
    generalize upd H3 p (.lst [.ref c, .int a, .int b, .int s, .int (t + 1)]) = H4 at h1' h2' dr3
    have hp4 := pot_dt h1' h2'
    refine sd_asg (d := .int ((s + 7919 * (t + 1)) * 48271 % 2147483647)) (evd_mod (evd_intI (evd_mul (evd_intI (evd_add (evd_ixL (evd_var rfl hp4) evd_int (atI_nat (j := 3) rfl)) (evd_mul evd_int (evd_ixL (evd_var rfl hp4) evd_int (atI_nat (j := 4) rfl)) (.inl ⟨by decide, by decide⟩)))) evd_int (.inr ⟨by decide, by decide⟩))) evd_int (by decide)) fun v H5 e5 hv => ?_
    have hx1 := Int.emod_nonneg ((s + 7919 * (t + 1)) * 48271) (show (2147483647 : Int) ≠ 0 by decide)
    have hx2 := Int.emod_lt_of_pos ((s + 7919 * (t + 1)) * 48271) (show (0 : Int) < 2147483647 by decide)
    generalize (s + 7919 * (t + 1)) * 48271 % 2147483647 = x at hv hx1 hx2
    refine sd_asg (d := .int (x * (x / 1009 + 69621) % 2147483647)) (evd_mod (evd_intI (evd_mul (evd_var rfl hv) (evd_add (evd_div (evd_var rfl hv) evd_int ⟨by decide, by decide⟩) evd_int) (.inl ⟨by omega, by omega⟩))) evd_int (by decide)) fun v2 H6 e6 hv2 => ?_
    have hy1 := Int.emod_nonneg (x * (x / 1009 + 69621)) (show (2147483647 : Int) ≠ 0 by decide)
    have hy2 := Int.emod_lt_of_pos (x * (x / 1009 + 69621)) (show (0 : Int) < 2147483647 by decide)
    generalize x * (x / 1009 + 69621) % 2147483647 = y at hv2 hy1 hy2
    refine sd_asg (d := .int (y * (y / 2003 + 40692) % 2147483399)) (evd_mod (evd_intI (evd_mul (evd_var rfl hv2) (evd_add (evd_div (evd_var rfl hv2) evd_int ⟨by decide, by decide⟩) evd_int) (.inl ⟨by omega, by omega⟩))) evd_int (by decide)) fun v3 H7 e7 hv3 => ?_
    refine sd_ret (d := .int (y * (y / 2003 + 40692) % 2147483399 / 16 % m)) (evd_mod (evd_intI (evd_div (evd_var rfl hv3) evd_int ⟨by decide, by decide⟩)) (evd_var rfl rfl) hm0) fun v4 H8 e8 hv4 => ?_
    have hv4 : v4 = V.int (y * (y / 2003 + 40692) % 2147483399 / 16 % m) := hv4
    subst hv4
    have e58 := ((e5.trans e6).trans e7).trans e8
    exact k _ _ (Int.emod_nonneg _ (by omega)) (Int.emod_lt_of_pos _ hm0) (dr3.trans (same_dr e58)) ⟨cells, a, b, s, t + 1, ⟨ok.cells, ok.a0, ok.b0, ok.s0, by have := ok.t0; omega⟩, hc, e58 _ _ h1', e58 _ _ h2'⟩
end
end G98

/-! E10: the pot made, one of a list, lists of draws. -/
namespace G98
open PySem PySem.Spec PyProof.Rows L2
section
variable {P : Program} {w : World} {K : PySem.W.Frag} {mg : Str → Option Value} {base : Heap}
theorem PotAt.to {H H' : Hp} {p c D : Addr} {o : HO} (h : PotAt H p c) (hp : D ≠ p) (hc : D ≠ c) : PotAt (upd H D o) p c := by
  obtain ⟨cells, a, b, s, t, h1, h2, h3, h4⟩ := h
  exact ⟨cells, a, b, s, t, h1, h2, by rw [upd_ne hc.symm]; exact h3, by rw [upd_ne hp.symm]; exact h4⟩
theorem PotAt.ne {H : Hp} {p c D : Addr} (h : PotAt H p c) (n : H D = none) : D ≠ p ∧ D ≠ c := by
  obtain ⟨cells, a, b, s, t, h1, h2, h3, h4⟩ := h
  exact ⟨fun z => (by rw [z, h4] at n; cases n), fun z => (by rw [z, h3] at n; cases n)⟩
/-- a comprehension of draws over a range -/
theorem lc_draws {σ : L2.St} {H : Hp} {ta : TA} {te : TE} {j n : Nat} {vs : List Nat} {p c : Addr} {B : Int → Prop} {Q : VK} (ha : EvA ta σ H [dNat n]) (hn : n ≤ 1000) (hP : PotAt H p c) (hwp : ∀ x, wipe ((wipe σ vs).set j (some x)) vs = wipe σ vs)
    (he : ∀ (H1 : Hp) (u : V) (Q : VK), Dr p H H1 → PotAt H1 p c → (∀ (x : Int) H2, B x → Dr p H1 H2 → PotAt H2 p c → Q (.int x) H2) → te ((wipe σ vs).set j (some u)) H1 Q)
    (q : ∀ (xs : List Int) (D : Addr) H', xs.length = n → (∀ x ∈ xs, B x) → Dr p H H' → H D = none → PotAt H' p c → H' D = some (.lst (xs.map .int)) → Q (.ref D) H') : tLc (iRng1 ta) (gName j) tYes te vs σ H Q := by
  refine ha.one H (Same.refl _) _ fun v H1 e1 hv => ?_
  refine ⟨(n : Int), by rw [show v = V.int n from hv], by omega, by omega, ?_⟩
  rw [Int.toNat_natCast]
  intro D hD
  have hP1 := hP.go e1
  obtain ⟨Dp, Dc⟩ := hP1.ne hD
  refine lc_it walk_range (fun i H' => Dr p H1 H' ∧ PotAt H' p c ∧ ∃ xs : List Int, xs.length = i ∧ (∀ x ∈ xs, B x) ∧ H' D = some (.lst (xs.map .int))) ⟨same_dr (Same.new hD), hP1.to (H' := H) Dp Dc, [], rfl, fun x hx => (by cases hx), upd_same⟩ (fun _ _ _ _ => trivial) (fun i x H2 H3 hi ⟨d2, P2, xs, hl, hB, hx⟩ hy => ?_) fun H' ⟨d2, P2, xs, hl, hB, hx⟩ => q xs D H' hl hB ((same_dr e1).trans d2) (e1.free hD) P2 hx
  obtain ⟨rfl, rfl⟩ := hy
  refine ⟨hwp _, ?_⟩
  dsimp only [tYes]
  rw [if_pos rfl]
  refine he H3 _ _ ((same_dr e1).trans d2) P2 fun x H4 bx d4 P4 => ?_
  have hx4 := d4 D _ Dp hx
  refine ⟨xs.map .int, hx4, ?_, ?_, P4.to (H' := H) Dp Dc, xs ++ [x], ?_, fun y hy => ?_, ?_⟩
  · rw [List.length_map]
    exact Nat.lt_of_le_of_lt (show xs.length ≤ 1000 by omega) (by decide)
  · intro b u hb hbu
    rw [upd_ne (fun z => by rw [z, hD] at hbu; cases hbu)]
    exact d4 b u hb (d2 b u hb hbu)
  · rw [List.length_append, hl]
    rfl
  · rcases List.mem_append.mp hy with hy | hy
    · exact hB y hy
    · rw [List.mem_singleton.mp hy]
      exact bx
  · rw [List.map_append]
    exact upd_same
def spPot (K : PySem.W.Frag) : Sp := fun vs H Q _ => ∃ (a : Addr) (ns : List Int), vs = [.ref a] ∧ SqL K H a (ns.map V.int) ∧ ns.length ≤ 63 ∧ ∀ p c H', Same H H' → PotAt H' p c → Q (.ref p) H'
theorem sc_law_pot : FnScope ["_law_script", "_law_cells", "_law_cell"] ["_law_script"] (defScope s_law_pot) := ⟨rfl, rfl, rfl, by decide +kernel, rfl, by decide +kernel, by decide +kernel⟩
theorem ok_law_pot (D : Defs K mg) : FnIs P w K mg base 1 "_law_pot" ["_law_script"] (spPot K) := by
  refine D.d_law_pot.ok sc_law_pot (fun _ _ _ _ _ _ us hl => match us, hl with | [_], _ => rfl) (fun vs H Q E h => ?_) (fun f cdv A outer s H vs Q E hr h => ?_)
  · obtain ⟨_, _, rfl, _⟩ := h
    rfl
  · obtain ⟨a, ns, rfl, hS, hz, k⟩ := h
    refine ⟨_, pss_cons (ps_setLc (i := 1) (own := [("_law_cell", 2)]) (g := gName 2) (tt := tYes) rfl sc_law_pot.nd rfl rfl (sw_true rfl rfl rfl (by decide +kernel)) (pi_list (pe_slice sl_list (pv 0) po_none (po_some pe_int))) (blkOk_by (N := ["_law_script", "_law_cells", "_law_cell"]) (sc := defScope s_law_pot) (by decide +kernel)) (fun _ _ _ _ _ => pg_name (i := 2) sc_law_pot.nd rfl (Or.inl rfl)) (fun _ _ _ _ _ => pts_nil) (fun _ _ _ _ _ => pe_callB (id := "abs") call_abs (by rfl) D.blt.b_abs (by decide +kernel) (pa_cons (pe_callTy (T := "int") call_int1 (by rfl) D.blt.b_int (by decide +kernel) (pa_cons (pv 2) pa_nil)) pa_nil)))
      (pss_one (ps_ret (pe_lst (pa_cons (pv 1) (pa_cons pe_int (pa_cons pe_int (pa_cons (pe_op op_add pe_int (pe_callB call_len_seq (by rfl) D.blt.b_len PySem.boot_len (pa_cons (pv 1) pa_nil))) (pa_cons pe_int pa_nil)))))))), ?_⟩
    have hc : cutV (ns.map V.int) none (some 63) = ns.map V.int := (cutN 63 _).trans (List.take_of_length_le (by rw [List.length_map]; exact hz))
    have h0 : EvD (tSl (rSlL K) (tVar 0) tNoPart (tPart (tC (.int 63)))) [some (.ref a), none, none] H (.list (ns.map .int)) := fun H1 e Q q => ⟨_, rfl, 63, rfl, a, ns.map .int, rfl, e.seq hS, fun l hl => by
      rw [hc]
      exact q _ _ (Same.new hl) ⟨l, _, rfl, upd_same, DtL.ints ns⟩⟩
    refine sd_asg (evd_lc1 ns .int (fun i => .int (if i < 0 then -i else i)) (evw_list h0) (by omega) (fun _ _ => rfl) (fun _ => rfl) fun x v H2 _ _ hv => evd_abs (evd_intI (evd_var (k := 2) rfl hv))) fun v H1 e01 hv => ?_
    have hm : (ns.map fun i => PyData.int (if i < 0 then -i else i)) = (ns.map fun i : Int => if i < 0 then -i else i).map .int := by rw [List.map_map]; rfl
    rw [hm] at hv
    refine sd_ret (d := potD (ns.map fun i : Int => if i < 0 then -i else i) 0 0 (1 + (((ns.map fun i : Int => if i < 0 then -i else i).map PyData.int).length : Nat)) 0) (evd_lst (eva_cons (evd_var rfl hv) (eva_cons evd_int (eva_cons evd_int (eva_cons (evd_add evd_int (evd_lenL (evd_var rfl hv))) (eva_cons evd_int eva_nil))))) (show 5 ≤ sizeLine by decide)) fun v2 H2 e2 hv2 => ?_
    obtain ⟨p, _, rfl, hp, _, _, rfl, ⟨c, cs, rfl, hc, hcs⟩, _, _, rfl, q1, _, _, rfl, q2, _, _, rfl, q3, _, _, rfl, q4, rfl⟩ := hv2
    rw [hcs.ints'] at hc
    have q1 : _ = V.int 0 := q1
    have q2 : _ = V.int 0 := q2
    have q3 : _ = V.int _ := q3
    have q4 : _ = V.int 0 := q4
    subst q1 q2 q3 q4
    refine k p c H2 (e01.trans e2) ⟨_, 0, 0, _, 0, ⟨fun x hx => ?_, Int.le_refl _, Int.le_refl _, by omega, Int.le_refl _⟩, fun z => ?_, hc, hp⟩
    · obtain ⟨i, _, rfl⟩ := List.mem_map.mp hx
      split <;> omega
    · rw [z, hp] at hc
      have hc := Option.some.inj hc
      injection hc with hc
      cases ns with
      | nil => cases hc
      | cons y ys => cases hc
def spAny : Sp := fun vs H Q _ => ∃ (p c : Addr) (v : V) (xs : List Int), vs = [.ref p, v] ∧ PotAt H p c ∧ Dt H (.list (xs.map .int)) v ∧ 1 ≤ xs.length ∧ xs.length ≤ 1000 ∧ ∀ x H', x ∈ xs → Dr p H H' → PotAt H' p c → Q (.int x) H'
theorem sc_law_any : FnScope ["_law_pot_here", "_law_things"] ["_law_pot_here", "_law_things"] (defScope s_law_any) := ⟨rfl, rfl, rfl, by decide +kernel, rfl, by decide +kernel, by decide +kernel⟩
theorem ok_law_any (D : Defs K mg) : FnIs P w K mg base 2 "_law_any" ["_law_pot_here", "_law_things"] spAny := by
  refine D.d_law_any.ok sc_law_any (fun _ _ _ _ _ _ us hl => match us, hl with | [_, _], _ => rfl) (fun vs H Q E h => ?_) (fun f cdv A outer s H vs Q E hr h => ?_)
  · obtain ⟨_, _, _, _, rfl, _⟩ := h
    rfl
  · obtain ⟨p, c, v, xs, rfl, hP, hv, h1, h2, k⟩ := h
    refine ⟨_, pss_one (ps_ret (pe_ix (r := rIxL K) ix_list (pv 1) (pe_fn (ok_law_draw D) hr (pa_cons (pv 0) (pa_cons (pe_callB call_len_seq (by rfl) D.blt.b_len PySem.boot_len (pa_cons (pv 1) pa_nil)) pa_nil))) (fun _ _ => rfl))), ?_⟩
    obtain ⟨l, vs, rfl, hA, hvs⟩ := hv
    have hvs := hvs.ints'
    subst hvs
    have hlp : l ≠ p := fun z => by
      obtain ⟨cells, a, b, s, t, _, _, _, q⟩ := hP
      rw [z, q] at hA
      have hA := Option.some.inj hA
      injection hA with hA
      cases xs with
      | nil => cases hA
      | cons y ys => cases hA
    refine ⟨_, rfl, _, rfl, _, rfl, l, _, rfl, .inl (SqL.of hA), p, c, _, rfl, hP, ?_, ?_, fun n H1 n0 n1 d1 P1 => ?_⟩
    · rw [List.length_map]
      omega
    · rw [List.length_map]
      omega
    · rw [List.length_map] at n1
      obtain ⟨m, rfl⟩ : ∃ m : Nat, n = m := ⟨n.toNat, by omega⟩
      have hm : m < xs.length := by omega
      exact ⟨l, _, m, .int xs[m], rfl, rfl, SqL.of (d1 l _ hlp hA), atI_nat (by rw [List.getElem?_map, List.getElem?_eq_getElem hm]; rfl), k _ H1 (List.getElem_mem hm) d1 P1⟩
end
end G98

/-! M1: rows in order, as data. -/
namespace G98
open PySem PySem.Spec PyProof.Rows L2
theorem lex_lt : ∀ xs ys : List Int, HT.lexLt xs ys = decide (xs < ys)
  | [], [] => (decide_eq_false (List.not_lt_nil [])).symm
  | [], y :: ys => (decide_eq_true (List.nil_lt_cons y ys)).symm
  | x :: xs, [] => (decide_eq_false (List.not_lt_nil _)).symm
  | x :: xs, y :: ys => by
    rw [HT.lexLt_cons, lex_lt xs ys]
    by_cases h : x = y
    · rw [if_pos h]
      exact decide_eq_decide.mpr ⟨fun q => List.cons_lt_cons_iff.mpr (.inr ⟨h, q⟩), fun q => (List.cons_lt_cons_iff.mp q).elim (fun z => absurd h (by omega)) fun z => z.2⟩
    · rw [if_neg h]
      exact decide_eq_decide.mpr ⟨fun q => List.cons_lt_cons_iff.mpr (.inl q), fun q => (List.cons_lt_cons_iff.mp q).elim id fun z => absurd z.1 h⟩
theorem lt_tri : ∀ {xs ys : List Int}, ¬ ys < xs → xs ≠ ys → xs < ys
  | [], [], _, h => absurd rfl h
  | [], y :: ys, _, _ => List.nil_lt_cons y ys
  | x :: xs, [], h, _ => absurd (List.nil_lt_cons x xs) h
  | x :: xs, y :: ys, h, n => by
    rw [List.cons_lt_cons_iff] at h ⊢
    by_cases hxy : x = y
    · refine .inr ⟨hxy, lt_tri (fun q => h (.inr ⟨hxy.symm, q⟩)) fun q => n (by rw [hxy, q])⟩
    · refine .inl ?_
      by_cases hl : x < y
      · exact hl
      · exact absurd (.inl (by omega)) h
theorem lt_irr : ∀ {xs : List Int}, ¬ xs < xs
  | [], h => List.not_lt_nil [] h
  | x :: xs, h => (List.cons_lt_cons_iff.mp h).elim (fun q => Int.lt_irrefl _ q) fun q => lt_irr q.2
theorem eqvAll_ints : ∀ xs ys : List Int, PyData.eqvAll (xs.map .int) (ys.map .int) = decide (xs = ys)
  | [], [] => by simp [PyData.eqvAll]
  | [], y :: ys => by simp [PyData.eqvAll]
  | x :: xs, [] => by simp [PyData.eqvAll]
  | x :: xs, y :: ys => by
    show PyData.eqvAll (.int x :: xs.map .int) (.int y :: ys.map .int) = _
    rw [PySem.W.eqv_all_cons, eqvAll_ints xs ys]
    simp only [PyData.eqv]
    rw [Bool.eq_iff_iff, Bool.and_eq_true, decide_eq_true_iff, decide_eq_true_iff, List.cons.injEq]
    simp
theorem eqv_row (xs ys : List Int) : PyData.eqv (dRow xs) (dRow ys) = decide (xs = ys) := by
  show PyData.eqv (.tuple _) (.tuple _) = _
  rw [PyData.eqv, eqvAll_ints]
theorem lt_row (xs ys : List Int) : PySem.W.dataLt (dRow xs) (dRow ys) = decide (xs < ys) := by
  rw [PySem.W.dataLt_tuple]
  exact PySem.W.dataLt_ints xs ys
theorem alike_row (xs ys : List Int) : PySem.W.alike (dRow xs) (dRow ys) = true := by
  rw [alike_tup, PySem.W.alike_ints]
theorem alikeAll_rows : ∀ xs ys : List (List Int), PySem.W.alikeAll (xs.map dRow) (ys.map dRow) = true
  | [], _ => by simp [PySem.W.alikeAll]
  | _ :: _, [] => by simp [PySem.W.alikeAll]
  | x :: xs, y :: ys => by
    show PySem.W.alikeAll (dRow x :: xs.map dRow) (dRow y :: ys.map dRow) = true
    rw [PySem.W.alikeAll, alikeAll_rows xs ys, alike_row]
    rfl
theorem alike_lot (xs ys : List (List Int)) : PySem.W.alike (dLot xs) (dLot ys) = true := by
  rw [alike_tup, alikeAll_rows]
theorem alike_ent (e e' : Ent) : PySem.W.alike (dEnt e) (dEnt e') = true := by
  rw [alike_tup, PySem.W.alikeAll, PySem.W.alikeAll, PySem.W.alikeAll, alike_row, alike_lot]
  rfl
theorem lt_ent {e e' : Ent} (h : e.1 ≠ e'.1) : PySem.W.dataLt (dEnt e) (dEnt e') = decide (e.1 < e'.1) := by
  rw [PySem.W.dataLt_pair (alike_row _ _) (alike_lot _ _), eqv_row, decide_eq_false h, if_neg (by decide), lt_row]
theorem lt_rest (i : Nat) {xs ys : List Int} (h : xs < ys) : PySem.W.dataLt (dR (i, xs)) (dR (i, ys)) = true := by
  show PySem.W.dataLt (.tuple [dNat i, dRow xs]) (.tuple [dNat i, dRow ys]) = true
  have ha : PySem.W.alike (dNat i) (dNat i) = true := by simp [dNat, PySem.W.alike]
  have he : PyData.eqv (dNat i) (dNat i) = true := by simp [dNat, PyData.eqv]
  rw [PySem.W.dataLt_pair ha (alike_row _ _), he, if_pos rfl, eqv_row, decide_eq_false (fun q => lt_irr (q ▸ h)), if_neg (by decide), lt_row, decide_eq_true h]
theorem depth_rows : ∀ rs : List (List Int), PyData.depthAll (rs.map dRow) ≤ 1
  | [] => by simp [PyData.depthAll]
  | r :: rs => by
    show PyData.depthAll (dRow r :: rs.map dRow) ≤ 1
    have := depth_rows rs
    rw [PyData.depthAll, PyData.depth, PySem.W.depth_ints]
    simp only [Nat.zero_add, Nat.max_def]
    split <;> omega
theorem depth_ent (e : Ent) : (dEnt e).depth ≤ 8 := by
  have := depth_rows e.2
  show PyData.depth (.tuple [dRow e.1, dLot e.2]) ≤ 8
  rw [PyData.depth, PyData.depthAll, PyData.depthAll, PyData.depthAll, PyData.depth, PyData.depth, PySem.W.depth_ints]
  simp only [Nat.max_def]
  repeat (first | omega | split)
theorem lay_ints : ∀ ns : List Int, PyData.canLayAll0 (ns.map .int) = true
  | [] => by simp [PyData.canLayAll0]
  | n :: ns => by
    show PyData.canLayAll0 (.int n :: ns.map .int) = true
    simp [PyData.canLayAll0, PyData.canLay0, lay_ints ns]
theorem lay_row (ns : List Int) : (dRow ns).canLay0 = true := by
  show PyData.canLay0 (.tuple _) = true
  simp [PyData.canLay0, lay_ints ns]
theorem lay_rows : ∀ rs : List (List Int), PyData.canLayAll0 (rs.map dRow) = true
  | [] => by simp [PyData.canLayAll0]
  | n :: ns => by
    show PyData.canLayAll0 (dRow n :: ns.map dRow) = true
    rw [PyData.canLayAll0, lay_row, lay_rows ns]
    rfl
theorem shaped_row (ns : List Int) : SeqAt.shaped (dRow ns) = true := by
  unfold SeqAt.shaped
  rw [lay_row, Bool.true_and, decide_eq_true]
  show PyData.depth (.tuple _) ≤ 64
  rw [PyData.depth, PySem.W.depth_ints]
  decide
theorem shaped_rows (rs : List (List Int)) : SeqAt.shaped (.list (rs.map dRow)) = true := by
  have h := depth_rows rs
  unfold SeqAt.shaped
  rw [PyData.canLay0, lay_rows, Bool.true_and, decide_eq_true]
  rw [PyData.depth]
  omega
theorem shaped_lot (rs : List (List Int)) : SeqAt.shaped (dLot rs) = true := by
  have h := depth_rows rs
  show SeqAt.shaped (.tuple _) = true
  unfold SeqAt.shaped
  rw [PyData.canLay0, lay_rows, Bool.true_and, decide_eq_true]
  rw [PyData.depth]
  omega
/-! ### sorted, of data -/
theorem map_snd_zip {α : Type} (enc : α → PyData) : ∀ {vs : List V} {xs : List α}, vs.length = xs.length → ((vs.zip xs).map fun q => (q.1, enc q.2)).map (·.1) = vs
  | [], [], _ => rfl
  | v :: vs, x :: xs, h => by
    show v :: ((vs.zip xs).map fun q => (q.1, enc q.2)).map (·.1) = v :: vs
    rw [map_snd_zip enc (by simpa using h)]
theorem zip_snd {α : Type} : ∀ {vs : List V} {xs : List α}, vs.length = xs.length → (vs.zip xs).map (·.2) = xs
  | [], [], _ => rfl
  | v :: vs, x :: xs, h => by
    show x :: (vs.zip xs).map (·.2) = x :: xs
    rw [zip_snd (by simpa using h)]
theorem dt_zip {H : Hp} {α : Type} (enc : α → PyData) : ∀ {vs : List V} {xs : List α}, DtL H (xs.map enc) vs → ∀ q ∈ vs.zip xs, Dt H (enc q.2) q.1
  | [], _, _, q, hq => by cases hq
  | _ :: _, [], _, q, hq => by cases hq
  | v :: vs, x :: xs, ⟨u, r, e, h1, h2⟩, q, hq => by
    cases e
    rcases List.mem_cons.mp hq with rfl | hq
    · exact h1
    · exact dt_zip enc h2 q hq
theorem dtl_of {H : Hp} {α : Type} (enc : α → PyData) : ∀ (l : List (V × α)), (∀ q ∈ l, Dt H (enc q.2) q.1) → DtL H ((l.map (·.2)).map enc) (l.map (·.1))
  | [], _ => rfl
  | q :: l, h => ⟨_, _, rfl, h q List.mem_cons_self, dtl_of enc l fun x hx => h x (List.mem_cons_of_mem _ hx)⟩
theorem sort_data {K : PySem.W.Frag} {H : Hp} {Q : VK} {α : Type} (enc : α → PyData) {xs : List α} {v : V} (hd : Dt H (.list (xs.map enc)) v) (halike : ∀ x ∈ xs, ∀ y ∈ xs, PySem.W.alike (enc x) (enc y) = true) (htup : ∀ x ∈ xs, ∃ a r, enc x = .tuple (a :: r)) (hdepth : ∀ x ∈ xs, (enc x).depth ≤ 8)
    (q : ∀ (ys : List α) (p : Addr) H', ys.Perm xs → (ys.Pairwise fun x y => PySem.W.dataLt (enc y) (enc x) = false) → Same H H' → H p = none → Dt H' (.list (ys.map enc)) (.ref p) → Q (.ref p) H') : rSortD K [v] H Q := by
  obtain ⟨a, vs, rfl, hA, hv⟩ := hd
  have hl : vs.length = xs.length := by rw [hv.len, List.length_map]
  have hz := dt_zip enc hv
  have memz : ∀ q ∈ vs.zip xs, q.2 ∈ xs := fun q hq => (List.of_mem_zip hq).2
  refine ⟨a, (vs.zip xs).map fun q => (q.1, enc q.2), rfl, ?_, fun b hb => ?_, ⟨fun d hd d' hd' => ?_, .inl fun d hd => ?_, fun b hb => ?_⟩, fun out p perm asc hp => ?_⟩
  · rw [map_snd_zip enc hl]
    exact SqL.of hA
  · obtain ⟨z, hz1, rfl⟩ := List.mem_map.mp hb
    exact (hz z hz1).dp
  · obtain ⟨b, hb, rfl⟩ := List.mem_map.mp hd
    obtain ⟨b', hb', rfl⟩ := List.mem_map.mp hd'
    obtain ⟨z, hz1, rfl⟩ := List.mem_map.mp hb
    obtain ⟨z', hz1', rfl⟩ := List.mem_map.mp hb'
    exact halike _ (memz z hz1) _ (memz z' hz1')
  · obtain ⟨b, hb, rfl⟩ := List.mem_map.mp hd
    obtain ⟨z, hz1, rfl⟩ := List.mem_map.mp hb
    exact htup _ (memz z hz1)
  · obtain ⟨z, hz1, rfl⟩ := List.mem_map.mp hb
    exact hdepth _ (memz z hz1)
  · obtain ⟨l, hl1, hl2⟩ := perm_map_inv (fun q : V × α => (q.1, enc q.2)) perm
    refine q (l.map (·.2)) p _ ?_ ?_ (Same.new hp) hp ⟨p, _, rfl, upd_same, ?_⟩
    · have := hl1.map (·.2)
      rw [zip_snd hl] at this
      exact this
    · rw [List.pairwise_map]
      rw [← hl2] at asc
      exact List.pairwise_map.mp asc
    · rw [← hl2, List.map_map]
      exact (dtl_of enc l fun z hz1 => hz z (hl1.mem_iff.mp hz1)).same (Same.new hp)
end G98

/-! E11a: lists of ones own. -/
namespace G98
open PySem PySem.Spec PyProof.Rows L2
section
variable {P : Program} {w : World} {K : PySem.W.Frag} {mg : Str → Option Value} {base : Heap}
theorem Room.u65 {k : Nat} {A : Around} (r : Room k A) : A.units + 65 < cLine := by have := r.un; omega
/-- behind H: all but the pot p is kept; the lists of S are new, and hold such data -/
structure Own (H : Hp) (p c : Addr) (H' : Hp) (S : List (Addr × List PyData)) : Prop where
  dr : Dr p H H'
  pot : PotAt H' p c
  nd : (S.map (·.1)).Nodup
  fr : ∀ q ∈ S, H q.1 = none ∧ q.1 ≠ p ∧ q.1 ≠ c
  at_ : ∀ q ∈ S, noLs q.2 = true ∧ ∃ vs, H' q.1 = some (.lst vs) ∧ DtL H' q.2 vs
section
variable {H H1 H2 : Hp} {p c a b d : Addr} {S : List (Addr × List PyData)} {ds ds' es fs : List PyData} {vs : List V}
theorem Own.start (h : PotAt H p c) : Own H p c H [] := ⟨Dr.refl p H, h, List.nodup_nil, fun q hq => (by cases hq), fun q hq => (by cases hq)⟩
theorem Own.same (o : Own H p c H1 S) (e : Same H1 H2) : Own H p c H2 S := ⟨o.dr.trans (same_dr e), o.pot.go e, o.nd, o.fr, fun q hq => let ⟨n, vs, h1, h2⟩ := o.at_ q hq; ⟨n, vs, e _ _ h1, h2.same e⟩⟩
theorem Own.draw (o : Own H p c H1 S) (d : Dr p H1 H2) (P : PotAt H2 p c) : Own H p c H2 S := ⟨o.dr.trans d, P, o.nd, o.fr, fun q hq => let ⟨n, vs, h1, h2⟩ := o.at_ q hq; ⟨n, vs, d _ _ (o.fr q hq).2.1 h1, h2.dr d o.pot.notup n⟩⟩
theorem Own.free (o : Own H p c H1 S) (hq : H1 a = none) : H a = none ∧ a ≠ p ∧ a ≠ c ∧ ∀ q ∈ S, q.1 ≠ a := by
  obtain ⟨h1, h2⟩ := o.pot.ne hq
  refine ⟨?_, h1, h2, fun q hqs z => ?_⟩
  · cases e : H a with
    | none => rfl
    | some u => rw [o.dr a u h1 e] at hq; cases hq
  · obtain ⟨_, vs, e, _⟩ := o.at_ q hqs
    rw [z, hq] at e
    cases e
/-- a new list -/
theorem Own.add (o : Own H p c H2 S) (f : H1 a = none) (o1 : Own H p c H1 S) (n : noLs ds = true) (h1 : H2 a = some (.lst vs)) (h2 : DtL H2 ds vs) : Own H p c H2 ((a, ds) :: S) := by
  obtain ⟨f1, f2, f3, f4⟩ := o1.free f
  refine ⟨o.dr, o.pot, ?_, fun q hq => ?_, fun q hq => ?_⟩
  · rw [List.map_cons, List.nodup_cons]
    refine ⟨fun hm => ?_, o.nd⟩
    obtain ⟨q, hq, e⟩ := List.mem_map.mp hm
    exact f4 q hq e
  · rcases List.mem_cons.mp hq with rfl | hq
    · exact ⟨f1, f2, f3⟩
    · exact o.fr q hq
  · rcases List.mem_cons.mp hq with rfl | hq
    · exact ⟨n, vs, h1, h2⟩
    · exact o.at_ q hq
theorem Own.new (o : Own H p c H1 S) (f : H1 a = none) (n : noLs ds = true) (h2 : DtL H1 ds vs) : Own H p c (upd H1 a (.lst vs)) ((a, ds) :: S) :=
  (o.same (Same.new f)).add f o n upd_same (h2.same (Same.new f))
/-- the first list is written -/
theorem Own.put (o : Own H p c H1 ((a, ds) :: S)) (n : noLs ds' = true) (h2 : DtL H1 ds' vs) : Own H p c (upd H1 a (.lst vs)) ((a, ds') :: S) := by
  obtain ⟨f1, f2, f3⟩ := o.fr (a, ds) List.mem_cons_self
  obtain ⟨_, ws, hw, _⟩ := o.at_ (a, ds) List.mem_cons_self
  have nd := o.nd
  rw [List.map_cons, List.nodup_cons] at nd
  refine ⟨fun b u hb hu => ?_, o.pot.to (H' := H) f2 f3, o.nd, fun q hq => ?_, fun q hq => ?_⟩
  · rw [upd_ne (fun z => by rw [z, f1] at hu; cases hu)]
    exact o.dr b u hb hu
  · rcases List.mem_cons.mp hq with rfl | hq
    · exact ⟨f1, f2, f3⟩
    · exact o.fr q (List.mem_cons_of_mem _ hq)
  · rcases List.mem_cons.mp hq with rfl | hq
    · exact ⟨n, vs, upd_same, DtL.upd (lst_tup hw) n h2⟩
    · obtain ⟨n', vs', h1', h2'⟩ := o.at_ q (List.mem_cons_of_mem _ hq)
      have hne : q.1 ≠ a := fun z => nd.1 (List.mem_map.mpr ⟨q, hq, z⟩)
      exact ⟨n', vs', by rw [upd_ne hne]; exact h1', DtL.upd (lst_tup hw) n' h2'⟩
theorem Own.swap (o : Own H p c H1 ((a, ds) :: (b, es) :: S)) : Own H p c H1 ((b, es) :: (a, ds) :: S) := by
  have sub : ∀ q, q ∈ (b, es) :: (a, ds) :: S → q ∈ (a, ds) :: (b, es) :: S := fun q hq => (List.Perm.swap (b, es) (a, ds) S).mem_iff.mpr hq |> fun z => (List.Perm.swap (a, ds) (b, es) S).mem_iff.mp hq
  refine ⟨o.dr, o.pot, ?_, fun q hq => o.fr q (sub q hq), fun q hq => o.at_ q (sub q hq)⟩
  exact (((List.Perm.swap (a, ds) (b, es) S).map (·.1)).nodup_iff).mpr o.nd
theorem Own.tail (o : Own H p c H1 ((a, ds) :: S)) : Own H p c H1 S := by
  have nd := o.nd
  rw [List.map_cons, List.nodup_cons] at nd
  exact ⟨o.dr, o.pot, nd.2, fun q hq => o.fr q (List.mem_cons_of_mem _ hq), fun q hq => o.at_ q (List.mem_cons_of_mem _ hq)⟩
/-- the third first -/
theorem Own.rot (o : Own H p c H1 ((a, ds) :: (b, es) :: (d, fs) :: S)) : Own H p c H1 ((d, fs) :: (a, ds) :: (b, es) :: S) := by
  have pm : ((d, fs) :: (a, ds) :: (b, es) :: S).Perm ((a, ds) :: (b, es) :: (d, fs) :: S) := ((List.Perm.swap (a, ds) (d, fs) _).trans (List.Perm.cons _ (List.Perm.swap (b, es) (d, fs) S)))
  exact ⟨o.dr, o.pot, ((pm.map (·.1)).nodup_iff).mpr o.nd, fun q hq => o.fr q (pm.mem_iff.mp hq), fun q hq => o.at_ q (pm.mem_iff.mp hq)⟩
theorem Own.here (o : Own H p c H1 ((a, ds) :: S)) : ∃ vs, H1 a = some (.lst vs) ∧ DtL H1 ds vs := (o.at_ _ List.mem_cons_self).2
theorem Own.data (o : Own H p c H1 ((a, ds) :: S)) : Dt H1 (.list ds) (.ref a) := let ⟨vs, h1, h2⟩ := o.here; ⟨a, vs, rfl, h1, h2⟩
end
end
end G98

/-! E11: lots split. -/
namespace G98
open PySem PySem.Spec PyProof.Rows L2
section
variable {P : Program} {w : World} {K : PySem.W.Frag} {mg : Str → Option Value} {base : Heap}
theorem room65 {k : Nat} {A : Around} (r : Room k A) : A.units + 65 < cLine := Room.u65 r
theorem sq_ {t u : TS} {D : Ends} {σ : L2.St} {H : Hp} (h : t { D with nx := u D } σ H) : tSeq t u D σ H := h
theorem sa_ {te : TE} {i : Nat} {D : Ends} {σ : L2.St} {H : Hp} (h : te σ H fun v H1 => D.nx (σ.set i (some v)) H1) : tAsg te (gName i) D σ H := h
theorem rng_ {R : It → Hp → Prop} {H1 : Hp} {y : Int} {m : Nat} (hy : y = (m : Int)) (hm : m ≤ 100) (h : R (Itr 0 m) H1) : ∃ j : Int, [V.int y] = [.int j] ∧ -(2 ^ 62) ≤ j ∧ j < 2 ^ 62 ∧ R (Itr 0 j.toNat) H1 := ⟨m, by rw [hy], by omega, by omega, by rw [Int.toNat_natCast]; exact h⟩
theorem rw_ {j m : Nat} {tb : TS} {D : Ends} {σ : L2.St} {H : Hp} (Pv : Nat → L2.St → Hp → Prop) (h0 : Pv 0 σ H) (hs : ∀ i σ' H', i < m → Pv i σ' H' → tb { D with nx := Pv (i + 1), ct := Pv (i + 1), bk := D.nx } (σ'.set j (some (.int (i : Int)))) H') (hd : ∀ σ' H', Pv m σ' H' → D.nx σ' H') :
    ∃ W : Nat → Nat → L2.St → Hp → Prop, (∃ m, W 0 m σ H) ∧ ∀ i k σ H, W i k σ H →
      ((Itr 0 m).stop i H ∧ D.nx σ H) ∨ ((Itr 0 m).go i H ∧ ∃ N : L2.St → Hp → Prop, (∀ σ' H', N σ' H' → ∃ m', m' < k ∧ W (i + 1) m' σ' H') ∧ ∀ x H', (Itr 0 m).yld i H x H' → gName j x σ H' fun σ2 H2 => tb { D with nx := N, ct := N, bk := D.nx } σ2 H2) := by
  refine for_it walk_range Pv h0 (fun _ _ _ _ _ => trivial) (fun i x σ' H' H'' hi p y => ?_) hd
  obtain ⟨rfl, rfl⟩ := y
  dsimp only [gName]
  rw [Int.zero_add]
  exact hs i σ' H'' hi p
theorem st_ {K : PySem.W.Frag} {te : TE} {σ : L2.St} {H : Hp} {Q : VK} (h : te σ H fun x H1 => rTupQ K [x] H1 Q) : tCB (rTupQ K) (tCons te tNil) σ H Q := h
theorem tt_ {tr : TA} {σ : L2.St} {H : Hp} {Q : VK} (h : tr σ H fun xs H1 => xs.length ≤ sizeLine ∧ ∀ p, H1 p = none → Q (.ref p) (upd H1 p (.tup xs))) : tTup tr σ H Q := h
theorem tc_ {te : TE} {tr : TA} {σ : L2.St} {H : Hp} {Q : List V → Hp → Prop} (h : te σ H fun x H1 => tr σ H1 fun xs H2 => Q (x :: xs) H2) : tCons te tr σ H Q := h
/-- data is given, not told to the last -/
def EvE (te : TE) (σ : L2.St) (H : Hp) (Φ : PyData → Prop) : Prop := ∀ H1, Same H H1 → ∀ Q : VK, (∀ v H2 d, Same H1 H2 → Φ d → Dt H2 d v → Q v H2) → te σ H1 Q
section
variable {K : PySem.W.Frag} {σ : L2.St} {H H1 : Hp} {ta tb tc te : TE} {d d1 d2 : PyData} {ds es : List PyData} {Φ : PyData → Prop}
theorem eve_sort {α : Type} (enc : α → PyData) {xs : List α} (h : EvD te σ H (.list (xs.map enc))) (h1 : ∀ x ∈ xs, ∀ y ∈ xs, PySem.W.alike (enc x) (enc y) = true) (h2 : ∀ x ∈ xs, ∃ a r, enc x = .tuple (a :: r)) (h3 : ∀ x ∈ xs, (enc x).depth ≤ 8) :
    EvE (tCB (rSortD K) (tCons te tNil)) σ H (fun d => ∃ ys : List α, d = .list (ys.map enc) ∧ ys.Perm xs ∧ ys.Pairwise fun x y => PySem.W.dataLt (enc y) (enc x) = false) := fun H1 e Q q => h H1 e _ fun v H2 e2 hv =>
  sort_data enc hv h1 h2 h3 fun ys p H3 hp ha e3 _ hd => q _ H3 _ (e2.trans e3) ⟨ys, rfl, hp, ha⟩ hd
theorem eve_tupL (h : EvE te σ H Φ) (hΦ : ∀ d, Φ d → ∃ ds, d = .list ds) : EvE (tCB (rTupQ K) (tCons te tNil)) σ H (fun d => ∃ ds, d = .tuple ds ∧ Φ (.list ds)) := fun H1 e Q q => h H1 e _ fun v H2 d e2 hp hv => by
  obtain ⟨ds, rfl⟩ := hΦ d hp
  obtain ⟨a, vs, rfl, hA, hvs⟩ := hv
  exact ⟨a, vs, rfl, .inl ⟨SqL.of hA, fun l hl => q _ _ (.tuple ds) (e2.trans (Same.new hl)) ⟨ds, rfl, hp⟩ ⟨l, vs, rfl, upd_same, hvs.same (Same.new hl)⟩⟩⟩
theorem eve_tup2 (h1 : EvD ta σ H d1) (h2 : EvE tb σ H Φ) : EvE (tTup (tCons ta (tCons tb tNil))) σ H (fun d => ∃ d2, d = .tuple [d1, d2] ∧ Φ d2) := fun H1 e Q q => h1 H1 e _ fun v H2 e2 hv => h2 H2 (e.trans e2) _ fun u H3 d e3 hp hu =>
  ⟨(show 2 ≤ sizeLine by decide), fun t ht => q _ _ _ ((e2.trans e3).trans (Same.new ht)) ⟨d, rfl, hp⟩ ⟨t, _, rfl, upd_same, _, _, rfl, (hv.same e3).same (Same.new ht), DtL.one (hu.same (Same.new ht))⟩⟩
theorem eve_tup3 (h1 : EvE ta σ H Φ) (h2 : EvD tb σ H d1) (h3 : EvD tc σ H d2) : EvE (tTup (tCons ta (tCons tb (tCons tc tNil)))) σ H (fun d => ∃ d0, d = .tuple [d0, d1, d2] ∧ Φ d0) := fun H1 e Q q => h1 H1 e _ fun v H2 d e2 hp hv => h2 H2 (e.trans e2) _ fun u H3 e3 hu => h3 H3 ((e.trans e2).trans e3) _ fun z H4 e4 hz =>
  ⟨(show 3 ≤ sizeLine by decide), fun t ht => q _ _ _ (((e2.trans e3).trans e4).trans (Same.new ht)) ⟨d, rfl, hp⟩ ⟨t, _, rfl, upd_same, _, _, rfl, ((hv.same e3).same e4).same (Same.new ht), _, _, rfl, (hu.same e4).same (Same.new ht), DtL.one (hz.same (Same.new ht))⟩⟩
theorem evd_catL (ha : EvD ta σ H (.list ds)) (hb : EvD tb σ H (.list es)) (hl : ds.length + es.length ≤ sizeLine) : EvD (tOp rCat ta tb) σ H (.list (ds ++ es)) := fun H1 e Q q =>
  ha H1 e _ fun x H2 e2 ⟨a, vs, hx, hA, hv⟩ => hb H2 (e.trans e2) _ fun y H3 e3 ⟨b, ws, hy, hB, hw⟩ =>
    ⟨a, b, vs, ws, hx, hy, e3 _ _ hA, hB, by rw [hv.len, hw.len]; exact hl, fun p hp => q _ _ ((e2.trans e3).trans (Same.new hp)) ⟨p, _, rfl, upd_same, ((hv.same e3).app hw).same (Same.new hp)⟩⟩
theorem evd_notIn (ha : EvD ta σ H d) (hb : EvD tb σ H (.list ds)) (h1 : SeqAt.shaped d = true) (h2 : SeqAt.shaped (.list ds) = true) : EvD (tOp (rNotInD K) ta tb) σ H (.bool (!ds.any fun z => PyData.eqv z d)) := fun H1 e Q q =>
  ha H1 e _ fun x H2 e2 hx => hb H2 (e.trans e2) _ fun y H3 e3 hy => ⟨d, ds, (hx.same e3).dp, hy.dp, h1, h2, q _ _ (e2.trans e3) rfl⟩
/-- append to the first of ones own lists -/
theorem ap_ {p c a : Addr} {S : List (Addr × List PyData)} {k : Nat} {D : Ends} (o : Own H p c H1 ((a, ds) :: S)) (hk : σ[k]? = some (some (.ref a))) (he : EvE te σ H1 Φ) (hn : ∀ d, Φ d → noL d = true) (hz : ds.length ≤ 1000) (q : ∀ d H2, Φ d → Own H p c H2 ((a, ds ++ [d]) :: S) → D.nx σ H2) :
    tDrop (tBM K "list" rAppend (tVar k) (tCons te tNil)) D σ H1 := by
  obtain ⟨vs, h1, h2⟩ := o.here
  refine ⟨_, hk, .inl ⟨rfl, _, SqL.of h1⟩, he H1 (Same.refl _) _ fun v H2 d e2 hp hv => ?_⟩
  have o2 := o.same e2
  refine ⟨a, vs, v, rfl, rfl, e2 _ _ h1, ?_, q d _ hp (o2.put ?_ ((h2.same e2).app (DtL.one hv)))⟩
  · rw [h2.len]
    exact Nat.lt_of_le_of_lt hz (by decide)
  · refine noLs_of fun x hx => ?_
    rcases List.mem_append.mp hx with hx | hx
    · exact noLs_mem (o.at_ _ List.mem_cons_self).1 x hx
    · rw [List.mem_singleton.mp hx]
      exact hn d hp
theorem EvD.eve (h : EvD te σ H d) : EvE te σ H (fun x => x = d) := fun H1 e Q q => h H1 e _ fun v H2 e2 hv => q v H2 d e2 rfl hv
end
theorem noLs_ints (ns : List Int) : noLs (ns.map PyData.int) = true := noL_row ns
theorem dtl_ints {H : Hp} {ns : List Int} {vs : List V} (h : DtL H (ns.map .int) vs) : vs = ns.map .int := h.ints'
/-- a comprehension of draws, among lists of ones own -/
theorem lc_own {σ : L2.St} {H H1 : Hp} {S : List (Addr × List PyData)} {ta : TA} {te : TE} {j n : Nat} {vs : List Nat} {p c : Addr} {B : Int → Prop} {Q : VK} (o : Own H p c H1 S) (ha : EvA ta σ H1 [dNat n]) (hn : n ≤ 1000) (hwp : ∀ x, wipe ((wipe σ vs).set j (some x)) vs = wipe σ vs)
    (he : ∀ (H2 : Hp) (u : V) (Q : VK), Dr p H1 H2 → PotAt H2 p c → (∀ (x : Int) H3, B x → Dr p H2 H3 → PotAt H3 p c → Q (.int x) H3) → te ((wipe σ vs).set j (some u)) H2 Q)
    (q : ∀ (xs : List Int) (D : Addr) H', xs.length = n → (∀ x ∈ xs, B x) → Dr p H1 H' → Own H p c H' ((D, xs.map .int) :: S) → Q (.ref D) H') : tLc (iRng1 ta) (gName j) tYes te vs σ H1 Q :=
  lc_draws ha hn o.pot hwp he fun xs D H' hl hB hd hD hP hx => q xs D H' hl hB hd ((o.draw hd hP).add hD o (noLs_ints xs) hx (DtL.ints xs))
theorem dele_set (i : Nat) (l : List Int) (x : Int) : dele i (l.set i x) = dele i l := by
  unfold dele
  rw [List.take_set_of_le (Nat.le_refl i), List.drop_set_of_lt (Nat.lt_succ_self i)]
theorem dele_mem {i : Nat} {l : List Int} {x : Int} (h : x ∈ dele i l) : x ∈ l := by
  unfold dele at h
  rcases List.mem_append.mp h with h | h
  · exact List.mem_of_mem_take h
  · exact List.mem_of_mem_drop h
theorem set_mem {i : Nat} {l : List Int} {x y : Int} (h : y ∈ l.set i x) : y = x ∨ y ∈ l := (List.mem_or_eq_of_mem_set h).symm
theorem any_row {rs : List (List Int)} {r : List Int} (h : (!(rs.map dRow).any fun z => PyData.eqv z (dRow r)) = true) : r ∉ rs := fun hm => by
  rw [Bool.not_eq_true', List.any_eq_false] at h
  have := h (dRow r) (List.mem_map.mpr ⟨r, hm, rfl⟩)
  rw [eqv_row, decide_eq_true rfl] at this
  exact this rfl
theorem tup_row (ns : List Int) (h : ns ≠ []) : ∃ a r, dRow ns = .tuple (a :: r) := by
  cases ns with
  | nil => exact absurd rfl h
  | cons n ns => exact ⟨_, _, rfl⟩
theorem depth_row (ns : List Int) : (dRow ns).depth ≤ 8 := by
  show PyData.depth (.tuple _) ≤ 8
  rw [PyData.depth, PySem.W.depth_ints]
  decide
theorem zip_next {α : Type} {R : α → α → Prop} : ∀ {l : List α}, l.Pairwise R → ∀ q ∈ l.zip (l.drop 1), R q.1 q.2
  | [], _, q, hq => by cases hq
  | [_], _, q, hq => by cases hq
  | x :: y :: l, h, q, hq => by
    have hq : q ∈ (x, y) :: (y :: l).zip ((y :: l).drop 1) := hq
    rcases List.mem_cons.mp hq with rfl | hq
    · exact (List.pairwise_cons.mp h).1 y List.mem_cons_self
    · exact zip_next (List.pairwise_cons.mp h).2 q hq
/-- sorted rows, no two alike, rise -/
theorem rise_of {ys : List (List Int)} (hn : ys.Nodup) (h : ys.Pairwise fun x y => PySem.W.dataLt (dRow y) (dRow x) = false) : riseR ys := fun q hq => by
  have hp : ys.Pairwise fun x y => HT.lexLt x y = true := by
    refine (h.and hn).imp fun {a b} hab => ?_
    rw [lt_row] at hab
    rw [lex_lt, decide_eq_true (lt_tri (of_decide_eq_false hab.1) hab.2)]
  exact zip_next hp q hq
theorem lotOk_of {n : Nat} {rs ys : List (List Int)} (hp : ys.Perm rs) (hn : rs.Nodup) (h : ys.Pairwise fun x y => PySem.W.dataLt (dRow y) (dRow x) = false) (h1 : rs ≠ []) (h2 : rs.length ≤ 60) (h3 : ∀ r ∈ rs, Row n r) : LotOk n ys :=
  ⟨by rw [hp.length_eq]; exact List.length_pos_iff.mpr h1, by rw [hp.length_eq]; exact h2, fun r hr => h3 r (hp.mem_iff.mp hr), rise_of (hp.nodup_iff.mpr hn) h⟩
structure Ent1 (n i : Nat) (base : List Int) (u : Nat) (e : Ent) : Prop where
  row : e.1 = base.set i (u : Int)
  lot : LotOk n e.2
  far : ∀ r ∈ e.2, ∀ x ∈ dele i r, 100 * (u : Int) ≤ x ∧ x ≤ 100 * (u : Int) + 2
structure Ent2 (n t : Nat) (e : Ent) : Prop where
  len : e.1.length = n
  row : ∀ x ∈ e.1, 50 + 10 * (t : Int) ≤ x ∧ x ≤ 52 + 10 * (t : Int)
  lot : LotOk n e.2
/-- the lots as they come, not yet sorted -/
structure Lots0 (n i : Nat) (base : List Int) (e1 e2 : List Ent) : Prop where
  two : 2 ≤ e1.length
  four : e1.length ≤ 4
  few : e2.length ≤ 2
  bs : base.length = n ∧ ∀ x ∈ base, 0 ≤ x ∧ x ≤ 2
  one : ∀ (u : Nat) e, e1[u]? = some e → Ent1 n i base u e
  more : ∀ (t : Nat) e, e2[t]? = some e → Ent2 n t e
def spSplit : Sp := fun vs H Q _ => ∃ (p c : Addr) (n : Nat), vs = [.ref p, .int n] ∧ PotAt H p c ∧ 3 ≤ n ∧ n ≤ 5 ∧ ∀ v H' (es e1 e2 : List Ent) (i : Nat) (base : List Int), Dr p H H' → PotAt H' p c → Dt H' (.tuple [dLots es, dNat i, dRow (dele i base)]) v → i < n → Lots0 n i base e1 e2 → es.Perm (e1 ++ e2) →
  (es.Pairwise fun x y => PySem.W.dataLt (dEnt y) (dEnt x) = false) → Q v H'
theorem sc_law_split : FnScope ["_law_pot_here", "_law_many", "_law_i", "_law_lots", "_law_base", "_law_value", "_law_row", "_law_lot", "_law_turn", "_law_told", "_law_k"] ["_law_pot_here", "_law_many"] (defScope s_law_split) := ⟨rfl, rfl, rfl, by decide +kernel, rfl, by decide +kernel, by decide +kernel⟩
theorem ok_law_split (D : Defs K mg) : FnIs P w K mg base 2 "_law_split" ["_law_pot_here", "_law_many"] spSplit := by
  refine D.d_law_split.ok sc_law_split (fun _ _ _ _ _ _ us hl => match us, hl with | [_, _], _ => rfl) (fun vs H Q E h => ?_) (fun f cdv A outer s H vs Q E hr h => ?_)
  · obtain ⟨_, _, _, rfl, _⟩ := h
    rfl
  · obtain ⟨p, c, n, rfl, hP, n3, n5, k⟩ := h
    refine ⟨_, (pss_cons (ps_par (i := 2) (j := 3) rfl sc_law_split.nd rfl rfl (by decide) rfl rfl (pa_cons (pe_fn (ok_law_draw D) hr (pa_cons (pv 0) (pa_cons (pv 1) pa_nil))) (pa_cons (pe_lst pa_nil) pa_nil)) (by rfl)) (pss_cons (ps_setLc (i := 4) (own := [("_law_k", 10)]) (g := gName 10) (tt := tYes) rfl sc_law_split.nd rfl rfl (sw_true rfl rfl rfl (by decide +kernel)) (pi_range1 (by rfl) D.blt.b_range (pa_cons (pv 1) pa_nil)) (blkOk_by (N := ["_law_pot_here", "_law_many", "_law_i", "_law_lots", "_law_base", "_law_value", "_law_row", "_law_lot", "_law_turn", "_law_told", "_law_k"]) (sc := defScope s_law_split) (by decide +kernel)) (fun _ _ _ _ _ => pg_name (i := 10) sc_law_split.nd rfl (Or.inl rfl)) (fun _ _ _ _ _ => pts_nil) (fun _ _ _ _ _ => pe_fn (ok_law_draw D) hr (pa_cons (pv 0) (pa_cons pe_int pa_nil)))) (pss_cons (ps_for PassesOwn.never rfl (pi_range1 (by rfl) D.blt.b_range (pa_cons (pe_op op_add pe_int (pe_fn (ok_law_draw D) hr (pa_cons (pv 0) (pa_cons pe_int pa_nil)))) pa_nil)) (pg_name (i := 5) sc_law_split.nd rfl (Or.inr rfl)) (pss_cons (ps_par (i := 6) (j := 7) rfl sc_law_split.nd rfl rfl (by decide) rfl rfl (pa_cons (pe_callTy (T := "list") call_list_of (by rfl) D.blt.b_list (by decide +kernel) (pa_cons (pv 4) pa_nil)) (pa_cons (pe_lst pa_nil) pa_nil)) (by rfl)) (pss_cons (ps_asg (pv 5) (pg_sub (pv 6) (pv 2) set_list)) (pss_cons (ps_for PassesOwn.never rfl (pi_range1 (by rfl) D.blt.b_range (pa_cons (pe_op op_add pe_int (pe_fn (ok_law_draw D) hr (pa_cons (pv 0) (pa_cons pe_int pa_nil)))) pa_nil)) (pg_name (i := 8) sc_law_split.nd rfl (Or.inr rfl)) (pss_cons (ps_setLc (i := 9) (own := [("_law_k", 10)]) (g := gName 10) (tt := tYes) rfl sc_law_split.nd rfl rfl (sw_true rfl rfl rfl (by decide +kernel)) (pi_range1 (by rfl) D.blt.b_range (pa_cons (pv 1) pa_nil)) (blkOk_by (N := ["_law_pot_here", "_law_many", "_law_i", "_law_lots", "_law_base", "_law_value", "_law_row", "_law_lot", "_law_turn", "_law_told", "_law_k"]) (sc := defScope s_law_split) (by decide +kernel)) (fun _ _ _ _ _ => pg_name (i := 10) sc_law_split.nd rfl (Or.inl rfl)) (fun _ _ _ _ _ => pts_nil) (fun _ _ _ _ _ => pe_op op_add (pe_op op_mul pe_int (pv 5)) (pe_fn (ok_law_draw D) hr (pa_cons (pv 0) (pa_cons pe_int pa_nil))))) (pss_cons (ps_asg (pe_fn (ok_law_draw D) hr (pa_cons (pv 0) (pa_cons pe_int pa_nil))) (pg_sub (pv 9) (pv 2) set_list)) (pss_one (ps_if (pt_cmpR (op_notInD (room65 hr)) (pe_callTy (T := "tuple") call_tuple_of (by rfl) D.blt.b_tuple (by decide +kernel) (pa_cons (pv 9) pa_nil)) (pv 7) (by with_unfolding_all rfl)) (pss_one (ps_expr (pe_bm PySem.F.plainAttrs_list PySem.F.slot_list_append PySem.F.type_list_append mt_append (pv 7) (pa_cons (pe_callTy (T := "tuple") call_tuple_of (by rfl) D.blt.b_tuple (by decide +kernel) (pa_cons (pv 9) pa_nil)) pa_nil)))) pss_nil))))) (pss_one (ps_expr (pe_bm PySem.F.plainAttrs_list PySem.F.slot_list_append PySem.F.type_list_append mt_append (pv 3) (pa_cons (pe_tup (pa_cons (pe_callTy (T := "tuple") call_tuple_of (by rfl) D.blt.b_tuple (by decide +kernel) (pa_cons (pv 6) pa_nil)) (pa_cons (pe_callTy (T := "tuple") call_tuple_of (by rfl) D.blt.b_tuple (by decide +kernel) (pa_cons (pe_callB (id := "sorted") (cr_sortD hr.units) (by rfl) D.blt.b_sorted (by decide +kernel) (pa_cons (pv 7) pa_nil)) pa_nil)) pa_nil))) pa_nil)))))))) (pss_cons (ps_for PassesOwn.never rfl (pi_range1 (by rfl) D.blt.b_range (pa_cons (pe_fn (ok_law_draw D) hr (pa_cons (pv 0) (pa_cons pe_int pa_nil))) pa_nil)) (pg_name (i := 8) sc_law_split.nd rfl (Or.inr rfl)) (pss_cons (ps_set (i := 6) sc_law_split.nd rfl (Or.inl rfl) (pe_callTy (T := "tuple") call_tuple_of (by rfl) D.blt.b_tuple (by decide +kernel) (pa_cons (pe_lc (own := [("_law_k", 10)]) (g := gName 10) (tt := tYes) rfl sc_law_split.nd (pi_range1 (by rfl) D.blt.b_range (pa_cons (pv 1) pa_nil)) (blkOk_by (N := ["_law_pot_here", "_law_many", "_law_i", "_law_lots", "_law_base", "_law_value", "_law_row", "_law_lot", "_law_turn", "_law_told", "_law_k"]) (sc := defScope s_law_split) (by decide +kernel)) (fun _ _ _ _ _ => pg_name (i := 10) sc_law_split.nd rfl (Or.inl rfl)) (fun _ _ _ _ _ => pts_nil) (fun _ _ _ _ _ => pe_op op_add (pe_op op_add pe_int (pe_op op_mul pe_int (pv 8))) (pe_fn (ok_law_draw D) hr (pa_cons (pv 0) (pa_cons pe_int pa_nil))))) pa_nil))) (pss_one (ps_expr (pe_bm PySem.F.plainAttrs_list PySem.F.slot_list_append PySem.F.type_list_append mt_append (pv 3) (pa_cons (pe_tup (pa_cons (pv 6) (pa_cons (pe_tup (pa_cons (pe_callTy (T := "tuple") call_tuple_of (by rfl) D.blt.b_tuple (by decide +kernel) (pa_cons (pe_lc (own := [("_law_k", 10)]) (g := gName 10) (tt := tYes) rfl sc_law_split.nd (pi_range1 (by rfl) D.blt.b_range (pa_cons (pv 1) pa_nil)) (blkOk_by (N := ["_law_pot_here", "_law_many", "_law_i", "_law_lots", "_law_base", "_law_value", "_law_row", "_law_lot", "_law_turn", "_law_told", "_law_k"]) (sc := defScope s_law_split) (by decide +kernel)) (fun _ _ _ _ _ => pg_name (i := 10) sc_law_split.nd rfl (Or.inl rfl)) (fun _ _ _ _ _ => pts_nil) (fun _ _ _ _ _ => pe_fn (ok_law_draw D) hr (pa_cons (pv 0) (pa_cons pe_int pa_nil)))) pa_nil)) pa_nil)) pa_nil))) pa_nil)))))) (pss_one (ps_ret (pe_tup (pa_cons (pe_callTy (T := "tuple") call_tuple_of (by rfl) D.blt.b_tuple (by decide +kernel) (pa_cons (pe_callB (id := "sorted") (cr_sortD hr.units) (by rfl) D.blt.b_sorted (by decide +kernel) (pa_cons (pv 3) pa_nil)) pa_nil)) (pa_cons (pv 2) (pa_cons (pe_callTy (T := "tuple") call_tuple_of (by rfl) D.blt.b_tuple (by decide +kernel) (pa_cons (pe_op op_cat (pe_slice sl_list (pv 4) po_none (po_some (pv 2))) (pe_slice sl_list (pv 4) (po_some (pe_op op_add (pv 2) pe_int)) po_none)) pa_nil)) pa_nil)))))))))), ?_⟩
    -- i, lots
    refine ⟨_, rfl, _, rfl, p, c, n, rfl, hP, by omega, by omega, fun iI H1 i0 i1 d1 P1 => ?_⟩
    obtain ⟨i, rfl⟩ : ∃ m : Nat, iI = m := ⟨iI.toNat, by omega⟩
    have hi : i < n := by omega
    refine ⟨Nat.zero_le _, fun L hL => ⟨_, _, rfl, ?_⟩⟩
    have o2 := ((Own.start hP).draw d1 P1).new (ds := []) hL rfl rfl
    generalize upd H1 L (.lst []) = H2 at o2
    -- base
    refine sq_ (sa_ (lc_own (σ := [some (.ref p), some (.int n), some (.int i), some (.ref L), none, none, none, none, none, none, none]) (B := fun x => 0 ≤ x ∧ x ≤ 2) (n := n) (j := 10) (vs := [10]) (te := tCall spDraw [] E0 (tCons (tVar 0) (tCons (tC (.int 3)) tNil))) o2 (eva_cons (evd_var (k := 1) rfl rfl) eva_nil) (by omega) (fun _ => rfl) (fun H3 u Q' d3 P3 q3 => ⟨_, rfl, p, c, 3, rfl, P3, by decide, by decide, fun x H4 x0 x1 d4 P4 => q3 x H4 ⟨x0, by omega⟩ d4 P4⟩) fun base Bs H3 hbl hbs d3 o3 => ?_))
    -- the values
    refine sq_ ⟨_, rfl, p, c, 3, rfl, o3.pot, by decide, by decide, fun y H4 y0 y1 d4 P4 => ⟨2, y, rfl, rfl, ?_⟩⟩
    obtain ⟨yn, rfl⟩ : ∃ m : Nat, y = m := ⟨y.toNat, by omega⟩
    have o4 := (o3.draw d4 P4).swap
    have hyn : yn < 3 := by omega
    refine ⟨((2 + yn : Nat) : Int), congrArg (fun z => [V.int z]) (show (2 : Int) + yn = ((2 + yn : Nat) : Int) by omega), by omega, by omega, ?_⟩
    refine rw_ (m := 2 + yn) (fun v σ' H' => ∃ e1 : List Ent, e1.length = v ∧ (∀ (u : Nat) e, e1[u]? = some e → Ent1 n i base u e) ∧ Own H p c H' [(L, e1.map dEnt), (Bs, base.map .int)] ∧ ∃ a5 a6 a7 a8 a9, σ' = [some (.ref p), some (.int n), some (.int i), some (.ref L), some (.ref Bs), a5, a6, a7, a8, a9, none]) ⟨[], rfl, fun u e he => (nomatch he), o4, _, _, _, _, _, rfl⟩ (fun v σ' H5 hv p5 => ?_) (fun σ' H5 p5 => ?_)
    · obtain ⟨e1, he1, hE1, o5, a5, a6, a7, a8, a9, rfl⟩ := p5
      obtain ⟨vB, hB, hvB⟩ := o5.swap.here
      rw [hvB.ints'] at hB
      -- row, lot
      refine sq_ ⟨_, rfl, Bs, _, rfl, .inl (SqL.of hB), fun Rw hRw => ⟨Nat.zero_le _, fun Lt hLt => ⟨_, _, rfl, ?_⟩⟩⟩
      have o6 := (o5.new (ds := base.map .int) hRw (noLs_ints base) (DtL.ints base)).new (ds := []) hLt rfl rfl
      have o7 := (o6.swap.put (ds' := (base.set i (v : Int)).map .int) (noLs_ints _) (DtL.ints _)).swap
      have hR6 := o6.swap.here
      obtain ⟨vR, hR, hvR⟩ := hR6
      rw [hvR.ints'] at hR
      refine sq_ ⟨_, rfl, _, rfl, _, rfl, Rw, _, (i : Int), i, rfl, rfl, hR, ?_, ?_⟩
      · unfold L2.ixN
        rw [List.length_map, hbl, if_pos (by omega), if_pos (by omega), Int.toNat_natCast]
      rw [show ((base.map V.int).set i (V.int (v : Int))) = (base.set i (v : Int)).map V.int from (List.map_set).symm]
      generalize upd _ Rw _ = H7 at o7
      -- the lot
      refine sq_ ⟨_, rfl, p, c, 3, rfl, o7.pot, by decide, by decide, fun z H8 z0 z1 d8 P8 => ⟨1, z, rfl, rfl, ?_⟩⟩
      obtain ⟨zn, rfl⟩ : ∃ m : Nat, z = m := ⟨z.toNat, by omega⟩
      have o8 := o7.draw d8 P8
      have hzn : zn < 3 := by omega
      refine ⟨((1 + zn : Nat) : Int), congrArg (fun z => [V.int z]) (show (1 : Int) + zn = ((1 + zn : Nat) : Int) by omega), by omega, by omega, ?_⟩
      refine rw_ (m := 1 + zn) (fun t σ' H' => ∃ rs : List (List Int), rs.length ≤ t ∧ (0 < t → rs ≠ []) ∧ rs.Nodup ∧ (∀ r ∈ rs, Row n r ∧ ∀ x ∈ dele i r, 100 * (v : Int) ≤ x ∧ x ≤ 100 * (v : Int) + 2) ∧ Own H p c H' [(Lt, rs.map dRow), (Rw, (base.set i (v : Int)).map .int), (L, e1.map dEnt), (Bs, base.map .int)] ∧ ∃ a8 a9, σ' = [some (.ref p), some (.int n), some (.int i), some (.ref L), some (.ref Bs), some (.int v), some (.ref Rw), some (.ref Lt), a8, a9, none])
        ⟨[], Nat.le_refl _, fun z => absurd z (Nat.lt_irrefl 0), List.nodup_nil, fun r hr => (nomatch hr), o8, _, _, rfl⟩ (fun t σ' H9 ht p9 => ?_) (fun σ' H9 p9 => ?_)
      · obtain ⟨rs, hrl, hrn, hrd, hrs, o9, a8, a9, rfl⟩ := p9
        -- told
        refine sq_ (sa_ (lc_own (σ := [some (.ref p), some (.int n), some (.int i), some (.ref L), some (.ref Bs), some (.int v), some (.ref Rw), some (.ref Lt), some (.int t), a9, none]) (B := fun x => 100 * (v : Int) ≤ x ∧ x ≤ 100 * (v : Int) + 2) (n := n) (j := 10) (vs := [10]) (te := tOp (rI0 fun i j => .int (i + j)) (tOp (rI CMul fun i j => .int (i * j)) (tC (.int 100)) (tVar 5)) (tCall spDraw [] E0 (tCons (tVar 0) (tCons (tC (.int 3)) tNil)))) o9 (eva_cons (evd_var (k := 1) rfl rfl) eva_nil) (by omega) (fun _ => rfl) (fun H3 u Q' d3 P3 q3 => ⟨_, rfl, 100, v, rfl, rfl, .inl ⟨by decide, by decide⟩, _, rfl, p, c, 3, rfl, P3, by decide, by decide, fun x H4 x0 x1 d4 P4 => ⟨100 * (v : Int), x, rfl, rfl, q3 _ H4 ⟨by omega, by omega⟩ d4 P4⟩⟩) fun told T H10 htl hts d10 o10 => ?_))
        -- told[i]
        refine sq_ ⟨_, rfl, p, c, 9, rfl, o10.pot, by decide, by decide, fun x H11 x0 x1 d11 P11 => ?_⟩
        have o11 := o10.draw d11 P11
        obtain ⟨vT, hT, hvT⟩ := o11.here
        rw [hvT.ints'] at hT
        refine ⟨_, rfl, _, rfl, T, _, (i : Int), i, rfl, rfl, hT, ?_, ?_⟩
        · unfold L2.ixN
          rw [List.length_map, htl, if_pos (by omega), if_pos (by omega), Int.toNat_natCast]
        have o12 := o11.put (ds' := (told.set i x).map .int) (noLs_ints _) (DtL.ints _)
        rw [show ((told.map V.int).set i (V.int x)) = (told.set i x).map V.int from (List.map_set).symm]
        generalize upd _ T _ = H12 at o12
        have hrow : Row n (told.set i x) ∧ ∀ y ∈ dele i (told.set i x), 100 * (v : Int) ≤ y ∧ y ≤ 100 * (v : Int) + 2 := by
          refine ⟨⟨by rw [List.length_set]; exact htl, fun y hy => ?_⟩, fun y hy => ?_⟩
          · rcases set_mem hy with rfl | hy
            · omega
            · have := hts y hy
              omega
          · rw [dele_set] at hy
            exact hts y (dele_mem hy)
        generalize told.set i x = r at o12 hrow
        have hT12 : EvD (tCB (rTupQ K) (tCons (tVar 9) tNil)) [some (.ref p), some (.int n), some (.int i), some (.ref L), some (.ref Bs), some (.int v), some (.ref Rw), some (.ref Lt), some (.int t), some (.ref T), none] H12 (dRow r) := evd_tupL (evd_var (k := 9) rfl o12.data)
        refine sd_if (evt_test (evd_notIn hT12 (evd_var (k := 7) rfl o12.swap.data) (shaped_row r) (shaped_rows rs))) (fun hb H13 e13 => ?_) fun hb H13 e13 => ?_
        · refine ap_ (Φ := fun d => d = dRow r) ((o12.same e13).swap) rfl (EvD.mono e13 hT12).eve (fun d hd => by rw [hd]; exact noL_row r) (by rw [List.length_map]; omega) fun d H14 hd o14 => ?_
          subst hd
          refine ⟨rs ++ [r], by rw [List.length_append]; exact Nat.succ_le_succ hrl, fun _ => by simp, ?_, fun r' hr' => ?_, ?_, _, _, rfl⟩
          · rw [List.nodup_append]
            refine ⟨hrd, List.nodup_cons.mpr ⟨List.not_mem_nil, List.nodup_nil⟩, fun a ha b hb' z => ?_⟩
            rw [List.mem_singleton.mp hb'] at z
            exact any_row hb (z ▸ ha)
          · rcases List.mem_append.mp hr' with hr' | hr'
            · exact hrs r' hr'
            · rw [List.mem_singleton.mp hr']
              exact hrow
          · rw [List.map_append]
            exact o14.swap.tail
        · refine ⟨rs, by omega, fun _ => ?_, hrd, hrs, (o12.same e13).tail, _, _, rfl⟩
          rintro rfl
          cases hb
      · obtain ⟨rs, hrl, hrn, hrd, hrs, o9, a8, a9, rfl⟩ := p9
        have hrn := hrn (by omega)
        have hrow6 : EvD (tCB (rTupQ K) (tCons (tVar 6) tNil)) [some (.ref p), some (.int n), some (.int i), some (.ref L), some (.ref Bs), some (.int v), some (.ref Rw), some (.ref Lt), a8, a9, none] H9 (dRow (base.set i (v : Int))) := evd_tupL (evd_var (k := 6) rfl o9.swap.data)
        refine ap_ (o9.rot) rfl (eve_tup2 hrow6 (eve_tupL (eve_sort dRow (xs := rs) (evd_var (k := 7) rfl o9.data) (fun x _ y _ => alike_row x y) (fun x hx => tup_row x (fun z => by have := (hrs x hx).1.1; rw [z] at this; simp at this; omega)) (fun x _ => depth_row x)) (fun d ⟨ys, h, _⟩ => ⟨_, h⟩))) (fun d hd => ?_) (by rw [List.length_map]; omega) fun d H10 hd o10 => ?_
        · obtain ⟨d2, rfl, ds, rfl, ys, h, _⟩ := hd
          injection h with h
          subst h
          exact noL_ent (_, ys)
        · obtain ⟨d2, rfl, ds, rfl, ys, h, hperm, hpw⟩ := hd
          injection h with h
          subst h
          refine ⟨e1 ++ [(base.set i (v : Int), ys)], by rw [List.length_append, he1]; rfl, fun u e he => ?_, ?_, _, _, _, _, _, rfl⟩
          · rcases Nat.lt_or_ge u e1.length with hu | hu
            · rw [List.getElem?_append_left hu] at he
              exact hE1 u e he
            · rw [List.getElem?_append_right hu] at he
              have hu0 : u - e1.length = 0 := by
                have := (List.getElem?_eq_some_iff.mp he).1
                simp at this
                omega
              rw [hu0] at he
              cases he
              have huv : u = v := by omega
              subst huv
              exact ⟨rfl, lotOk_of hperm hrd hpw hrn (by omega) fun r hr => (hrs r hr).1, fun r hr => (hrs r (hperm.mem_iff.mp hr)).2⟩
          · rw [List.map_append]
            exact o10.swap.tail.swap.tail
    · obtain ⟨e1, he1, hE1, o5, a5, a6, a7, a8, a9, rfl⟩ := p5
      refine sq_ ⟨_, rfl, p, c, 3, rfl, o5.pot, by decide, by decide, fun x H6 x0 x1 d6 P6 => ?_⟩
      obtain ⟨xn, rfl⟩ : ∃ m : Nat, x = m := ⟨x.toNat, by omega⟩
      have hxn : xn < 3 := by omega
      have o6 := o5.draw d6 P6
      refine ⟨(xn : Int), rfl, by omega, by omega, ?_⟩
      refine rw_ (m := xn) (fun t σ' H' => ∃ e2 : List Ent, e2.length = t ∧ (∀ (u : Nat) e, e2[u]? = some e → Ent2 n u e) ∧ Own H p c H' [(L, (e1 ++ e2).map dEnt), (Bs, base.map .int)] ∧ ∃ a5 a6 a7 a8 a9, σ' = [some (.ref p), some (.int n), some (.int i), some (.ref L), some (.ref Bs), a5, a6, a7, a8, a9, none]) ⟨[], rfl, fun u e he => (nomatch he), by rw [List.append_nil]; exact o6, _, _, _, _, _, rfl⟩ (fun t σ' H7 ht p7 => ?_) (fun σ' H7 p7 => ?_)
      · obtain ⟨e2, he2, hE2, o7, a5, a6, a7, a8, a9, rfl⟩ := p7
        refine sq_ (sa_ (st_ (lc_own (σ := [some (.ref p), some (.int n), some (.int i), some (.ref L), some (.ref Bs), a5, a6, a7, some (.int t), a9, none]) (B := fun x => 50 + 10 * (t : Int) ≤ x ∧ x ≤ 52 + 10 * (t : Int)) (n := n) (j := 10) (vs := [10]) (te := tOp (rI0 fun i j => .int (i + j)) (tOp (rI0 fun i j => .int (i + j)) (tC (.int 50)) (tOp (rI CMul fun i j => .int (i * j)) (tC (.int 10)) (tVar 8))) (tCall spDraw [] E0 (tCons (tVar 0) (tCons (tC (.int 3)) tNil)))) o7 (eva_cons (evd_var (k := 1) rfl rfl) eva_nil) (by omega) (fun _ => rfl) (fun H3 u Q' d3 P3 q3 => ⟨_, rfl, 10, t, rfl, rfl, .inl ⟨by decide, by decide⟩, 50, 10 * (t : Int), rfl, rfl, _, rfl, p, c, 3, rfl, P3, by decide, by decide, fun x H4 x0 x1 d4 P4 => ⟨50 + 10 * (t : Int), x, rfl, rfl, q3 _ H4 ⟨by omega, by omega⟩ d4 P4⟩⟩) fun xs D1 H8 hxl hxs d8 o8 => ?_)))
        obtain ⟨vD, hD, hvD⟩ := o8.here
        rw [hvD.ints'] at hD
        refine ⟨D1, _, rfl, .inl ⟨SqL.of hD, fun tq htq => ?_⟩⟩
        have o9 := (o8.same (Same.new (o := .tup (xs.map .int)) htq)).tail
        have hrw : Dt (upd H8 tq (.tup (xs.map .int))) (dRow xs) (.ref tq) := Dt.ofRow upd_same
        generalize upd H8 tq (.tup (xs.map .int)) = H9 at o9 hrw
        obtain ⟨vL9, hL9, _⟩ := o9.here
        refine ⟨_, rfl, .inl ⟨rfl, _, SqL.of hL9⟩, ?_⟩
        refine tc_ (tt_ ⟨_, rfl, ?_⟩)
        refine tc_ (tt_ (tc_ (st_ (lc_own (σ := [some (.ref p), some (.int n), some (.int i), some (.ref L), some (.ref Bs), a5, some (.ref tq), a7, some (.int t), a9, none]) (B := fun x => 0 ≤ x ∧ x ≤ 4) (n := n) (j := 10) (vs := [10]) (te := tCall spDraw [] E0 (tCons (tVar 0) (tCons (tC (.int 5)) tNil))) o9 (eva_cons (evd_var (k := 1) rfl rfl) eva_nil) (by omega) (fun _ => rfl) (fun H3 u Q' d3 P3 q3 => ⟨_, rfl, p, c, 5, rfl, P3, by decide, by decide, fun x H4 x0 x1 d4 P4 => q3 _ H4 ⟨by omega, by omega⟩ d4 P4⟩) fun ys D2 Ha hyl hys da oa => ?_))))
        obtain ⟨vY, hY, hvY⟩ := oa.here
        rw [hvY.ints'] at hY
        have hrwa := hrw.dr da o9.pot.notup (noL_row xs)
        refine ⟨D2, _, rfl, .inl ⟨SqL.of hY, fun t1 ht1 => ⟨(show 1 ≤ sizeLine by decide), fun t2 ht2 => ⟨(show 2 ≤ sizeLine by decide), fun t3 ht3 => ?_⟩⟩⟩⟩
        have s1 := Same.new (o := .tup (ys.map .int)) ht1
        have s2 := Same.new (o := .tup [.ref t1]) ht2
        have s3 := Same.new (o := .tup [.ref tq, .ref t2]) ht3
        have h1 : Dt (upd Ha t1 (.tup (ys.map .int))) (dRow ys) (.ref t1) := Dt.ofRow upd_same
        have h2 : Dt (upd (upd Ha t1 (.tup (ys.map .int))) t2 (.tup [.ref t1])) (dLot [ys]) (.ref t2) := ⟨t2, _, rfl, upd_same, DtL.one (h1.same s2)⟩
        have h3 : Dt (upd (upd (upd Ha t1 (.tup (ys.map .int))) t2 (.tup [.ref t1])) t3 (.tup [.ref tq, .ref t2])) (dEnt (xs, [ys])) (.ref t3) := ⟨t3, _, rfl, upd_same, _, _, rfl, (((hrwa.same s1).same s2).same s3), DtL.one (h2.same s3)⟩
        have od := ((oa.same s1).same s2).same s3
        have od := od.tail
        obtain ⟨vL, hL, hvL⟩ := od.here
        have hlen : ((e1 ++ e2).map dEnt).length ≤ 1000 := by rw [List.length_map, List.length_append]; omega
        refine ⟨L, vL, .ref t3, rfl, rfl, hL, ?_, ?_⟩
        · rw [hvL.len]
          exact Nat.lt_of_le_of_lt hlen (by decide)
        · have oe := od.put (ds' := (e1 ++ (e2 ++ [(xs, [ys])])).map dEnt) (vs := vL ++ [.ref t3]) (noLs_ents _) (by
            rw [← List.append_assoc, List.map_append]
            exact hvL.app (DtL.one h3))
          refine ⟨e2 ++ [(xs, [ys])], by rw [List.length_append, he2]; rfl, fun u e he => ?_, oe, _, _, _, _, _, rfl⟩
          rcases Nat.lt_or_ge u e2.length with hu | hu
          · rw [List.getElem?_append_left hu] at he
            exact hE2 u e he
          · rw [List.getElem?_append_right hu] at he
            have hu0 : u - e2.length = 0 := by
              have := (List.getElem?_eq_some_iff.mp he).1
              simp at this
              omega
            rw [hu0] at he
            cases he
            have huv : u = t := by omega
            subst huv
            exact ⟨hxl, hxs, lotOk_of (List.Perm.refl _) (List.nodup_cons.mpr ⟨List.not_mem_nil, List.nodup_nil⟩) (List.pairwise_cons.mpr ⟨fun _ h => (nomatch h), List.Pairwise.nil⟩) (by simp) (by simp) fun r hr => by
              rw [List.mem_singleton.mp hr]
              exact ⟨hyl, fun x hx => by have := hys x hx; omega⟩⟩
      · obtain ⟨e2, he2, hE2, o7, a5, a6, a7, a8, a9, rfl⟩ := p7
        have hh : dRow (dele i base) = .tuple ((base.map .int).take i ++ (base.map .int).drop (i + 1)) := by
          show PyData.tuple ((base.take i ++ base.drop (i + 1)).map .int) = _
          rw [List.map_append, List.map_take, List.map_drop]
        have hE := eve_tup3 (σ := [some (.ref p), some (.int n), some (.int i), some (.ref L), some (.ref Bs), a5, a6, a7, a8, a9, none]) (H := H7) (tb := tVar 2) (d1 := dNat i) (d2 := dRow (dele i base)) (tc := tCB (rTupQ K) (tCons (tOp rCat (tSl (rSlL K) (tVar 4) tNoPart (tPart (tVar 2))) (tSl (rSlL K) (tVar 4) (tPart (tOp (rI0 fun i j => .int (i + j)) (tVar 2) (tC (.int 1)))) tNoPart)) tNil))
          (eve_tupL (K := K) (eve_sort dEnt (K := K) (xs := e1 ++ e2) (evd_var (k := 3) rfl o7.data) (fun x _ y _ => alike_ent x y) (fun x _ => ⟨_, _, rfl⟩) (fun x _ => depth_ent x)) (fun d ⟨ys, h, _⟩ => ⟨_, h⟩))
          (evd_var (k := 2) rfl rfl) (by
            rw [hh]
            refine evd_tupL (evd_catL (evd_slL_take (n := i) (evd_var (k := 4) rfl o7.swap.data) evo_none (evo_some (evd_var (k := 2) rfl rfl))) (evd_slL_drop (n := i + 1) (evd_var (k := 4) rfl o7.swap.data) (evo_some (i := ((i + 1 : Nat) : Int)) ?_) evo_none) ?_)
            · exact (evd_add (i := (i : Int)) (j := 1) (evd_var (k := 2) rfl rfl) evd_int).is (by congr 1)
            · rw [List.length_take, List.length_drop, List.length_map, sizeLine_eq]
              omega)
        refine hE H7 (Same.refl _) _ fun v H8 d e8 hd hv => ?_
        obtain ⟨d0, rfl, ds, rfl, ys, h, hperm, hpw⟩ := hd
        injection h with h
        subst h
        have o8 := o7.same e8
        exact k v H8 ys e1 e2 i base o8.dr o8.pot hv hi ⟨by omega, by omega, by omega, ⟨hbl, hbs⟩, hE1, hE2⟩ hperm hpw
end
end G98

/-! M2: what the split's lots are. -/
namespace G98
open PySem PySem.Spec PyProof.Rows L2
structure SplitOk (n i : Nat) (base : List Int) (es : List Ent) : Prop where
  ok : LotsOk n es
  hi : i < n
  len : base.length = n
  small : ∀ x ∈ base, 0 ≤ x ∧ x ≤ 2
  fit : hits (prs n es) (.rst i (dele i base)) ≠ []
  bar : NoCov n es i (dele i base)
  first : ∀ k, hits (prs n es) (.rst i k) ≠ [] → k = dele i base ∨ dele i base < k
  few : (prs n es).length ≤ 1000
theorem hits_one {n i : Nat} {es : List Ent} {k : List Int} : hits (prs n es) (.rst i k) ≠ [] ↔ ∃ e ∈ es, i < n ∧ dele i e.1 = k := by
  constructor
  · intro h
    cases e : hits (prs n es) (.rst i k) with
    | nil => exact absurd e h
    | cons r l =>
      obtain ⟨x, hx, hi, _, hk⟩ := hits_mem.mp (show r ∈ hits (prs n es) (.rst i k) by rw [e]; exact List.mem_cons_self)
      exact ⟨x, hx, hi, hk⟩
  · rintro ⟨e, he, hi, hk⟩ z
    have := hits_mem.mpr ⟨e, he, hi, rfl, hk⟩
    rw [z] at this
    cases this
/-- what stands at i goes up -/
def UpAt (i : Nat) (a b : Ent) : Prop := ∃ x y, a.1[i]? = some x ∧ b.1[i]? = some y ∧ x < y
theorem UpAt.ne {i : Nat} {a b : Ent} (h : UpAt i a b) : a.1 ≠ b.1 := fun z => by
  obtain ⟨x, y, h1, h2, h3⟩ := h
  rw [z, h2] at h1
  have := Option.some.inj h1
  omega
theorem split_ok {n i : Nat} {base : List Int} {e1 e2 es : List Ent} (n3 : 3 ≤ n) (n5 : n ≤ 5) (hi : i < n) (L : Lots0 n i base e1 e2) (hp : es.Perm (e1 ++ e2)) (hs : es.Pairwise fun x y => PySem.W.dataLt (dEnt y) (dEnt x) = false) : SplitOk n i base es := by
  obtain ⟨two, four, few, ⟨bl, bs⟩, one, more⟩ := L
  have at1 : ∀ (u : Nat) e, e1[u]? = some e → e.1[i]? = some (u : Int) := fun u e he => by
    rw [(one u e he).row]
    exact List.getElem?_set_self (by omega)
  have at2 : ∀ (t : Nat) e, e2[t]? = some e → ∃ y, e.1[i]? = some y ∧ 50 + 10 * (t : Int) ≤ y ∧ y ≤ 52 + 10 * (t : Int) := fun t e he => by
    have q := more t e he
    have hl : i < e.1.length := by rw [q.len]; exact hi
    exact ⟨e.1[i], List.getElem?_eq_getElem hl, q.row _ (List.getElem_mem hl)⟩
  have mem1 : ∀ e ∈ e1, ∃ u : Nat, e1[u]? = some e ∧ u < 4 := fun e he => by
    obtain ⟨u, hu⟩ := List.mem_iff_getElem?.mp he
    have := (List.getElem?_eq_some_iff.mp hu).1
    exact ⟨u, hu, by omega⟩
  have mem2 : ∀ e ∈ e2, ∃ t : Nat, e2[t]? = some e ∧ t < 2 := fun e he => by
    obtain ⟨u, hu⟩ := List.mem_iff_getElem?.mp he
    have := (List.getElem?_eq_some_iff.mp hu).1
    exact ⟨u, hu, by omega⟩
  have up : (e1 ++ e2).Pairwise (UpAt i) := by
    rw [List.pairwise_append]
    refine ⟨List.pairwise_iff_getElem.mpr fun a b ha hb hab => ?_, List.pairwise_iff_getElem.mpr fun a b ha hb hab => ?_, fun a ha b hb => ?_⟩
    · exact ⟨a, b, at1 a _ (List.getElem?_eq_getElem ha), at1 b _ (List.getElem?_eq_getElem hb), by omega⟩
    · obtain ⟨x, x1, x2, x3⟩ := at2 a _ (List.getElem?_eq_getElem ha)
      obtain ⟨y, y1, y2, y3⟩ := at2 b _ (List.getElem?_eq_getElem hb)
      exact ⟨x, y, x1, y1, by omega⟩
    · obtain ⟨u, hu, hu4⟩ := mem1 a ha
      obtain ⟨t, ht, _⟩ := mem2 b hb
      obtain ⟨y, y1, y2, y3⟩ := at2 t b ht
      exact ⟨u, y, at1 u a hu, y1, by omega⟩
  have nd0 : ((e1 ++ e2).map (·.1)).Nodup := by
    show List.Pairwise _ _
    rw [List.pairwise_map]
    exact up.imp fun h => h.ne
  have nd : (es.map (·.1)).Nodup := ((hp.map (·.1)).nodup_iff).mpr nd0
  have ent : ∀ e ∈ es, EntOk n e := fun e he => by
    rcases List.mem_append.mp (hp.mem_iff.mp he) with h | h
    · obtain ⟨u, hu, hu4⟩ := mem1 e h
      have q := one u e hu
      refine ⟨⟨by rw [q.row, List.length_set]; exact bl, fun x hx => ?_⟩, q.lot⟩
      rw [q.row] at hx
      rcases set_mem hx with rfl | hx
      · omega
      · have := bs x hx
        omega
    · obtain ⟨t, ht, ht2⟩ := mem2 e h
      have q := more t e ht
      exact ⟨⟨q.len, fun x hx => by have := q.row x hx; omega⟩, q.lot⟩
  have hlen : es.length = e1.length + e2.length := by rw [hp.length_eq, List.length_append]
  have ok : LotsOk n es := by
    refine ⟨n3, n5, by omega, by omega, ent, nd, fun a e e' h1 h2 => ?_⟩
    obtain ⟨ha, rfl⟩ := List.getElem?_eq_some_iff.mp h1
    obtain ⟨hb, rfl⟩ := List.getElem?_eq_some_iff.mp h2
    have q1 := List.pairwise_iff_getElem.mp hs a (a + 1) ha hb (Nat.lt_succ_self a)
    have q2 : es[a].1 ≠ es[a + 1].1 := fun z => by
      have := nodup_at nd ((map_at ha).trans (congrArg some z)) (map_at hb)
      omega
    rw [lt_ent q2.symm] at q1
    rw [lex_lt, decide_eq_true (lt_tri (of_decide_eq_false q1) q2)]
  have h0 : 0 < e1.length := by omega
  have h1 : 1 < e1.length := by omega
  have g0 := List.getElem?_eq_getElem h0
  have g1 := List.getElem?_eq_getElem h1
  have m0 : e1[0] ∈ es := hp.mem_iff.mpr (List.mem_append_left _ (List.getElem_mem h0))
  have m1 : e1[1] ∈ es := hp.mem_iff.mpr (List.mem_append_left _ (List.getElem_mem h1))
  have dl : ∀ (u : Nat) e, e1[u]? = some e → dele i e.1 = dele i base := fun u e he => by rw [(one u e he).row, dele_set]
  refine ⟨ok, hi, bl, bs, hits_one.mpr ⟨_, m0, hi, dl 0 _ g0⟩, fun c => ?_, fun k hk => ?_, ?_⟩
  · by_cases hc : c ∈ e1[0].2.map (dele i)
    · refine ⟨_, m1, dl 1 _ g1, fun hc1 => ?_⟩
      obtain ⟨r, hr, rfl⟩ := List.mem_map.mp hc
      obtain ⟨r', hr', hrr⟩ := List.mem_map.mp hc1
      have hrl := ((one 0 _ g0).lot.rows r hr).1
      have hne : (dele i r).length + 1 = r.length := dele_len (by omega)
      cases e : dele i r with
      | nil => rw [e] at hne; simp at hne; omega
      | cons x xs =>
        have f0 := (one 0 _ g0).far r hr x (by rw [e]; exact List.mem_cons_self)
        have f1 := (one 1 _ g1).far r' hr' x (by rw [hrr, e]; exact List.mem_cons_self)
        omega
    · exact ⟨_, m0, dl 0 _ g0, hc⟩
  · obtain ⟨e, he, _, rfl⟩ := hits_one.mp hk
    rcases List.mem_append.mp (hp.mem_iff.mp he) with h | h
    · obtain ⟨u, hu, _⟩ := mem1 e h
      exact .inl (dl u e hu)
    · obtain ⟨t, ht, _⟩ := mem2 e h
      have q := more t e ht
      have l1 : (dele i base).length + 1 = base.length := dele_len (by omega)
      have l2 : (dele i e.1).length + 1 = e.1.length := dele_len (by rw [q.len]; exact hi)
      have ql := q.len
      right
      cases ea : dele i base with
      | nil => rw [ea] at l1; simp at l1; omega
      | cons x xs =>
        cases eb : dele i e.1 with
        | nil => rw [eb] at l2; simp at l2; omega
        | cons y ys =>
          have hx := bs x (dele_mem (show x ∈ dele i base by rw [ea]; exact List.mem_cons_self))
          have hy := q.row y (dele_mem (show y ∈ dele i e.1 by rw [eb]; exact List.mem_cons_self))
          exact List.cons_lt_cons_iff.mpr (.inl (by omega))
  · rw [prs_len]
    have : es.length * n ≤ 6 * 5 := Nat.mul_le_mul (by omega) n5
    omega
end G98

/-! F1: machines as data; folks. -/
namespace G98
open PySem PySem.Spec PyProof.Rows L2
section
variable {P : Program} {w : World} {K : PySem.W.Frag} {mg : Str → Option Value} {base : Heap}
/-- the machines of a folk, by data -/
structure MF where
  begin : Nat → Int → PyData
  step : Nat → Nat → List PyData → PyData
  ans : Nat → PyData → Int
  ok : PyData → Prop
/-- what is heard by me -/
def hearD (n i me : Nat) (mem : Nat → PyData) : List PyData := (List.range n).map fun k => if me ≠ i ∧ k = i then .none else mem k
/-- the memories behind t rounds, i shut out -/
def memAt (M : MF) (n i : Nat) (ins : Nat → Int) : Nat → Nat → PyData
  | 0, me => M.begin me (ins me)
  | t + 1, me => M.step me t (hearD n i me (memAt M n i ins t))
structure MF.Ok (M : MF) (n : Nat) : Prop where
  begin : ∀ me v, me < n → M.ok (M.begin me v)
  step : ∀ me t hs m, me < n → hs.length = n → (∀ h ∈ hs, h = .none ∨ M.ok h) → hs[me]? = some m → M.ok m → M.ok (M.step me t hs)
  noL : ∀ m, M.ok m → noL m = true
theorem memAt_ok {M : MF} {n i : Nat} (h : M.Ok n) (ins : Nat → Int) : ∀ t me, me < n → M.ok (memAt M n i ins t me)
  | 0, me, hm => h.begin me _ hm
  | t + 1, me, hm => by
    refine h.step me t _ (memAt M n i ins t me) hm (by unfold hearD; rw [List.length_map, List.length_range]) (fun x hx => ?_) ?_ (memAt_ok h ins t me hm)
    · obtain ⟨k, hk, rfl⟩ := List.mem_map.mp hx
      split
      · exact .inl rfl
      · exact .inr (memAt_ok h ins t k (List.mem_range.mp hk))
    · unfold hearD
      rw [List.getElem?_map, List.getElem?_range hm]
      show some (if me ≠ i ∧ me = i then PyData.none else memAt M n i ins t me) = _
      rw [if_neg (fun z => z.1 z.2)]
/-- the others do not hear what i is told -/
theorem memAt_same {M : MF} {n i : Nat} {f g : Nat → Int} (h : ∀ k, k ≠ i → f k = g k) : ∀ t me, me ≠ i → memAt M n i f t me = memAt M n i g t me
  | 0, me, hm => by
    show M.begin me (f me) = M.begin me (g me)
    rw [h me hm]
  | t + 1, me, hm => by
    show M.step me t _ = M.step me t _
    congr 1
    unfold hearD
    refine List.map_congr_left fun k _ => ?_
    by_cases hk : k = i
    · rw [if_pos ⟨hm, hk⟩, if_pos ⟨hm, hk⟩]
    · rw [if_neg (fun z => hk z.2), if_neg (fun z => hk z.2), memAt_same h t k hk]
abbrev memT (M : MF) (n i : Nat) (ins : Nat → Int) (t : Nat) : PyData := .tuple ((List.range n).map (memAt M n i ins t))
theorem noL_mem {M : MF} {n i : Nat} (h : M.Ok n) (ins : Nat → Int) (t : Nat) : noL (memT M n i ins t) = true := noLs_of (ds := (List.range n).map (memAt M n i ins t)) fun d hd => by
  obtain ⟨k, hk, rfl⟩ := List.mem_map.mp hd
  exact h.noL _ (memAt_ok h ins t k (List.mem_range.mp hk))
/-- a promise over data, of a value that is called -/
def rD (R : List PyData → PyData → Prop) : RC := fun vs H Q => ∃ ds r, DtL H ds vs ∧ R ds r ∧ ∀ v H', Same H H' → Dt H' r v → Q v H'
def RB (M : MF) (n : Nat) : List PyData → PyData → Prop := fun ds r => ∃ (me : Nat) (v : Int), ds = [dNat me, .int v] ∧ me < n ∧ r = M.begin me v
def RS (M : MF) (n : Nat) : List PyData → PyData → Prop := fun ds r => ∃ (me t : Nat) (hs : List PyData) (m : PyData), ds = [dNat me, dNat t, .tuple hs] ∧ me < n ∧ t ≤ 100 ∧ hs.length = n ∧ (∀ h ∈ hs, h = .none ∨ M.ok h) ∧ hs[me]? = some m ∧ M.ok m ∧ r = M.step me t hs
def RA (M : MF) (n : Nat) : List PyData → PyData → Prop := fun ds r => ∃ (me : Nat) (m : PyData), ds = [dNat me, m] ∧ me < n ∧ M.ok m ∧ r = .int (M.ans me m)
/-- the three functions at fb, fs, fa are the machines M -/
structure Parts (P : Program) (w : World) (K : PySem.W.Frag) (mg : Str → Option Value) (base : Heap) (H : Hp) (n : Nat) (M : MF) (fb fs fa : Addr) : Prop where
  ok : M.Ok n
  b : Mach P w K mg base 1 H fb (rD (RB M n))
  s : Mach P w K mg base 1 H fs (rD (RS M n))
  a : Mach P w K mg base 1 H fa (rD (RA M n))
theorem Parts.same {P : Program} {w : World} {K : PySem.W.Frag} {mg : Str → Option Value} {base : Heap} {H H' : Hp} {n : Nat} {M : MF} {fb fs fa : Addr} (p : Parts P w K mg base H n M fb fs fa) (e : Same H H') : Parts P w K mg base H' n M fb fs fa := ⟨p.ok, p.b.same e, p.s.same e, p.a.same e⟩
section
variable {σ : L2.St} {H H1 : Hp} {tf te : TE} {t : TA} {d : PyData} {ds : List PyData} {R : List PyData → PyData → Prop}
theorem evd_callV {f : Addr} {k : Nat} (hf : EvX tf σ H (.ref f)) (m : Mach P w K mg base k H f (rD R)) (ha : EvA t σ H ds) (hR : R ds d) : EvD (tCallV P w K mg base k tf t) σ H d := fun H1 e Q q => hf H1 e _ (by
  obtain ⟨F, hF⟩ := m.fn
  exact ⟨f, F, rfl, e _ _ hF, ha H1 e _ fun vs H2 e2 hv => ⟨rD R, m.same (e.trans e2), ds, d, hv, hR, fun v H3 e3 hd => q v H3 (e2.trans e3) hd⟩⟩)
theorem evd_callF {f a C dx : Addr} {fs : List (Str × V)} {k kk : Nat} {x : Str} (hk : σ[k]? = some (some (.ref a))) (hi : H a = some (.ins C dx fs)) (c : Cls K C) (n : NoAttr K C x) (l : fs.lookup x = some (.ref f)) (m : Mach P w K mg base kk H f (rD R)) (ha : EvA t σ H ds) (hR : R ds d) :
    EvD (tCallF P w K mg base kk x (tVar k) t) σ H d := fun H1 e Q q => by
  obtain ⟨F, hF⟩ := m.fn
  exact ⟨_, hk, a, C, dx, fs, f, F, rfl, e _ _ hi, c, n, l, e _ _ hF, ha H1 e _ fun vs H2 e2 hv => ⟨rD R, m.same (e.trans e2), ds, d, hv, hR, fun v H3 e3 hd => q v H3 (e2.trans e3) hd⟩⟩
theorem evx_ixT {k j : Nat} {tp : Addr} {xs : List V} {v : V} {g : Int} (hk : σ[k]? = some (some (.ref tp))) (h : H tp = some (.tup xs)) (hg : g = (j : Int)) (hj : xs[j]? = some v) : EvX (tOp (rIxT K) (tVar k) (tC (.int g))) σ H v := fun H1 e Q q => ⟨_, hk, tp, xs, g, v, rfl, rfl, SqT.of (e _ _ h), by rw [hg]; exact atI_nat hj, q⟩
theorem evd_neg {i : Int} (h : EvD te σ H (.int i)) : EvD (tUn (rU fun i => .int (-i)) te) σ H (.int (-i)) := fun H1 e Q q => h H1 e _ fun v H2 e2 hv => ⟨i, hv, q _ _ e2 rfl⟩
/-- one list of ones own, all else kept -/
structure Own1 (H H' : Hp) (L : Addr) (ds : List PyData) : Prop where
  same : Same H H'
  fr : H L = none
  nl : noLs ds = true
  at_ : ∃ vs, H' L = some (.lst vs) ∧ DtL H' ds vs
theorem Own1.go {H H1 H2 : Hp} {L : Addr} (o : Own1 H H1 L ds) (e : Same H1 H2) : Own1 H H2 L ds := ⟨o.same.trans e, o.fr, o.nl, let ⟨vs, h1, h2⟩ := o.at_; ⟨vs, e _ _ h1, h2.same e⟩⟩
theorem Own1.data {H H1 : Hp} {L : Addr} (o : Own1 H H1 L ds) : Dt H1 (.list ds) (.ref L) := let ⟨vs, h1, h2⟩ := o.at_; ⟨L, vs, rfl, h1, h2⟩
theorem ap1_ {H0 : Hp} {L : Addr} {k : Nat} {D : Ends} (o : Own1 H0 H1 L ds) (hk : σ[k]? = some (some (.ref L))) (he : EvD te σ H1 d) (hn : noL d = true) (hz : ds.length ≤ 1000) (q : ∀ H2, Own1 H0 H2 L (ds ++ [d]) → D.nx σ H2) : tDrop (tBM K "list" rAppend (tVar k) (tCons te tNil)) D σ H1 := by
  obtain ⟨vs, h1, h2⟩ := o.at_
  refine ⟨_, hk, .inl ⟨rfl, _, SqL.of h1⟩, he H1 (Same.refl _) _ fun v H2 e2 hv => ?_⟩
  have hn' : noLs (ds ++ [d]) = true := noLs_of fun x hx => by
    rcases List.mem_append.mp hx with hx | hx
    · exact noLs_mem o.nl x hx
    · rw [List.mem_singleton.mp hx]
      exact hn
  have h1' := e2 _ _ h1
  refine ⟨L, vs, v, rfl, rfl, h1', ?_, q _ ⟨Same.mut (o.same.trans e2) o.fr, o.fr, hn', vs ++ [v], upd_same, DtL.upd (lst_tup h1') hn' ((h2.same e2).app (DtL.one hv))⟩⟩
  rw [h2.len]
  exact Nat.lt_of_le_of_lt hz (by decide)
end
def ffs (r : Nat) (fb fs fa : Addr) : List (Str × V) := putF "kept_answer" (.ref fa) (putF "kept_step" (.ref fs) (putF "kept_begin" (.ref fb) (putF "rounds" (.int r) [])))
def FolkAt (C : Addr) (H : Hp) (a : Addr) (r : Nat) (fb fs fa : Addr) : Prop := ∃ dx, H a = some (.ins C dx (ffs r fb fs fa))
theorem FolkAt.go {C : Addr} {H H' : Hp} {a : Addr} {r : Nat} {fb fs fa : Addr} (f : FolkAt C H a r fb fs fa) (e : Same H H') : FolkAt C H' a r fb fs fa := let ⟨dx, h⟩ := f; ⟨dx, e _ _ h⟩
theorem ffs_r (r : Nat) (fb fs fa : Addr) : (ffs r fb fs fa).lookup ("rounds" : Str) = some (.int r) := by
  unfold ffs
  rw [lookup_putF, if_neg (by decide +kernel), lookup_putF, if_neg (by decide +kernel), lookup_putF, if_neg (by decide +kernel), lookup_putF, if_pos rfl]
theorem ffs_b (r : Nat) (fb fs fa : Addr) : (ffs r fb fs fa).lookup ("kept_begin" : Str) = some (.ref fb) := by
  unfold ffs
  rw [lookup_putF, if_neg (by decide +kernel), lookup_putF, if_neg (by decide +kernel), lookup_putF, if_pos rfl]
theorem ffs_s (r : Nat) (fb fs fa : Addr) : (ffs r fb fs fa).lookup ("kept_step" : Str) = some (.ref fs) := by
  unfold ffs
  rw [lookup_putF, if_neg (by decide +kernel), lookup_putF, if_pos rfl]
theorem ffs_a (r : Nat) (fb fs fa : Addr) : (ffs r fb fs fa).lookup ("kept_answer" : Str) = some (.ref fa) := by
  unfold ffs
  rw [lookup_putF, if_pos rfl]
/-- the row of inputs as a function -/
def rowF (ns : List Int) (k : Nat) : Int := ns.getD k 0
theorem row_map {n : Nat} {ns : List Int} (h : ns.length = n) : ns.map PyData.int = (List.range n).map fun k => .int (rowF ns k) := by
  refine List.ext_getElem? fun i => ?_
  rw [List.getElem?_map, List.getElem?_map]
  rcases Nat.lt_or_ge i n with hi | hi
  · rw [List.getElem?_range hi, List.getElem?_eq_getElem (by omega)]
    unfold rowF
    show some _ = some _
    dsimp only
    rw [List.getD_eq_getElem?_getD, List.getElem?_eq_getElem (by omega)]
    rfl
  · rw [List.getElem?_eq_none (by omega), List.getElem?_eq_none (by rw [List.length_range]; exact hi)]
    rfl
/-- a folk with machines M -/
structure FolkIn (P : Program) (w : World) (K : PySem.W.Frag) (mg : Str → Option Value) (base : Heap) (C : Addr) (H : Hp) (a : Addr) (r n : Nat) (M : MF) : Prop where
  ex : ∃ fb fs fa, FolkAt C H a r fb fs fa ∧ Parts P w K mg base H n M fb fs fa
theorem FolkIn.go {P : Program} {w : World} {K : PySem.W.Frag} {mg : Str → Option Value} {base : Heap} {C : Addr} {H H' : Hp} {a : Addr} {r n : Nat} {M : MF} (f : FolkIn P w K mg base C H a r n M) (e : Same H H') : FolkIn P w K mg base C H' a r n M := let ⟨fb, fs, fa, h1, h2⟩ := f.ex; ⟨fb, fs, fa, h1.go e, h2.same e⟩
def spFM (P : Program) (w : World) (K : PySem.W.Frag) (mg : Str → Option Value) (base : Heap) (C : Addr) : Sp := fun vs H Q _ => ∃ (a : Addr) (v : V) (r n i : Nat) (M : MF) (ins : List Int), vs = [.ref a, v] ∧ FolkIn P w K mg base C H a r n M ∧ Dt H (dRow ins) v ∧ ins.length = n ∧ n ≤ 5 ∧ ∀ v' H', Same H H' → Dt H' (memT M n i (rowF ins) 0) v' → Q v' H'
theorem sc_first_memories : FnScope ["folk", "inputs", "me", "value"] ["folk", "inputs"] (defScope s_first_memories) := ⟨rfl, rfl, rfl, by decide +kernel, rfl, by decide +kernel, by decide +kernel⟩
theorem ok_first_memories (D : Defs K mg) {C fI : Addr} {fdI : FuncData} (T : FolkC K mg C fI fdI) : FnIs P w K mg base 2 "first_memories" ["folk", "inputs"] (spFM P w K mg base C) := by
  refine D.d_first_memories.ok sc_first_memories (fun _ _ _ _ _ _ us hl => match us, hl with | [_, _], _ => rfl) (fun vs H Q E h => ?_) (fun f cdv A outer s H vs Q E hr h => ?_)
  · obtain ⟨_, _, _, _, _, _, _, rfl, _⟩ := h
    rfl
  · obtain ⟨a, v, r, n, i, M, ins, rfl, hF, hv, hl, n5, k⟩ := h
    refine ⟨_, pss_one (ps_ret (pe_callTy (T := "tuple") call_tuple_of (by rfl) D.blt.b_tuple (by decide +kernel) (pa_cons (pe_lc (own := [("me", 2), ("value", 3)]) (g := (gTup K 2 (gCons (gName 2) (gCons (gName 3) gNil)))) (tt := tYes) rfl sc_first_memories.nd (pi_enumT (by rfl) D.blt.b_enumerate (pa_cons (pv 1) pa_nil)) (blkOk_by (N := ["folk", "inputs", "me", "value"]) (sc := defScope s_first_memories) (by decide +kernel)) (fun _ _ _ _ _ => pg_tup rfl (pgs_cons (pg_name (i := 2) sc_first_memories.nd rfl (Or.inl rfl)) (pgs_cons (pg_name (i := 3) sc_first_memories.nd rfl (Or.inl rfl)) pgs_nil))) (fun _ _ _ _ _ => pts_nil) (fun _ _ _ _ _ => (show PE _ _ (tCallF P w K mg base 1 "kept_begin" (tVar 0) (tCons (tVar 2) (tCons (tVar 3) tNil))) from pe_callF (hr.mono (by decide)) (pv 0) (pa_cons (pv 2) (pa_cons (pv 3) pa_nil))))) pa_nil))), ?_⟩
    obtain ⟨fb, fs, fa, ⟨dx, ha⟩, pt⟩ := hF.ex
    refine sd_ret (evd_tupL (evd_lc2 (List.range n) dNat (fun k => .int (rowF ins k)) (fun me => M.begin me (rowF ins me)) (evw_enumF (fun k => .int (rowF ins k)) (eva_cons (evd_var rfl (by rw [← row_map hl]; exact hv)) eva_nil)) (by rw [List.length_range]; omega) (fun me hme => pt.ok.noL _ (pt.ok.begin me _ (List.mem_range.mp hme))) (fun _ _ => rfl) fun me x y H1 hme e hx hy => evd_callF rfl (e _ _ ha) T.cl T.nB (ffs_b _ _ _ _) (pt.b.same e) (eva_cons (evd_var rfl hx) (eva_cons (evd_var rfl hy) eva_nil)) ⟨me, rowF ins me, rfl, List.mem_range.mp hme, rfl⟩)) k
end
end G98

/-! F2: folks. -/
namespace G98
open PySem PySem.Spec PyProof.Rows L2
section
variable {P : Program} {w : World} {K : PySem.W.Frag} {mg : Str → Option Value} {base : Heap}
def R_heard_of : List PyData → PyData → Prop := fun ds_ res_ => ∃ (n i me : Nat) (mem : Nat → PyData), ds_ = [.tuple ((List.range n).map mem), shD i me] ∧ n ≤ 5 ∧ (∀ k < n, noL (mem k) = true) ∧ res_ = .tuple (hearD n i me mem)
theorem sc_heard_of : FnScope ["memories", "missed", "other", "memory"] ["memories", "missed"] (defScope s_heard_of) := ⟨rfl, rfl, rfl, by decide +kernel, rfl, by decide +kernel, by decide +kernel⟩
theorem ok_heard_of (D : Defs K mg) : FnIs P w K mg base 1 "heard_of" ["memories", "missed"] (spD R_heard_of) := by
  refine D.d_heard_of.ok sc_heard_of (fun _ _ _ _ _ _ us hl => match us, hl with | [_, _], _ => rfl) (spD_len fun ds r h => ?_) (fun f cdv A outer s H vs Q E hr h => ?_)
  · obtain ⟨_, _, _, _, rfl, _⟩ := h
    rfl
  · obtain ⟨_, _, hd, ⟨n, i, me, mem, rfl, c1, c2, rfl⟩, k⟩ := h
    obtain ⟨v0, _, rfl, h0, v1, _, rfl, h1, rfl⟩ := hd
    refine ⟨_, pss_one (ps_ret (pe_callTy (T := "tuple") call_tuple_of (by rfl) D.blt.b_tuple (by decide +kernel) (pa_cons (pe_lc (own := [("other", 2), ("memory", 3)]) (g := (gTup K 2 (gCons (gName 2) (gCons (gName 3) gNil)))) (tt := tYes) rfl sc_heard_of.nd (pi_enumT (by rfl) D.blt.b_enumerate (pa_cons (pv 0) pa_nil)) (blkOk_by (N := ["memories", "missed", "other", "memory"]) (sc := defScope s_heard_of) (by decide +kernel)) (fun _ _ _ _ _ => pg_tup rfl (pgs_cons (pg_name (i := 2) sc_heard_of.nd rfl (Or.inl rfl)) (pgs_cons (pg_name (i := 3) sc_heard_of.nd rfl (Or.inl rfl)) pgs_nil))) (fun _ _ _ _ _ => pts_nil) (fun _ _ _ _ _ => pe_ifExp (pt_cmpR op_eq (pv 2) (pv 1) (nomark _)) pe_non (pv 3))) pa_nil))), ?_⟩
    have hsc : scD (shD i me) = true := by
      unfold shD
      split <;> rfl
    refine sd_ret (evd_tupL (evd_lc2 (List.range n) dNat mem (fun k => if me ≠ i ∧ k = i then .none else mem k) (evw_enumF mem (eva_cons (evd_var rfl h0) eva_nil)) (by rw [List.length_range]; omega) (fun k hk => ?_) (fun _ _ => rfl) fun k x y H1 hk e hx hy => ?_)) k
    · split
      · rfl
      · exact c2 k (List.mem_range.mp hk)
    · refine evd_if (evt_test (evd_eqS (evd_var rfl hx) (evd_var rfl (h1.same e)) rfl hsc)) (fun z => ?_) fun z => ?_
      · have z := of_decide_eq_true z
        unfold shD at z
        by_cases hm : me = i
        · rw [if_pos hm] at z
          cases z
        · rw [if_neg hm] at z
          have z : V.int (k : Int) = V.int (i : Int) := z
          injection z with z
          rw [if_pos ⟨hm, by omega⟩]
          exact evd_non
      · have z := of_decide_eq_false z
        unfold shD at z
        rw [if_neg (fun q => z (by
          rw [if_neg q.1, q.2]))]
        exact evd_var rfl hy
def spNM (P : Program) (w : World) (K : PySem.W.Frag) (mg : Str → Option Value) (base : Heap) (C : Addr) : Sp := fun vs H Q _ => ∃ (a : Addr) (vm vr : V) (r n i t : Nat) (M : MF) (ins : Nat → Int), vs = [.ref a, .int t, vm, vr] ∧ FolkIn P w K mg base C H a r n M ∧ Dt H (memT M n i ins t) vm ∧ Dt H (shRow n i) vr ∧ n ≤ 5 ∧ t ≤ 100 ∧ ∀ v' H', Same H H' → Dt H' (memT M n i ins (t + 1)) v' → Q v' H'
theorem at_mapIdx {n j : Nat} {f : Nat → PyData} {d : PyData} (h : (((List.range n).map f).mapIdx fun i d => PyData.tuple [dNat i, d])[j]? = some d) : j < n ∧ d = .tuple [dNat j, f j] := by
  rw [List.getElem?_mapIdx, List.getElem?_map] at h
  rcases Nat.lt_or_ge j n with hj | hj
  · rw [List.getElem?_range hj] at h
    exact ⟨hj, (Option.some.inj h).symm⟩
  · rw [List.getElem?_eq_none (by rw [List.length_range]; exact hj)] at h
    cases h
theorem sc_next_memories : FnScope ["folk", "number", "memories", "row", "found", "me", "missed"] ["folk", "number", "memories", "row"] (defScope s_next_memories) := ⟨rfl, rfl, rfl, by decide +kernel, rfl, by decide +kernel, by decide +kernel⟩
theorem ok_next_memories (D : Defs K mg) {C fI : Addr} {fdI : FuncData} (T : FolkC K mg C fI fdI) : FnIs P w K mg base 2 "next_memories" ["folk", "number", "memories", "row"] (spNM P w K mg base C) := by
  refine D.d_next_memories.ok sc_next_memories (fun _ _ _ _ _ _ us hl => match us, hl with | [_, _, _, _], _ => rfl) (fun vs H Q E h => ?_) (fun f cdv A outer s H vs Q E hr h => ?_)
  · obtain ⟨_, _, _, _, _, _, _, _, _, rfl, _⟩ := h
    rfl
  · obtain ⟨a, vm, vr, r, n, i, t, M, ins, rfl, hF, hm, hrow, n5, t5, k⟩ := h
    refine ⟨_, pss_cons (ps_set (i := 4) sc_next_memories.nd rfl (Or.inl rfl) (pe_lst pa_nil)) (pss_cons (ps_for PassesOwn.never rfl (pi_enumT (by rfl) D.blt.b_enumerate (pa_cons (pv 3) pa_nil)) (pg_tup rfl (pgs_cons (pg_name (i := 5) sc_next_memories.nd rfl (Or.inl rfl)) (pgs_cons (pg_name (i := 6) sc_next_memories.nd rfl (Or.inl rfl)) pgs_nil))) (pss_one (ps_expr (pe_bm PySem.F.plainAttrs_list PySem.F.slot_list_append PySem.F.type_list_append mt_append (pv 4) (pa_cons (show PE _ _ (tCallF P w K mg base 1 "kept_step" (tVar 0) (tCons (tVar 5) (tCons (tVar 1) (tCons (tCall (spD R_heard_of) [] E0 (tCons (tVar 2) (tCons (tVar 6) tNil))) tNil)))) from pe_callF (hr.mono (by decide)) (pv 0) (pa_cons (pv 5) (pa_cons (pv 1) (pa_cons (pe_fn (ok_heard_of D) hr (pa_cons (pv 2) (pa_cons (pv 6) pa_nil))) pa_nil)))) pa_nil))))) (pss_one (ps_ret (pe_callTy (T := "tuple") call_tuple_of (by rfl) D.blt.b_tuple (by decide +kernel) (pa_cons (pv 4) pa_nil))))), ?_⟩
    refine ⟨Nat.zero_le _, fun L hL => ?_⟩
    have o0 : Own1 H (upd H L (.lst [])) L [] := ⟨Same.new hL, hL, rfl, [], upd_same, rfl⟩
    generalize upd H L (.lst []) = H1 at o0
    obtain ⟨fb, fs, fa, ⟨dx, ha⟩, pt⟩ := hF.ex
    refine sd_forb (Hb := H) (ds := ((List.range n).map (shD i)).mapIdx fun i d => .tuple [dNat i, d]) (ewb_enum o0.same rfl hrow) fun H2 e2 => ⟨fun j σ' H' => Own1 H H' L ((List.range j).map (memAt M n i ins (t + 1))) ∧ ∃ x y, σ' = [some (.ref a), some (.int t), some vm, some vr, some (.ref L), x, y], ⟨o0.go e2, _, _, rfl⟩, fun _ _ _ _ p => p.1.same, fun j d v σ' H3 H4 hd p e4 hv => ?_, fun σ' H3 p => ?_⟩
    · obtain ⟨o3, x, y, rfl⟩ := p
      obtain ⟨hj, rfl⟩ := at_mapIdx hd
      have o4 := o3.go e4
      refine pair_tg hv fun vj vs hvj hvs => ?_
      have hvj : vj = V.int (j : Nat) := hvj
      subst hvj
      have hok := memAt_ok (i := i) pt.ok ins
      refine ap1_ (d := memAt M n i ins (t + 1) j) o4 rfl (evd_callF rfl (o4.same _ _ ha) T.cl T.nS (ffs_s _ _ _ _) (pt.s.same o4.same) (eva_cons (evd_var (d := dNat j) rfl rfl) (eva_cons (evd_var (d := dNat t) rfl rfl) (eva_cons (evd_call (R := R_heard_of) (d := .tuple (hearD n i j (memAt M n i ins t))) (eva_cons (evd_var rfl (hm.same o4.same)) (eva_cons (evd_var rfl hvs) eva_nil)) ⟨n, i, j, memAt M n i ins t, rfl, n5, fun k hk => pt.ok.noL _ (hok t k hk), rfl⟩) eva_nil))) ⟨j, t, _, memAt M n i ins t j, rfl, hj, t5, by unfold hearD; rw [List.length_map, List.length_range], fun h hh => ?_, ?_, hok t j hj, rfl⟩) (pt.ok.noL _ (hok (t + 1) j hj)) (by rw [List.length_map, List.length_range]; omega) fun H5 o5 => ⟨?_, _, _, rfl⟩
      · obtain ⟨k, hk, rfl⟩ := List.mem_map.mp hh
        split
        · exact .inl rfl
        · exact .inr (hok t k (List.mem_range.mp hk))
      · unfold hearD
        rw [List.getElem?_map, List.getElem?_range hj]
        show some (if j ≠ i ∧ j = i then PyData.none else memAt M n i ins t j) = _
        rw [if_neg (fun z => z.1 z.2)]
      · rw [List.range_succ, List.map_append]
        exact o5
    · obtain ⟨o3, x, y, rfl⟩ := p
      rw [List.length_mapIdx, List.length_map, List.length_range] at o3
      exact sd_ret (evd_tupL (evd_var rfl o3.data)) fun v' H4 e4 h4 => k v' H4 (o3.same.trans e4) h4
def spTA (P : Program) (w : World) (K : PySem.W.Frag) (mg : Str → Option Value) (base : Heap) (C : Addr) : Sp := fun vs H Q _ => ∃ (a : Addr) (vm : V) (r n me : Nat) (m : PyData) (M : MF), vs = [.ref a, .int me, vm] ∧ FolkIn P w K mg base C H a r n M ∧ Dt H m vm ∧ M.ok m ∧ me < n ∧ ∀ H', Same H H' → Q (.int (M.ans me m)) H'
theorem sc_told_answer : FnScope ["folk", "me", "memory", "found"] ["folk", "me", "memory"] (defScope s_told_answer) := ⟨rfl, rfl, rfl, by decide +kernel, rfl, by decide +kernel, by decide +kernel⟩
theorem ok_told_answer (D : Defs K mg) {C fI : Addr} {fdI : FuncData} (T : FolkC K mg C fI fdI) : FnIs P w K mg base 2 "told_answer" ["folk", "me", "memory"] (spTA P w K mg base C) := by
  refine D.d_told_answer.ok sc_told_answer (fun _ _ _ _ _ _ us hl => match us, hl with | [_, _, _], _ => rfl) (fun vs H Q E h => ?_) (fun f cdv A outer s H vs Q E hr h => ?_)
  · obtain ⟨_, _, _, _, _, _, _, rfl, _⟩ := h
    rfl
  · obtain ⟨a, vm, r, n, me, m, M, rfl, hF, hm, hok, hme, k⟩ := h
    refine ⟨_, pss_cons (ps_set (i := 3) sc_told_answer.nd rfl (Or.inl rfl) (show PE _ _ (tCallF P w K mg base 1 "kept_answer" (tVar 0) (tCons (tVar 1) (tCons (tVar 2) tNil))) from pe_callF (hr.mono (by decide)) (pv 0) (pa_cons (pv 1) (pa_cons (pv 2) pa_nil)))) (pss_one (ps_ret (pe_ifExp (pt_val (pe_fn (ok_is_integer D) hr (pa_cons (pv 3) pa_nil))) (pv 3) pe_non))), ?_⟩
    obtain ⟨fb, fs, fa, ⟨dx, ha⟩, pt⟩ := hF.ex
    refine sd_asg (evd_callF rfl ha T.cl T.nA (ffs_a _ _ _ _) pt.a (eva_cons (evd_var (d := dNat me) rfl rfl) (eva_cons (evd_var rfl hm) eva_nil)) ⟨me, m, rfl, hme, hok, rfl⟩) fun v H1 e1 hv => ?_
    exact sd_ret (d := .int (M.ans me m)) (evd_if (b := true) (evt_B (evd_call (R := R_is_integer) (d := .bool true) (eva_cons (evd_var rfl hv) eva_nil) ⟨_, rfl, rfl⟩)) (fun _ => evd_var rfl hv) fun z => nomatch z) fun v2 H2 e2 hv2 => (show v2 = V.int (M.ans me m) from hv2) ▸ k H2 (e1.trans e2)
end
end G98

/-! F3i: isinstance of a function, several built-in classes. -/
namespace G98
open PySem PySem.Spec PyProof.Rows L2 NdefX LamX
theorem slot_fn_ga : Slot "function" "__getattribute__" "object.__getattribute__" :=
  .of (owner := "object") (n := "__getattribute__") (by rw [typeLookup_type, builtinLookup_eq_fast]; kernel_rfl) (by decide +kernel) (by decide +kernel) (by decide +kernel)
    (by first | exact .inl (by decide +kernel) | exact .inr (by decide +kernel)) (by rw [isSubtype_type]; kernel_rfl)
theorem lk_fn_class : typeLookup (.type "function") "__class__" = pure (some (.builtin "object.__class__")) := by rw [typeLookup_type, builtinLookup_eq_fast]; kernel_rfl
theorem sub_fn_class_owner : isSubtype (.type "function") (.type (".".intercalate ("object.__class__".cutAt '.').dropLast)) = pure true := by
  rw [F.owner_object_class, isSubtype_type]; kernel_rfl
section
variable {prog : Program} {w : World} {A : Around} {E : Value → Shared → Prop} {h : Heap} {g : Array GenState} {d : Drawn} {t : Nat} {os : OsState} {a : Addr} {o : Obj}
theorem fn_class_get {R : Result → Shared → Prop} (hx : h.get? a = some o) (hc : o.cls = .type "function") (hq : R (.ok (.ret (.type "function"))) ⟨h, g, d, t, os⟩) :
    codeAny (model prog w) A (.call (.builtin "getset_descriptor.__get__") ⟨[.builtin "object.__class__", .ref a, .type "function"], []⟩) R ⟨h, g, d, t, os⟩ := by
  have hT : (⟨h, g, d, t, os⟩ : Shared).TypeIs (.ref a) "function" := ⟨_, hx, hc⟩
  have hT5 : (⟨h, g, d, t, os⟩ : Shared).TypeIs (.builtin "object.__class__") "getset_descriptor" := F.typeOf_object_class
  have f8 := sub_fn_class_owner
  refine codeAny_call_builtin F.slot_gs_get.plain F.entry_gs_get (F.slot_gs_get.check _ _ _ _ _ _ _ _ hT5 (F.args_gs_get _ _ _) ?_)
  repeat (any_goals (first | assumption | wp_step))
  refine ⟨Code.quiet_builtin _ (by decide +kernel), codeAny_builtin F.entry_object_class ?_⟩
  repeat (any_goals (first | assumption | wp_step))
theorem fn_class_entry {tk : Tok} {Q : Fin → Shared → Prop} (hx : h.get? a = some o) (hc : o.cls = .type "function") (hq : Q (.done (.ret (.type "function"))) ⟨h, g, d, t, os⟩) :
    wpAny (model prog w) A (Builtin.«object.__getattribute__» ⟨[.ref a, .str "__class__" tk], []⟩) Q E ⟨h, g, d, t, os⟩ := by
  have hT : (⟨h, g, d, t, os⟩ : Shared).TypeIs (.ref a) "function" := ⟨_, hx, hc⟩
  have hT5 : (⟨h, g, d, t, os⟩ : Shared).TypeIs (.builtin "object.__class__") "getset_descriptor" := F.typeOf_object_class
  have f4 := lk_fn_class
  have f5 := F.typeOf_object_class
  have f6 := F.slot_gs_get.lookup
  have f7 := F.slot_gs_set.lookup
  repeat (any_goals (first | assumption | wp_step))
  refine fn_class_get hx hc ?_
  repeat (any_goals (first | assumption | wp_step))
theorem fn_class_call {tk : Tok} {R : Result → Shared → Prop} (hx : h.get? a = some o) (hc : o.cls = .type "function") (hq : R (.ok (.ret (.type "function"))) ⟨h, g, d, t, os⟩) :
    codeAny (model prog w) A (.call (.builtin "object.__getattribute__") ⟨[.ref a, .str "__class__" tk], []⟩) R ⟨h, g, d, t, os⟩ :=
  codeAny_call_builtin slot_fn_ga.plain F.entry_object_getattribute (slot_fn_ga.check _ _ _ _ _ _ _ _ (show (⟨h, g, d, t, os⟩ : Shared).TypeIs (.ref a) "function" from ⟨_, hx, hc⟩) (F.args_object_getattribute_2 _ _) (fn_class_entry hx hc hq))
theorem fn_class_by {tk : Tok} {Q : Value → Shared → Prop} (hx : h.get? a = some o) (hc : o.cls = .type "function") (hq : Q (.type "function") ⟨h, g, d, t, os⟩) : wpAny (model prog w) A (getAttrBy (.ref a) (.str "__class__" tk) false) Q E ⟨h, g, d, t, os⟩ := by
  have hT : (⟨h, g, d, t, os⟩ : Shared).TypeIs (.ref a) "function" := ⟨_, hx, hc⟩
  have f2 := slot_fn_ga.lookup
  have f3 := slot_fn_ga.bind (.ref a)
  repeat (any_goals (first | assumption | wp_step))
  refine fn_class_call hx hc ?_
  repeat (any_goals (first | assumption | wp_step))
theorem fn_class_attr {Q : Option Value → Shared → Prop} (hx : h.get? a = some o) (hc : o.cls = .type "function") (hq : Q (some (.type "function")) ⟨h, g, d, t + 1, os⟩) : wpAny (model prog w) A (getAttr? (.ref a) "__class__") Q E ⟨h, g, d, t, os⟩ := by
  unfold getAttr? getAttrBy?
  repeat (any_goals (first | assumption | with_reducible apply fn_class_by hx hc | wp_step))
end
theorem kitx_fn {K : PySem.W.Frag} {a : Addr} : PySem.W.KitX K (.ref a) (.type "function") (PySem.W.KitAt a "function") :=
  PySem.W.kitx_of PySem.W.kitAt_ty (fun {_ _ _ _ _ s} p k => by obtain ⟨h, g, d, t, os⟩ := s; obtain ⟨o, h1, h2⟩ := p; exact fn_class_attr h1 h2 k)
def rIsiF (K : PySem.W.Frag) : List V → Hp → VK → Prop := fun xs H Q => ∃ (f : Addr) (F : NF) (tp : Addr) (cs : List V) (us : List Value) (b : Bool), xs = [.ref f, .ref tp] ∧ H tp = some (.tup cs) ∧ Paired ClsV cs us ∧ H f = some (FnO f F) ∧ PySem.W.kitAny K (.type "function") us = some b ∧ Q (.bl b) H
theorem call_isiF {X : Cx} : CallR X (.builtin "isinstance") (rIsiF X.K) := by
  intro pins s σ H xs us Q I r h
  obtain ⟨f, F, tp, cs, ws, b, rfl, hT, k, hF, e, q⟩ := h
  obtain ⟨u1, u2, rfl, r1, r2⟩ := vals2 r
  cases (show u1 = Value.ref f from r1)
  cases (show u2 = Value.ref tp from r2)
  obtain ⟨od, sl, doc, pm, ctv, ho⟩ := fnO_at I.hok hF
  obtain ⟨_, its, rv, o, h1, h2, n, h3⟩ := (show ObjOk X.prog X.w H s.heap tp (.tup cs) from I.hok tp _ hT)
  have e3 := ClsV.all k rv
  subst e3
  obtain ⟨oc, od', dt, sl'⟩ := o
  simp only at h2 h3
  subst h2 h3
  exact PySem.W.kia_tup kitx_fn I.kIn ⟨_, ho, rfl⟩ h1 e (fun z => nomatch z) fun tk => ⟨.bl b, H, I.tok tk, rfl, q⟩
end G98

/-! F4: folks made; answers. -/
namespace G98
open PySem PySem.Spec PyProof.Rows L2 NdefX LamX
section
variable {P : Program} {w : World} {K : PySem.W.Frag} {mg : Str → Option Value} {base : Heap}
def spNF : Sp := fun vs H Q _ => ∃ (f : Addr) (F : NF), vs = [.ref f] ∧ H f = some (FnO f F) ∧ ∀ H', Same H H' → Q (.bl false) H'
theorem sc_is_no_function : FnScope ["thing"] ["thing"] (defScope s_is_no_function) := ⟨rfl, rfl, rfl, by decide +kernel, rfl, by decide +kernel, by decide +kernel⟩
theorem ok_is_no_function (D : Defs K mg) : FnIs P w K mg base 1 "is_no_function" ["thing"] spNF := by
  refine D.d_is_no_function.ok sc_is_no_function (fun _ _ _ _ _ _ us hl => match us, hl with | [_], _ => rfl) (fun vs H Q E h => ?_) (fun f cdv A outer s H vs Q E hr h => ?_)
  · obtain ⟨_, _, rfl, _⟩ := h
    rfl
  · obtain ⟨fa, F, rfl, hF, k⟩ := h
    refine ⟨_, pss_one (ps_ret (pe_or (pe_cmp (pc_isN (pv 0))) (pe_one (pe_callB (id := "isinstance") call_isiF (by rfl) D.blt.b_isinstance (by decide +kernel) (pa_cons (pv 0) (pa_cons (pe_tup (pa_cons (pe_bltn (v := .ty "int") (by rfl) D.blt.b_int (by decide +kernel) rfl) (pa_cons (pe_bltn (v := .ty "str") (by rfl) D.blt.b_str (by decide +kernel) rfl) (pa_cons (pe_bltn (v := .ty "tuple") (by rfl) D.blt.b_tuple (by decide +kernel) rfl) (pa_cons (pe_bltn (v := .ty "list") (by rfl) D.blt.b_list (by decide +kernel) rfl) (pa_cons (pe_bltn (v := .ty "dict") (by rfl) D.blt.b_dict (by decide +kernel) rfl) pa_nil)))))) pa_nil)))))), ?_⟩
    refine ⟨_, rfl, false, rfl, ?_⟩
    rw [if_neg (by decide)]
    refine ⟨_, rfl, (show 5 ≤ sizeLine by decide), fun t ht => ?_⟩
    exact ⟨fa, F, t, _, _, false, rfl, upd_same, (.cons (.ty "int") (.cons (.ty "str") (.cons (.ty "tuple") (.cons (.ty "list") (.cons (.ty "dict") .nil))))), (Same.new ht) _ _ hF, (kitAny_cons (kit_ty (show kitB "function" "int" = some false by decide +kernel)) (fun _ => (kitAny_cons (kit_ty (show kitB "function" "str" = some false by decide +kernel)) (fun _ => (kitAny_cons (kit_ty (show kitB "function" "tuple" = some false by decide +kernel)) (fun _ => (kitAny_cons (kit_ty (show kitB "function" "list" = some false by decide +kernel)) (fun _ => (kitAny_cons (kit_ty (show kitB "function" "dict" = some false by decide +kernel)) (fun _ => kitAny_nil) (fun z => nomatch z))) (fun z => nomatch z))) (fun z => nomatch z))) (fun z => nomatch z))) (fun z => nomatch z)), k _ (Same.new ht)⟩
def spFI (C : Addr) : Sp := fun vs H Q _ => ∃ (H0 : Hp) (x dx fb fs fa : Addr) (r : Nat), vs = [.ref x, .int r, .ref fb, .ref fs, .ref fa] ∧ Same H0 H ∧ H0 x = none ∧ H x = some (.ins C dx []) ∧ (∀ f ∈ [fb, fs, fa], ∃ F, H0 f = some (FnO f F)) ∧ r ≤ 30 ∧ ∀ H', FolkAt C H' x r fb fs fa → Same H0 H' → Q .non H'
theorem sc_Folk_init : FnScope ["self", "rounds", "begin", "step", "answer", "at", "thing"] ["self", "rounds", "begin", "step", "answer"] (defScope s_Folk_init) := ⟨rfl, rfl, rfl, by decide +kernel, rfl, by decide +kernel, by decide +kernel⟩
theorem ok_Folk_init {C fI : Addr} {fdI : FuncData} (D : Defs K mg) (T : FolkC K mg C fI fdI) : FnOk P w K mg base CX0 4 fI fdI ["self", "rounds", "begin", "step", "answer"] (spFI C) := by
  refine T.FI.ok sc_Folk_init (fun vs H Q E h => ?_) (fun cdv A outer s H vs Q E hr h => ?_)
  · obtain ⟨_, _, _, _, _, _, _, rfl, _⟩ := h
    rfl
  · obtain ⟨H0, x, dx, fb, fs, fa, r, rfl, s0, hx0, hx, hfn, r30, k⟩ := h
    refine ⟨_, pss_cons (ps_expr (pe_fn (ok_check_rounds D) hr (pa_cons (pv 1) pa_nil))) (pss_cons (ps_for PassesOwn.never rfl (pi_enumT (by rfl) D.blt.b_enumerate (pa_cons (pe_tup (pa_cons (pv 2) (pa_cons (pv 3) (pa_cons (pv 4) pa_nil)))) pa_nil)) (pg_tup rfl (pgs_cons (pg_name (i := 5) sc_Folk_init.nd rfl (Or.inl rfl)) (pgs_cons (pg_name (i := 6) sc_Folk_init.nd rfl (Or.inl rfl)) pgs_nil))) (pss_one (ps_if (pt_val (pe_fn (ok_is_no_function D) hr (pa_cons (pv 6) pa_nil))) pss_never pss_nil)))
      (pss_cons (ps_fld (pv 0) (pv 1) rfl) (pss_cons (ps_fld (pv 0) (pv 2) rfl) (pss_cons (ps_fld (pv 0) (pv 3) rfl) (pss_one (ps_fld (pv 0) (pv 4) rfl)))))), ?_⟩
    refine sd_drop (evd_call (R := R_check_rounds) (d := .none) (eva_cons (evd_var (d := dNat r) rfl rfl) eva_nil) ⟨r, rfl, by omega, by omega, rfl⟩) fun _ H1 e1 _ => ?_
    refine ⟨_, rfl, _, rfl, _, rfl, (show 3 ≤ sizeLine by decide), fun tp htp => ⟨tp, _, rfl, SqT.of upd_same, fun J W => ?_⟩⟩
    have e2 : Same H0 (upd H1 tp (.tup [.ref fb, .ref fs, .ref fa])) := (s0.trans e1).trans (Same.new htp)
    have hx2 : (upd H1 tp (.tup [.ref fb, .ref fs, .ref fa])) x = some (.ins C dx []) := (Same.new htp) _ _ (e1 _ _ hx)
    have ht2 : (upd H1 tp (.tup [.ref fb, .ref fs, .ref fa])) tp = some (.tup [.ref fb, .ref fs, .ref fa]) := upd_same
    generalize upd H1 tp (.tup [.ref fb, .ref fs, .ref fa]) = H2 at e2 hx2 ht2 W ⊢
    refine for_it W (fun j σ' H' => Same H2 H' ∧ ∃ a b, σ' = [some (.ref x), some (.int r), some (.ref fb), some (.ref fs), some (.ref fa), a, b]) ⟨Same.refl _, _, _, rfl⟩ (fun j σ' H' _ p => SqT.of (p.1 _ _ ht2)) (fun j v σ' H' H'' hj p y => ?_) fun σ' H' p => ?_
    · obtain ⟨e3, a, b, rfl⟩ := p
      obtain ⟨T', u, z, rfl, hT, rfl, hu, hz⟩ := y
      have e4 := e3.trans (Same.new (o := .tup [u, z]) hT)
      refine ⟨T', _, rfl, SqT.of upd_same, rfl, u, _, rfl, z, _, rfl, rfl, ?_⟩
      obtain ⟨f, hf, rfl⟩ : ∃ f ∈ [fb, fs, fa], z = .ref f := by
        have := List.mem_of_getElem? hz
        simp only [List.mem_cons, List.not_mem_nil, or_false] at this
        rcases this with rfl | rfl | rfl
        · exact ⟨fb, by simp, rfl⟩
        · exact ⟨fs, by simp, rfl⟩
        · exact ⟨fa, by simp, rfl⟩
      obtain ⟨F, hF⟩ := hfn f hf
      refine ⟨_, rfl, f, F, rfl, (e2.trans e4) _ _ hF, fun H3 e5 => ⟨false, rfl, ?_⟩⟩
      dsimp only
      rw [if_neg (by decide)]
      exact ⟨e4.trans e5, _, _, rfl⟩
    · obtain ⟨e3, a, b, rfl⟩ := p
      have hx3 := e3 _ _ hx2
      refine ⟨_, rfl, _, rfl, x, C, dx, [], rfl, hx3, T.cl, T.nR, (by show 0 < 1000; decide), _, rfl, _, rfl, x, C, dx, _, rfl, upd_same, T.cl, T.nB, (by show 1 < 1000; decide), _, rfl, _, rfl, x, C, dx, _, rfl, upd_same, T.cl, T.nS, (by show 2 < 1000; decide), _, rfl, _, rfl, x, C, dx, _, rfl, upd_same, T.cl, T.nA, (by show 3 < 1000; decide), ?_⟩
      exact k _ ⟨dx, upd_same⟩ (Same.mut (Same.mut (Same.mut (Same.mut (e2.trans e3) hx0) hx0) hx0) hx0)
abbrev patD (r n i : Nat) : PyData := .tuple (List.replicate r (shRow n i))
def spRM (P : Program) (w : World) (K : PySem.W.Frag) (mg : Str → Option Value) (base : Heap) (C : Addr) : Sp := fun vs H Q _ => ∃ (a : Addr) (vi vp : V) (r n i : Nat) (M : MF) (ins : List Int), vs = [.ref a, vi, vp] ∧ FolkIn P w K mg base C H a r n M ∧ Dt H (dRow ins) vi ∧ ins.length = n ∧ Dt H (patD r n i) vp ∧ n ≤ 5 ∧ r ≤ 30 ∧ ∀ v' H', Same H H' → Dt H' (.list ((List.range (r + 1)).map (memT M n i (rowF ins)))) v' → Q v' H'
theorem last_range {f : Nat → PyData} (j : Nat) : atI ((List.range (j + 1)).map f) (-1) = some (f j) := by
  rw [List.range_succ, List.map_append]
  exact atI_last _ _
theorem sc_raw_memories : FnScope ["folk", "inputs", "pattern", "found", "number", "row"] ["folk", "inputs", "pattern"] (defScope s_raw_memories) := ⟨rfl, rfl, rfl, by decide +kernel, rfl, by decide +kernel, by decide +kernel⟩
theorem ok_raw_memories (D : Defs K mg) {C fI : Addr} {fdI : FuncData} (T : FolkC K mg C fI fdI) : FnIs P w K mg base 3 "raw_memories" ["folk", "inputs", "pattern"] (spRM P w K mg base C) := by
  refine D.d_raw_memories.ok sc_raw_memories (fun _ _ _ _ _ _ us hl => match us, hl with | [_, _, _], _ => rfl) (fun vs H Q E h => ?_) (fun f cdv A outer s H vs Q E hr h => ?_)
  · obtain ⟨_, _, _, _, _, _, _, _, rfl, _⟩ := h
    rfl
  · obtain ⟨a, vi, vp, r, n, i, M, ins, rfl, hF, hi, hl, hp, n5, r5, k⟩ := h
    refine ⟨_, pss_cons (ps_set (i := 3) sc_raw_memories.nd rfl (Or.inl rfl) (pe_lst (pa_cons (pe_fn (ok_first_memories D T) hr (pa_cons (pv 0) (pa_cons (pv 1) pa_nil))) pa_nil))) (pss_cons (ps_for PassesOwn.never rfl (pi_enumT (by rfl) D.blt.b_enumerate (pa_cons (pv 2) pa_nil)) (pg_tup rfl (pgs_cons (pg_name (i := 4) sc_raw_memories.nd rfl (Or.inl rfl)) (pgs_cons (pg_name (i := 5) sc_raw_memories.nd rfl (Or.inl rfl)) pgs_nil))) (pss_one (ps_expr (pe_bm PySem.F.plainAttrs_list PySem.F.slot_list_append PySem.F.type_list_append mt_append (pv 3) (pa_cons (pe_fn (ok_next_memories D T) hr (pa_cons (pv 0) (pa_cons (pv 4) (pa_cons (pe_ix (r := rIxL K) ix_list (pv 3) (pe_un un_neg pe_int) (fun _ _ => rfl)) (pa_cons (pv 5) pa_nil))))) pa_nil))))) (pss_one (ps_ret (pv 3)))), ?_⟩
    refine ⟨_, rfl, _, rfl, a, vi, r, n, i, M, ins, rfl, hF, hi, hl, n5, fun v1 H1 e1 h1 => ⟨(show 1 ≤ sizeLine by decide), fun L hL => ?_⟩⟩
    have hok : M.Ok n := let ⟨_, _, _, _, p⟩ := hF.ex; p.ok
    have o0 : Own1 H (upd H1 L (.lst [v1])) L ((List.range (0 + 1)).map (memT M n i (rowF ins))) := ⟨e1.trans (Same.new hL), e1.free hL, noLs_of fun d hd => (by
      obtain ⟨t, _, rfl⟩ := List.mem_map.mp hd
      exact noL_mem hok _ t), [v1], upd_same, DtL.one (h1.same (Same.new hL))⟩
    generalize upd H1 L (.lst [v1]) = H2 at o0
    refine sd_forb (Hb := H) (ds := (List.replicate r (shRow n i)).mapIdx fun i d => .tuple [dNat i, d]) (ewb_enum o0.same rfl hp) fun H3 e3 => ⟨fun j σ' H' => Own1 H H' L ((List.range (j + 1)).map (memT M n i (rowF ins))) ∧ ∃ x y, σ' = [some (.ref a), some vi, some vp, some (.ref L), x, y], ⟨o0.go e3, _, _, rfl⟩, fun _ _ _ _ p => p.1.same, fun j d v σ' H4 H5 hd p e5 hv => ?_, fun σ' H4 p => ?_⟩
    · obtain ⟨o4, x, y, rfl⟩ := p
      have o5 := o4.go e5
      rw [List.getElem?_mapIdx] at hd
      have hj : j < r := by
        rcases Nat.lt_or_ge j r with q | q
        · exact q
        · rw [List.getElem?_eq_none (by rw [List.length_replicate]; exact q)] at hd
          cases hd
      rw [List.getElem?_replicate, if_pos hj] at hd
      cases (show some (PyData.tuple [dNat j, shRow n i]) = some d from hd)
      refine pair_tg hv fun vj vs hvj hvs => ?_
      have hvj : vj = V.int (j : Nat) := hvj
      subst hvj
      have hIx : EvD (tOp (rIxL K) (tVar 3) (tUn (rU fun i => .int (-i)) (tC (.int 1)))) [some (.ref a), some vi, some vp, some (.ref L), some (.int j), some vs] H5 (memT M n i (rowF ins) j) := evd_ixL (evd_var (k := 3) rfl o5.data) (evd_neg evd_int) (last_range j)
      have hC : EvD (tCall (spNM P w K mg base C) [] E0 (tCons (tVar 0) (tCons (tVar 4) (tCons (tOp (rIxL K) (tVar 3) (tUn (rU fun i => .int (-i)) (tC (.int 1)))) (tCons (tVar 5) tNil))))) [some (.ref a), some vi, some vp, some (.ref L), some (.int j), some vs] H5 (memT M n i (rowF ins) (j + 1)) := fun H6 e6 Q' q' =>
        ⟨_, rfl, _, rfl, hIx H6 e6 _ fun vm H7 e7 hvm => ⟨_, rfl, a, vm, vs, r, n, i, j, M, rowF ins, rfl, hF.go ((o5.same.trans e6).trans e7), hvm, hvs.same (e6.trans e7), n5, by omega, fun v' H8 e8 h8 => q' v' H8 (e7.trans e8) h8⟩⟩
      refine ap1_ o5 rfl hC (noL_mem hok _ _) (by rw [List.length_map, List.length_range]; omega) fun H6 o6 => ⟨?_, _, _, rfl⟩
      rw [List.range_succ (n := j + 1), List.map_append]
      exact o6
    · obtain ⟨o4, x, y, rfl⟩ := p
      rw [List.length_mapIdx, List.length_replicate] at o4
      exact sd_ret (evd_var rfl o4.data) fun v' H5 e5 h5 => k v' H5 (o4.same.trans e5) h5
/-- what they answer -/
def ansRow (M : MF) (n i : Nat) (ins : Nat → Int) (r : Nat) : List Int := (List.range n).map fun me => M.ans me (memAt M n i ins r me)
def spRA (P : Program) (w : World) (K : PySem.W.Frag) (mg : Str → Option Value) (base : Heap) (C : Addr) : Sp := fun vs H Q _ => ∃ (a : Addr) (vi vp : V) (r n i : Nat) (M : MF) (ins : List Int), vs = [.ref a, vi, vp] ∧ FolkIn P w K mg base C H a r n M ∧ Dt H (dRow ins) vi ∧ ins.length = n ∧ Dt H (patD r n i) vp ∧ n ≤ 5 ∧ r ≤ 30 ∧ ∀ v' H', Same H H' → Dt H' (dRow (ansRow M n i (rowF ins) r)) v' → Q v' H'
theorem sc_raw_answers : FnScope ["folk", "inputs", "pattern", "last", "me", "memory"] ["folk", "inputs", "pattern"] (defScope s_raw_answers) := ⟨rfl, rfl, rfl, by decide +kernel, rfl, by decide +kernel, by decide +kernel⟩
theorem ok_raw_answers (D : Defs K mg) {C fI : Addr} {fdI : FuncData} (T : FolkC K mg C fI fdI) : FnIs P w K mg base 4 "raw_answers" ["folk", "inputs", "pattern"] (spRA P w K mg base C) := by
  refine D.d_raw_answers.ok sc_raw_answers (fun _ _ _ _ _ _ us hl => match us, hl with | [_, _, _], _ => rfl) (fun vs H Q E h => ?_) (fun f cdv A outer s H vs Q E hr h => ?_)
  · obtain ⟨_, _, _, _, _, _, _, _, rfl, _⟩ := h
    rfl
  · obtain ⟨a, vi, vp, r, n, i, M, ins, rfl, hF, hi, hl, hp, n5, r5, k⟩ := h
    refine ⟨_, pss_cons (ps_set (i := 3) sc_raw_answers.nd rfl (Or.inl rfl) (pe_ix (r := rIxL K) ix_list (pe_fn (ok_raw_memories D T) hr (pa_cons (pv 0) (pa_cons (pv 1) (pa_cons (pv 2) pa_nil)))) (pe_un un_neg pe_int) (fun _ _ => rfl))) (pss_one (ps_ret (pe_callTy (T := "tuple") call_tuple_of (by rfl) D.blt.b_tuple (by decide +kernel) (pa_cons (pe_lc (own := [("me", 4), ("memory", 5)]) (g := (gTup K 2 (gCons (gName 4) (gCons (gName 5) gNil)))) (tt := tYes) rfl sc_raw_answers.nd (pi_enumT (by rfl) D.blt.b_enumerate (pa_cons (pv 3) pa_nil)) (blkOk_by (N := ["folk", "inputs", "pattern", "last", "me", "memory"]) (sc := defScope s_raw_answers) (by decide +kernel)) (fun _ _ _ _ _ => pg_tup rfl (pgs_cons (pg_name (i := 4) sc_raw_answers.nd rfl (Or.inl rfl)) (pgs_cons (pg_name (i := 5) sc_raw_answers.nd rfl (Or.inl rfl)) pgs_nil))) (fun _ _ _ _ _ => pts_nil) (fun _ _ _ _ _ => pe_fn (k := 2) (sp := spTA P w K mg base C) (ok_told_answer D T) hr (pa_cons (pv 0) (pa_cons (pv 4) (pa_cons (pv 5) pa_nil))))) pa_nil)))), ?_⟩
    refine ⟨_, rfl, _, rfl, _, rfl, a, vi, vp, r, n, i, M, ins, rfl, hF, hi, hl, hp, n5, r5, fun v1 H1 e1 h1 => ?_⟩
    obtain ⟨L, vs, rfl, hL, hvs⟩ := h1
    have hok : M.Ok n := let ⟨_, _, _, _, p⟩ := hF.ex; p.ok
    obtain ⟨vm, hvm, hdm⟩ := hvs.ixN (last_range (f := memT M n i (rowF ins)) r)
    refine ⟨1, rfl, L, vs, -1, vm, rfl, rfl, SqL.of hL, hvm, ?_⟩
    have hc : EvD (tCB (rTupQ K) (tCons (tLc (iEnumT K (tCons (tVar 3) tNil)) (gTup K 2 (gCons (gName 4) (gCons (gName 5) gNil))) tYes (tCall (spTA P w K mg base C) [] E0 (tCons (tVar 0) (tCons (tVar 4) (tCons (tVar 5) tNil)))) [4, 5]) tNil)) [some (.ref a), some vi, some vp, some vm, none, none] H1 (dRow (ansRow M n i (rowF ins) r)) := by
      have e0 : dRow (ansRow M n i (rowF ins) r) = .tuple ((List.range n).map fun me => .int (M.ans me (memAt M n i (rowF ins) r me))) := by
        unfold ansRow
        show PyData.tuple (List.map _ (List.map _ _)) = _
        rw [List.map_map]
        rfl
      rw [e0]
      exact evd_tupL (evd_lc2 (List.range n) dNat (memAt M n i (rowF ins) r) (fun me => .int (M.ans me (memAt M n i (rowF ins) r me))) (evw_enumF _ (eva_cons (evd_var (k := 3) rfl hdm) eva_nil)) (by rw [List.length_range]; omega) (fun _ _ => rfl) (fun _ _ => rfl) fun me x y H2 hme e2 hx hy => by
        have hx : x = V.int (me : Nat) := hx
        subst hx
        exact fun H3 e3 Q' q' => ⟨_, rfl, _, rfl, _, rfl, a, y, r, n, me, _, M, rfl, hF.go ((e1.trans e2).trans e3), hy.same e3, memAt_ok hok _ r me (List.mem_range.mp hme), List.mem_range.mp hme, fun H4 e4 => q' _ H4 e4 rfl⟩)
    exact sd_ret hc fun v2 H2 e2 h2 => k v2 H2 (e1.trans e2) h2
theorem shRow_round {n i : Nat} (h5 : n ≤ 5) (hi : i < n) : R_is_round [dNat n, shRow n i] (.bool true) := ⟨n, shD i, rfl, by omega, fun me hme => by
  unfold MissOk shD
  by_cases h : me = i
  · exact .inl (if_pos h)
  · exact .inr ⟨i, if_neg h, by omega, by omega, by omega⟩, rfl⟩
def spCRn (P : Program) (w : World) (K : PySem.W.Frag) (mg : Str → Option Value) (base : Heap) (C : Addr) : Sp := fun vs H Q _ => ∃ (a : Addr) (vi vp : V) (r n i : Nat) (M : MF) (ins : List Int), vs = [.ref a, vi, vp] ∧ FolkIn P w K mg base C H a r n M ∧ Dt H (dRow ins) vi ∧ ins.length = n ∧ Dt H (patD r n i) vp ∧ 3 ≤ n ∧ n ≤ 5 ∧ r ≤ 30 ∧ i < n ∧ ∀ H', Same H H' → Q .non H'
theorem sc_check_run : FnScope ["folk", "inputs", "pattern"] ["folk", "inputs", "pattern"] (defScope s_check_run) := ⟨rfl, rfl, rfl, by decide +kernel, rfl, by decide +kernel, by decide +kernel⟩
theorem ok_check_run (D : Defs K mg) {C fI : Addr} {fdI : FuncData} (T : FolkC K mg C fI fdI) : FnIs P w K mg base 7 "check_run" ["folk", "inputs", "pattern"] (spCRn P w K mg base C) := by
  refine D.d_check_run.ok sc_check_run (fun _ _ _ _ _ _ us hl => match us, hl with | [_, _, _], _ => rfl) (fun vs H Q E h => ?_) (fun f cdv A outer s H vs Q E hr h => ?_)
  · obtain ⟨_, _, _, _, _, _, _, _, rfl, _⟩ := h
    rfl
  · obtain ⟨a, vi, vp, r, n, i, M, ins, rfl, hF, hi, hl, hp, n3, n5, r5, hin, k⟩ := h
    refine ⟨_, pss_cons (ps_if (pt_not (pt_val (pe_fn (ok_is_row D) hr (pa_cons (pv 1) pa_nil)))) pss_never pss_nil) (pss_one (ps_expr (pe_fn (ok_check_pattern D) hr (pa_cons (pe_callB call_len_seq (by rfl) D.blt.b_len PySem.boot_len (pa_cons (pv 1) pa_nil)) (pa_cons (pe_fld (pv 0) rfl) (pa_cons (pv 2) pa_nil)))))), ?_⟩
    obtain ⟨fb, fs, fa, ⟨dx, ha⟩, pt⟩ := hF.ex
    refine sd_ok (evt_B (evd_call (R := R_is_row) (d := .bool true) (eva_cons (evd_var rfl hi) eva_nil) ⟨ins, rfl, by omega, by omega, rfl⟩)) fun H1 e1 => ?_
    have hfr : EvD (tFld K (tVar 0) "rounds") (L2.start ["folk", "inputs", "pattern"] [.ref a, vi, vp]) H1 (dNat r) := (evx_fld (k := 0) rfl (e1 _ _ ha) T.cl T.nR (ffs_r _ _ _ _)).dat rfl
    have hlen : EvD (tCB (rLenQ K) (tCons (tVar 1) tNil)) (L2.start ["folk", "inputs", "pattern"] [.ref a, vi, vp]) H1 (dNat n) := (evd_lenT (ds := ins.map .int) (evd_var (k := 1) rfl (hi.same e1))).is (by rw [List.length_map, hl]; rfl)
    exact sd_drop (evd_call (R := R_check_pattern) (d := .none) (eva_cons hlen (eva_cons hfr (eva_cons (evd_var rfl (hp.same e1)) eva_nil))) ⟨n, r, _, rfl, List.length_replicate, r5, fun d hd => by rw [(List.mem_replicate.mp hd).2]; exact shRow_round n5 hin, rfl⟩) fun _ H2 e2 _ => k H2 (e1.trans e2)
def spAns (P : Program) (w : World) (K : PySem.W.Frag) (mg : Str → Option Value) (base : Heap) (C : Addr) : Sp := fun vs H Q _ => ∃ (a : Addr) (vi vp : V) (r n i : Nat) (M : MF) (ins : List Int), vs = [.ref a, vi, vp] ∧ FolkIn P w K mg base C H a r n M ∧ Dt H (dRow ins) vi ∧ ins.length = n ∧ Dt H (patD r n i) vp ∧ 3 ≤ n ∧ n ≤ 5 ∧ r ≤ 30 ∧ i < n ∧ ∀ v' H', Same H H' → Dt H' (dRow (ansRow M n i (rowF ins) r)) v' → Q v' H'
theorem sc_answers : FnScope ["folk", "inputs", "pattern"] ["folk", "inputs", "pattern"] (defScope s_answers) := ⟨rfl, rfl, rfl, by decide +kernel, rfl, by decide +kernel, by decide +kernel⟩
theorem ok_answers (D : Defs K mg) {C fI : Addr} {fdI : FuncData} (T : FolkC K mg C fI fdI) : FnIs P w K mg base 8 "answers" ["folk", "inputs", "pattern"] (spAns P w K mg base C) := by
  refine D.d_answers.ok sc_answers (fun _ _ _ _ _ _ us hl => match us, hl with | [_, _, _], _ => rfl) (fun vs H Q E h => ?_) (fun f cdv A outer s H vs Q E hr h => ?_)
  · obtain ⟨_, _, _, _, _, _, _, _, rfl, _⟩ := h
    rfl
  · obtain ⟨a, vi, vp, r, n, i, M, ins, rfl, hF, hi, hl, hp, n3, n5, r5, hin, k⟩ := h
    refine ⟨_, pss_cons (ps_expr (pe_fn (ok_check_run D T) hr (pa_cons (pv 0) (pa_cons (pv 1) (pa_cons (pv 2) pa_nil))))) (pss_one (ps_ret (pe_fn (ok_raw_answers D T) hr (pa_cons (pv 0) (pa_cons (pv 1) (pa_cons (pv 2) pa_nil)))))), ?_⟩
    refine ⟨_, rfl, _, rfl, _, rfl, a, vi, vp, r, n, i, M, ins, rfl, hF, hi, hl, hp, n3, n5, r5, hin, fun H1 e1 => ?_⟩
    exact ⟨_, rfl, _, rfl, _, rfl, a, vi, vp, r, n, i, M, ins, rfl, hF.go e1, hi.same e1, hl, hp.same e1, n5, r5, fun v' H2 e2 h2 => k v' H2 (e1.trans e2) h2⟩
end
end G98

/-! F5: the law own run. -/
namespace G98
open PySem PySem.Spec PyProof.Rows L2
section
variable {P : Program} {w : World} {K : PySem.W.Frag} {mg : Str → Option Value} {base : Heap}
def spRun (P : Program) (w : World) (K : PySem.W.Frag) (mg : Str → Option Value) (base : Heap) : Sp := fun vs H Q _ => ∃ (tp fb fs fa : Addr) (vi vp : V) (r n i : Nat) (M : MF) (ins : List Int), vs = [.ref tp, vi, vp] ∧ H tp = some (.tup [.ref fb, .ref fs, .ref fa]) ∧ Parts P w K mg base H n M fb fs fa ∧ Dt H (dRow ins) vi ∧ ins.length = n ∧ Dt H (patD r n i) vp ∧ n ≤ 5 ∧ r ≤ 30 ∧ ∀ v' H', Same H H' → Dt H' (.list ((List.range (r + 1)).map (memT M n i (rowF ins)))) v' → Q v' H'
theorem tl_ {tr : TA} {σ : L2.St} {H : Hp} {Q : VK} (h : tr σ H fun xs H1 => xs.length ≤ sizeLine ∧ ∀ p, H1 p = none → Q (.ref p) (upd H1 p (.lst xs))) : tLst tr σ H Q := h
theorem evd_lenN {σ : L2.St} {H : Hp} {te : TE} {ds : List PyData} {n : Nat} (h : EvD te σ H (.tuple ds)) (hl : ds.length = n) : EvD (tCB (rLenQ K) (tCons te tNil)) σ H (dNat n) := (evd_lenT h).is (by rw [hl]; rfl)
theorem at_range {n k : Nat} {f : Nat → PyData} (h : k < n) : atI ((List.range n).map f) (k : Int) = some (f k) := atI_nat (by rw [List.getElem?_map, List.getElem?_range h]; rfl)
theorem rangeD {n j : Nat} {d : PyData} (h : ((List.range n).map dNat)[j]? = some d) : j < n ∧ d = dNat j := by
  rw [List.getElem?_map] at h
  rcases Nat.lt_or_ge j n with hj | hj
  · rw [List.getElem?_range hj] at h
    exact ⟨hj, (Option.some.inj h).symm⟩
  · rw [List.getElem?_eq_none (by rw [List.length_range]; exact hj)] at h
    cases h
theorem sc_law_run : FnScope ["_law_parts", "_law_inputs", "_law_pattern", "_law_me", "_law_found", "_law_r", "_law_here", "_law_later", "_law_heard", "_law_k"] ["_law_parts", "_law_inputs", "_law_pattern"] (defScope s_law_run) := ⟨rfl, rfl, rfl, by decide +kernel, rfl, by decide +kernel, by decide +kernel⟩
theorem ok_law_run (D : Defs K mg) : FnIs P w K mg base 2 "_law_run" ["_law_parts", "_law_inputs", "_law_pattern"] (spRun P w K mg base) := by
  refine D.d_law_run.ok sc_law_run (fun _ _ _ _ _ _ us hl => match us, hl with | [_, _, _], _ => rfl) (fun vs H Q E h => ?_) (fun f cdv A outer s H vs Q E hr h => ?_)
  · obtain ⟨_, _, _, _, _, _, _, _, _, _, _, rfl, _⟩ := h
    rfl
  · obtain ⟨tp, fb, fs, fa, vi, vp, r, n, i, M, ins, rfl, htp, pt, hi, hl, hp, n5, r5, k⟩ := h
    refine ⟨_, (pss_cons (ps_set (i := 4) sc_law_run.nd rfl (Or.inl rfl) (pe_lst (pa_cons (pe_callTy (T := "tuple") call_tuple_of (by rfl) D.blt.b_tuple (by decide +kernel) (pa_cons (pe_lc (own := [("_law_me", 3)]) (g := (gName 3)) (tt := tYes) rfl sc_law_run.nd (pi_range1 (by rfl) D.blt.b_range (pa_cons (pe_callB call_len_seq (by rfl) D.blt.b_len PySem.boot_len (pa_cons (pv 1) pa_nil)) pa_nil)) (blkOk_by (N := ["_law_parts", "_law_inputs", "_law_pattern", "_law_me", "_law_found", "_law_r", "_law_here", "_law_later", "_law_heard", "_law_k"]) (sc := defScope s_law_run) (by decide +kernel)) (fun _ _ _ _ _ => pg_name (i := 3) sc_law_run.nd rfl (Or.inl rfl)) (fun _ _ _ _ _ => pts_nil) (fun _ _ _ _ _ => (show PE _ _ (tCallV P w K mg base 1 (tOp (rIxT K) (tVar 0) (tC (.int 0))) (tCons (tVar 3) (tCons (tOp (rIxT K) (tVar 1) (tVar 3)) tNil))) from pe_callV (hr.mono (by decide)) (pe_ix (r := rIxT K) ix_tup (pv 0) pe_int (fun _ _ => rfl)) (pa_cons (pv 3) (pa_cons (pe_ix (r := rIxT K) ix_tup (pv 1) (pv 3) (fun _ _ => rfl)) pa_nil))))) pa_nil)) pa_nil))) (pss_cons (ps_for PassesOwn.never rfl (pi_range1 (by rfl) D.blt.b_range (pa_cons (pe_callB call_len_seq (by rfl) D.blt.b_len PySem.boot_len (pa_cons (pv 2) pa_nil)) pa_nil)) (pg_name (i := 5) sc_law_run.nd rfl (Or.inr rfl)) (pss_cons (ps_asg (pe_tup (pa_cons (pe_ix (r := rIxL K) ix_list (pv 4) (pe_un un_neg pe_int) (fun _ _ => rfl)) (pa_cons (pe_lst pa_nil) pa_nil))) (pg_tup rfl (pgs_cons (pg_name (i := 6) sc_law_run.nd rfl (Or.inr rfl)) (pgs_cons (pg_name (i := 7) sc_law_run.nd rfl (Or.inl rfl)) pgs_nil)))) (pss_cons (ps_for PassesOwn.never rfl (pi_range1 (by rfl) D.blt.b_range (pa_cons (pe_callB call_len_seq (by rfl) D.blt.b_len PySem.boot_len (pa_cons (pv 1) pa_nil)) pa_nil)) (pg_name (i := 3) sc_law_run.nd rfl (Or.inr rfl)) (pss_cons (ps_set (i := 8) sc_law_run.nd rfl (Or.inl rfl) (pe_callTy (T := "tuple") call_tuple_of (by rfl) D.blt.b_tuple (by decide +kernel) (pa_cons (pe_lc (own := [("_law_k", 9)]) (g := (gName 9)) (tt := tYes) rfl sc_law_run.nd (pi_range1 (by rfl) D.blt.b_range (pa_cons (pe_callB call_len_seq (by rfl) D.blt.b_len PySem.boot_len (pa_cons (pv 1) pa_nil)) pa_nil)) (blkOk_by (N := ["_law_parts", "_law_inputs", "_law_pattern", "_law_me", "_law_found", "_law_r", "_law_here", "_law_later", "_law_heard", "_law_k"]) (sc := defScope s_law_run) (by decide +kernel)) (fun _ _ _ _ _ => pg_name (i := 9) sc_law_run.nd rfl (Or.inl rfl)) (fun _ _ _ _ _ => pts_nil) (fun _ _ _ _ _ => pe_ifExp (pt_cmpR op_eq (pv 9) (pe_ix (r := rIxT K) ix_tup (pe_ix (r := rIxT K) ix_tup (pv 2) (pv 5) (fun _ _ => rfl)) (pv 3) (fun _ _ => rfl)) (nomark _)) pe_non (pe_ix (r := rIxT K) ix_tup (pv 6) (pv 9) (fun _ _ => rfl)))) pa_nil))) (pss_one (ps_expr (pe_bm PySem.F.plainAttrs_list PySem.F.slot_list_append PySem.F.type_list_append mt_append (pv 7) (pa_cons (show PE _ _ (tCallV P w K mg base 1 (tOp (rIxT K) (tVar 0) (tC (.int 1))) (tCons (tVar 3) (tCons (tVar 5) (tCons (tVar 8) tNil)))) from pe_callV (hr.mono (by decide)) (pe_ix (r := rIxT K) ix_tup (pv 0) pe_int (fun _ _ => rfl)) (pa_cons (pv 3) (pa_cons (pv 5) (pa_cons (pv 8) pa_nil)))) pa_nil)))))) (pss_one (ps_expr (pe_bm PySem.F.plainAttrs_list PySem.F.slot_list_append PySem.F.type_list_append mt_append (pv 4) (pa_cons (pe_callTy (T := "tuple") call_tuple_of (by rfl) D.blt.b_tuple (by decide +kernel) (pa_cons (pv 7) pa_nil)) pa_nil))))))) (pss_one (ps_ret (pv 4))))), ?_⟩
    have hmap : (ins.map PyData.int).length = n := by rw [List.length_map]; exact hl
    have hi' : Dt H (.tuple ((List.range n).map fun k => .int (rowF ins k))) vi := by rw [← row_map hl]; exact hi
    have hok := fun t k => memAt_ok (i := i) pt.ok (rowF ins) t k
    -- found
    have h0 : EvD (tCB (rTupQ K) (tCons (tLc (iRng1 (tCons (tCB (rLenQ K) (tCons (tVar 1) tNil)) tNil)) (gName 3) tYes (tCallV P w K mg base 1 (tOp (rIxT K) (tVar 0) (tC (.int 0))) (tCons (tVar 3) (tCons (tOp (rIxT K) (tVar 1) (tVar 3)) tNil))) [3]) tNil)) [some (.ref tp), some vi, some vp, none, none, none, none, none, none, none] H (memT M n i (rowF ins) 0) :=
      evd_tupL (evd_lc1 (List.range n) dNat (memAt M n i (rowF ins) 0) (evw_range (eva_cons (evd_lenN (evd_var (k := 1) rfl hi) hmap) eva_nil) (by omega)) (by rw [List.length_range]; omega) (fun me hme => pt.ok.noL _ (hok 0 me (List.mem_range.mp hme))) (fun _ => rfl) fun me x H1 hme e hx =>
        evd_callV (evx_ixT (k := 0) rfl (e _ _ htp) rfl rfl) (pt.b.same e) (eva_cons (evd_var (k := 3) rfl hx) (eva_cons (evd_ixT (evd_var (k := 1) rfl (hi'.same e)) (evd_var (k := 3) rfl hx) (at_range (List.mem_range.mp hme))) eva_nil)) ⟨me, rowF ins me, rfl, List.mem_range.mp hme, rfl⟩)
    refine sq_ (sa_ (tl_ (tc_ (h0 H (Same.refl _) _ fun v1 H1 e1 h1 => ⟨(show 1 ≤ sizeLine by decide), fun L hL => ?_⟩))))
    have o0 : Own1 H (upd H1 L (.lst [v1])) L ((List.range (0 + 1)).map (memT M n i (rowF ins))) := ⟨e1.trans (Same.new hL), e1.free hL, noLs_of fun d hd => (by
      obtain ⟨t, _, rfl⟩ := List.mem_map.mp hd
      exact noL_mem pt.ok _ t), [v1], upd_same, DtL.one (h1.same (Same.new hL))⟩
    generalize upd H1 L (.lst [v1]) = H2 at o0
    refine sq_ (sd_forb (Hb := H) (ds := (List.range r).map dNat) (ewb_range (eva_cons (evd_lenN (evd_var (k := 2) rfl (hp.same o0.same)) List.length_replicate) eva_nil) (by omega)) fun H3 e3 => ⟨fun j σ' H' => Own1 H H' L ((List.range (j + 1)).map (memT M n i (rowF ins))) ∧ ∃ a3 a5 a6 a7 a8, σ' = [some (.ref tp), some vi, some vp, a3, some (.ref L), a5, a6, a7, a8, none], ⟨o0.go e3, _, _, _, _, _, rfl⟩, fun _ _ _ _ p => p.1.same, fun j d v σ' H4 H5 hd p e5 hv => ?_, fun σ' H4 p => ?_⟩)
    · obtain ⟨o4, a3, a5, a6, a7, a8, rfl⟩ := p
      obtain ⟨hj, rfl⟩ := rangeD hd
      have hv : v = V.int (j : Nat) := hv
      subst hv
      have o5 := o4.go e5
      obtain ⟨vsL, hL5, hvL⟩ := o5.at_
      obtain ⟨vm, hvm, hdm⟩ := hvL.ixN (last_range (f := memT M n i (rowF ins)) j)
      refine sq_ ⟨_, rfl, 1, rfl, L, vsL, -1, vm, rfl, rfl, SqL.of hL5, hvm, Nat.zero_le _, fun Lb hL2 => ⟨(show 2 ≤ sizeLine by decide), fun tq htq => ⟨tq, _, rfl, SqT.of upd_same, rfl, vm, _, rfl, .ref Lb, _, rfl, rfl, ?_⟩⟩⟩
      have q0 : Own1 H5 (upd (upd H5 Lb (.lst [])) tq (.tup [vm, .ref Lb])) Lb ((List.range 0).map (memAt M n i (rowF ins) (j + 1))) := ⟨(Same.new hL2).trans (Same.new htq), hL2, rfl, [], (Same.new htq) _ _ upd_same, rfl⟩
      generalize upd (upd H5 Lb (.lst [])) tq (.tup [vm, .ref Lb]) = H6 at q0
      refine sq_ (sd_forb (Hb := H5) (ds := (List.range n).map dNat) (ewb_range (eva_cons (evd_lenN (evd_var (k := 1) rfl (hi.same (o5.same.trans q0.same))) hmap) eva_nil) (by omega)) fun H7 e7 => ⟨fun m σ' H' => Own1 H5 H' Lb ((List.range m).map (memAt M n i (rowF ins) (j + 1))) ∧ ∃ b3 b8, σ' = [some (.ref tp), some vi, some vp, b3, some (.ref L), some (.int j), some vm, some (.ref Lb), b8, none], ⟨q0.go e7, _, _, rfl⟩, fun _ _ _ _ p => p.1.same, fun m d v σ' H8 H9 hd p e9 hv => ?_, fun σ' H8 p => ?_⟩)
      · obtain ⟨q8, b3, b8, rfl⟩ := p
        obtain ⟨hm, rfl⟩ := rangeD hd
        have hv : v = V.int (m : Nat) := hv
        subst hv
        have q9 := q8.go e9
        have e59 := o5.same.trans q9.same
        have hpj : ∀ H', Same H9 H' → ∀ (σ : L2.St), σ[2]? = some (some vp) → σ[5]? = some (some (.int j)) → σ[3]? = some (some (.int m)) → EvD (tOp (rIxT K) (tOp (rIxT K) (tVar 2) (tVar 5)) (tVar 3)) σ H' (shD i m) := fun H' e' σ s2 s5 s3 =>
          evd_ixT (evd_ixT (d := shRow n i) (evd_var s2 (hp.same (e59.trans e'))) (evd_var (d := dNat j) s5 rfl) (atI_nat (by rw [List.getElem?_replicate, if_pos hj]))) (evd_var (d := dNat m) s3 rfl) (at_range hm)
        have hh : EvD (tCB (rTupQ K) (tCons (tLc (iRng1 (tCons (tCB (rLenQ K) (tCons (tVar 1) tNil)) tNil)) (gName 9) tYes (tIf (tTest (tOp rEq (tVar 9) (tOp (rIxT K) (tOp (rIxT K) (tVar 2) (tVar 5)) (tVar 3)))) (tC .non) (tOp (rIxT K) (tVar 6) (tVar 9))) [9]) tNil)) [some (.ref tp), some vi, some vp, some (.int m), some (.ref L), some (.int j), some vm, some (.ref Lb), b8, none] H9 (.tuple (hearD n i m (memAt M n i (rowF ins) j))) :=
          evd_tupL (evd_lc1 (List.range n) dNat (fun k => if m ≠ i ∧ k = i then .none else memAt M n i (rowF ins) j k) (evw_range (eva_cons (evd_lenN (evd_var (k := 1) rfl (hi.same e59)) hmap) eva_nil) (by omega)) (by rw [List.length_range]; omega) (fun k hk => by
            split
            · rfl
            · exact pt.ok.noL _ (hok j k (List.mem_range.mp hk))) (fun _ => rfl) fun k x H' hk e' hx => by
            have hsc : scD (shD i m) = true := by
              unfold shD
              split <;> rfl
            refine evd_if (evt_test (evd_eqS (evd_var (k := 9) rfl hx) (hpj H' e' _ rfl rfl rfl) rfl hsc)) (fun z => ?_) fun z => ?_
            · have z := of_decide_eq_true z
              unfold shD at z
              by_cases hmi : m = i
              · rw [if_pos hmi] at z
                cases z
              · rw [if_neg hmi] at z
                have z : V.int (k : Int) = V.int (i : Int) := z
                injection z with z
                rw [if_pos ⟨hmi, by omega⟩]
                exact evd_non
            · have z := of_decide_eq_false z
              unfold shD at z
              rw [if_neg (fun q => z (by rw [if_neg q.1, q.2]))]
              exact evd_ixT (evd_var (k := 6) rfl (hdm.same (q9.same.trans e'))) (evd_var (k := 9) rfl hx) (at_range (List.mem_range.mp hk)))
        refine sq_ (sa_ (hh H9 (Same.refl _) _ fun vh Ha ea hvh => ?_))
        have qa := q9.go ea
        have e5a := o5.same.trans qa.same
        refine ap1_ qa rfl (evd_callV (evx_ixT (k := 0) rfl (e5a _ _ htp) rfl rfl) (pt.s.same e5a) (eva_cons (evd_var (k := 3) (d := dNat m) rfl rfl) (eva_cons (evd_var (k := 5) (d := dNat j) rfl rfl) (eva_cons (evd_var (k := 8) rfl hvh) eva_nil))) ⟨m, j, _, memAt M n i (rowF ins) j m, rfl, hm, by omega, by unfold hearD; rw [List.length_map, List.length_range], fun h hh => ?_, ?_, hok j m hm, rfl⟩) (pt.ok.noL _ (hok (j + 1) m hm)) (by rw [List.length_map, List.length_range]; omega) fun Hc qc => ⟨?_, _, _, rfl⟩
        · obtain ⟨k, hk, rfl⟩ := List.mem_map.mp hh
          split
          · exact .inl rfl
          · exact .inr (hok j k (List.mem_range.mp hk))
        · unfold hearD
          rw [List.getElem?_map, List.getElem?_range hm]
          show some (if m ≠ i ∧ m = i then PyData.none else memAt M n i (rowF ins) j m) = _
          rw [if_neg (fun z => z.1 z.2)]
        · rw [List.range_succ, List.map_append]
          exact qc
      · obtain ⟨q8, b3, b8, rfl⟩ := p
        rw [List.length_map, List.length_range] at q8
        refine ap1_ (o5.go q8.same) rfl (evd_tupL (evd_var (k := 7) rfl q8.data)) (noL_mem pt.ok (rowF ins) (j + 1)) (by rw [List.length_map, List.length_range]; omega) fun H9 o9 => ⟨?_, _, _, _, _, _, rfl⟩
        rw [List.range_succ (n := j + 1), List.map_append]
        exact o9
    · obtain ⟨o4, a3, a5, a6, a7, a8, rfl⟩ := p
      rw [List.length_map, List.length_range] at o4
      exact sd_ret (evd_var (k := 4) rfl o4.data) fun v' H5 e5 h5 => k v' H5 (o4.same.trans e5) h5
end
end G98

/-! F6: what makers keep; closures by data. -/
namespace G98
open PySem PySem.Spec PyProof.Rows L2 NdefX LamX
/-- all but the pot and the tables of defs is kept -/
def Kp (p : Addr) (H H' : Hp) : Prop := ∀ b u, b ≠ p → (∀ ps, u ≠ .tbl ps) → H b = some u → H' b = some u
theorem Kp.refl (p : Addr) (H : Hp) : Kp p H H := fun _ _ _ _ h => h
theorem Kp.trans {p : Addr} {H H1 H2 : Hp} (a : Kp p H H1) (b : Kp p H1 H2) : Kp p H H2 := fun c u n m h => b c u n m (a c u n m h)
theorem Dr.kp {p : Addr} {H H' : Hp} (e : Dr p H H') : Kp p H H' := fun b u n _ h => e b u n h
theorem same_kp {p : Addr} {H H' : Hp} (e : Same H H') : Kp p H H' := fun b u _ _ h => e b u h
theorem extN_kp {p : Addr} {H H' : Hp} (e : ExtN H H') : Kp p H H' := fun b u _ m h => e b u h m
mutual
theorem Dt.kp {p : Addr} {H H' : Hp} (e : Kp p H H') (hp : ∀ vs, H p ≠ some (.tup vs)) : ∀ {d : PyData} {v : V}, noL d = true → Dt H d v → Dt H' d v
  | .none, _, _, h => h
  | .bool _, _, _, h => h
  | .int _, _, _, h => h
  | .str _, _, _, h => h
  | .tuple ds, _, n, ⟨a, vs, h1, h2, h3⟩ => ⟨a, vs, h1, e _ _ (fun q : a = p => hp vs (by rw [← q]; exact h2)) (fun _ z => nomatch z) h2, DtL.kp e hp (show noLs ds = true from n) h3⟩
  | .list _, _, n, _ => nomatch n
  | .dict _, _, _, h => h.elim
theorem DtL.kp {p : Addr} {H H' : Hp} (e : Kp p H H') (hp : ∀ vs, H p ≠ some (.tup vs)) : ∀ {ds : List PyData} {vs : List V}, noLs ds = true → DtL H ds vs → DtL H' ds vs
  | [], _, _, h => h
  | d :: ds, _, n, ⟨v, r, h1, h2, h3⟩ => by
    have n : (noL d && noLs ds) = true := n
    rw [Bool.and_eq_true] at n
    exact ⟨v, r, h1, Dt.kp e hp n.1 h2, DtL.kp e hp n.2 h3⟩
end
mutual
theorem Dt.ne {H H' : Hp} (e : NoExt H H') : ∀ {d : PyData} {v : V}, Dt H d v → Dt H' d v
  | .none, _, h => h
  | .bool _, _, h => h
  | .int _, _, h => h
  | .str _, _, h => h
  | .list _, _, ⟨a, vs, h1, h2, h3⟩ => ⟨a, vs, h1, e _ _ (fun _ z => nomatch z) h2, DtL.ne e h3⟩
  | .tuple _, _, ⟨a, vs, h1, h2, h3⟩ => ⟨a, vs, h1, e _ _ (fun _ z => nomatch z) h2, DtL.ne e h3⟩
  | .dict _, _, h => h
theorem DtL.ne {H H' : Hp} (e : NoExt H H') : ∀ {ds : List PyData} {vs : List V}, DtL H ds vs → DtL H' ds vs
  | [], _, h => h
  | _ :: _, _, ⟨v, r, h1, h2, h3⟩ => ⟨v, r, h1, Dt.ne e h2, DtL.ne e h3⟩
end
/-- the pot is none of the lists of rows -/
theorem rows_pot {H : Hp} {p c l : Addr} {vs : List V} {rs : List (List Int)} (hP : PotAt H p c) (h1 : H l = some (.lst vs)) (h2 : DtL H (rs.map dRow) vs) : l ≠ p := fun z => by
  obtain ⟨cells, a, b, s, t, _, _, _, h4⟩ := hP
  rw [z, h4] at h1
  have h1 := Option.some.inj h1
  injection h1 with h1
  subst h1
  match rs, h2 with
  | [], h2 => cases h2
  | [r], ⟨v, q, e, _, h3⟩ => cases e; cases h3
  | r :: r' :: rs, ⟨v, q, e, _, u, q2, e2, h4, _⟩ =>
    cases e
    cases e2
    obtain ⟨a', vs', e, _⟩ := h4
    cases e
theorem nd_kp {P : Program} {w : World} {H H' : Hp} {p c d : Addr} {kvs : KVA} (x : ND P w H d kvs) (hP : PotAt H p c) (e : Kp p H H') : ND P w H' d kvs := by
  obtain ⟨xs, ep, e1, _⟩ := id x.at_
  have hdp : d ≠ p := fun z => by
    obtain ⟨cells, a, b, s, t, _, _, _, h4⟩ := hP
    rw [z, h4] at e1
    cases e1
  refine x.ext ((e d _ hdp (fun ps z => (by unfold RawN at z; cases z)) e1).trans e1.symm) fun b ys h => e b _ (fun z => ?_) (fun _ z => nomatch z) h
  rw [z] at h
  exact hP.notup ys h
theorem LotsB.kp {P : Program} {w : World} {H H' : Hp} {p c d : Addr} {es : List Ent} (l : LotsB P w H d es) (hP : PotAt H p c) (e : Kp p H H') : LotsB P w H' d es := by
  obtain ⟨kvs, n, hl, h1⟩ := l
  exact ⟨kvs, nd_kp n hP e, hl, fun q hq => let ⟨v, a, b⟩ := h1 q hq; ⟨v, a, Dt.kp e hP.notup (noL_lot _) b⟩⟩
theorem CompB.kp {P : Program} {w : World} {H H' : Hp} {p c d : Addr} {ps : List (Ky × List Int)} (l : CompB P w (fun _ => none) H d ps) (hP : PotAt H p c) (e : Kp p H H') : CompB P w (fun _ => none) H' d ps := by
  obtain ⟨s, d0, kvs, n, hl, h1, h2, h3⟩ := l
  refine ⟨fun b u z => (by cases (show (none : Option HO) = some u from z)), rfl, kvs, nd_kp n hP e, hl, h1, fun k v hv => ?_, h3⟩
  obtain ⟨q0, l, vs, q1, q2, q3, q4⟩ := h2 k v hv
  exact ⟨q0, l, vs, q1, rfl, e l _ (rows_pot hP q3 q4) (fun _ z => nomatch z) q3, DtL.kp e hP.notup (noLs_rows _) q4⟩
theorem TaskAt.kp {C : Addr} {P : Program} {w : World} {H H' : Hp} {p c a : Addr} {n : Nat} {es : List Ent} (t : TaskAt C P w H a n es) (hP : PotAt H p c) (e : Kp p H H') : TaskAt C P w H' a n es := by
  obtain ⟨dx, vl, d1, d2, h1, h2, h3, h4⟩ := t
  have hap : a ≠ p := fun z => by
    obtain ⟨cells, a', b, s, t, _, _, _, q4⟩ := hP
    rw [z, q4] at h1
    cases h1
  exact ⟨dx, vl, d1, d2, e a _ hap (fun _ z => nomatch z) h1, Dt.kp e hP.notup (noLs_ents es) h2, h3.kp hP e, h4.kp hP e⟩
/-! ### closures -/
theorem cloC_of {env : Env} {N : List Str} {σ : L2.St} {H1 H2 : Hp} (T : Told env N σ H1 H2) {Nf ps fr : List Str} {scope : Scope} {ws : List V} (S : NScC Nf ps fr scope) (hlen : ws.length = fr.length)
    (hall : ∀ (i : Nat) (y : Str), fr[i]? = some y → ∃ (j : Nat) (w : V), ws[i]? = some w ∧ N[j]? = some y ∧ σ[j]? = some (some w) ∧ env.scope.names.lookup y = some .cell) : CloC scope (cloFrom env.cells scope.names []) fr ws H2 := by
  have key : ∀ y c, (y, c) ∈ cloFrom env.cells scope.names [] → (y, NameKind.free) ∈ scope.names ∧ env.cells.lookup y = some c ∧ ∃ (i : Nat) (w : V), fr[i]? = some y ∧ ws[i]? = some w ∧ H2 c = some (CellO c w) := fun y c h => by
    rcases cloFrom_mem h with h | ⟨h1, h2⟩
    · cases h
    · obtain ⟨i, hi⟩ := List.mem_iff_getElem?.mp (S.free _ h1 rfl)
      obtain ⟨j, w, a1, a2, a3, a4⟩ := hall i y hi
      obtain ⟨c', hc'⟩ := T.has y a4
      have hcc : c = c' := by rw [h2, hc']; rfl
      subst hcc
      exact ⟨h1, hc', i, w, hi, a1, T.cell y c j w hc' a2 a4 a3⟩
  refine ⟨hlen, fun y c h => let ⟨a, _, b⟩ := key y c h; ⟨a, b⟩, fun x y c h1 h2 => T.inj x y c (key x c h1).2.1 (key y c h2).2.1, fun y c c' h1 h2 => ?_, fun i y h => ⟨_, cloFrom_has (PySem.mem_of_lookup (S.frk y (List.mem_of_getElem? h)))⟩⟩
  have q1 := (key y c h1).2.1
  have q2 := (key y c' h2).2.1
  rw [q1] at q2
  exact Option.some.inj q2
section
variable {P : Program} {w : World} {K : PySem.W.Frag} {mg : Str → Option Value} {base : Heap} {N ps fr : List Str} {F : NF} {f : Addr} {k : Nat} {H : Hp} {ws : List V} {R : List PyData → PyData → Prop}
/-- a closure over data -/
theorem mach_D (S : NScC N ps fr F.scope) (hb : ∀ (doc pm ctv : Value) (us : List Value), us.length = ps.length → bindArgs (F.fd doc pm ctv) ⟨us, []⟩ = pure (ps.zip us)) (hf : H f = some (FnO f F)) (hc : H F.c = some (CodeO F.c F.qual)) (C : CloC F.scope F.cl fr ws H)
    (hN : ∀ (i : Nat) x, ps[i]? = some x → N[i]? = some x) (hlen : ∀ ds r, R ds r → ds.length = ps.length)
    (hbody : ∀ (A : Around) (outer : List Env) (s : Shared) (H0 : Hp) (vs : List V) (ds : List PyData) (r : PyData), Room k (A.deeper (envC F f s.heap.objs.size)) → NoExt H H0 → DtL H0 ds vs → R ds r →
      ∃ t, PSs (ccx P w K mg base N F f A outer s H0) F.body t ∧ ∀ D : Ends, (∀ v H2, Same H0 H2 → Dt H2 r v → D.rt v H2) → t D (startF N vs (ws.map some)) H0) : Mach P w K mg base (k + 1) H f (rD R) :=
  mach_of S hb hf hc C hN fun A outer s H' H0 vs Q hr n1 n2 ⟨ds, r, hd, hR, q⟩ => by
    refine ⟨hd.len.trans (hlen ds r hR), ?_⟩
    obtain ⟨t, ht, h⟩ := hbody A outer s H0 vs ds r hr n1 (DtL.ne n2 hd) hR
    exact ⟨t, ht, h _ fun v H2 e hv => ⟨e, fun H3 n3 s3 => q v H3 s3 (Dt.ne n3 hv)⟩⟩
end
end G98

/-! F7: the drawn machines: plain sums. -/
namespace G98
open PySem PySem.Spec PyProof.Rows L2 NdefX LamX
section
variable {P : Program} {w : World} {K : PySem.W.Frag} {mg : Str → Option Value} {base : Heap}
/-- the names of the nested defs, by their lines -/
def nmF (l _ : Nat) : Str := (("_law_folk" : Str) ++ ".<locals>.") ++ (if l = 242 then "_law_begin" else if l = 245 then "_law_step" else "_law_answer")
def nmA (l _ : Nat) : Str := (("_law_answerers" : Str) ++ ".<locals>.") ++ (if l = 282 then "_law_begin" else if l = 285 then "_law_step" else "_law_answer")
def tabsT : List NTab := [(550, nmF), (565, nmA)]
abbrev bf0 : Stmt := (defBody s_law_folk).getD 2 (.Pass ⟨0, 0, 0, 0⟩)
abbrev bf1 : Stmt := (defBody s_law_folk).getD 3 (.Pass ⟨0, 0, 0, 0⟩)
abbrev bf2 : Stmt := (defBody s_law_folk).getD 4 (.Pass ⟨0, 0, 0, 0⟩)
theorem huF : ∀ p ∈ tabsT, p.1 = 550 → p.2 = nmF := fun p hp e => by
  unfold tabsT at hp
  rcases List.mem_cons.mp hp with rfl | hp
  · rfl
  · rw [List.mem_singleton.mp hp] at e
    cases e
theorem huA : ∀ p ∈ tabsT, p.1 = 565 → p.2 = nmA := fun p hp e => by
  unfold tabsT at hp
  rcases List.mem_cons.mp hp with rfl | hp
  · cases e
  · rw [List.mem_singleton.mp hp]
/-- plain sums -/
def hvA (t : Nat) : PyData → Int
  | .int x => x
  | _ => 700 + t
def totA (W : List Int) (me t : Nat) (hs : List PyData) : Nat → Int
  | 0 => 0
  | k + 1 => totA W me t hs k * 31 + W.getD k 0 * hvA t (hs.getD k .none) + me
def intD : PyData → Int
  | .int x => x
  | _ => 0
def MA (a b c : Int) (W : List Int) (top : Int) : MF where
  begin := fun me v => .int ((a * v + b * me + c) % 1009)
  step := fun me t hs => .int (totA W me t hs hs.length % 100003)
  ans := fun me m => (a * intD m + b * me) % top
  ok := fun m => ∃ x, m = .int x
theorem MA_ok (a b c : Int) (W : List Int) (top : Int) (n : Nat) : (MA a b c W top).Ok n := ⟨fun _ _ _ => ⟨_, rfl⟩, fun _ _ _ _ _ _ _ _ _ => ⟨_, rfl⟩, fun m ⟨x, h⟩ => by rw [h]; rfl⟩
theorem cmul1 {i j : Int} (h1 : -1000 < i) (h2 : i < 1000) : CMul i j := .inl ⟨by omega, by omega⟩
theorem sf0 : NScC ["_law_me", "_law_value", "_law_a", "_law_b", "_law_c"] ["_law_me", "_law_value"] ["_law_a", "_law_b", "_law_c"] (C8.fnScope bf0) := nscC_by (by decide +kernel)
theorem sf1 : NScC ["_law_me", "_law_number", "_law_heard", "_law_weights", "_law_total", "_law_k"] ["_law_me", "_law_number", "_law_heard"] ["_law_weights"] (C8.fnScope bf1) := nscC_by (by decide +kernel)
theorem sf2 : NScC ["_law_me", "_law_memory", "_law_a", "_law_b", "_law_top"] ["_law_me", "_law_memory"] ["_law_a", "_law_b", "_law_top"] (C8.fnScope bf2) := nscC_by (by decide +kernel)
theorem mach_f0 (D : Defs K mg) {f : Addr} {H : Hp} {cl : List (Str × Addr)} {c0 : Addr} {qual : Str} {a b c top : Int} {W : List Int} {Wl : Addr} {n : Nat} (hf : H f = some (FnO f (NF.of bf0 "_law_begin" qual cl c0))) (hc : H c0 = some (CodeO c0 qual)) (C : CloC (C8.fnScope bf0) cl ["_law_a", "_law_b", "_law_c"] [.int a, .int b, .int c] H)
    (ha : 0 ≤ a ∧ a < 1000) (hb : 0 ≤ b ∧ b < 1000) (htop : 0 < top) (hW : H Wl = some (.lst (W.map .int))) (hWl : W.length = 5 ∧ ∀ x ∈ W, 0 ≤ x ∧ x < 1000) (n5 : n ≤ 5) : Mach P w K mg base 1 H f (rD (RB (MA a b c W top) n)) := by
  refine mach_D (k := 0) (N := ["_law_me", "_law_value", "_law_a", "_law_b", "_law_c"]) (ps := ["_law_me", "_law_value"]) (fr := ["_law_a", "_law_b", "_law_c"]) (ws := [.int a, .int b, .int c]) (F := NF.of bf0 "_law_begin" qual cl c0) sf0 (fun _ _ _ us hl => match us, hl with | [_, _], _ => rfl) hf hc C (fun i x h => by
    match i, h with
    | 0, h => exact h
    | 1, h => exact h
    | i + 2, h => cases h) (fun ds r h => by
    obtain ⟨_, _, rfl, _⟩ := h
    rfl) (fun A outer s H0 vs ds r hr n1 hd hR => ?_)
  obtain ⟨me, v, rfl, hme, rfl⟩ := hR
  obtain ⟨v0, _, rfl, h0, v1, _, rfl, h1, rfl⟩ := hd
  refine ⟨_, (pss_one (ps_ret (pe_op op_mod (pe_callTy (T := "int") call_int1 (by rfl) D.blt.b_int (by decide +kernel) (pa_cons (pe_op op_add (pe_op op_add (pe_op op_mul (pv 2) (pv 1)) (pe_op op_mul (pv 3) (pv 0))) (pv 4)) pa_nil)) pe_int))), fun D k => ?_⟩
  exact sd_ret (evd_mod (evd_intI (evd_add (evd_add (evd_mul (evd_var (k := 2) (d := .int a) rfl rfl) (evd_var (k := 1) rfl h1) (cmul1 (by omega) (by omega))) (evd_mul (evd_var (k := 3) (d := .int b) rfl rfl) (evd_var (k := 0) rfl h0) (cmul1 (by omega) (by omega)))) (evd_var (k := 4) (d := .int c) rfl rfl))) evd_int (by decide)) k
theorem mach_f2 (D : Defs K mg) {f : Addr} {H : Hp} {cl : List (Str × Addr)} {c0 : Addr} {qual : Str} {a b c top : Int} {W : List Int} {Wl : Addr} {n : Nat} (hf : H f = some (FnO f (NF.of bf2 "_law_answer" qual cl c0))) (hc : H c0 = some (CodeO c0 qual)) (C : CloC (C8.fnScope bf2) cl ["_law_a", "_law_b", "_law_top"] [.int a, .int b, .int top] H)
    (ha : 0 ≤ a ∧ a < 1000) (hb : 0 ≤ b ∧ b < 1000) (htop : 0 < top) (hW : H Wl = some (.lst (W.map .int))) (hWl : W.length = 5 ∧ ∀ x ∈ W, 0 ≤ x ∧ x < 1000) (n5 : n ≤ 5) : Mach P w K mg base 1 H f (rD (RA (MA a b c W top) n)) := by
  refine mach_D (k := 0) (N := ["_law_me", "_law_memory", "_law_a", "_law_b", "_law_top"]) (ps := ["_law_me", "_law_memory"]) (fr := ["_law_a", "_law_b", "_law_top"]) (ws := [.int a, .int b, .int top]) (F := NF.of bf2 "_law_answer" qual cl c0) sf2 (fun _ _ _ us hl => match us, hl with | [_, _], _ => rfl) hf hc C (fun i x h => by
    match i, h with
    | 0, h => exact h
    | 1, h => exact h
    | i + 2, h => cases h) (fun ds r h => by
    obtain ⟨_, _, rfl, _⟩ := h
    rfl) (fun A outer s H0 vs ds r hr n1 hd hR => ?_)
  obtain ⟨me, m, rfl, hme, ⟨x, rfl⟩, rfl⟩ := hR
  obtain ⟨v0, _, rfl, h0, v1, _, rfl, h1, rfl⟩ := hd
  refine ⟨_, (pss_one (ps_ret (pe_op op_mod (pe_callTy (T := "int") call_int1 (by rfl) D.blt.b_int (by decide +kernel) (pa_cons (pe_op op_add (pe_op op_mul (pv 2) (pv 1)) (pe_op op_mul (pv 3) (pv 0))) pa_nil)) (pv 4)))), fun D k => ?_⟩
  exact sd_ret (evd_mod (evd_intI (evd_add (evd_mul (evd_var (k := 2) (d := .int a) rfl rfl) (evd_var (k := 1) rfl h1) (cmul1 (by omega) (by omega))) (evd_mul (evd_var (k := 3) (d := .int b) rfl rfl) (evd_var (k := 0) rfl h0) (cmul1 (by omega) (by omega))))) (evd_var (k := 4) (d := .int top) rfl rfl) htop) k
theorem mach_f1 (D : Defs K mg) {f : Addr} {H : Hp} {cl : List (Str × Addr)} {c0 : Addr} {qual : Str} {a b c top : Int} {W : List Int} {Wl : Addr} {n : Nat} (hf : H f = some (FnO f (NF.of bf1 "_law_step" qual cl c0))) (hc : H c0 = some (CodeO c0 qual)) (C : CloC (C8.fnScope bf1) cl ["_law_weights"] [.ref Wl] H)
    (ha : 0 ≤ a ∧ a < 1000) (hb : 0 ≤ b ∧ b < 1000) (htop : 0 < top) (hW : H Wl = some (.lst (W.map .int))) (hWl : W.length = 5 ∧ ∀ x ∈ W, 0 ≤ x ∧ x < 1000) (n5 : n ≤ 5) : Mach P w K mg base 1 H f (rD (RS (MA a b c W top) n)) := by
  refine mach_D (k := 0) (N := ["_law_me", "_law_number", "_law_heard", "_law_weights", "_law_total", "_law_k"]) (ps := ["_law_me", "_law_number", "_law_heard"]) (fr := ["_law_weights"]) (ws := [.ref Wl]) (F := NF.of bf1 "_law_step" qual cl c0) sf1 (fun _ _ _ us hl => match us, hl with | [_, _, _], _ => rfl) hf hc C (fun i x h => by
    match i, h with
    | 0, h => exact h
    | 1, h => exact h
    | 2, h => exact h
    | i + 3, h => cases h) (fun ds r h => by
    obtain ⟨_, _, _, _, rfl, _⟩ := h
    rfl) (fun A outer s H0 vs ds r hr n1 hd hR => ?_)
  obtain ⟨me, t, hs, m, rfl, hme, ht, hl, hok, hm, hmo, rfl⟩ := hR
  obtain ⟨v0, _, rfl, h0, v1, _, rfl, h1, v2, _, rfl, h2, rfl⟩ := hd
  refine ⟨_, (pss_cons (ps_set (i := 4) sf1.nd rfl (Or.inl rfl) pe_int) (pss_cons (ps_for PassesOwn.never rfl (pi_range1 (by rfl) D.blt.b_range (pa_cons (pe_callB call_len_seq (by rfl) D.blt.b_len PySem.boot_len (pa_cons (pv 2) pa_nil)) pa_nil)) (pg_name (i := 5) sf1.nd rfl (Or.inl rfl)) (pss_one (ps_set (i := 4) sf1.nd rfl (Or.inl rfl) (pe_op op_add (pe_op op_add (pe_op op_mul (pv 4) pe_int) (pe_op op_mul (pe_ix (r := rIxL K) ix_list (pv 3) (pv 5) (fun _ _ => rfl)) (pe_ifExp (pt_cmp (pc_isN (pe_ix (r := rIxT K) ix_tup (pv 2) (pv 5) (fun _ _ => rfl)))) (pe_op op_add pe_int (pv 1)) (pe_ix (r := rIxT K) ix_tup (pv 2) (pv 5) (fun _ _ => rfl))))) (pv 0))))) (pss_one (ps_ret (pe_op op_mod (pe_callTy (T := "int") call_int1 (by rfl) D.blt.b_int (by decide +kernel) (pa_cons (pv 4) pa_nil)) pe_int))))), fun D k => ?_⟩
  have hW0 : H0 Wl = some (.lst (W.map .int)) := n1 _ _ (fun _ z => nomatch z) hW
  have hWd : Dt H0 (.list (W.map .int)) (.ref Wl) := ⟨Wl, _, rfl, hW0, DtL.ints W⟩
  refine sq_ (sa_ (sq_ (sd_forb (Hb := H0) (ds := (List.range n).map dNat) (ewb_range (eva_cons (evd_lenN (evd_var (k := 2) rfl h2) hl) eva_nil) (by omega)) fun H2 e2 => ⟨fun j σ' H' => Same H0 H' ∧ ∃ z, σ' = [some v0, some v1, some v2, some (.ref Wl), some (.int (totA W me t hs j)), z], ⟨e2, _, rfl⟩, fun _ _ _ _ p => p.1, fun j d v σ' H3 H4 hd p e4 hv => ?_, fun σ' H3 p => ?_⟩)))
  · obtain ⟨s3, z, rfl⟩ := p
    obtain ⟨hj, rfl⟩ := rangeD hd
    have hv : v = V.int (j : Nat) := hv
    subst hv
    have s4 := s3.trans e4
    have hjl : j < hs.length := by omega
    have hjw : j < W.length := by omega
    have hwj := hWl.2 _ (List.getElem_mem hjw)
    have hsj : atI hs (j : Int) = some hs[j] := atI_nat (List.getElem?_eq_getElem hjl)
    have hx : EvD (tOp (rIxT K) (tVar 2) (tVar 5)) [some v0, some v1, some v2, some (.ref Wl), some (.int (totA W me t hs j)), some (.int (j : Nat))] H4 hs[j] := evd_ixT (evd_var (k := 2) rfl (h2.same s4)) (evd_var (k := 5) (d := dNat j) rfl rfl) hsj
    have hval : EvD (tIf (tB (tIsN (tOp (rIxT K) (tVar 2) (tVar 5)))) (tOp (rI0 fun i j => .int (i + j)) (tC (.int 700)) (tVar 1)) (tOp (rIxT K) (tVar 2) (tVar 5))) [some v0, some v1, some v2, some (.ref Wl), some (.int (totA W me t hs j)), some (.int (j : Nat))] H4 (.int (hvA t hs[j])) := by
      rcases hok hs[j] (List.getElem_mem hjl) with hn | ⟨x, hx'⟩
      · rw [hn] at hx ⊢
        exact evd_if (b := true) (evt_B (evd_isN hx)) (fun _ => evd_add evd_int (evd_var (k := 1) rfl (h1.same s4))) fun z => nomatch z
      · rw [hx'] at hx ⊢
        exact evd_if (b := false) (evt_B (evd_isN hx)) (fun z => nomatch z) fun _ => hx
    refine sa_ ?_
    have hstep := evd_add (evd_add (evd_mul (evd_var (k := 4) (d := .int (totA W me t hs j)) rfl rfl) evd_int (.inr ⟨by decide, by decide⟩ : CMul _ 31)) (evd_mul (evd_ixL (K := K) (evd_var (k := 3) rfl (hWd.same s4)) (evd_var (k := 5) (d := dNat j) rfl rfl) (atI_nat ((List.getElem?_map).trans (by rw [List.getElem?_eq_getElem hjw]; rfl)) : atI (W.map PyData.int) (j : Int) = some (.int W[j]))) hval (cmul1 (by omega) (by omega)))) (evd_var (k := 0) rfl (h0.same s4))
    refine hstep H4 (Same.refl _) _ fun v H5 e5 hv => ⟨s4.trans e5, some (.int (j : Nat)), ?_⟩
    have hv : v = V.int _ := hv
    subst hv
    have e1 : totA W me t hs (j + 1) = totA W me t hs j * 31 + W[j] * hvA t hs[j] + (me : Int) := by
      show totA W me t hs j * 31 + W.getD j 0 * hvA t (hs.getD j .none) + (me : Int) = _
      rw [List.getD_eq_getElem?_getD, List.getD_eq_getElem?_getD, List.getElem?_eq_getElem hjw, List.getElem?_eq_getElem hjl]
      rfl
    rw [e1]
    rfl
  · obtain ⟨s3, z, rfl⟩ := p
    rw [List.length_map, List.length_range] at *
    refine sd_ret (evd_mod (evd_intI (evd_var (k := 4) (d := .int (totA W me t hs n)) rfl rfl)) evd_int (by decide)) fun v H4 e4 hv => k v H4 (s3.trans e4) ?_
    show Dt H4 (.int (totA W me t hs hs.length % 100003)) v
    rw [hl]
    exact hv
end
end G98

/-! F8: the makers: sums. -/
namespace G98
open PySem PySem.Spec PyProof.Rows L2 NdefX LamX
section
variable {P : Program} {w : World} {K : PySem.W.Frag} {mg : Str → Option Value} {base : Heap}
theorem sc_law_folk : FnScope ["_law_pot_here", "_law_top", "_law_begin", "_law_step", "_law_answer", "_law_a", "_law_b", "_law_c", "_law_weights", "_law_k"] ["_law_pot_here", "_law_top"] (defScope s_law_folk) := ⟨rfl, rfl, rfl, by decide +kernel, rfl, by decide +kernel, by decide +kernel⟩
def spFolk (P : Program) (w : World) (K : PySem.W.Frag) (mg : Str → Option Value) (base : Heap) : Sp := fun vs H Q _ => ∃ (p c : Addr), vs = [.ref p, .int 300] ∧ PotAt H p c ∧ TabsN tabsT H ∧ ∀ (tp fb fs fa : Addr) (M : MF) H', Kp p H H' → PotAt H' p c → TabsN tabsT H' → H' tp = some (.tup [.ref fb, .ref fs, .ref fa]) → (∀ n ≤ 5, Parts P w K mg base H' n M fb fs fa) → Q (.ref tp) H'
theorem pot_ext {H H' : Hp} {p c : Addr} (h : PotAt H p c) (e : ExtN H H') : PotAt H' p c := by
  obtain ⟨cells, a, b, s, t, h1, h2, h3, h4⟩ := h
  exact ⟨cells, a, b, s, t, h1, h2, e _ _ h3 (fun _ z => nomatch z), e _ _ h4 (fun _ z => nomatch z)⟩
theorem tabs_kp {p : Addr} {H H' : Hp} (t : TabsN tabsT H) (d : Dr p H H') (hp : ∀ ps, H p ≠ some (.tbl ps)) (hp2 : ∀ φ, H p ≠ some (.ext φ)) : TabsN tabsT H' := fun q hq => by
  obtain ⟨ps, h1, h2, h3⟩ := t q hq
  refine ⟨ps, d _ _ (fun z => hp ps (by rw [← z]; exact h1)) h1, h2, fun pos cv hcv => ?_⟩
  obtain ⟨c, e1, e2⟩ := h3 pos cv hcv
  refine ⟨c, e1, d _ _ (fun z => ?_) e2⟩
  rw [z] at e2
  exact hp2 _ e2
theorem PotAt.notbl {H : Hp} {p c : Addr} (h : PotAt H p c) : (∀ ps, H p ≠ some (.tbl ps)) ∧ ∀ φ, H p ≠ some (.ext φ) := by
  obtain ⟨cells, a, b, s, t, _, _, _, h4⟩ := h
  exact ⟨fun ps z => (by rw [h4] at z; cases z), fun φ z => (by rw [h4] at z; cases z)⟩
theorem tabs_dr {p c : Addr} {H H' : Hp} (t : TabsN tabsT H) (d : Dr p H H') (h : PotAt H p c) : TabsN tabsT H' := tabs_kp t d h.notbl.1 h.notbl.2
theorem ok_law_folk {f c : Addr} {fd : FuncData} (D : Defs K mg) (F : Fun K "_law_folk" "_law_folk" s_law_folk f fd) (hcode : fd.code = .ref c) (hTB : TabB base mg c 550) : FnOk P w K mg base CX0 2 f fd ["_law_pot_here", "_law_top"] (spFolk P w K mg base) := by
  refine Fun_mk F hcode sc_law_folk (fun vs H Q E h => ?_) (fun A outer s H vs Q E hr h => ?_)
  · obtain ⟨_, _, rfl, _⟩ := h
    rfl
  · obtain ⟨p, c0, rfl, hP, hT, k⟩ := h
    refine ⟨_, pssR_cons (ps_asg (pe_tup (pa_cons (pe_op op_add pe_int (pe_fn (ok_law_draw D) hr (pa_cons (pv 0) (pa_cons pe_int pa_nil)))) (pa_cons (pe_op op_add pe_int (pe_fn (ok_law_draw D) hr (pa_cons (pv 0) (pa_cons pe_int pa_nil)))) (pa_cons (pe_fn (ok_law_draw D) hr (pa_cons (pv 0) (pa_cons pe_int pa_nil))) pa_nil)))) (pg_tup rfl (pgs_cons (pg_name (i := 5) sc_law_folk.nd rfl (Or.inr rfl)) (pgs_cons (pg_name (i := 6) sc_law_folk.nd rfl (Or.inr rfl)) (pgs_cons (pg_name (i := 7) sc_law_folk.nd rfl (Or.inr rfl)) pgs_nil)))))
      (pssR_cons (ps_set (i := 8) sc_law_folk.nd rfl (Or.inr rfl) (pe_lc (own := [("_law_k", 9)]) (g := (gName 9)) (tt := tYes) rfl sc_law_folk.nd (pi_range1 (by rfl) D.blt.b_range (pa_cons pe_int pa_nil)) (blkOk_by (N := ["_law_pot_here", "_law_top", "_law_begin", "_law_step", "_law_answer", "_law_a", "_law_b", "_law_c", "_law_weights", "_law_k"]) (sc := defScope s_law_folk) (by decide +kernel)) (fun _ _ _ _ _ => pg_name (i := 9) sc_law_folk.nd rfl (Or.inl rfl)) (fun _ _ _ _ _ => pts_nil) (fun _ _ _ _ _ => pe_op op_add pe_int (pe_fn (ok_law_draw D) hr (pa_cons (pv 0) (pa_cons pe_int pa_nil))))))
      (pssR_cons (ps_ndefMS (T := tabsT) (i := 2) (c := c) (P := 550) (st := bf0) rfl hTB rfl (by unfold tabsT; simp) rfl huF (show ∀ y ∈ (C8.fnScope bf0).names, y.2 = .free → (defScope s_law_folk).names.lookup y.1 = some .cell ∨ (defScope s_law_folk).names.lookup y.1 = some .free by decide +kernel) rfl rfl rfl sc_law_folk.nd rfl (Or.inl rfl) (by first | exact .inl rfl | exact .inr rfl)) (pssR_cons (ps_ndefMS (T := tabsT) (i := 3) (c := c) (P := 550) (st := bf1) rfl hTB rfl (by unfold tabsT; simp) rfl huF (show ∀ y ∈ (C8.fnScope bf1).names, y.2 = .free → (defScope s_law_folk).names.lookup y.1 = some .cell ∨ (defScope s_law_folk).names.lookup y.1 = some .free by decide +kernel) rfl rfl rfl sc_law_folk.nd rfl (Or.inl rfl) (by first | exact .inl rfl | exact .inr rfl)) (pssR_cons (ps_ndefMS (T := tabsT) (i := 4) (c := c) (P := 550) (st := bf2) rfl hTB rfl (by unfold tabsT; simp) rfl huF (show ∀ y ∈ (C8.fnScope bf2).names, y.2 = .free → (defScope s_law_folk).names.lookup y.1 = some .cell ∨ (defScope s_law_folk).names.lookup y.1 = some .free by decide +kernel) rfl rfl rfl sc_law_folk.nd rfl (Or.inl rfl) (by first | exact .inl rfl | exact .inr rfl)) (pssR_ret (pe_tup (pa_cons (pv 2) (pa_cons (pv 3) (pa_cons (pv 4) pa_nil))))))))), ?_⟩
    refine ⟨_, rfl, p, c0, 97, rfl, hP, by decide, by decide, fun x H1 x0 x1 d1 P1 => ⟨1, x, rfl, rfl, _, rfl, p, c0, 89, rfl, P1, by decide, by decide, fun y H2 y0 y1 d2 P2 => ⟨1, y, rfl, rfl, _, rfl, p, c0, 83, rfl, P2, by decide, by decide, fun z H3 z0 z1 d3 P3 => ⟨(show 3 ≤ sizeLine by decide), fun t0 ht0 => ?_⟩⟩⟩⟩
    refine ⟨t0, _, rfl, SqT.of upd_same, rfl, _, _, rfl, _, _, rfl, _, _, rfl, rfl, ?_⟩
    have d03 := ((d1.trans d2).trans d3).trans (same_dr (Same.new (o := .tup [.int (1 + x), .int (1 + y), .int z]) ht0))
    have P4 := P3.go (Same.new (o := .tup [.int (1 + x), .int (1 + y), .int z]) ht0)
    generalize upd H3 t0 (.tup [.int (1 + x), .int (1 + y), .int z]) = H4 at d03 P4
    refine sa_ (lc_draws (σ := [some (.ref p), some (.int 300), none, none, none, some (.int (1 + x)), some (.int (1 + y)), some (.int z), none, none]) (B := fun x => 1 ≤ x ∧ x ≤ 61) (n := 5) (j := 9) (vs := [9]) (te := tOp (rI0 fun i j => .int (i + j)) (tC (.int 1)) (tCall spDraw [] E0 (tCons (tVar 0) (tCons (tC (.int 61)) tNil)))) (ta := tCons (tC (.int 5)) tNil) (eva_cons (evd_c fun _ => rfl) eva_nil) (by decide) P4 (fun _ => rfl) (fun H5 u Q' d5 P5 q5 => ⟨_, rfl, p, c0, 61, rfl, P5, by decide, by decide, fun x H6 x0 x1 d6 P6 => ⟨1, x, rfl, rfl, q5 _ H6 ⟨by omega, by omega⟩ d6 P6⟩⟩) fun W Wl H5 hWl hWb d5 hWn P5 hW => ?_)
    have d05 := d03.trans d5
    have T5 := tabs_dr hT d05 hP
    refine ⟨T5, fun f1 c1 H6 x6 n6 T6 f1n f1o c1o => ⟨T6, fun f2 c2 H7 x7 n7 T7 f2n f2o c2o => ⟨T7, fun f3 c3 H8 x8 n8 T8 f3n f3o c3o => ?_⟩⟩⟩
    refine ⟨_, rfl, _, rfl, _, rfl, (show 3 ≤ sizeLine by decide), fun tp htp H9 TT => ?_⟩
    have s9 : Same H8 H9 := (Same.new htp).trans TT.same
    have f1o := s9 _ _ (x8 _ _ (x7 _ _ f1o (fnO_ne)) (fnO_ne))
    have c1o := s9 _ _ (x8 _ _ (x7 _ _ c1o codeO_ne) codeO_ne)
    have f2o := s9 _ _ (x8 _ _ f2o fnO_ne)
    have c2o := s9 _ _ (x8 _ _ c2o codeO_ne)
    have f3o := s9 _ _ f3o
    have c3o := s9 _ _ c3o
    have hW9 := s9 _ _ (x8 _ _ (x7 _ _ (x6 _ _ hW (fun _ z => nomatch z)) (fun _ z => nomatch z)) (fun _ z => nomatch z))
    have P9 := (pot_ext (pot_ext (pot_ext P5 x6) x7) x8).go s9
    refine k tp f1 f2 f3 (MA (1 + x) (1 + y) z W 300) H9 (((((d05.kp).trans (extN_kp x6)).trans (extN_kp x7)).trans (extN_kp x8)).trans (same_kp s9)) P9 (T8.ext s9) (TT.same _ _ upd_same) fun n hn => ⟨MA_ok _ _ _ _ _ _, ?_, ?_, ?_⟩
    · exact mach_f0 D f1o c1o (cloC_of TT sf0 rfl fun i y h => match i, h with
        | 0, h => by cases h; exact ⟨5, _, rfl, rfl, rfl, rfl⟩
        | 1, h => by cases h; exact ⟨6, _, rfl, rfl, rfl, rfl⟩
        | 2, h => by cases h; exact ⟨7, _, rfl, rfl, rfl, rfl⟩
        | i + 3, h => by cases h) ⟨by omega, by omega⟩ ⟨by omega, by omega⟩ (by decide) hW9 ⟨hWl, fun w hw => by have := hWb w hw; omega⟩ hn
    · exact mach_f1 D f2o c2o (cloC_of TT sf1 rfl fun i y h => match i, h with
        | 0, h => by cases h; exact ⟨8, _, rfl, rfl, rfl, rfl⟩
        | i + 1, h => by cases h) ⟨by omega, by omega⟩ ⟨by omega, by omega⟩ (by decide) hW9 ⟨hWl, fun w hw => by have := hWb w hw; omega⟩ hn
    · exact mach_f2 D f3o c3o (cloC_of TT sf2 rfl fun i y h => match i, h with
        | 0, h => by cases h; exact ⟨5, _, rfl, rfl, rfl, rfl⟩
        | 1, h => by cases h; exact ⟨6, _, rfl, rfl, rfl, rfl⟩
        | 2, h => by cases h; exact ⟨1, _, rfl, rfl, rfl, rfl⟩
        | i + 3, h => by cases h) ⟨by omega, by omega⟩ ⟨by omega, by omega⟩ (by decide) hW9 ⟨hWl, fun w hw => by have := hWb w hw; omega⟩ hn
end
end G98

/-! F9: the machines that answer by what they know. -/
namespace G98
open PySem PySem.Spec PyProof.Rows L2 NdefX LamX
section
variable {P : Program} {w : World} {K : PySem.W.Frag} {mg : Str → Option Value} {base : Heap}
abbrev bg0 : Stmt := (defBody s_law_answerers).getD 1 (.Pass ⟨0, 0, 0, 0⟩)
abbrev bg1 : Stmt := (defBody s_law_answerers).getD 2 (.Pass ⟨0, 0, 0, 0⟩)
abbrev bg2 : Stmt := (defBody s_law_answerers).getD 3 (.Pass ⟨0, 0, 0, 0⟩)
theorem sg0 : NScC ["_law_me", "_law_value", "_law_many", "_law_k"] ["_law_me", "_law_value"] ["_law_many"] (C8.fnScope bg0) := nscC_by (by decide +kernel)
theorem sg1 : NScC ["_law_me", "_law_number", "_law_heard", "_law_many", "_law_found", "_law_memory", "_law_k"] ["_law_me", "_law_number", "_law_heard"] ["_law_many"] (C8.fnScope bg1) := nscC_by (by decide +kernel)
theorem sg2 : NScC ["_law_me", "_law_memory", "_law_last", "_law_lots", "_law_many", "_law_fits", "_law_inputs", "_law_lot", "_law_k"] ["_law_me", "_law_memory"] ["_law_last", "_law_lots", "_law_many"] (C8.fnScope bg2) := nscC_by (by decide +kernel)
/-- None or a whole number -/
def NI (d : PyData) : Prop := d = .none ∨ ∃ x, d = .int x
theorem NI.sc {d : PyData} (h : NI d) : scD d = true := by
  rcases h with rfl | ⟨x, rfl⟩ <;> rfl
theorem NI.noL {d : PyData} (h : NI d) : noL d = true := by
  rcases h with rfl | ⟨x, rfl⟩ <;> rfl
def itemsD : PyData → List PyData
  | .tuple ds => ds
  | _ => []
def mergeB (f : Nat → PyData) (m : PyData) : Nat → PyData := if isNoneD m = true then f else fun k => if isNoneD ((itemsD m).getD k .none) = true then f k else (itemsD m).getD k .none
def okB (n : Nat) (m : PyData) : Prop := ∃ f : Nat → PyData, m = .tuple ((List.range n).map f) ∧ ∀ k, NI (f k)
def fitB (n : Nat) (m : PyData) (row : List Int) : Bool := (List.range n).all fun k => isNoneD ((itemsD m).getD k .none) || decide (scV ((itemsD m).getD k .none) = .int (rowF row k))
def fitsB (n : Nat) (es : List Ent) (m : PyData) : List (List Int) := (es.filter fun e => fitB n m e.1).map fun e => e.2.headD []
def MB (n : Nat) (es : List Ent) (last : Nat) : MF where
  begin := fun me v => .tuple ((List.range n).map fun k => if k = me then .int v else .none)
  step := fun me _ hs => .tuple ((List.range n).map (hs.foldl mergeB fun k => (itemsD (hs.getD me .none)).getD k .none))
  ans := fun me m => if fitsB n es m = [] then 0 else ((if last = 0 then (fitsB n es m).headD [] else (fitsB n es m).getLastD []).getD me 0)
  ok := okB n
theorem getD_range {n k : Nat} {f : Nat → PyData} (h : k < n) : ((List.range n).map f).getD k .none = f k := by
  rw [List.getD_eq_getElem?_getD, List.getElem?_map, List.getElem?_range h]
  rfl
theorem okB_get {n : Nat} {m : PyData} (h : okB n m) (k : Nat) : NI ((itemsD m).getD k .none) := by
  obtain ⟨f, rfl, hf⟩ := h
  show NI (((List.range n).map f).getD k .none)
  rcases Nat.lt_or_ge k n with hk | hk
  · rw [getD_range hk]
    exact hf k
  · rw [List.getD_eq_getElem?_getD, List.getElem?_eq_none (by rw [List.length_map, List.length_range]; exact hk)]
    exact .inl rfl
theorem merge_NI {n : Nat} {f : Nat → PyData} {m : PyData} (hf : ∀ k, NI (f k)) (hm : m = .none ∨ okB n m) : ∀ k, NI (mergeB f m k) := fun k => by
  unfold mergeB
  split
  · exact hf k
  · dsimp only
    split
    · exact hf k
    · rcases hm with rfl | h
      · exact .inl rfl
      · exact okB_get h k
theorem fold_NI {n : Nat} : ∀ {hs : List PyData} {f : Nat → PyData}, (∀ k, NI (f k)) → (∀ h ∈ hs, h = .none ∨ okB n h) → ∀ k, NI (hs.foldl mergeB f k)
  | [], f, hf, _ => hf
  | h :: hs, f, hf, hh => fold_NI (hs := hs) (merge_NI hf (hh h List.mem_cons_self)) fun x hx => hh x (List.mem_cons_of_mem _ hx)
theorem start_NI {n me : Nat} {hs : List PyData} {m : PyData} (h : hs[me]? = some m) (hm : okB n m) : ∀ k, NI ((itemsD (hs.getD me .none)).getD k .none) := fun k => by
  rw [List.getD_eq_getElem?_getD (l := hs), h]
  exact okB_get hm k
theorem MB_ok (n : Nat) (es : List Ent) (last : Nat) : (MB n es last).Ok n := ⟨fun me v _ => ⟨_, rfl, fun k => by
    split
    · exact .inr ⟨_, rfl⟩
    · exact .inl rfl⟩, fun me t hs m _ _ h1 h2 h3 => ⟨_, rfl, fold_NI (start_NI h2 h3) h1⟩, fun m ⟨f, h, hf⟩ => by
    rw [h]
    exact noLs_of (ds := (List.range n).map f) fun d hd => by
      obtain ⟨k, _, rfl⟩ := List.mem_map.mp hd
      exact (hf k).noL⟩
theorem mach_g0 (D : Defs K mg) {f : Addr} {H : Hp} {cl : List (Str × Addr)} {c0 : Addr} {qual : Str} {n last : Nat} {es : List Ent} (hf : H f = some (FnO f (NF.of bg0 "_law_begin" qual cl c0))) (hc : H c0 = some (CodeO c0 qual)) (C : CloC (C8.fnScope bg0) cl ["_law_many"] [.int n] H) (n5 : n ≤ 5) : Mach P w K mg base 1 H f (rD (RB (MB n es last) n)) := by
  refine mach_D (k := 0) (N := ["_law_me", "_law_value", "_law_many", "_law_k"]) (ps := ["_law_me", "_law_value"]) (fr := ["_law_many"]) (ws := [.int n]) (F := NF.of bg0 "_law_begin" qual cl c0) sg0 (fun _ _ _ us hl => match us, hl with | [_, _], _ => rfl) hf hc C (fun i x h => by
    match i, h with
    | 0, h => exact h
    | 1, h => exact h
    | i + 2, h => cases h) (fun ds r h => by
    obtain ⟨_, _, rfl, _⟩ := h
    rfl) (fun A outer s H0 vs ds r hr n1 hd hR => ?_)
  obtain ⟨me, v, rfl, hme, rfl⟩ := hR
  obtain ⟨v0, _, rfl, h0, v1, _, rfl, h1, rfl⟩ := hd
  refine ⟨_, (pss_one (ps_ret (pe_callTy (T := "tuple") call_tuple_of (by rfl) D.blt.b_tuple (by decide +kernel) (pa_cons (pe_lc (own := [("_law_k", 3)]) (g := (gName 3)) (tt := tYes) rfl sg0.nd (pi_range1 (by rfl) D.blt.b_range (pa_cons (pv 2) pa_nil)) (blkOk_by (N := ["_law_me", "_law_value", "_law_many", "_law_k"]) (sc := C8.fnScope bg0) (by decide +kernel)) (fun _ _ _ _ _ => pg_name (i := 3) sg0.nd rfl (Or.inl rfl)) (fun _ _ _ _ _ => pts_nil) (fun _ _ _ _ _ => pe_ifExp (pt_cmpR op_eq (pv 3) (pv 0) (nomark _)) (pv 1) pe_non)) pa_nil)))), fun D k => ?_⟩
  refine sd_ret (evd_tupL (evd_lc1 (List.range n) dNat (fun k => if k = me then .int v else .none) (evw_range (eva_cons (evd_var (k := 2) (d := dNat n) rfl rfl) eva_nil) (by omega)) (by rw [List.length_range]; omega) (fun k _ => by split <;> rfl) (fun _ => rfl) fun k x H1 hk e hx => ?_)) k
  refine evd_if (evt_test (evd_eqI (evd_var (k := 3) rfl hx) (evd_var (k := 0) rfl (h0.same e)))) (fun z => ?_) fun z => ?_
  · have z := of_decide_eq_true z
    rw [if_pos (by omega)]
    exact evd_var (k := 1) rfl (h1.same e)
  · have z := of_decide_eq_false z
    rw [if_neg (by omega)]
    exact evd_non
theorem mach_g1 (D : Defs K mg) {f : Addr} {H : Hp} {cl : List (Str × Addr)} {c0 : Addr} {qual : Str} {n last : Nat} {es : List Ent} (hf : H f = some (FnO f (NF.of bg1 "_law_step" qual cl c0))) (hc : H c0 = some (CodeO c0 qual)) (C : CloC (C8.fnScope bg1) cl ["_law_many"] [.int n] H) (n5 : n ≤ 5) : Mach P w K mg base 1 H f (rD (RS (MB n es last) n)) := by
  refine mach_D (k := 0) (N := ["_law_me", "_law_number", "_law_heard", "_law_many", "_law_found", "_law_memory", "_law_k"]) (ps := ["_law_me", "_law_number", "_law_heard"]) (fr := ["_law_many"]) (ws := [.int n]) (F := NF.of bg1 "_law_step" qual cl c0) sg1 (fun _ _ _ us hl => match us, hl with | [_, _, _], _ => rfl) hf hc C (fun i x h => by
    match i, h with
    | 0, h => exact h
    | 1, h => exact h
    | 2, h => exact h
    | i + 3, h => cases h) (fun ds r h => by
    obtain ⟨_, _, _, _, rfl, _⟩ := h
    rfl) (fun A outer s H0 vs ds r hr n1 hd hR => ?_)
  obtain ⟨me, t, hs, m, rfl, hme, ht, hl, hok, hm, hmo, rfl⟩ := hR
  obtain ⟨v0, _, rfl, h0, v1, _, rfl, h1, v2, _, rfl, h2, rfl⟩ := hd
  refine ⟨_, (pss_cons (ps_set (i := 4) sg1.nd rfl (Or.inr rfl) (pe_callTy (T := "list") call_list_of (by rfl) D.blt.b_list (by decide +kernel) (pa_cons (pe_ix (r := rIxT K) ix_tup (pv 2) (pv 0) (fun _ _ => rfl)) pa_nil))) (pss_cons (ps_for PassesOwn.never rfl (pi_tup (pv 2)) (pg_name (i := 5) sg1.nd rfl (Or.inr rfl)) (pss_one (ps_if (pt_cmp (pc_notN (pv 5))) (pss_one (ps_set (i := 4) sg1.nd rfl (Or.inr rfl) (pe_lc (own := [("_law_k", 6)]) (g := (gName 6)) (tt := tYes) rfl sg1.nd (pi_range1 (by rfl) D.blt.b_range (pa_cons (pv 3) pa_nil)) (blkOk_by (N := ["_law_me", "_law_number", "_law_heard", "_law_many", "_law_found", "_law_memory", "_law_k"]) (sc := C8.fnScope bg1) (by decide +kernel)) (fun _ _ _ _ _ => pg_name (i := 6) sg1.nd rfl (Or.inl rfl)) (fun _ _ _ _ _ => pts_nil) (fun _ _ _ _ _ => pe_ifExp (pt_cmp (pc_isN (pe_ix (r := rIxT K) ix_tup (pv 5) (pv 6) (fun _ _ => rfl)))) (pe_ix (r := rIxL K) ix_list (pv 4) (pv 6) (fun _ _ => rfl)) (pe_ix (r := rIxT K) ix_tup (pv 5) (pv 6) (fun _ _ => rfl)))))) pss_nil))) (pss_one (ps_ret (pe_callTy (T := "tuple") call_tuple_of (by rfl) D.blt.b_tuple (by decide +kernel) (pa_cons (pv 4) pa_nil)))))), fun D k => ?_⟩
  have hst := start_NI hm hmo
  have hf0 : EvD (tCB (rListQ K) (tCons (tOp (rIxT K) (tVar 2) (tVar 0)) tNil)) [some v0, some v1, some v2, some (.int n), none, none, none] H0 (.list ((List.range n).map fun k => (itemsD (hs.getD me .none)).getD k .none)) := by
    obtain ⟨f, hfm, hfn⟩ := hmo
    have e0 : ((List.range n).map fun k => (itemsD (hs.getD me .none)).getD k .none) = (List.range n).map f := List.map_congr_left fun k hk => by
      rw [List.getD_eq_getElem?_getD (l := hs), hm]
      show (itemsD m).getD k .none = f k
      rw [hfm]
      exact getD_range (List.mem_range.mp hk)
    rw [e0]
    rw [hfm] at hm
    exact evd_listT (evd_ixT (evd_var (k := 2) rfl h2) (evd_var (k := 0) rfl h0) (atI_nat hm))
  refine sq_ (sa_ (hf0 H0 (Same.refl _) _ fun vf H1 e1 hvf => ?_))
  refine sq_ (sd_forb (Hb := H0) (ds := hs) (ewb_tup e1 rfl h2) fun H2 e2 => ⟨fun j σ' H' => Same H0 H' ∧ ∃ vf b, σ' = [some v0, some v1, some v2, some (.int n), some vf, b, none] ∧ Dt H' (.list ((List.range n).map ((hs.take j).foldl mergeB fun k => (itemsD (hs.getD me .none)).getD k .none))) vf, ⟨e1.trans e2, vf, _, rfl, hvf.same e2⟩, fun _ _ _ _ p => p.1, fun j d v σ' H3 H4 hd p e4 hv => ?_, fun σ' H3 p => ?_⟩)
  · obtain ⟨s3, vf, b, rfl, hvf⟩ := p
    have s4 := s3.trans e4
    have hvf := hvf.same e4
    have hj := (List.getElem?_eq_some_iff.mp hd).1
    have hdm : d = hs[j] := by
      rw [List.getElem?_eq_getElem hj] at hd
      exact (Option.some.inj hd).symm
    have tk : hs.take (j + 1) = hs.take j ++ [d] := by rw [List.take_succ_eq_append_getElem hj, hdm]
    have hokd := hok d (List.mem_of_getElem? hd)
    have hFN := fold_NI (n := n) (hs := hs.take j) hst fun x hx => hok x (List.mem_of_mem_take hx)
    obtain ⟨G, hG⟩ : ∃ G, G = (hs.take j).foldl mergeB (fun k => (itemsD (hs.getD me .none)).getD k .none) := ⟨_, rfl⟩
    rw [← hG] at hvf hFN
    refine sd_if (evt_B (evd_notN (evd_var (k := 5) rfl hv))) (fun z H5 e5 => ?_) fun z H5 e5 => ⟨s4.trans e5, vf, _, rfl, ?_⟩
    · rcases hokd with hn | hokd
      · rw [hn] at z
        cases z
      · have hnz : isNoneD d = false := by
          cases hq : isNoneD d with
          | false => rfl
          | true => rw [hq] at z; cases z
        have hgd := okB_get hokd
        obtain ⟨g, rfl, hg⟩ := hokd
        have hcomp : EvD (tLc (iRng1 (tCons (tVar 3) tNil)) (gName 6) tYes (tIf (tB (tIsN (tOp (rIxT K) (tVar 5) (tVar 6)))) (tOp (rIxL K) (tVar 4) (tVar 6)) (tOp (rIxT K) (tVar 5) (tVar 6))) [6]) [some v0, some v1, some v2, some (.int n), some vf, some v, none] H5 (.list ((List.range n).map (mergeB G (.tuple ((List.range n).map g))))) :=
          evd_lc1 (List.range n) dNat (mergeB G (.tuple ((List.range n).map g))) (evw_range (eva_cons (evd_var (k := 3) (d := dNat n) rfl rfl) eva_nil) (by omega)) (by rw [List.length_range]; omega) (fun k _ => (merge_NI hFN (.inr ⟨g, rfl, hg⟩) k).noL) (fun _ => rfl) fun k x H6 hk e6 hx => by
            have hkn := List.mem_range.mp hk
            have hm1 : mergeB G (.tuple ((List.range n).map g)) k = if isNoneD (g k) = true then G k else g k := by
              unfold mergeB
              rw [if_neg (by rw [hnz]; decide)]
              show (if isNoneD (((List.range n).map g).getD k .none) = true then G k else ((List.range n).map g).getD k .none) = _
              rw [getD_range hkn]
            rw [hm1]
            have hgk : EvD (tOp (rIxT K) (tVar 5) (tVar 6)) [some v0, some v1, some v2, some (.int n), some vf, some v, some x] H6 (g k) := evd_ixT (evd_var (k := 5) rfl (hv.same (e5.trans e6))) (evd_var (k := 6) rfl hx) (at_range hkn)
            refine evd_if (evt_B (evd_isN hgk)) (fun z => ?_) fun z => ?_
            · rw [if_pos z]
              exact evd_ixL (evd_var (k := 4) rfl (hvf.same (e5.trans e6))) (evd_var (k := 6) rfl hx) (at_range hkn)
            · rw [if_neg (by rw [z]; decide)]
              exact hgk
        refine sa_ (hcomp H5 (Same.refl _) _ fun v' H6 e6 hv' => ⟨(s4.trans e5).trans e6, v', some v, rfl, ?_⟩)
        rw [tk, List.foldl_append, ← hG]
        exact hv'
    · have hnz : isNoneD d = true := by
        cases hq : isNoneD d with
        | true => rfl
        | false => rw [hq] at z; cases z
      have hm2 : mergeB G d = G := by
        unfold mergeB
        rw [if_pos hnz]
      rw [tk, List.foldl_append, ← hG]
      show Dt H5 (.list ((List.range n).map (mergeB G d))) vf
      rw [hm2]
      exact hvf.same e5
  · obtain ⟨s3, vf, b, rfl, hvf⟩ := p
    rw [List.take_length] at hvf
    exact sd_ret (evd_tupL (evd_var (k := 4) rfl hvf)) fun v H4 e4 hv => k v H4 (s3.trans e4) hv
end
end G98

/-! F10: their answers; their maker. -/
namespace G98
open PySem PySem.Spec PyProof.Rows L2 NdefX LamX
section
variable {P : Program} {w : World} {K : PySem.W.Frag} {mg : Str → Option Value} {base : Heap}
def fitsJ (n : Nat) (es : List Ent) (m : PyData) (j : Nat) : List (List Int) := ((es.take j).filter fun e => fitB n m e.1).map fun e => e.2.headD []
theorem eqv_nil (rs : List (List Int)) : PyData.eqv (.list (rs.map dRow)) (.list []) = decide (rs = []) := by
  cases rs with
  | nil => simp [PyData.eqv, PyData.eqvAll]
  | cons r rs =>
    rw [PyData.eqv]
    show PyData.eqvAll (dRow r :: rs.map dRow) [] = _
    simp [PyData.eqvAll]
theorem at_first {rs : List (List Int)} (h : rs ≠ []) : atI (rs.map dRow) (-((0 : Nat) : Int)) = some (dRow (rs.headD [])) := by
  cases rs with
  | nil => exact absurd rfl h
  | cons r rs => exact atI_nat (j := 0) rfl
theorem at_final {rs : List (List Int)} (h : rs ≠ []) : atI (rs.map dRow) (-((1 : Nat) : Int)) = some (dRow (rs.getLastD [])) := by
  have e : rs = rs.dropLast ++ [rs.getLastD []] := by
    rw [List.getLastD_eq_getLast?, List.getLast?_eq_some_getLast h]
    exact (List.dropLast_concat_getLast h).symm
  have := atI_last (rs.dropLast.map dRow) (dRow (rs.getLastD []))
  rw [show rs.map dRow = rs.dropLast.map dRow ++ [dRow (rs.getLastD [])] by
    conv => lhs; rw [e]
    rw [List.map_append]
    rfl]
  exact this
theorem at_row {n k : Nat} {r : List Int} (hl : r.length = n) (hk : k < n) : atI (r.map PyData.int) (k : Int) = some (.int (r.getD k 0)) := atI_nat (by
  rw [List.getElem?_map, List.getElem?_eq_getElem (by omega), List.getD_eq_getElem?_getD, List.getElem?_eq_getElem (by omega)]
  rfl)
theorem shaped_nil : SeqAt.shaped (.list []) = true := by
  have := shaped_rows []
  exact this
theorem mach_g2 (D : Defs K mg) {f : Addr} {H : Hp} {cl : List (Str × Addr)} {c0 : Addr} {qual : Str} {n last : Nat} {es : List Ent} (hf : H f = some (FnO f (NF.of bg2 "_law_answer" qual cl c0))) (hc : H c0 = some (CodeO c0 qual)) {vl : V} (C : CloC (C8.fnScope bg2) cl ["_law_last", "_law_lots", "_law_many"] [.int last, vl, .int n] H) (hvl : Dt H (dLots es) vl) (ok : LotsOk n es) (hlast : last < 2) (n5 : n ≤ 5) : Mach P w K mg base 1 H f (rD (RA (MB n es last) n)) := by
  refine mach_D (k := 0) (N := ["_law_me", "_law_memory", "_law_last", "_law_lots", "_law_many", "_law_fits", "_law_inputs", "_law_lot", "_law_k"]) (ps := ["_law_me", "_law_memory"]) (fr := ["_law_last", "_law_lots", "_law_many"]) (ws := [.int last, vl, .int n]) (F := NF.of bg2 "_law_answer" qual cl c0) sg2 (fun _ _ _ us hl => match us, hl with | [_, _], _ => rfl) hf hc C (fun i x h => by
    match i, h with
    | 0, h => exact h
    | 1, h => exact h
    | i + 2, h => cases h) (fun ds r h => by
    obtain ⟨_, _, rfl, _⟩ := h
    rfl) (fun A outer s H0 vs ds r hr n1 hd hR => ?_)
  obtain ⟨me, m, rfl, hme, hmo, rfl⟩ := hR
  obtain ⟨v0, _, rfl, h0, v1, _, rfl, h1, rfl⟩ := hd
  have hvl := Dt.ne n1 hvl
  refine ⟨_, (pss_cons (ps_set (i := 5) sg2.nd rfl (Or.inl rfl) (pe_lst pa_nil)) (pss_cons (ps_for PassesOwn.never rfl (pi_tup (pv 3)) (pg_tup rfl (pgs_cons (pg_name (i := 6) sg2.nd rfl (Or.inr rfl)) (pgs_cons (pg_name (i := 7) sg2.nd rfl (Or.inl rfl)) pgs_nil))) (pss_one (ps_if (pt_val (pe_callB (id := "all") (cr_all rfl) (by rfl) D.blt.b_all (by decide +kernel) (pa_cons (pe_lc (own := [("_law_k", 8)]) (g := (gName 8)) (tt := tYes) rfl sg2.nd (pi_range1 (by rfl) D.blt.b_range (pa_cons (pv 4) pa_nil)) (blkOk_by (N := ["_law_me", "_law_memory", "_law_last", "_law_lots", "_law_many", "_law_fits", "_law_inputs", "_law_lot", "_law_k"]) (sc := C8.fnScope bg2) (by decide +kernel)) (fun _ _ _ _ _ => pg_name (i := 8) sg2.nd rfl (Or.inl rfl)) (fun _ _ _ _ _ => pts_nil) (fun _ _ _ _ _ => pe_or (pe_cmp (pc_isN (pe_ix (r := rIxT K) ix_tup (pv 1) (pv 8) (fun _ _ => rfl)))) (pe_one (pe_cmpR op_eq (pe_ix (r := rIxT K) ix_tup (pv 1) (pv 8) (fun _ _ => rfl)) (pe_ix (r := rIxT K) ix_tup (pv 6) (pv 8) (fun _ _ => rfl)) (nomark _))))) pa_nil))) (pss_one (ps_expr (pe_bm PySem.F.plainAttrs_list PySem.F.slot_list_append PySem.F.type_list_append mt_append (pv 5) (pa_cons (pe_ix (r := rIxT K) ix_tup (pv 7) pe_int (fun _ _ => rfl)) pa_nil)))) pss_nil))) (pss_one (ps_ret (pe_ifExp (pt_cmpR (op_neD hr.units) (pv 5) (pe_lst pa_nil) (nomark _)) (pe_ix (r := rIxT K) ix_tup (pe_ix (r := rIxL K) ix_list (pv 5) (pe_un un_neg (pv 2)) (fun _ _ => rfl)) (pv 0) (fun _ _ => rfl)) pe_int))))), fun D k => ?_⟩
  refine sq_ (sa_ ⟨Nat.zero_le _, fun L hL => ?_⟩)
  have o0 : Own1 H0 (upd H0 L (.lst [])) L ((fitsJ n es m 0).map dRow) := ⟨Same.new hL, hL, rfl, [], upd_same, rfl⟩
  generalize upd H0 L (.lst []) = H1 at o0
  have hlen : ∀ r ∈ fitsB n es m, r.length = n := fun r hr => by
    obtain ⟨e, he, rfl⟩ := List.mem_map.mp hr
    have q := ok.each e (List.mem_filter.mp he).1
    have q1 := q.lot.any
    cases hq : e.2 with
    | nil => rw [hq] at q1; exact absurd q1 (by decide)
    | cons r rs => exact (q.lot.rows r (by rw [hq]; exact List.mem_cons_self)).1
  refine sq_ (sd_forb (Hb := H0) (ds := es.map dEnt) (ewb_tup o0.same rfl hvl) fun H2 e2 => ⟨fun j σ' H' => Own1 H0 H' L ((fitsJ n es m j).map dRow) ∧ ∃ x y, σ' = [some v0, some v1, some (.int last), some vl, some (.int n), some (.ref L), x, y, none], ⟨o0.go e2, _, _, rfl⟩, fun _ _ _ _ p => p.1.same, fun j d v σ' H3 H4 hd p e4 hv => ?_, fun σ' H3 p => ?_⟩)
  · obtain ⟨o3, x, y, rfl⟩ := p
    have o4 := o3.go e4
    obtain ⟨e, he, rfl⟩ : ∃ e, es[j]? = some e ∧ dEnt e = d := by
      rw [List.getElem?_map] at hd
      cases q : es[j]? with
      | none => rw [q] at hd; cases hd
      | some e => rw [q] at hd; exact ⟨e, rfl, Option.some.inj hd⟩
    have hj := (List.getElem?_eq_some_iff.mp he).1
    have hje : es[j] = e := (List.getElem?_eq_some_iff.mp he).2
    have tk : es.take (j + 1) = es.take j ++ [e] := by rw [List.take_succ_eq_append_getElem hj, hje]
    have hent := ok.each e (List.mem_of_getElem? he)
    refine pair_tg hv fun vi vt hvi hvt => ?_
    have hvi' : Dt H4 (.tuple ((List.range n).map fun k => .int (rowF e.1 k))) vi := by rw [← row_map hent.row.1]; exact hvi
    obtain ⟨f, rfl, hf⟩ := hmo
    have hall : EvD (tLc (iRng1 (tCons (tVar 4) tNil)) (gName 8) tYes (tOrV (tIsN (tOp (rIxT K) (tVar 1) (tVar 8))) (tOp rEq (tOp (rIxT K) (tVar 1) (tVar 8)) (tOp (rIxT K) (tVar 6) (tVar 8)))) [8]) [some v0, some v1, some (.int last), some vl, some (.int n), some (.ref L), some vi, some vt, none] H4 (.list (((List.range n).map fun k => isNoneD (f k) || decide (scV (f k) = .int (rowF e.1 k))).map .bool)) := by
      rw [List.map_map]
      exact evd_lc1 (List.range n) dNat (fun k => .bool (isNoneD (f k) || decide (scV (f k) = .int (rowF e.1 k)))) (evw_range (eva_cons (evd_var (k := 4) (d := dNat n) rfl rfl) eva_nil) (by omega)) (by rw [List.length_range]; omega) (fun _ _ => rfl) (fun _ => rfl) fun k x H6 hk e6 hx => by
        have hkn := List.mem_range.mp hk
        have hm1 : EvD (tOp (rIxT K) (tVar 1) (tVar 8)) [some v0, some v1, some (.int last), some vl, some (.int n), some (.ref L), some vi, some vt, some x] H6 (f k) := evd_ixT (evd_var (k := 1) rfl (h1.same (o4.same.trans e6))) (evd_var (k := 8) rfl hx) (at_range hkn)
        exact evd_orV (evd_isN hm1) fun _ => evd_eqS hm1 (evd_ixT (evd_var (k := 6) rfl (hvi'.same e6)) (evd_var (k := 8) rfl hx) (at_range hkn)) (hf k).sc rfl
    have hbe : (((List.range n).map fun k => isNoneD (f k) || decide (scV (f k) = .int (rowF e.1 k))).all id) = fitB n (.tuple ((List.range n).map f)) e.1 := by
      unfold fitB
      rw [List.all_map, Bool.eq_iff_iff, List.all_eq_true, List.all_eq_true]
      have hq : ∀ k ∈ List.range n, (itemsD (.tuple ((List.range n).map f))).getD k .none = f k := fun k hk => getD_range (List.mem_range.mp hk)
      exact ⟨fun h k hk => by rw [hq k hk]; exact h k hk, fun h k hk => by have := h k hk; rw [hq k hk] at this; exact this⟩
    refine sd_if (evt_B ((evd_all hall).is (by rw [hbe]))) (fun z H5 e5 => ?_) fun z H5 e5 => ⟨?_, _, _, rfl⟩
    · have hne : e.2 ≠ [] := fun q => by
        have := hent.lot.any
        rw [q] at this
        exact absurd this (by decide)
      have h00 : atI (e.2.map dRow) ((0 : Nat) : Int) = some (dRow (e.2.headD [])) := at_first hne
      refine ap1_ (o4.go e5) rfl (evd_ixT (ds := e.2.map dRow) (evd_var (k := 7) rfl (hvt.same e5)) evd_int h00) (noL_row _) (by
        rw [List.length_map]
        have : (fitsJ n es (.tuple ((List.range n).map f)) j).length ≤ es.length := by
          unfold fitsJ
          rw [List.length_map]
          exact Nat.le_trans (List.length_filter_le _ _) (by rw [List.length_take]; omega)
        have := ok.few
        omega) fun H6 o6 => ⟨?_, _, _, rfl⟩
      have e7 : fitsJ n es (.tuple ((List.range n).map f)) (j + 1) = fitsJ n es (.tuple ((List.range n).map f)) j ++ [e.2.headD []] := by
        unfold fitsJ
        rw [tk, List.filter_append, List.map_append, List.filter_cons, if_pos z]
        rfl
      rw [e7, List.map_append]
      exact o6
    · have e7 : fitsJ n es (.tuple ((List.range n).map f)) (j + 1) = fitsJ n es (.tuple ((List.range n).map f)) j := by
        unfold fitsJ
        rw [tk, List.filter_append, List.filter_cons, if_neg (by rw [z]; decide), List.filter_nil, List.append_nil]
      rw [e7]
      exact o4.go e5
  · obtain ⟨o3, x, y, rfl⟩ := p
    rw [List.length_map] at o3
    have e8 : fitsJ n es m es.length = fitsB n es m := by
      unfold fitsJ fitsB
      rw [List.take_length]
    rw [e8] at o3
    have hans : (MB n es last).ans me m = if fitsB n es m = [] then 0 else ((if last = 0 then (fitsB n es m).headD [] else (fitsB n es m).getLastD []).getD me 0) := rfl
    rw [hans] at k
    refine sd_ret (evd_if (b := !decide (fitsB n es m = [])) (evt_test ((evd_neD (evd_var (k := 5) rfl o3.data) (evd_lst eva_nil (Nat.zero_le _)) (shaped_rows _) shaped_nil).is (by rw [eqv_nil]))) (fun z => ?_) fun z => ?_) fun v H4 e4 hv => k v H4 (o3.same.trans e4) hv
    · have hne : fitsB n es m ≠ [] := of_decide_eq_false (by simpa using z)
      rw [if_neg hne]
      have hrow : ∀ r ∈ fitsB n es m, EvD (tOp (rIxL K) (tVar 5) (tUn (rU fun i => .int (-i)) (tVar 2))) [some v0, some v1, some (.int last), some vl, some (.int n), some (.ref L), x, y, none] H3 (dRow r) → EvD (tOp (rIxT K) (tOp (rIxL K) (tVar 5) (tUn (rU fun i => .int (-i)) (tVar 2))) (tVar 0)) [some v0, some v1, some (.int last), some vl, some (.int n), some (.ref L), x, y, none] H3 (.int (r.getD me 0)) := fun r hr h =>
        evd_ixT h (evd_var (k := 0) rfl (h0.same o3.same)) (at_row (hlen r hr) hme)
      rcases (show last = 0 ∨ last = 1 by omega) with rfl | rfl
      · rw [if_pos rfl]
        refine hrow _ ?_ (evd_ixL (ds := (fitsB n es m).map dRow) (evd_var (k := 5) rfl o3.data) (evd_neg (evd_var (k := 2) (d := dNat 0) rfl rfl)) (at_first hne))
        cases hq : fitsB n es m with
        | nil => exact absurd hq hne
        | cons r rs => exact List.mem_cons_self
      · rw [if_neg (by decide)]
        refine hrow _ ?_ (evd_ixL (ds := (fitsB n es m).map dRow) (evd_var (k := 5) rfl o3.data) (evd_neg (evd_var (k := 2) (d := dNat 1) rfl rfl)) (at_final hne))
        rw [List.getLastD_eq_getLast?, List.getLast?_eq_some_getLast hne]
        exact List.getLast_mem hne
    · have hne : fitsB n es m = [] := of_decide_eq_true (by simpa using z)
      rw [if_pos hne]
      exact evd_int
end
end G98

/-! F11: the maker of those that answer by what they know. -/
namespace G98
open PySem PySem.Spec PyProof.Rows L2 NdefX LamX
section
variable {P : Program} {w : World} {K : PySem.W.Frag} {mg : Str → Option Value} {base : Heap}
theorem sc_law_answerers : FnScope ["_law_pot_here", "_law_many", "_law_lots", "_law_i", "_law_begin", "_law_step", "_law_answer", "_law_last"] ["_law_pot_here", "_law_many", "_law_lots", "_law_i"] (defScope s_law_answerers) := ⟨rfl, rfl, rfl, by decide +kernel, rfl, by decide +kernel, by decide +kernel⟩
def spAw (P : Program) (w : World) (K : PySem.W.Frag) (mg : Str → Option Value) (base : Heap) : Sp := fun vs H Q _ => ∃ (p c : Addr) (n i : Nat) (vl : V) (es : List Ent), vs = [.ref p, .int n, vl, .int i] ∧ PotAt H p c ∧ TabsN tabsT H ∧ Dt H (dLots es) vl ∧ LotsOk n es ∧ ∀ (tp fb fs fa : Addr) (M : MF) H', Kp p H H' → PotAt H' p c → TabsN tabsT H' → H' tp = some (.tup [.ref fb, .ref fs, .ref fa]) → Parts P w K mg base H' n M fb fs fa → Q (.ref tp) H'
theorem ok_law_answerers {f c : Addr} {fd : FuncData} (D : Defs K mg) (F : Fun K "_law_answerers" "_law_answerers" s_law_answerers f fd) (hcode : fd.code = .ref c) (hTB : TabB base mg c 565) : FnOk P w K mg base CX0 2 f fd ["_law_pot_here", "_law_many", "_law_lots", "_law_i"] (spAw P w K mg base) := by
  refine Fun_mk F hcode sc_law_answerers (fun vs H Q E h => ?_) (fun A outer s H vs Q E hr h => ?_)
  · obtain ⟨_, _, _, _, _, _, rfl, _⟩ := h
    rfl
  · obtain ⟨p, c0, n, i, vl, es, rfl, hP, hT, hvl, ok, k⟩ := h
    have n5 := ok.n5
    refine ⟨_, pssR_cons (ps_set (i := 7) sc_law_answerers.nd rfl (Or.inr rfl) (pe_fn (ok_law_draw D) hr (pa_cons (pv 0) (pa_cons pe_int pa_nil)))) (pssR_cons (ps_ndefMS (T := tabsT) (i := 4) (c := c) (P := 565) (st := bg0) rfl hTB rfl (by unfold tabsT; simp) rfl huA (show ∀ y ∈ (C8.fnScope bg0).names, y.2 = .free → (defScope s_law_answerers).names.lookup y.1 = some .cell ∨ (defScope s_law_answerers).names.lookup y.1 = some .free by decide +kernel) rfl rfl rfl sc_law_answerers.nd rfl (Or.inl rfl) (by first | exact .inl rfl | exact .inr rfl)) (pssR_cons (ps_ndefMS (T := tabsT) (i := 5) (c := c) (P := 565) (st := bg1) rfl hTB rfl (by unfold tabsT; simp) rfl huA (show ∀ y ∈ (C8.fnScope bg1).names, y.2 = .free → (defScope s_law_answerers).names.lookup y.1 = some .cell ∨ (defScope s_law_answerers).names.lookup y.1 = some .free by decide +kernel) rfl rfl rfl sc_law_answerers.nd rfl (Or.inl rfl) (by first | exact .inl rfl | exact .inr rfl)) (pssR_cons (ps_ndefMS (T := tabsT) (i := 6) (c := c) (P := 565) (st := bg2) rfl hTB rfl (by unfold tabsT; simp) rfl huA (show ∀ y ∈ (C8.fnScope bg2).names, y.2 = .free → (defScope s_law_answerers).names.lookup y.1 = some .cell ∨ (defScope s_law_answerers).names.lookup y.1 = some .free by decide +kernel) rfl rfl rfl sc_law_answerers.nd rfl (Or.inl rfl) (by first | exact .inl rfl | exact .inr rfl)) (pssR_ret (pe_tup (pa_cons (pv 4) (pa_cons (pv 5) (pa_cons (pv 6) pa_nil)))))))), ?_⟩
    refine ⟨_, rfl, p, c0, 2, rfl, hP, by decide, by decide, fun x H1 x0 x1 d1 P1 => ?_⟩
    obtain ⟨last, rfl⟩ : ∃ m : Nat, x = m := ⟨x.toNat, by omega⟩
    have hlast : last < 2 := by omega
    have T1 := tabs_dr hT d1 hP
    refine ⟨T1, fun f1 c1 H6 x6 n6 T6 f1n f1o c1o => ⟨T6, fun f2 c2 H7 x7 n7 T7 f2n f2o c2o => ⟨T7, fun f3 c3 H8 x8 n8 T8 f3n f3o c3o => ?_⟩⟩⟩
    refine ⟨_, rfl, _, rfl, _, rfl, (show 3 ≤ sizeLine by decide), fun tp htp H9 TT => ?_⟩
    have s9 : Same H8 H9 := (Same.new htp).trans TT.same
    have f1o := s9 _ _ (x8 _ _ (x7 _ _ f1o (fnO_ne)) (fnO_ne))
    have c1o := s9 _ _ (x8 _ _ (x7 _ _ c1o codeO_ne) codeO_ne)
    have f2o := s9 _ _ (x8 _ _ f2o fnO_ne)
    have c2o := s9 _ _ (x8 _ _ c2o codeO_ne)
    have f3o := s9 _ _ f3o
    have c3o := s9 _ _ c3o
    have P9 := (pot_ext (pot_ext (pot_ext P1 x6) x7) x8).go s9
    have kp9 : Kp p H H9 := (((d1.kp.trans (extN_kp x6)).trans (extN_kp x7)).trans (extN_kp x8)).trans (same_kp s9)
    have hvl9 := Dt.kp (d := dLots es) kp9 hP.notup (noLs_ents es) hvl
    refine k tp f1 f2 f3 (MB n es last) H9 kp9 P9 (T8.ext s9) (TT.same _ _ upd_same) ⟨MB_ok _ _ _, ?_, ?_, ?_⟩
    · exact mach_g0 D f1o c1o (cloC_of TT sg0 rfl fun i y h => match i, h with
        | 0, h => by cases h; exact ⟨1, _, rfl, rfl, rfl, rfl⟩
        | i + 1, h => by cases h) n5
    · exact mach_g1 D f2o c2o (cloC_of TT sg1 rfl fun i y h => match i, h with
        | 0, h => by cases h; exact ⟨1, _, rfl, rfl, rfl, rfl⟩
        | i + 1, h => by cases h) n5
    · exact mach_g2 D f3o c3o (cloC_of TT sg2 rfl fun i y h => match i, h with
        | 0, h => by cases h; exact ⟨7, _, rfl, rfl, rfl, rfl⟩
        | 1, h => by cases h; exact ⟨2, _, rfl, rfl, rfl, rfl⟩
        | 2, h => by cases h; exact ⟨1, _, rfl, rfl, rfl, rfl⟩
        | i + 3, h => by cases h) hvl9 ok hlast n5
end
end G98

/-! F12a: what the law needs beside the defs. -/
namespace G98
open PySem PySem.Spec PyProof.Rows L2 NdefX LamX
theorem head_of {n i : Nat} {base : List Int} {es : List Ent} {ks : List (Nat × List Int)} (S : SplitOk n i base es) (R : SomeRests n es [(i : Int)] ks) : ks.head? = some (i, dele i base) := by
  have hm := (R.mem (i, dele i base)).mpr ⟨S.fit, by simp⟩
  cases ks with
  | nil => cases hm
  | cons k0 rest =>
    have h0 := (R.mem k0).mp List.mem_cons_self
    have h1 : k0.1 = i := by have := h0.2; simp at this; omega
    show some k0 = _
    rcases S.first k0.2 (by rw [← h1]; exact h0.1) with q | q
    · obtain ⟨i', o'⟩ := k0
      have h1 : i' = i := h1
      have q : o' = dele i base := q
      rw [h1, q]
    · rcases List.mem_cons.mp hm with e | m
      · rw [← e]
      · have a := (List.pairwise_cons.mp R.asc).1 _ m
        have b := lt_rest i q
        have e0 : k0 = (i, k0.2) := by rw [← h1]
        rw [e0] at a
        rw [a] at b
        cases b
theorem eqv_rest (i : Nat) (o : List Int) : PyData.eqv (dRest i o) (dRest i o) = true := by
  show PyData.eqv (.tuple [dNat i, dRow o]) (.tuple [dNat i, dRow o]) = true
  rw [PyData.eqv, PySem.W.eqv_all_cons, PySem.W.eqv_all_cons, eqv_row, decide_eq_true rfl]
  simp [dNat, PyData.eqv, PyData.eqvAll]
theorem shaped_rest (i : Nat) (o : List Int) : SeqAt.shaped (dRest i o) = true := by
  show SeqAt.shaped (.tuple [dNat i, dRow o]) = true
  have h := lay_row o
  unfold SeqAt.shaped
  rw [PyData.canLay0, PyData.canLayAll0, PyData.canLayAll0, h, PyData.canLayAll0]
  have hd : PyData.depth (dRow o) ≤ 1 := by
    show PyData.depth (.tuple _) ≤ 1
    rw [PyData.depth, PySem.W.depth_ints]
    decide
  rw [PyData.depth, PyData.depthAll, PyData.depthAll, PyData.depthAll]
  have h0 : PyData.depth (dNat i) = 0 := by simp [dNat, PyData.depth]
  have h1 : PyData.canLay0 (dNat i) = true := by simp [dNat, PyData.canLay0]
  rw [h0, h1]
  simp only [Bool.true_and, decide_eq_true_eq, Nat.max_def]
  repeat (first | omega | split)
def rNotInT (K : PySem.W.Frag) : R2 := fun x y H Q => ∃ d ds, Dp K H x d ∧ Dp K H y (.tuple ds) ∧ SeqAt.shaped d = true ∧ SeqAt.shaped (.tuple ds) = true ∧ Q (.bl (!ds.any fun z => PyData.eqv z d)) H
theorem op_notInT {X : Cx} (hu : X.A.units + 65 < cLine) : OpR X (compareOp .NotIn) (rNotInT X.K) := by
  intro pins s σ H x y v u Q I rx ry h
  obtain ⟨d, ds, hd, he, sd, se, q⟩ := h
  obtain ⟨as, r1⟩ := Dp.reads I d x v hd rx
  obtain ⟨bs, r2⟩ := Dp.reads I (.tuple ds) y u he ry
  exact SeqAt.notIn_tuple_reads r2 r1 (SeqAt.canLay_of_shaped se) (SeqAt.canLay_of_shaped sd) (room_in_shaped sd hu) ⟨.bl _, H, I, rfl, q⟩
theorem dele_eq {n i : Nat} {a b : List Int} (ha : a.length = n) (hb : b.length = n) (hi : i < n) (h : dele i a = dele i b) : ∀ k, k ≠ i → rowF a k = rowF b k := fun k hk => by
  unfold dele at h
  obtain ⟨h1, h2⟩ := List.append_inj h (by rw [List.length_take, List.length_take, ha, hb])
  unfold rowF
  rw [List.getD_eq_getElem?_getD, List.getD_eq_getElem?_getD]
  congr 1
  rcases Nat.lt_or_gt_of_ne hk with q | q
  · have := congrArg (fun l : List Int => l[k]?) h1
    simp only [List.getElem?_take] at this
    rw [if_pos q, if_pos q] at this
    exact this
  · have := congrArg (fun l : List Int => l[k - (i + 1)]?) h2
    simp only [List.getElem?_drop] at this
    rw [show i + 1 + (k - (i + 1)) = k by omega] at this
    exact this
theorem dele_range {n i : Nat} {f g : Nat → Int} (h : ∀ k, k ≠ i → f k = g k) : dele i ((List.range n).map f) = dele i ((List.range n).map g) := by
  rw [← dele_set i ((List.range n).map f) 0, ← dele_set i ((List.range n).map g) 0]
  congr 1
  refine List.ext_getElem? fun k => ?_
  rw [List.getElem?_set, List.getElem?_set, List.length_map, List.length_map]
  by_cases hk : i = k
  · rw [if_pos hk, if_pos hk]
  · rw [if_neg hk, if_neg hk, List.getElem?_map, List.getElem?_map]
    rcases Nat.lt_or_ge k n with q | q
    · rw [List.getElem?_range q]
      show some (f k) = some (g k)
      rw [h k (fun z => hk z.symm)]
    · rw [List.getElem?_eq_none (by rw [List.length_range]; exact q)]
      rfl
/-- the others answer alike where i alone is told another thing -/
theorem ans_same {M : MF} {n i r : Nat} {f g : Nat → Int} (h : ∀ k, k ≠ i → f k = g k) : dele i (ansRow M n i f r) = dele i (ansRow M n i g r) := by
  unfold ansRow
  refine dele_range fun k hk => ?_
  rw [memAt_same h r k hk]
/-! ### the heap without one list -/
def hid (H : Hp) (L : Addr) : Hp := fun b => if b = L then none else H b
theorem hid_ne {H : Hp} {L b : Addr} (h : b ≠ L) : hid H L b = H b := if_neg h
theorem hid_at {H : Hp} {L : Addr} : hid H L L = none := if_pos rfl
theorem hid_dr {H : Hp} {L : Addr} : Dr L H (hid H L) := fun b u n h => by rw [hid_ne n]; exact h
theorem hid_same {H : Hp} {L : Addr} : Same (hid H L) H := fun b u h => by
  by_cases q : b = L
  · rw [q, hid_at] at h
    cases h
  · rw [hid_ne q] at h
    exact h
theorem hid_from {H0 H : Hp} {L : Addr} (e : Same H0 H) (h : H0 L = none) : Same H0 (hid H L) := fun b u q => by
  rw [hid_ne (fun z => by rw [z, h] at q; cases q)]
  exact e _ _ q
/-- some, drawn: the places k below n with k = i or a drawn nought -/
theorem lc_some {σ : L2.St} {H : Hp} {ta : TA} {tt : TT} {te : TE} {j n i : Nat} {vs : List Nat} {p c : Addr} {Q : VK} (ha : EvA ta σ H [dNat n]) (hn : n ≤ 1000) (hi : i < n) (hP : PotAt H p c) (hwp : ∀ x, wipe ((wipe σ vs).set j (some x)) vs = wipe σ vs)
    (ht : ∀ (H1 : Hp) (k : Nat) (Q : Bool → Hp → Prop), Dr p H H1 → PotAt H1 p c → (∀ (b : Bool) H2, (k = i → b = true) → Dr p H1 H2 → PotAt H2 p c → Q b H2) → tt ((wipe σ vs).set j (some (.int k))) H1 Q)
    (he : ∀ (H1 : Hp) (k : Nat) (Q : VK), Q (.int k) H1 → te ((wipe σ vs).set j (some (.int k))) H1 Q)
    (q : ∀ (ss : List Int) (D : Addr) H', (∀ s ∈ ss, 0 ≤ s ∧ s < (n : Int)) → ss.Pairwise (· < ·) → (i : Int) ∈ ss → ss.length ≤ n → Dr p H H' → H D = none → PotAt H' p c → H' D = some (.lst (ss.map .int)) → Q (.ref D) H') : tLc (iRng1 ta) (gName j) tt te vs σ H Q := by
  refine ha.one H (Same.refl _) _ fun v H1 e1 hv => ?_
  refine ⟨(n : Int), by rw [show v = V.int n from hv], by omega, by omega, ?_⟩
  rw [Int.toNat_natCast]
  intro D hD
  have hP1 := hP.go e1
  obtain ⟨Dp, Dc⟩ := hP1.ne hD
  refine lc_it walk_range (fun k H' => Dr p H1 H' ∧ PotAt H' p c ∧ ∃ ss : List Int, ss.length ≤ k ∧ (∀ s ∈ ss, 0 ≤ s ∧ s < (k : Int)) ∧ ss.Pairwise (· < ·) ∧ (i < k → (i : Int) ∈ ss) ∧ H' D = some (.lst (ss.map .int))) ⟨same_dr (Same.new hD), hP1.to (H' := H) Dp Dc, [], Nat.le_refl _, fun x hx => (by cases hx), List.Pairwise.nil, fun z => absurd z (Nat.not_lt_zero i), upd_same⟩ (fun _ _ _ _ => trivial) (fun k x H2 H3 hk ⟨d2, P2, ss, hl, hB, hpw, him, hx⟩ hy => ?_) fun H' ⟨d2, P2, ss, hl, hB, hpw, him, hx⟩ => q ss D H' hB hpw (him hi) hl ((same_dr e1).trans d2) (e1.free hD) P2 hx
  obtain ⟨rfl, rfl⟩ := hy
  dsimp only [gName]
  rw [Int.zero_add]
  refine ⟨hwp _, ?_⟩
  refine ht H3 k _ ((same_dr e1).trans d2) P2 fun b H4 hb d4 P4 => ?_
  have hx4 := d4 D _ Dp hx
  cases b with
  | true =>
    rw [if_pos rfl]
    refine he H4 k _ ⟨ss.map .int, hx4, ?_, ?_, P4.to (H' := H) Dp Dc, ss ++ [(k : Int)], ?_, fun y hy => ?_, ?_, fun _ => ?_, ?_⟩
    · rw [List.length_map]
      exact Nat.lt_of_le_of_lt (show ss.length ≤ 1000 by omega) (by decide)
    · intro b u hb hbu
      rw [upd_ne (fun z => by rw [z, hD] at hbu; cases hbu)]
      exact d4 b u hb (d2 b u hb hbu)
    · rw [List.length_append]
      exact Nat.succ_le_succ hl
    · rcases List.mem_append.mp hy with hy | hy
      · have := hB y hy
        omega
      · rw [List.mem_singleton.mp hy]
        omega
    · rw [List.pairwise_append]
      refine ⟨hpw, List.pairwise_cons.mpr ⟨fun _ h => (nomatch h), List.Pairwise.nil⟩, fun a ha b hb => ?_⟩
      rw [List.mem_singleton.mp hb]
      exact (hB a ha).2
    · rcases Nat.lt_or_ge i k with q | q
      · exact List.mem_append_left _ (him q)
      · have : i = k := by omega
        rw [this]
        exact List.mem_append_right _ List.mem_cons_self
    · rw [List.map_append]
      exact upd_same
  | false =>
    rw [if_neg (by decide)]
    refine ⟨d2.trans d4, P4, ss, by omega, fun y hy => by have := hB y hy; omega, hpw, fun z => ?_, hx4⟩
    rcases Nat.lt_or_ge i k with q | q
    · exact him q
    · have : k = i := by omega
      cases hb this
theorem rise_pw {ss : List Int} (h : ss.Pairwise (· < ·)) : riseI ss := fun q hq => zip_next h q hq
section
variable {K : PySem.W.Frag} {σ : L2.St} {H H1 : Hp} {ta tb te : TE} {d : PyData} {ds : List PyData}
theorem ap1d_ {H0 : Hp} {L : Addr} {k : Nat} {D : Ends} (o : Own1 H0 H1 L ds) (hk : σ[k]? = some (some (.ref L))) (he : EvD te σ H1 d) (hn : noL d = true) (hz : ds.length ≤ 1000) (q : ∀ H2, Own1 H0 H2 L (ds ++ [d]) → Dr L H1 H2 → D.nx σ H2) : tDrop (tBM K "list" rAppend (tVar k) (tCons te tNil)) D σ H1 := by
  obtain ⟨vs, h1, h2⟩ := o.at_
  refine ⟨_, hk, .inl ⟨rfl, _, SqL.of h1⟩, he H1 (Same.refl _) _ fun v H2 e2 hv => ?_⟩
  have hn' : noLs (ds ++ [d]) = true := noLs_of fun x hx => by
    rcases List.mem_append.mp hx with hx | hx
    · exact noLs_mem o.nl x hx
    · rw [List.mem_singleton.mp hx]
      exact hn
  have h1' := e2 _ _ h1
  refine ⟨L, vs, v, rfl, rfl, h1', ?_, q _ ⟨Same.mut (o.same.trans e2) o.fr, o.fr, hn', vs ++ [v], upd_same, DtL.upd (lst_tup h1') hn' ((h2.same e2).app (DtL.one hv))⟩ ((same_dr e2).trans Dr.upd)⟩
  rw [h2.len]
  exact Nat.lt_of_le_of_lt hz (by decide)
theorem any_rows (rs : List (List Int)) (r : List Int) : ((rs.map dRow).any fun z => PyData.eqv z (dRow r)) = decide (r ∈ rs) := by
  rw [Bool.eq_iff_iff, List.any_eq_true, decide_eq_true_iff]
  constructor
  · rintro ⟨z, hz, h⟩
    obtain ⟨x, hx, rfl⟩ := List.mem_map.mp hz
    rw [eqv_row] at h
    rw [← of_decide_eq_true h]
    exact hx
  · intro h
    exact ⟨dRow r, List.mem_map.mpr ⟨r, h, rfl⟩, by rw [eqv_row, decide_eq_true rfl]⟩
theorem evd_notInT (ha : EvD ta σ H d) (hb : EvD tb σ H (.tuple ds)) (h1 : SeqAt.shaped d = true) (h2 : SeqAt.shaped (.tuple ds) = true) : EvD (tOp (rNotInT K) ta tb) σ H (.bool (!ds.any fun z => PyData.eqv z d)) := fun H1 e Q q =>
  ha H1 e _ fun x H2 e2 hx => hb H2 (e.trans e2) _ fun y H3 e3 hy => ⟨d, ds, (hx.same e3).dp, hy.dp, h1, h2, q _ _ (e2.trans e3) rfl⟩
end
end G98

/-! F12: the law. -/
namespace G98
open PySem PySem.Spec PyProof.Rows L2 NdefX LamX
section
variable {P : Program} {w : World} {K : PySem.W.Frag} {mg : Str → Option Value} {base : Heap}
abbrev NL : List Str := ["_law_script", "_law_pot_here", "_law_turn", "_law_many", "_law_rounds", "_law_lots", "_law_i", "_law_others", "_law_task", "_law_some", "_law_parts", "_law_folk_here", "_law_pattern", "_law_wrong", "_law_seen", "_law_inputs", "_law_last", "_law_row", "_law_k", "_law_me", "_law_some_row", "_law_lot", "_law_rest"]
theorem sc_law : FnScope ["_law_script", "_law_pot_here", "_law_turn", "_law_many", "_law_rounds", "_law_lots", "_law_i", "_law_others", "_law_task", "_law_some", "_law_parts", "_law_folk_here", "_law_pattern", "_law_wrong", "_law_seen", "_law_inputs", "_law_last", "_law_row", "_law_k", "_law_me", "_law_some_row", "_law_lot", "_law_rest"] ["_law_script"] (defScope s_law) := ⟨rfl, rfl, rfl, by decide +kernel, rfl, by decide +kernel, by decide +kernel⟩
def spLaw (K : PySem.W.Frag) : Sp := fun vs H Q _ => ∃ (a : Addr) (ns : List Int), vs = [.ref a] ∧ SqL K H a (ns.map V.int) ∧ ns.length ≤ 63 ∧ TabsN tabsT H ∧ ∀ H', Q (.bl true) H'
theorem ok_law {f c1 c2 C fI fK CF fFI : Addr} {fd fdI fdK fdF : FuncData} (Fl : Fun K "law" "law" s_law f fd) (D : Defs K mg) (T : TaskC K mg C fI fK fdI fdK) (TF : FolkC K mg CF fFI fdF) (m1 : MakerIs K mg "_law_folk" s_law_folk c1 550) (m2 : MakerIs K mg "_law_answerers" s_law_answerers c2 565)
    (t1 : TabB base mg c1 550) (t2 : TabB base mg c2 565) : FnOk P w K mg base CX0 13 f fd ["_law_script"] (spLaw K) := by
  have mk1 : FnIs P w K mg base 2 "_law_folk" ["_law_pot_here", "_law_top"] (spFolk P w K mg base) := by
    obtain ⟨f1, fd1, F1, hc1, g1⟩ := m1.ex
    exact ⟨f1, fd1, ok_law_folk D F1 hc1 t1, g1, F1.kp, F1.binds fun _ _ _ _ _ _ us hl => match us, hl with | [_, _], _ => rfl⟩
  have mk2 : FnIs P w K mg base 2 "_law_answerers" ["_law_pot_here", "_law_many", "_law_lots", "_law_i"] (spAw P w K mg base) := by
    obtain ⟨f2, fd2, F2, hc2, g2⟩ := m2.ex
    exact ⟨f2, fd2, ok_law_answerers D F2 hc2 t2, g2, F2.kp, F2.binds fun _ _ _ _ _ _ us hl => match us, hl with | [_, _, _, _], _ => rfl⟩
  have bT : Binds K fdI ["self", "many", "lots"] [] := T.FI.binds fun _ _ _ _ _ _ us hl => match us, hl with | [_, _, _], _ => rfl
  have bF : Binds K fdF ["self", "rounds", "begin", "step", "answer"] [] := TF.FI.binds fun _ _ _ _ _ _ us hl => match us, hl with | [_, _, _, _, _], _ => rfl
  refine Fl.ok sc_law (fun vs H Q E h => ?_) (fun cdv A outer s H vs Q E hr h => ?_)
  · obtain ⟨_, _, rfl, _⟩ := h
    rfl
  · obtain ⟨a, ns, rfl, hS, hz, hT, k⟩ := h
    refine ⟨_, (pss_cons (ps_set (i := 1) sc_law.nd rfl (Or.inr rfl) (pe_fn (ok_law_pot D) hr (pa_cons (pv 0) pa_nil))) (pss_cons (ps_for PassesOwn.never rfl (pi_range1 (by rfl) D.blt.b_range (pa_cons pe_int pa_nil)) (pg_name (i := 2) sc_law.nd rfl (Or.inl rfl)) (pss_cons (ps_par (i := 3) (j := 4) rfl sc_law.nd rfl rfl (by decide) rfl rfl (pa_cons (pe_op op_add pe_int (pe_fn (ok_law_draw D) hr (pa_cons (pv 1) (pa_cons pe_int pa_nil)))) (pa_cons (pe_fn (ok_law_any D) hr (pa_cons (pv 1) (pa_cons (pe_lst (pa_cons pe_int (pa_cons pe_int (pa_cons pe_int (pa_cons pe_int (pa_cons pe_int (pa_cons pe_int pa_nil))))))) pa_nil))) pa_nil)) (by rfl)) (pss_cons (ps_asg (pe_fn (ok_law_split D) hr (pa_cons (pv 1) (pa_cons (pv 3) pa_nil))) (pg_tup rfl (pgs_cons (pg_name (i := 5) sc_law.nd rfl (Or.inl rfl)) (pgs_cons (pg_name (i := 6) sc_law.nd rfl (Or.inr rfl)) (pgs_cons (pg_name (i := 7) sc_law.nd rfl (Or.inl rfl)) pgs_nil))))) (pss_cons (ps_set (i := 8) sc_law.nd rfl (Or.inl rfl) (pe_make T.made (ok_Task_init D T) (hr.mono (by decide)) (by rfl) T.mgC bT .nil pass0 (pa_cons (pv 3) (pa_cons (pv 5) pa_nil)))) (pss_cons (ps_set (i := 9) sc_law.nd rfl (Or.inl rfl) (pe_callTy (T := "tuple") call_tuple_of (by rfl) D.blt.b_tuple (by decide +kernel) (pa_cons (pe_lc (own := [("_law_k", 18)]) (g := (gName 18)) rfl sc_law.nd (pi_range1 (by rfl) D.blt.b_range (pa_cons (pv 3) pa_nil)) (blkOk_by (N := NL) (sc := defScope s_law) (by decide +kernel)) (fun _ _ _ _ _ => pg_name (i := 18) sc_law.nd rfl (Or.inl rfl)) (fun _ _ _ _ _ => pts_one (PW.pt (pw_or (pt_cmpR op_eq (pv 18) (pv 6) (nomark _)) (pw_or1 (pt_cmpR op_eq (pe_fn (ok_law_draw D) hr (pa_cons (pv 1) (pa_cons pe_int pa_nil))) pe_int (nomark _)))))) (fun _ _ _ _ _ => pv 18)) pa_nil))) (Evl.pss_cut (ps_set (i := 9) sc_law.nd rfl (Or.inl rfl) (pe_ifExp (pt_cmpR op_lt (pe_callB call_len_seq (by rfl) D.blt.b_len PySem.boot_len (pa_cons (pv 9) pa_nil)) (pv 3) (nomark _)) (pv 9) (pe_tup (pa_cons (pv 6) pa_nil)))) (pss_cons (ps_if (PW.pt (pw_or (pt_cmp (pc_notN (pe_fn (ok_sure_plan D T) hr (pa_cons (pv 8) (pa_cons (pv 9) pa_nil))))) (pw_or1 (pt_cmpR (op_neD hr.units) (pe_fn (ok_sure_bar D T) hr (pa_cons (pv 8) (pa_cons (pe_tup (pa_cons (pv 6) pa_nil)) pa_nil))) (pe_tup (pa_cons (pv 6) (pa_cons (pv 7) pa_nil))) (nomark _))))) pss_never pss_nil) (Evl.pss_cut (ps_set (i := 10) sc_law.nd rfl (Or.inr rfl) (pe_ifExp (pt_cmpR op_gt (pe_fn (ok_law_draw D) hr (pa_cons (pv 1) (pa_cons pe_int pa_nil))) pe_int (nomark _)) (pe_fn mk2 hr (pa_cons (pv 1) (pa_cons (pv 3) (pa_cons (pv 5) (pa_cons (pv 6) pa_nil))))) (pe_fn mk1 hr (pa_cons (pv 1) (pa_cons pe_int pa_nil))))) (pss_cons (ps_asg (pe_tup (pa_cons (pe_make TF.made (ok_Folk_init D TF) (hr.mono (by decide)) (by rfl) TF.mgC bF .nil pass0 (pa_cons (pv 4) (pa_cons (pe_ix (r := rIxT K) ix_tup (pv 10) pe_int (fun _ _ => rfl)) (pa_cons (pe_ix (r := rIxT K) ix_tup (pv 10) pe_int (fun _ _ => rfl)) (pa_cons (pe_ix (r := rIxT K) ix_tup (pv 10) pe_int (fun _ _ => rfl)) pa_nil))))) (pa_cons (pe_fn (ok_shut_out D) hr (pa_cons (pv 3) (pa_cons (pv 4) (pa_cons (pv 6) pa_nil)))) (pa_cons pe_int (pa_cons (pe_lst pa_nil) pa_nil))))) (pg_tup rfl (pgs_cons (pg_name (i := 11) sc_law.nd rfl (Or.inl rfl)) (pgs_cons (pg_name (i := 12) sc_law.nd rfl (Or.inl rfl)) (pgs_cons (pg_name (i := 13) sc_law.nd rfl (Or.inl rfl)) (pgs_cons (pg_name (i := 14) sc_law.nd rfl (Or.inr rfl)) pgs_nil)))))) (Evl.pss_cut (ps_for PassesOwn.never rfl (pi_list (pe_fn (ok_completing D T) hr (pa_cons (pv 8) (pa_cons (pe_tup (pa_cons (pv 6) (pa_cons (pv 7) pa_nil))) pa_nil)))) (pg_name (i := 15) sc_law.nd rfl (Or.inr rfl)) (pss_cons (ps_set (i := 16) sc_law.nd rfl (Or.inr rfl) (pe_ix (r := rIxL K) ix_list (pe_fn (ok_law_run D) hr (pa_cons (pv 10) (pa_cons (pv 15) (pa_cons (pv 12) pa_nil)))) (pe_un un_neg pe_int) (fun _ _ => rfl))) (pss_cons (ps_set (i := 17) sc_law.nd rfl (Or.inl rfl) (pe_callTy (T := "tuple") call_tuple_of (by rfl) D.blt.b_tuple (by decide +kernel) (pa_cons (pe_lc (own := [("_law_me", 19)]) (g := (gName 19)) (tt := tYes) rfl sc_law.nd (pi_range1 (by rfl) D.blt.b_range (pa_cons (pv 3) pa_nil)) (blkOk_by (N := NL) (sc := defScope s_law) (by decide +kernel)) (fun _ _ _ _ _ => pg_name (i := 19) sc_law.nd rfl (Or.inl rfl)) (fun _ _ _ _ _ => pts_nil) (fun _ _ _ _ _ => (show PE _ _ (tCallV P w K mg base 1 (tOp (rIxT K) (tVar 10) (tC (.int 2))) (tCons (tVar 19) (tCons (tOp (rIxT K) (tVar 16) (tVar 19)) tNil))) from pe_callV (hr.mono (by decide)) (pe_ix (r := rIxT K) ix_tup (pv 10) pe_int (fun _ _ => rfl)) (pa_cons (pv 19) (pa_cons (pe_ix (r := rIxT K) ix_tup (pv 16) (pv 19) (fun _ _ => rfl)) pa_nil))))) pa_nil))) (pss_cons (ps_if (pt_cmpR (op_neD hr.units) (pe_fn (ok_answers D TF) hr (pa_cons (pv 11) (pa_cons (pv 15) (pa_cons (pv 12) pa_nil)))) (pv 17) (nomark _)) pss_never pss_nil) (pss_cons (ps_expr (pe_bm PySem.F.plainAttrs_list PySem.F.slot_list_append PySem.F.type_list_append mt_append (pv 14) (pa_cons (pe_op op_catA (pe_slice sl_tupA (pv 17) po_none (po_some (pv 6))) (pe_slice sl_tupA (pv 17) (po_some (pe_op op_add (pv 6) pe_int)) po_none)) pa_nil))) (pss_one (ps_set (i := 13) sc_law.nd rfl (Or.inl rfl) (pe_op op_add (pv 13) (pe_callTy (T := "int") call_int1 (by rfl) D.blt.b_int (by decide +kernel) (pa_cons (pe_cmpR (op_notInT (room65 hr)) (pv 17) (pe_ix (r := rIxL K) ix_list (pe_lc (own := [("_law_some_row", 20), ("_law_lot", 21)]) (g := (gTup K 2 (gCons (gName 20) (gCons (gName 21) gNil)))) rfl sc_law.nd (pi_tup (pv 5)) (blkOk_by (N := NL) (sc := defScope s_law) (by decide +kernel)) (fun _ _ _ _ _ => pg_tup rfl (pgs_cons (pg_name (i := 20) sc_law.nd rfl (Or.inl rfl)) (pgs_cons (pg_name (i := 21) sc_law.nd rfl (Or.inl rfl)) pgs_nil))) (fun _ _ _ _ _ => pts_one (pt_cmpR (r := rEqD K) (op_eqD hr.units) (pv 20) (pv 15) (nomark _))) (fun _ _ _ _ _ => pv 21)) pe_int (fun _ _ => rfl)) (by with_unfolding_all rfl)) pa_nil)))))))))) (pss_one (ps_if (PW.pt (pw_or (pt_cmpR op_eq (pv 13) pe_int (nomark _)) (pw_or1 (pt_not (pt_val (pe_callB (id := "all") (cr_all rfl) (by rfl) D.blt.b_all (by decide +kernel) (pa_cons (pe_lc (own := [("_law_rest", 22)]) (g := (gName 22)) (tt := tYes) rfl sc_law.nd (pi_list (pv 14)) (blkOk_by (N := NL) (sc := defScope s_law) (by decide +kernel)) (fun _ _ _ _ _ => pg_name (i := 22) sc_law.nd rfl (Or.inl rfl)) (fun _ _ _ _ _ => pts_nil) (fun _ _ _ _ _ => pe_cmpR (r := rEqD K) (op_eqD hr.units) (pv 22) (pe_ix (r := rIxL K) ix_list (pv 14) pe_int (fun _ _ => rfl)) (nomark _))) pa_nil))))))) pss_never pss_nil)))))))))))) (pss_one (ps_ret pe_bl)))), ?_⟩
    refine sq_ (sa_ ⟨_, rfl, a, ns, rfl, hS, hz, fun p c H1 e1 P1 => ?_⟩)
    have T1 := hT.ext e1
    refine sq_ ⟨3, rfl, by decide, by decide, ?_⟩
    refine rw_ (m := 3) (fun _ σ' H' => PotAt H' p c ∧ TabsN tabsT H' ∧ ∃ a2 a3 a4 a5 a6 a7 a8 a9 a10 a11 a12 a13 a14 a15 a16 a17, σ' = [some (.ref a), some (.ref p), a2, a3, a4, a5, a6, a7, a8, a9, a10, a11, a12, a13, a14, a15, a16, a17, none, none, none, none, none]) ⟨P1, T1, _, _, _, _, _, _, _, _, _, _, _, _, _, _, _, _, rfl⟩ (fun t σ' H2 ht p2 => ?_) (fun σ' H2 p2 => ?_)
    · obtain ⟨P2, T2, a2, a3, a4, a5, a6, a7, a8, a9, a10, a11, a12, a13, a14, a15, a16, a17, rfl⟩ := p2
      -- many, rounds
      refine sq_ ⟨_, rfl, p, c, 3, rfl, P2, by decide, by decide, fun x H3 x0 x1 d3 P3 => ⟨3, x, rfl, rfl, _, rfl, (show 6 ≤ sizeLine by decide), fun Lq hLq => ?_⟩⟩
      refine ⟨p, c, .ref Lq, [0, 1, 2, 3, 12, 30], rfl, P3.go (Same.new hLq), ⟨Lq, _, rfl, upd_same, DtL.ints [0, 1, 2, 3, 12, 30]⟩, by decide, by decide, fun y H4 hy d4 P4 => ⟨_, _, rfl, ?_⟩⟩
      obtain ⟨n, hn⟩ : ∃ n : Nat, 3 + x = n := ⟨(3 + x).toNat, by omega⟩
      have n3 : 3 ≤ n := by omega
      have n5 : n ≤ 5 := by omega
      dsimp only
      rw [hn]
      obtain ⟨rr, rfl, r30⟩ : ∃ rr : Nat, y = rr ∧ rr ≤ 30 := by
        simp only [List.mem_cons, List.not_mem_nil, or_false] at hy
        exact ⟨y.toNat, by omega, by omega⟩
      have dA : Dr p H2 H4 := (d3.trans (same_dr (Same.new hLq))).trans d4
      have T4 := tabs_dr T2 dA P2
      -- the lots
      refine sq_ ⟨_, rfl, _, rfl, p, c, n, rfl, P4, n3, n5, fun v H5 es q1 q2 i bse d5 P5 hv hi L0 hperm hpw => ?_⟩
      have S := split_ok n3 n5 hi L0 hperm hpw
      obtain ⟨tq, vs3, rfl, htq, vl, _, rfl, hvl, vi, _, rfl, hvi, vo, _, rfl, hvo, rfl⟩ := hv
      have hvi : vi = V.int (i : Nat) := hvi
      subst hvi
      refine ⟨tq, _, rfl, SqT.of htq, rfl, _, _, rfl, _, _, rfl, _, _, rfl, rfl, ?_⟩
      have T5 := tabs_dr T4 d5 P4
      -- the task
      dsimp only
      refine sq_ (sa_ ⟨_, rfl, _, rfl, fun xT dxT nx ndx ndne => ?_⟩)
      refine ⟨H5, xT, dxT, .int n, vl, n, es, rfl, Same.mut (Same.mut (Same.refl _) ndx) nx, nx, upd_same, ⟨_, _, rfl, rfl, _, _, rfl, hvl, rfl⟩, S.ok, fun H6 t6 e6 => ⟨rfl, ?_⟩⟩
      have P6 := P5.go e6
      have T6 := T5.ext e6
      have hvl6 := hvl.same e6
      have hvo6 := hvo.same e6
      -- some
      refine sq_ (sa_ (st_ (lc_some (σ := [some (.ref a), some (.ref p), some (.int t), some (.int n), some (.int rr), some vl, some (.int i), some vo, some (.ref xT), a9, a10, a11, a12, a13, a14, a15, a16, a17, none, none, none, none, none]) (n := n) (i := i) (j := 18) (vs := [18]) (te := tVar 18) (tt := tOr (tTest (tOp rEq (tVar 18) (tVar 6))) (tTest (tOp rEq (tCall spDraw [] E0 (tCons (tVar 1) (tCons (tC (.int 3)) tNil))) (tC (.int 0))))) (eva_cons (evd_var (k := 3) (d := dNat n) rfl rfl) eva_nil) (by omega) hi P6 (fun _ => rfl) (fun H k Q' dd PP q => ?_) (fun H k Q' q => ⟨_, rfl, q⟩) fun ss DD H7 hsB hsP hsi hsl d7 hDn P7 hD => ?_)))
      · refine ⟨_, rfl, _, rfl, rfl, _, rfl, ?_⟩
        by_cases hk : k = i
        · dsimp only
          rw [if_pos (decide_eq_true (by rw [hk]))]
          exact q true H (fun _ => rfl) (Dr.refl _ _) PP
        · dsimp only
          rw [if_neg (fun z => hk (by
            have z := of_decide_eq_true z
            injection z with z
            omega))]
          exact ⟨_, rfl, p, c, 3, rfl, PP, by decide, by decide, fun x H' x0 x1 d' P' => ⟨rfl, _, rfl, q _ H' (fun z => absurd z hk) d' P'⟩⟩
      refine ⟨DD, _, rfl, .inl ⟨SqL.of hD, fun ts hts => ?_⟩⟩
      have e78 : Same H7 (upd H7 ts (.tup (ss.map .int))) := Same.new hts
      have hss : Dt (upd H7 ts (.tup (ss.map .int))) (dRow ss) (.ref ts) := Dt.ofRow upd_same
      generalize upd H7 ts (.tup (ss.map .int)) = H8 at e78 hss
      have k68 : Kp p H6 H8 := d7.kp.trans (same_kp e78)
      have P8 := P7.go e78
      have T8 := (tabs_dr T6 d7 P6).ext e78
      have t8 := t6.kp P6 k68
      have hvl8 := Dt.kp (d := dLots es) k68 P6.notup (noLs_ents es) hvl6
      have hvo8 := Dt.kp k68 P6.notup (noL_row _) hvo6
      refine Evl.q_cut (M := fun σ' H' => Same H8 H' ∧ ∃ (ss' : List Int) (vs' : V), SomeOk n ss' ∧ (i : Int) ∈ ss' ∧ Dt H' (dRow ss') vs' ∧ σ' = [some (.ref a), some (.ref p), some (.int t), some (.int n), some (.int rr), some vl, some (.int i), some vo, some (.ref xT), some vs', a10, a11, a12, a13, a14, a15, a16, a17, none, none, none, none, none]) ?_ fun σ' H9 hM => ?_
      · have hlt : EvT (tTest (tOp (rI0 fun i j => .bl (decide (i < j))) (tCB (rLenQ K) (tCons (tVar 9) tNil)) (tVar 3))) [some (.ref a), some (.ref p), some (.int t), some (.int n), some (.int rr), some vl, some (.int i), some vo, some (.ref xT), some (.ref ts), a10, a11, a12, a13, a14, a15, a16, a17, none, none, none, none, none] H8 (decide ((ss.length : Int) < (n : Int))) := evt_test ((evd_lt (evd_lenT (ds := ss.map .int) (evd_var (k := 9) rfl hss)) (evd_var (k := 3) (d := dNat n) rfl rfl)).is (by rw [List.length_map]))
        refine sa_ (hlt H8 (Same.refl _) _ fun H9 e9 => ?_)
        by_cases hl : (ss.length : Int) < (n : Int)
        · dsimp only
          rw [if_pos (decide_eq_true hl)]
          exact ⟨_, rfl, e9, ss, _, ⟨hsB, rise_pw hsP, by omega, by omega⟩, hsi, hss.same e9, rfl⟩
        · dsimp only
          rw [if_neg (fun z => hl (of_decide_eq_true z))]
          refine ⟨_, rfl, (show 1 ≤ sizeLine by decide), fun tz htz => ⟨e9.trans (Same.new htz), [(i : Int)], .ref tz, ⟨fun s hs => ?_, fun q hq => ?_, (show 1 ≤ 100 by decide), ?_⟩, by simp, Dt.ofRow upd_same, rfl⟩⟩
          · rw [List.mem_singleton.mp hs]
            omega
          · cases hq
          · show 1 ≠ n
            omega
      obtain ⟨e9, ss', vs9, sok, hi9, hs9, rfl⟩ := hM
      have b9 : BarIn C P w H9 xT vs9 n es ss' i (dele i bse) := ⟨t8.go e9, S.ok, S.few, hs9, S.fit, hi9, S.bar⟩
      have sok1 : SomeOk n [(i : Int)] := ⟨fun s hs => by rw [List.mem_singleton.mp hs]; omega, fun q hq => (by cases hq), (show 1 ≤ 100 by decide), by show 1 ≠ n; omega⟩
      have hSP : EvD (tCall (spSP C P w) [] E0 (tCons (tVar 8) (tCons (tVar 9) tNil))) [some (.ref a), some (.ref p), some (.int t), some (.int n), some (.int rr), some vl, some (.int i), some vo, some (.ref xT), some vs9, a10, a11, a12, a13, a14, a15, a16, a17, none, none, none, none, none] H9 .none := fun H e Q' q => ⟨_, rfl, _, rfl, xT, vs9, n, i, es, ss', dele i bse, rfl, sok, b9.go e, fun H' e' => q _ H' e' rfl⟩
      have hSB : EvD (tCall (spSB C P w) [] E0 (tCons (tVar 8) (tCons (tTup (tCons (tVar 6) tNil)) tNil))) [some (.ref a), some (.ref p), some (.int t), some (.int n), some (.int rr), some vl, some (.int i), some vo, some (.ref xT), some vs9, a10, a11, a12, a13, a14, a15, a16, a17, none, none, none, none, none] H9 (dRest i (dele i bse)) := fun H e Q' q => ⟨_, rfl, _, rfl, (show 1 ≤ sizeLine by decide), fun tz htz => ⟨xT, .ref tz, n, i, es, [(i : Int)], dele i bse, rfl, sok1, ⟨(b9.task.go e).go (Same.new htz), S.ok, S.few, Dt.ofRow upd_same, S.fit, by simp, S.bar⟩, fun v' H' ks kk e' R hk hd hh => q v' H' ((Same.new htz).trans e') (by
        have q := hh (head_of S R)
        rw [q] at hd
        exact hd)⟩⟩
      refine sq_ (sd_if (b := false) (evt_or (b := false) (c := false) (evt_B (b := false) (evd_notN hSP)) fun _ => evt_test ((evd_neD hSB (evd_tup (ds := [dNat i, dRow (dele i bse)]) (eva_cons (evd_var (k := 6) (d := dNat i) rfl rfl) (eva_cons (evd_var (k := 7) rfl (hvo8.same e9)) eva_nil)) (show 2 ≤ sizeLine by decide)) (shaped_rest _ _) (shaped_rest _ _)).is (by rw [eqv_rest]; rfl))) (fun z => nomatch z) fun _ H10 e10 => ?_)
      have e810 := e9.trans e10
      have P10 := P8.go e810
      have T10 := T8.ext e810
      have t10 := t8.go e810
      have hvl10 := hvl8.same e810
      have hvo10 := hvo8.same e810
      -- the machines
      refine Evl.q_cut (M := fun σ' H' => Kp p H10 H' ∧ PotAt H' p c ∧ TabsN tabsT H' ∧ ∃ (tp fb fs fa : Addr) (M : MF), H' tp = some (.tup [.ref fb, .ref fs, .ref fa]) ∧ Parts P w K mg base H' n M fb fs fa ∧ σ' = [some (.ref a), some (.ref p), some (.int t), some (.int n), some (.int rr), some vl, some (.int i), some vo, some (.ref xT), some vs9, some (.ref tp), a11, a12, a13, a14, a15, a16, a17, none, none, none, none, none]) ?_ fun σ' H11 hM => ?_
      · refine sa_ ⟨_, rfl, p, c, 3, rfl, P10, by decide, by decide, fun x H x0 x1 d Pd => ⟨x, 0, rfl, rfl, _, rfl, ?_⟩⟩
        have Td := tabs_dr T10 d P10
        by_cases hx : 0 < x
        · dsimp only
          rw [if_pos (decide_eq_true hx)]
          exact ⟨_, rfl, _, rfl, _, rfl, _, rfl, p, c, n, i, vl, es, rfl, Pd, Td, Dt.kp (d := dLots es) d.kp P10.notup (noLs_ents es) hvl10, S.ok, fun tp fb fs fa M H' kp PP TT htp pt => ⟨d.kp.trans kp, PP, TT, tp, fb, fs, fa, M, htp, pt, rfl⟩⟩
        · dsimp only
          rw [if_neg (fun z => hx (of_decide_eq_true z))]
          exact ⟨_, rfl, p, c, rfl, Pd, Td, fun tp fb fs fa M H' kp PP TT htp pt => ⟨d.kp.trans kp, PP, TT, tp, fb, fs, fa, M, htp, pt n n5, rfl⟩⟩
      obtain ⟨kp11, P11, T11, tp, fb, fs, fa, M, htp, pt, rfl⟩ := hM
      have t11 := t10.kp P10 kp11
      have hvl11 := Dt.kp (d := dLots es) kp11 P10.notup (noLs_ents es) hvl10
      have hvo11 := Dt.kp kp11 P10.notup (noL_row _) hvo10
      -- the folk, the pattern
      refine sq_ ⟨_, rfl, _, rfl, tp, _, 0, .ref fb, rfl, rfl, SqT.of htp, atI_nat (j := 0) rfl, _, rfl, tp, _, 1, .ref fs, rfl, rfl, SqT.of htp, atI_nat (j := 1) rfl, _, rfl, tp, _, 2, .ref fa, rfl, rfl, SqT.of htp, atI_nat (j := 2) rfl, fun xF dxF nxF ndxF ndneF => ?_⟩
      refine ⟨H11, xF, dxF, fb, fs, fa, rr, rfl, Same.mut (Same.mut (Same.refl _) ndxF) nxF, nxF, upd_same, fun f hf => ?_, r30, fun H12 hF12 e12 => ⟨rfl, ?_⟩⟩
      · simp only [List.mem_cons, List.not_mem_nil, or_false] at hf
        rcases hf with rfl | rfl | rfl
        · exact pt.b.fn
        · exact pt.s.fn
        · exact pt.a.fn
      have hsh : EvD (tCall (spD R_shut_out) [] E0 (tCons (tVar 3) (tCons (tVar 4) (tCons (tVar 6) tNil)))) [some (.ref a), some (.ref p), some (.int t), some (.int n), some (.int rr), some vl, some (.int i), some vo, some (.ref xT), some vs9, some (.ref tp), a11, a12, a13, a14, a15, a16, a17, none, none, none, none, none] H12 (patD rr n i) := evd_call (R := R_shut_out) (eva_cons (evd_var (k := 3) (d := dNat n) rfl rfl) (eva_cons (evd_var (k := 4) (d := dNat rr) rfl rfl) (eva_cons (evd_var (k := 6) (d := dNat i) rfl rfl) eva_nil))) ⟨n, rr, i, rfl, n3, n5, r30, hi, rfl⟩
      refine hsh H12 (Same.refl _) _ fun vp H13 e13 hvp => ?_
      refine ⟨Nat.zero_le _, fun Ls hLs => ⟨(show 4 ≤ sizeLine by decide), fun tq4 htq4 => ?_⟩⟩
      refine ⟨tq4, _, rfl, SqT.of upd_same, rfl, _, _, rfl, _, _, rfl, _, _, rfl, _, _, rfl, rfl, ?_⟩
      have e14 : Same H13 (upd (upd H13 Ls (.lst [])) tq4 (.tup [.ref xF, vp, .int 0, .ref Ls])) := (Same.new hLs).trans (Same.new htq4)
      have hLs14 : (upd (upd H13 Ls (.lst [])) tq4 (.tup [.ref xF, vp, .int 0, .ref Ls])) Ls = some (.lst []) := (Same.new htq4) _ _ upd_same
      generalize upd (upd H13 Ls (.lst [])) tq4 (.tup [.ref xF, vp, .int 0, .ref Ls]) = H14 at e14 hLs14
      have e1114 : Same H11 H14 := (e12.trans e13).trans e14
      -- the completing inputs
      refine Evl.q_cut (M := fun σ' H' => PotAt H' p c ∧ TabsN tabsT H' ∧ ∃ (wr : Int) (m : Nat) (cc : List Int) (b15 b16 b17 : Option V), 1 ≤ wr ∧ 1 ≤ m ∧ m ≤ 1000 ∧ Dt H' (.list ((List.replicate m cc).map dRow)) (.ref Ls) ∧ σ' = [some (.ref a), some (.ref p), some (.int t), some (.int n), some (.int rr), some vl, some (.int i), some vo, some (.ref xT), some vs9, some (.ref tp), some (.ref xF), some vp, some (.int wr), some (.ref Ls), b15, b16, b17, none, none, none, none, none]) ?_ fun σ' H15 hM => ?_
      · refine ⟨_, rfl, _, rfl, _, rfl, (show 2 ≤ sizeLine by decide), fun tr htr => ⟨xT, .ref tr, n, i, es, dele i bse, rfl, (t11.go e1114).go (Same.new htr), ⟨tr, _, rfl, upd_same, _, _, rfl, rfl, DtL.one (hvo11.same (e1114.trans (Same.new htr)))⟩, ?_, S.fit, fun v' H15 e15 hv' => ?_⟩⟩
        · have hdl : (dele i bse).length + 1 = bse.length := dele_len (by rw [S.len]; exact hi)
          have := S.len
          exact ⟨by omega, by omega, by omega⟩
        have e15 := (Same.new htr).trans e15
        have hLs15 := e15 _ _ hLs14
        have s13c : Same H13 (hid H15 Ls) := hid_from (e14.trans e15) hLs
        have s11c : Same H11 (hid H15 Ls) := (e12.trans e13).trans s13c
        have ptc := pt.same s11c
        have htpc := s11c _ _ htp
        have hvlc := hvl11.same s11c
        have hvpc := hvp.same s13c
        have hFc : FolkIn P w K mg base CF (hid H15 Ls) xF rr n M := ⟨fb, fs, fa, (hF12.go e13).go s13c, ptc⟩
        have P15 := (P11.go e1114).go e15
        have T15 := (T11.ext e1114).ext e15
        have Pc : PotAt (hid H15 Ls) p c := P11.go s11c
        have Tc : TabsN tabsT (hid H15 Ls) := T11.ext s11c
        have hne := S.fit
        have hrs : ∀ r ∈ hits (prs n es) (.rst i (dele i bse)), ∃ e ∈ es, r = e.1 ∧ dele i e.1 = dele i bse := fun r hr => let ⟨e, a, _, b, c⟩ := hits_mem.mp hr; ⟨e, a, b, c⟩
        have hmemH : ∀ e ∈ es, dele i e.1 = dele i bse → e.1 ∈ hits (prs n es) (.rst i (dele i bse)) := fun e he hd => hits_mem.mpr ⟨e, he, hi, rfl, hd⟩
        have hrl : (hits (prs n es) (.rst i (dele i bse))).length ≤ 1000 := Nat.le_trans (hits_len _ _) S.few
        generalize hits (prs n es) (.rst i (dele i bse)) = rs at hv' hne hrs hmemH hrl
        have hvc : Dt (hid H15 Ls) (.list (rs.map dRow)) v' := by
          obtain ⟨l, vs, rfl, hl, hvs⟩ := hv'
          have hlL : l ≠ Ls := fun z => by
            rw [z, hLs15] at hl
            have hl := Option.some.inj hl
            injection hl with hl
            rw [← hl] at hvs
            have := hvs.len
            rw [List.length_map] at this
            exact hne (List.length_eq_zero_iff.mp this.symm)
          exact ⟨l, vs, rfl, by rw [hid_ne hlL]; exact hl, DtL.dr hid_dr (lst_tup hLs15) (noLs_rows _) hvs⟩
        -- what the others answer
        obtain ⟨cc, hcc⟩ : ∃ cc, ∀ e ∈ es, dele i e.1 = dele i bse → dele i (ansRow M n i (rowF e.1) rr) = cc := by
          obtain ⟨e0, he0, _, hd0⟩ := hits_one.mp S.fit
          exact ⟨dele i (ansRow M n i (rowF e0.1) rr), fun e he hd => ans_same (dele_eq (S.ok.each e he).row.1 (S.ok.each e0 he0).row.1 hi (hd.trans hd0.symm))⟩
        have o0 : Own1 (hid H15 Ls) H15 Ls ((List.replicate 0 cc).map dRow) := ⟨hid_same, hid_at, rfl, [], hLs15, rfl⟩
        refine for_listD (Hb := hid H15 Ls) hvc hid_same (fun j σ' H' => Own1 (hid H15 Ls) H' Ls ((List.replicate j cc).map dRow) ∧ ∃ (wr : Int) (b15 b16 b17 : Option V), 0 ≤ wr ∧ ((∃ m < j, ∃ e ∈ es, rs[m]? = some e.1 ∧ ansRow M n i (rowF e.1) rr ∉ e.2) → 1 ≤ wr) ∧ σ' = [some (.ref a), some (.ref p), some (.int t), some (.int n), some (.int rr), some vl, some (.int i), some vo, some (.ref xT), some vs9, some (.ref tp), some (.ref xF), some vp, some (.int wr), some (.ref Ls), b15, b16, b17, none, none, none, none, none]) ⟨o0, 0, _, _, _, Int.le_refl _, fun ⟨m, hm, _⟩ => absurd hm (Nat.not_lt_zero m), rfl⟩ (fun _ _ _ _ p => p.1.same) (fun j d vr σ' H16 hd q16 hvr => ?_) (fun σ' H16 q16 => ?_)
        · obtain ⟨o16, wr, b15, b16, b17, hwr0, hwr1, rfl⟩ := q16
          obtain ⟨r, hr, rfl⟩ : ∃ r, rs[j]? = some r ∧ dRow r = d := by
            rw [List.getElem?_map] at hd
            cases e : rs[j]? with
            | none => rw [e] at hd; cases hd
            | some r => rw [e] at hd; exact ⟨r, rfl, Option.some.inj hd⟩
          obtain ⟨e, he, rfl, hde⟩ := hrs r (List.mem_of_getElem? hr)
          have hel := (S.ok.each e he).row.1
          have hjl := (List.getElem?_eq_some_iff.mp hr).1
          have sc := o16.same
          -- last
          refine sq_ (sa_ ⟨_, rfl, _, rfl, _, rfl, tp, fb, fs, fa, vr, vp, rr, n, i, M, e.1, rfl, sc _ _ htpc, ptc.same sc, hvr, hel, hvpc.same sc, n5, r30, fun v1 H17 e17 h17 => ?_⟩)
          obtain ⟨Lr, vsr, rfl, hLr, hvsr⟩ := h17
          obtain ⟨vm, hvm, hdm⟩ := hvsr.ixN (last_range (f := memT M n i (rowF e.1)) rr)
          refine ⟨1, rfl, Lr, vsr, -1, vm, rfl, rfl, SqL.of hLr, hvm, ?_⟩
          have o17 := o16.go e17
          have sc17 := o17.same
          have hvr17 := hvr.same e17
          -- row
          have hc : EvD (tCB (rTupQ K) (tCons (tLc (iRng1 (tCons (tVar 3) tNil)) (gName 19) tYes (tCallV P w K mg base 1 (tOp (rIxT K) (tVar 10) (tC (.int 2))) (tCons (tVar 19) (tCons (tOp (rIxT K) (tVar 16) (tVar 19)) tNil))) [19]) tNil)) [some (.ref a), some (.ref p), some (.int t), some (.int n), some (.int rr), some vl, some (.int i), some vo, some (.ref xT), some vs9, some (.ref tp), some (.ref xF), some vp, some (.int wr), some (.ref Ls), some vr, some vm, b17, none, none, none, none, none] H17 (dRow (ansRow M n i (rowF e.1) rr)) := by
            have e0 : dRow (ansRow M n i (rowF e.1) rr) = .tuple ((List.range n).map fun me => .int (M.ans me (memAt M n i (rowF e.1) rr me))) := by
              unfold ansRow
              show PyData.tuple (List.map _ (List.map _ _)) = _
              rw [List.map_map]
              rfl
            rw [e0]
            exact evd_tupL (evd_lc1 (List.range n) dNat (fun me => .int (M.ans me (memAt M n i (rowF e.1) rr me))) (evw_range (eva_cons (evd_var (k := 3) (d := dNat n) rfl rfl) eva_nil) (by omega)) (by rw [List.length_range]; omega) (fun _ _ => rfl) (fun _ => rfl) fun me x H18 hme e18 hx =>
              evd_callV (evx_ixT (k := 10) rfl ((sc17.trans e18) _ _ htpc) rfl rfl) ((ptc.same (sc17.trans e18)).a) (eva_cons (evd_var (k := 19) rfl hx) (eva_cons (evd_ixT (evd_var (k := 16) rfl (hdm.same e18)) (evd_var (k := 19) rfl hx) (at_range (List.mem_range.mp hme))) eva_nil)) ⟨me, _, rfl, List.mem_range.mp hme, memAt_ok ptc.ok (rowF e.1) rr me (List.mem_range.mp hme), rfl⟩)
          refine sq_ (sa_ (hc H17 (Same.refl _) _ fun vw H18 e18 hvw => ?_))
          have o18 := o17.go e18
          have sc18 := o18.same
          have hvr18 := hvr17.same e18
          -- the program's answers are these
          have hA : EvD (tCall (spAns P w K mg base CF) [] E0 (tCons (tVar 11) (tCons (tVar 15) (tCons (tVar 12) tNil)))) [some (.ref a), some (.ref p), some (.int t), some (.int n), some (.int rr), some vl, some (.int i), some vo, some (.ref xT), some vs9, some (.ref tp), some (.ref xF), some vp, some (.int wr), some (.ref Ls), some vr, some vm, some vw, none, none, none, none, none] H18 (dRow (ansRow M n i (rowF e.1) rr)) := fun H e' Q' q => ⟨_, rfl, _, rfl, _, rfl, xF, vr, vp, rr, n, i, M, e.1, rfl, hFc.go (sc18.trans e'), hvr18.same e', hel, hvpc.same (sc18.trans e'), n3, n5, r30, hi, fun v'' H'' e'' h'' => q v'' H'' e'' h''⟩
          refine sq_ (sd_if (b := false) (evt_test ((evd_neD hA (evd_var (k := 17) rfl hvw) (shaped_row _) (shaped_row _)).is (by rw [eqv_row, decide_eq_true rfl]; rfl))) (fun z => nomatch z) fun _ H19 e19 => ?_)
          have o19 := o18.go e19
          have hvw19 := hvw.same e19
          -- seen
          have hh : dRow cc = .tuple (((ansRow M n i (rowF e.1) rr).map .int).take i ++ ((ansRow M n i (rowF e.1) rr).map .int).drop (i + 1)) := by
            rw [← hcc e he hde]
            show PyData.tuple (((ansRow M n i (rowF e.1) rr).take i ++ (ansRow M n i (rowF e.1) rr).drop (i + 1)).map .int) = _
            rw [List.map_append, List.map_take, List.map_drop]
          have hal : (ansRow M n i (rowF e.1) rr).length = n := by
            unfold ansRow
            rw [List.length_map, List.length_range]
          have hs : EvD (tOp (rCatA K) (tSl (rSlA K) (tVar 17) tNoPart (tPart (tVar 6))) (tSl (rSlA K) (tVar 17) (tPart (tOp (rI0 fun i j => .int (i + j)) (tVar 6) (tC (.int 1)))) tNoPart)) [some (.ref a), some (.ref p), some (.int t), some (.int n), some (.int rr), some vl, some (.int i), some vo, some (.ref xT), some vs9, some (.ref tp), some (.ref xF), some vp, some (.int wr), some (.ref Ls), some vr, some vm, some vw, none, none, none, none, none] H19 (dRow cc) := by
            rw [hh]
            refine evd_cat (evd_slT_take (n := i) (evd_var (k := 17) rfl hvw19) evo_none (evo_some (evd_var (k := 6) rfl rfl))) (evd_slT_drop (n := i + 1) (evd_var (k := 17) rfl hvw19) (evo_some (i := ((i + 1 : Nat) : Int)) ?_) evo_none) ?_
            · exact (evd_add (i := (i : Int)) (j := 1) (evd_var (k := 6) rfl rfl) evd_int).is (by congr 1)
            · rw [List.length_take, List.length_drop, List.length_map, sizeLine_eq]
              omega
          have nt19 : ∀ vs, H19 Ls ≠ some (.tup vs) := let ⟨_, h, _⟩ := o19.at_; lst_tup h
          refine sq_ (ap1d_ o19 rfl hs (noL_row _) (by rw [List.length_map, List.length_replicate]; omega) fun H20 o20 d20 => ?_)
          have o20 : Own1 (hid H15 Ls) H20 Ls ((List.replicate (j + 1) cc).map dRow) := by
            rw [List.replicate_succ', List.map_append]
            exact o20
          have sc20 := o20.same
          have hvr20 := Dt.dr d20 nt19 (noL_row _) (hvr18.same e19)
          have hvw20 := Dt.dr d20 nt19 (noL_row _) hvw19
          -- wrong
          have hlc : EvD (tLc (iTup K (tVar 5)) (gTup K 2 (gCons (gName 20) (gCons (gName 21) gNil))) (tTest (tOp (rEqD K) (tVar 20) (tVar 15))) (tVar 21) [20, 21]) [some (.ref a), some (.ref p), some (.int t), some (.int n), some (.int rr), some vl, some (.int i), some vo, some (.ref xT), some vs9, some (.ref tp), some (.ref xF), some vp, some (.int wr), some (.ref Ls), some vr, some vm, some vw, none, none, none, none, none] H20 (.list ((es.filter fun e' => decide (e'.1 = e.1)).map fun e' => dLot e'.2)) :=
            evd_lc es dEnt (fun e' => decide (e'.1 = e.1)) (fun e' => dLot e'.2) (evw_tup (evd_var (k := 5) rfl (hvlc.same sc20))) (by have := S.ok.few; omega) (fun x _ => noL_lot x.2) fun x v H hx e' hv Q' q => pair_tg hv fun a b ha hb => q _ rfl (evt_test ((evd_eqD (evd_var (k := 20) rfl ha) (evd_var (k := 15) rfl (hvr20.same e')) (shaped_row _) (shaped_row _)).is (by rw [eqv_row]))) fun _ => evd_var (k := 21) rfl hb
          have hat : atI ((es.filter fun e' => decide (e'.1 = e.1)).map fun e' => dLot e'.2) ((0 : Nat) : Int) = some (dLot e.2) := by
            have hin : e ∈ es.filter fun e' => decide (e'.1 = e.1) := List.mem_filter.mpr ⟨he, decide_eq_true rfl⟩
            cases hq : es.filter fun e' => decide (e'.1 = e.1) with
            | nil => rw [hq] at hin; cases hin
            | cons e' l =>
              have h' : e' ∈ es.filter fun e' => decide (e'.1 = e.1) := by rw [hq]; exact List.mem_cons_self
              obtain ⟨h1', h2'⟩ := List.mem_filter.mp h'
              rw [ent_of S.ok h1' he (of_decide_eq_true h2')]
              exact atI_nat rfl
          have hW := evd_add (evd_var (σ := [some (.ref a), some (.ref p), some (.int t), some (.int n), some (.int rr), some vl, some (.int i), some vo, some (.ref xT), some vs9, some (.ref tp), some (.ref xF), some vp, some (.int wr), some (.ref Ls), some vr, some vm, some vw, none, none, none, none, none]) (H := H20) (k := 13) (d := .int wr) rfl rfl) (evd_intB (evd_notInT (K := K) (evd_var (k := 17) rfl hvw20) (evd_ixL (K := K) hlc evd_int hat) (shaped_row _) (shaped_lot e.2)))
          refine sa_ (hW H20 (Same.refl _) _ fun v H21 e21 hv => ?_)
          have hv : v = V.int _ := hv
          subst hv
          rw [any_rows]
          refine ⟨o20.go e21, _, some vr, some vm, some vw, ?_, ?_, rfl⟩
          · split <;> omega
          · rintro ⟨m, hm, e2, he2, hr2, hno⟩
            rcases Nat.lt_succ_iff_lt_or_eq.mp hm with q | q
            · have := hwr1 ⟨m, q, e2, he2, hr2, hno⟩
              split <;> omega
            · rw [q, hr] at hr2
              have := ent_of S.ok he2 he (Option.some.inj hr2).symm
              rw [this] at hno
              rw [decide_eq_false hno, if_pos (by decide)]
              omega
        · obtain ⟨o16, wr, b15, b16, b17, hwr0, hwr1, rfl⟩ := q16
          rw [List.length_map] at o16 hwr1
          refine ⟨Pc.go o16.same, Tc.ext o16.same, wr, rs.length, cc, b15, b16, b17, hwr1 ?_, ?_, hrl, o16.data, rfl⟩
          · obtain ⟨e, he, hde, hno⟩ := S.bar cc
            obtain ⟨m, hm⟩ := List.mem_iff_getElem?.mp (hmemH e he hde)
            exact ⟨m, (List.getElem?_eq_some_iff.mp hm).1, e, he, hm, fun hin => hno (List.mem_map.mpr ⟨_, hin, hcc e he hde⟩)⟩
          · exact List.length_pos_iff.mpr hne
      obtain ⟨P15, T15, wr, m, cc, b15, b16, b17, hwr, hm1, hm2, hseen, rfl⟩ := hM
      have hallS : EvD (tLc (iList K (tVar 14)) (gName 22) tYes (tOp (rEqD K) (tVar 22) (tOp (rIxL K) (tVar 14) (tC (.int 0)))) [22]) [some (.ref a), some (.ref p), some (.int t), some (.int n), some (.int rr), some vl, some (.int i), some vo, some (.ref xT), some vs9, some (.ref tp), some (.ref xF), some vp, some (.int wr), some (.ref Ls), b15, b16, b17, none, none, none, none, none] H15 (.list (List.replicate (List.replicate m cc).length (.bool true))) := by
        rw [← map_true]
        exact evd_lc1 (List.replicate m cc) dRow (fun _ => .bool true) (evw_list (evd_var (k := 14) rfl hseen)) (by rw [List.length_replicate]; omega) (fun _ _ => rfl) (fun _ => rfl) fun x v H hx e hv => (evd_eqD (d2 := dRow cc) (evd_var (k := 22) rfl hv) (evd_ixL (evd_var (k := 14) rfl (hseen.same e)) evd_int (atI_nat (j := 0) (by rw [List.getElem?_map, List.getElem?_replicate, if_pos (by omega)]; rfl))) (shaped_row _) (shaped_row _)).is (by rw [eqv_row, (List.mem_replicate.mp hx).2, decide_eq_true rfl])
      refine sd_if (b := false) (evt_or (b := false) (c := false) (evt_test ((evd_eqI (i := wr) (j := 0) (evd_var (k := 13) rfl rfl) evd_int).is (by rw [decide_eq_false (by omega)]))) fun _ => evt_not (b := true) (evt_B (evd_allT hallS))) (fun z => nomatch z) fun _ H16 e16 => ?_
      exact ⟨P15.go e16, T15.ext e16, _, _, _, _, _, _, _, _, _, _, _, _, _, _, _, _, rfl⟩
    · obtain ⟨P2, T2, a2, a3, a4, a5, a6, a7, a8, a9, a10, a11, a12, a13, a14, a15, a16, a17, rfl⟩ := p2
      exact k _
end
end G98

/-! Z1: the end. -/
namespace G98
open PySem PySem.Spec PyProof.Rows L2 NdefX LamX
theorem tab_nil {H : Hp} {P : Addr} {nm : Nat → Nat → Str} (h : H P = some (.tbl #[])) : TabN H P nm := ⟨#[], h, by simp [TriplesOk], fun pos cv hc => by simp [codeAmong] at hc⟩
theorem lawAt {l : PySem.W.OpenLaw} {w : World} {K : PySem.W.Frag} {mg : Str → Option Value} {fa : Addr} {h : Heap} (KX : K.In h) (T : Top K mg) (hmg : mg "law" = some (.ref fa)) (tabs : ∀ P ∈ [565, 550], h.get? P = some (PySem.W.tabObj #[])) : LawAtS l w K CX0 13 63 "_law_script" mg fa h := by
  obtain ⟨C, fI, fK, fdI, fdK, TT⟩ := T.task
  obtain ⟨CF, fFI, fdF, TF⟩ := T.folk
  obtain ⟨c1, m1⟩ := T.m1
  obtain ⟨c2, m2⟩ := T.m2
  obtain ⟨f, fd, F, hf⟩ := T.law.ex
  rw [hf] at hmg
  cases hmg
  have F' := F
  obtain ⟨oc, od, kV, doc, pm, an, cdv, ct, osl, rfl, lk, hcd⟩ := F.ex
  refine ⟨PySem.W.fnOf "law" "law" (defArgs s_law) (defBody s_law) (defScope s_law) .none kV doc pm an cdv ct, [(c1, 550), (c2, 565)], spLaw K, fun p hp => ?_, fun p hp => ?_, fun p hp => ?_, fun s u => .of_eq rfl, fun H a ns hl _ hT hS => ⟨a, ns, rfl, hS, hl, ?_, fun _ => rfl⟩, fun base _ _ hB => ?_⟩
  · rcases List.mem_cons.mp hp with rfl | hp
    · exact tabs 550 (by simp)
    · rw [List.mem_singleton.mp hp]
      exact tabs 565 (by simp)
  · rcases List.mem_cons.mp hp with rfl | hp
    · exact m1.lo
    · rw [List.mem_singleton.mp hp]
      exact m2.lo
  · rcases List.mem_cons.mp hp with rfl | hp
    · exact PySem.W.codeHd_of_K KX m1.hd
    · rw [List.mem_singleton.mp hp]
      exact PySem.W.codeHd_of_K KX m2.hd
  · intro q hq
    unfold tabsT at hq
    rcases List.mem_cons.mp hq with rfl | hq
    · exact tab_nil (hT (c1, 550) (by simp))
    · rw [List.mem_singleton.mp hq]
      exact tab_nil (hT (c2, 565) (by simp))
  · exact ok_law F' T.defs TT TF m1 m2 (hB (c1, 550) (by simp)) (hB (c2, 565) (by simp))
end G98

set_option maxRecDepth 100000
open PySem PySem.W PyProof.Rows in
set_option maxRecDepth 100000 in
set_option maxHeartbeats 0 in
theorem PySem.Challenge.cw_onesilent_k98_whole_machines_without_a_s_holds : PySem.Challenge.rw_onesilent_k98_whole_machines_without_a_s.Holds := by
  w_on; o_law; k_head; (case hw => w_witness2)
  k_fill
  refine LamX.walk_ofTs (l := PySem.Challenge.rw_onesilent_k98_whole_machines_without_a_s) (n := 63) (k := 13) (CX := fun _ => L2.CX0) (x := "_law_script") rfl (by decide) rfl ⟨rfl, by decide, by decide⟩ (fun w h Y => PySem.W.km_in_of Y) ?F fun _ _ _ _ _ z => z
  case F =>
    intro w mg fa h Y KX G hmg
    have T := G98.Top.of KX G ?T
    exact G98.lawAt KX T hmg (PySem.W.km_tabs_of Y)
    case T =>
      refine' ⟨?defs, ?task, ?folk, ?m1, ?m2, ?law⟩
      (case defs =>
        refine' ⟨?blt, ?f_is_integer, ?f_is_within, ?f_is_many, ?f_is_sized, ?f_is_pair, ?f_is_row_of, ?f_is_row, ?f_are_rising, ?f_is_lot_below, ?f_check_many, ?f_check_rounds, ?f_is_miss, ?f_is_round, ?f_is_pattern_of, ?f_check_pattern, ?f_raw_shut_out, ?f_shut_out, ?f_is_no_function, ?f_first_memories, ?f_heard_of, ?f_next_memories, ?f_told_answer, ?f_raw_memories, ?f_raw_answers, ?f_check_run, ?f_answers, ?f_is_small_row, ?f_is_small_lot, ?f_is_inputs_with_lot, ?f_bad_part, ?f_raw_rest, ?f_completing_of, ?f_is_rest, ?f_raw_rests, ?f_is_rest_of, ?f_check_rest, ?f_raw_completing, ?f_completing, ?f_check_some, ?f_covers_of, ?f_rests_of_some, ?f_raw_sure_bar, ?f_sure_bar, ?f_sure_plan, ?f_law_pot, ?f_law_draw, ?f_law_any, ?f_law_run, ?f_law_split⟩
        (case blt =>
          refine' ⟨PySem.W.mg_none_of KX G ?b_isinstance, PySem.W.mg_none_of KX G ?b_int, PySem.W.mg_none_of KX G ?b_bool, PySem.W.mg_none_of KX G ?b_tuple, PySem.W.mg_none_of KX G ?b_len, PySem.W.mg_none_of KX G ?b_all, PySem.W.mg_none_of KX G ?b_zip, PySem.W.mg_none_of KX G ?b_range, PySem.W.mg_none_of KX G ?b_enumerate, PySem.W.mg_none_of KX G ?b_list, PySem.W.mg_none_of KX G ?b_sorted, PySem.W.mg_none_of KX G ?b_abs, PySem.W.mg_none_of KX G ?b_str, PySem.W.mg_none_of KX G ?b_dict, G98.mgi_of KX G ?c_LEAST_MANY, G98.mgi_of KX G ?c_MOST_MANY, G98.mgi_of KX G ?c_MOST_ROUNDS, G98.mgi_of KX G ?c_MOST_INPUTS, G98.mgi_of KX G ?c_MOST_ROWS, G98.mgi_of KX G ?c_MOST_NUMBER, G98.mgi_of KX G ?c_LEAST_OTHERS, G98.mgi_of KX G ?c_MOST_OTHERS⟩
          (case b_isinstance => k_is)
          (case b_int => k_is)
          (case b_bool => k_is)
          (case b_tuple => k_is)
          (case b_len => k_is)
          (case b_all => k_is)
          (case b_zip => k_is)
          (case b_range => k_is)
          (case b_enumerate => k_is)
          (case b_list => k_is)
          (case b_sorted => k_is)
          (case b_abs => k_is)
          (case b_str => k_is)
          (case b_dict => k_is)
          (case c_LEAST_MANY => k_is)
          (case c_MOST_MANY => k_is)
          (case c_MOST_ROUNDS => k_is)
          (case c_MOST_INPUTS => k_is)
          (case c_MOST_ROWS => k_is)
          (case c_MOST_NUMBER => k_is)
          (case c_LEAST_OTHERS => k_is)
          (case c_MOST_OTHERS => k_is)
        )
        (case f_is_integer => refine' G98.FunIs.of KX G ?a ?l ?c ?k; (case a => k_is); (case l => k_is); (case c => k_is); (case k => k_is))
        (case f_is_within => refine' G98.FunIs.of KX G ?a ?l ?c ?k; (case a => k_is); (case l => k_is); (case c => k_is); (case k => k_is))
        (case f_is_many => refine' G98.FunIs.of KX G ?a ?l ?c ?k; (case a => k_is); (case l => k_is); (case c => k_is); (case k => k_is))
        (case f_is_sized => refine' G98.FunIs.of KX G ?a ?l ?c ?k; (case a => k_is); (case l => k_is); (case c => k_is); (case k => k_is))
        (case f_is_pair => refine' G98.FunIs.of KX G ?a ?l ?c ?k; (case a => k_is); (case l => k_is); (case c => k_is); (case k => k_is))
        (case f_is_row_of => refine' G98.FunIs.of KX G ?a ?l ?c ?k; (case a => k_is); (case l => k_is); (case c => k_is); (case k => k_is))
        (case f_is_row => refine' G98.FunIs.of KX G ?a ?l ?c ?k; (case a => k_is); (case l => k_is); (case c => k_is); (case k => k_is))
        (case f_are_rising => refine' G98.FunIs.of KX G ?a ?l ?c ?k; (case a => k_is); (case l => k_is); (case c => k_is); (case k => k_is))
        (case f_is_lot_below => refine' G98.FunIs.of KX G ?a ?l ?c ?k; (case a => k_is); (case l => k_is); (case c => k_is); (case k => k_is))
        (case f_check_many => refine' G98.FunIs.of KX G ?a ?l ?c ?k; (case a => k_is); (case l => k_is); (case c => k_is); (case k => k_is))
        (case f_check_rounds => refine' G98.FunIs.of KX G ?a ?l ?c ?k; (case a => k_is); (case l => k_is); (case c => k_is); (case k => k_is))
        (case f_is_miss => refine' G98.FunIs.of KX G ?a ?l ?c ?k; (case a => k_is); (case l => k_is); (case c => k_is); (case k => k_is))
        (case f_is_round => refine' G98.FunIs.of KX G ?a ?l ?c ?k; (case a => k_is); (case l => k_is); (case c => k_is); (case k => k_is))
        (case f_is_pattern_of => refine' G98.FunIs.of KX G ?a ?l ?c ?k; (case a => k_is); (case l => k_is); (case c => k_is); (case k => k_is))
        (case f_check_pattern => refine' G98.FunIs.of KX G ?a ?l ?c ?k; (case a => k_is); (case l => k_is); (case c => k_is); (case k => k_is))
        (case f_raw_shut_out => refine' G98.FunIs.of KX G ?a ?l ?c ?k; (case a => k_is); (case l => k_is); (case c => k_is); (case k => k_is))
        (case f_shut_out => refine' G98.FunIs.of KX G ?a ?l ?c ?k; (case a => k_is); (case l => k_is); (case c => k_is); (case k => k_is))
        (case f_is_no_function => refine' G98.FunIs.of KX G ?a ?l ?c ?k; (case a => k_is); (case l => k_is); (case c => k_is); (case k => k_is))
        (case f_first_memories => refine' G98.FunIs.of KX G ?a ?l ?c ?k; (case a => k_is); (case l => k_is); (case c => k_is); (case k => k_is))
        (case f_heard_of => refine' G98.FunIs.of KX G ?a ?l ?c ?k; (case a => k_is); (case l => k_is); (case c => k_is); (case k => k_is))
        (case f_next_memories => refine' G98.FunIs.of KX G ?a ?l ?c ?k; (case a => k_is); (case l => k_is); (case c => k_is); (case k => k_is))
        (case f_told_answer => refine' G98.FunIs.of KX G ?a ?l ?c ?k; (case a => k_is); (case l => k_is); (case c => k_is); (case k => k_is))
        (case f_raw_memories => refine' G98.FunIs.of KX G ?a ?l ?c ?k; (case a => k_is); (case l => k_is); (case c => k_is); (case k => k_is))
        (case f_raw_answers => refine' G98.FunIs.of KX G ?a ?l ?c ?k; (case a => k_is); (case l => k_is); (case c => k_is); (case k => k_is))
        (case f_check_run => refine' G98.FunIs.of KX G ?a ?l ?c ?k; (case a => k_is); (case l => k_is); (case c => k_is); (case k => k_is))
        (case f_answers => refine' G98.FunIs.of KX G ?a ?l ?c ?k; (case a => k_is); (case l => k_is); (case c => k_is); (case k => k_is))
        (case f_is_small_row => refine' G98.FunIs.of KX G ?a ?l ?c ?k; (case a => k_is); (case l => k_is); (case c => k_is); (case k => k_is))
        (case f_is_small_lot => refine' G98.FunIs.of KX G ?a ?l ?c ?k; (case a => k_is); (case l => k_is); (case c => k_is); (case k => k_is))
        (case f_is_inputs_with_lot => refine' G98.FunIs.of KX G ?a ?l ?c ?k; (case a => k_is); (case l => k_is); (case c => k_is); (case k => k_is))
        (case f_bad_part => refine' G98.FunIs.of KX G ?a ?l ?c ?k; (case a => k_is); (case l => k_is); (case c => k_is); (case k => k_is))
        (case f_raw_rest => refine' G98.FunIs.of KX G ?a ?l ?c ?k; (case a => k_is); (case l => k_is); (case c => k_is); (case k => k_is))
        (case f_completing_of => refine' G98.FunIs.of KX G ?a ?l ?c ?k; (case a => k_is); (case l => k_is); (case c => k_is); (case k => k_is))
        (case f_is_rest => refine' G98.FunIs.of KX G ?a ?l ?c ?k; (case a => k_is); (case l => k_is); (case c => k_is); (case k => k_is))
        (case f_raw_rests => refine' G98.FunIs.of KX G ?a ?l ?c ?k; (case a => k_is); (case l => k_is); (case c => k_is); (case k => k_is))
        (case f_is_rest_of => refine' G98.FunIs.of KX G ?a ?l ?c ?k; (case a => k_is); (case l => k_is); (case c => k_is); (case k => k_is))
        (case f_check_rest => refine' G98.FunIs.of KX G ?a ?l ?c ?k; (case a => k_is); (case l => k_is); (case c => k_is); (case k => k_is))
        (case f_raw_completing => refine' G98.FunIs.of KX G ?a ?l ?c ?k; (case a => k_is); (case l => k_is); (case c => k_is); (case k => k_is))
        (case f_completing => refine' G98.FunIs.of KX G ?a ?l ?c ?k; (case a => k_is); (case l => k_is); (case c => k_is); (case k => k_is))
        (case f_check_some => refine' G98.FunIs.of KX G ?a ?l ?c ?k; (case a => k_is); (case l => k_is); (case c => k_is); (case k => k_is))
        (case f_covers_of => refine' G98.FunIs.of KX G ?a ?l ?c ?k; (case a => k_is); (case l => k_is); (case c => k_is); (case k => k_is))
        (case f_rests_of_some => refine' G98.FunIs.of KX G ?a ?l ?c ?k; (case a => k_is); (case l => k_is); (case c => k_is); (case k => k_is))
        (case f_raw_sure_bar => refine' G98.FunIs.of KX G ?a ?l ?c ?k; (case a => k_is); (case l => k_is); (case c => k_is); (case k => k_is))
        (case f_sure_bar => refine' G98.FunIs.of KX G ?a ?l ?c ?k; (case a => k_is); (case l => k_is); (case c => k_is); (case k => k_is))
        (case f_sure_plan => refine' G98.FunIs.of KX G ?a ?l ?c ?k; (case a => k_is); (case l => k_is); (case c => k_is); (case k => k_is))
        (case f_law_pot => refine' G98.FunIs.of KX G ?a ?l ?c ?k; (case a => k_is); (case l => k_is); (case c => k_is); (case k => k_is))
        (case f_law_draw => refine' G98.FunIs.of KX G ?a ?l ?c ?k; (case a => k_is); (case l => k_is); (case c => k_is); (case k => k_is))
        (case f_law_any => refine' G98.FunIs.of KX G ?a ?l ?c ?k; (case a => k_is); (case l => k_is); (case c => k_is); (case k => k_is))
        (case f_law_run => refine' G98.FunIs.of KX G ?a ?l ?c ?k; (case a => k_is); (case l => k_is); (case c => k_is); (case k => k_is))
        (case f_law_split => refine' G98.FunIs.of KX G ?a ?l ?c ?k; (case a => k_is); (case l => k_is); (case c => k_is); (case k => k_is))
      )
      (case task =>
        refine' ⟨_, _, _, _, _, ?cl, ?nM, ?nL, ?nK, ?nC, PySem.W.mg_of KX G ?mg, ?mk, G98.fun_mk' ?FIl ?FIc ?FIk, ?mK, G98.fun_mk' ?FKl ?FKc ?FKk⟩
        (case mg => k_is)
        (case mk => refine' G98.Mk.of ?a ?m ?i ?k; (case a => k_is); (case m => k_is); (case i => k_is); (case k => k_is))
        (case FIl => k_is); (case FIc => k_is); (case FIk => k_is)
        (case mK => refine' G98.Meth.of ?a ?i ?k; (case a => k_is); (case i => k_is); (case k => k_is))
        (case FKl => k_is); (case FKc => k_is); (case FKk => k_is)
        (case cl => refine' G98.Cls.of ?pg ?hd ?po ?sa; (case pg => k_is); (case hd => k_is); (case po => k_is); (case sa => k_is))
        (case nM => refine' G98.NoAttr.of ?z; (case z => k_is))
        (case nL => refine' G98.NoAttr.of ?z; (case z => k_is))
        (case nK => refine' G98.NoAttr.of ?z; (case z => k_is))
        (case nC => refine' G98.NoAttr.of ?z; (case z => k_is))
      )
      (case folk =>
        refine' ⟨_, _, _, ?cl, ?nM, ?nL, ?nK, ?nC, PySem.W.mg_of KX G ?mg, ?mk, G98.fun_mk' ?FIl ?FIc ?FIk⟩
        (case mg => k_is)
        (case mk => refine' G98.Mk.of ?a ?m ?i ?k; (case a => k_is); (case m => k_is); (case i => k_is); (case k => k_is))
        (case FIl => k_is); (case FIc => k_is); (case FIk => k_is)
        (case cl => refine' G98.Cls.of ?pg ?hd ?po ?sa; (case pg => k_is); (case hd => k_is); (case po => k_is); (case sa => k_is))
        (case nM => refine' G98.NoAttr.of ?z; (case z => k_is))
        (case nL => refine' G98.NoAttr.of ?z; (case z => k_is))
        (case nK => refine' G98.NoAttr.of ?z; (case z => k_is))
        (case nC => refine' G98.NoAttr.of ?z; (case z => k_is))
      )
      (case m1 => refine' ⟨_, G98.MakerIs.of KX G ?a ?l ?c ?k ?hd ?lo⟩; (case a => k_is); (case l => k_is); (case c => k_is); (case k => k_is); (case hd => kernel_rfl); (case lo => kernel_rfl))
      (case m2 => refine' ⟨_, G98.MakerIs.of KX G ?a ?l ?c ?k ?hd ?lo⟩; (case a => k_is); (case l => k_is); (case c => k_is); (case k => k_is); (case hd => kernel_rfl); (case lo => kernel_rfl))
      (case law => refine' G98.FunIs.of KX G ?a ?l ?c ?k; (case a => k_is); (case l => k_is); (case c => k_is); (case k => k_is))

