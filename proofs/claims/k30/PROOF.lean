import PyProof.Rows.All
import Wide.All
import OpenK.AllK
import Wide.FinOn
import HandS.ForMost
import HandS.ForExc
import HandS.ExcInit
import HandS.TryOnly
import HandS.TupAny
import HandS.TupMul
import KE.KeyNested
import KE.KDictWalk
import PyProof.DictRoadsH
import PyProof.DictMoreH
import PyProof.DictTruth
import KE.KDictCopyH
import KE.DataCmp
import HandS.Deep
import HandS.CallSlots
import HandS.WordsDict
import PyProof.DictTable
import HandS.Style
import HandS.IsInst
import HandS.ExcField
import HandS.TryMany
import HandS.Iter
import HandS.DictComp
import KE.KDictPairs
import KE.DataMinMax
import HandS.Records
import KE.SortData
import HandS.Rev
import HandS.Zip
import HandS.Conv
import KE.KTryMore
import PyProof.P3Eq
import HandS.Defaults
import PySem.Challenge.RW_keptfiles_k30_code_refused
set_option Elab.async false
set_option linter.all false
set_option maxRecDepth 100000
set_option autoImplicit false
section
set_option maxHeartbeats 4000000
/-! Kf: a key of any kind is sought in a dict. -/
namespace Kf
open PySem PySem.Spec
/-- the entries' keys are ks, in their order -/
structure EnK (w : World) (h : Heap) (ks : List NestedKey) (es : Array DictEntry) : Prop where
  len : es.size = ks.length
  ent : ∀ (i : Nat) (k : NestedKey), ks[i]? = some k → ∃ e, es[i]? = some e ∧ e.hash = k.hash w ∧ NestedIs h k e.key ∧ k.depth ≤ 8
  nd : ks.Nodup
theorem nodup_at {α : Type} {l : List α} (h : l.Nodup) {i j : Nat} {x : α} (hi : l[i]? = some x) (hj : l[j]? = some x) : i = j :=
  (List.getElem?_inj (List.getElem?_eq_some_iff.mp hi).1 h).mp (hi.trans hj.symm)
section
variable {P : Program} {w : World} {A : Around} {E : Value → Shared → Prop} {s : Shared} {d : Addr} {o : Obj} {es : Array DictEntry} {ep : Nat} {ks : List NestedKey} {k : NestedKey} {u : Value}
theorem EnK.of {w : World} {h : Heap} (en : EnK w h ks es) {i : Nat} {e : DictEntry} (he : es[i]? = some e) : ∃ k, ks[i]? = some k ∧ e.hash = k.hash w ∧ NestedIs h k e.key ∧ k.depth ≤ 8 := by
  obtain ⟨hi, _⟩ := Array.getElem?_eq_some_iff.mp he
  rw [en.len] at hi
  obtain ⟨e', he', h1, h2, h3⟩ := en.ent i ks[i] (List.getElem?_eq_getElem hi)
  rw [he] at he'
  cases he'
  exact ⟨_, List.getElem?_eq_getElem hi, h1, h2, h3⟩
/-- e.key == u -/
theorem ask {k' : NestedKey} {u' : Value} {Q : Bool → Shared → Prop} (hu : A.units + 9 < cLine) (h' : NestedIs s.heap k' u') (hd' : k'.depth ≤ 8) (hk : NestedIs s.heap k u) (h : Q (NestedKey.beq k' k) s) : wpAny (model P w) A (eqBool u' u) Q E s :=
  eqAt_key k' k A s u' u h' hk (by omega) _ _ _ _ h
def plcs (w : World) (ks : List NestedKey) (k : NestedKey) : List Nat := (List.range ks.length).filter fun i => (ks[i]?.map (·.hash w)) == some (k.hash w)
theorem plcs_eq {h : Heap} (en : EnK w h ks es) : placesWithHash es.size (fun i => es[i]?.map (·.hash)) (k.hash w) = plcs w ks k := by
  unfold placesWithHash plcs
  rw [en.len]
  refine List.filter_congr fun i hi => ?_
  have hi : i < ks.length := by simpa using hi
  obtain ⟨e, he, h1, _⟩ := en.ent i ks[i] (List.getElem?_eq_getElem hi)
  show ((es[i]?.map (·.hash)) == _) = _
  rw [he, List.getElem?_eq_getElem hi]
  simp [h1]
theorem plcs_nodup : (plcs w ks k).Nodup := List.nodup_range.sublist List.filter_sublist
theorem plcs_mem {j : Nat} (h : ks[j]? = some k) : j ∈ plcs w ks k := by
  have hj := (List.getElem?_eq_some_iff.mp h).1
  have e := List.getElem?_eq_getElem hj
  rw [h] at e
  have e' : ks[j] = k := (Option.some.inj e).symm
  simp [plcs, hj, e']
theorem plcs_get {j : Nat} (h : j ∈ plcs w ks k) : ∃ k', ks[j]? = some k' ∧ k'.hash w = k.hash w := by
  simp only [plcs, List.mem_filter, List.mem_range] at h
  obtain ⟨h1, h2⟩ := h
  refine ⟨ks[j], List.getElem?_eq_getElem h1, ?_⟩
  rw [List.getElem?_eq_getElem h1] at h2
  simpa using h2
theorem beq_true {a b : NestedKey} (h : NestedKey.beq a b = true) : a = b := NestedKey.eq_of_beq a b h
theorem not_in (h : ∀ j ∈ plcs w ks k, ks[j]? ≠ some k) : k ∉ ks := fun m => by
  obtain ⟨j, hj⟩ := List.mem_iff_getElem?.mp m
  exact h j (plcs_mem hj) hj
/-- keys that are carried by value -/
theorem walkPlain_ok {Q : Option Nat → Shared → Prop} (hu : A.units + 9 < cLine) (hk : NestedIs s.heap k u) (ho : s.heap.get? d = some o) (hdat : o.data = .dict es ep) (en : EnK w s.heap ks es)
    (hnone : k ∉ ks → Q none s) (hsome : ∀ j, ks[j]? = some k → Q (some j) s) : wpAny (model P w) A (dictWalkPlain d u (k.hash w) es (plcs w ks k)) Q E s := by
  unfold dictWalkPlain
  refine wpAny_bind ?_
  refine wpAny_forIn_list _ (fun rest b s' => s' = s ∧ b = (none, ()) ∧ ∃ pre, plcs w ks k = pre ++ rest ∧ ∀ j ∈ pre, ks[j]? ≠ some k) _ ?_ ?_ _ _ ⟨rfl, rfl, [], rfl, fun _ z => nomatch z⟩
  · rintro x rest b s' ⟨rfl, rfl, pre, hp, hn⟩
    obtain ⟨k', hk', hh⟩ := plcs_get (w := w) (ks := ks) (k := k) (j := x) (by rw [hp]; simp)
    obtain ⟨e, he, h1, h2, h3⟩ := en.ent x k' hk'
    rw [he]
    dsimp only
    rw [if_pos (by rw [h1, hh]; simp)]
    refine wpAny_bind (wpAny_dictEpoch ho hdat (wpAny_bind (ask hu h2 h3 hk (wpAny_bind (wpAny_dictEpoch ho hdat ?_)))))
    show wpAny _ _ (if (ep != ep) = true then _ else _) _ E _
    rw [if_neg (by simp)]
    have next : ks[x]? ≠ some k → ∃ pre', plcs w ks k = pre' ++ rest ∧ ∀ j ∈ pre', ks[j]? ≠ some k := fun hx => ⟨pre ++ [x], by simp [hp], fun j hj => by
      rcases List.mem_append.mp hj with q | q
      · exact hn j q
      · obtain rfl : j = x := by simpa using q
        exact hx⟩
    cases hb : NestedKey.beq k' k with
    | true =>
      have := beq_true hb
      subst this
      try refine wpAny_bind (wpAny_pure ?_)
      simp only [if_true]
      refine wpAny_bind (wpAny_rule ?_)
      exact wpAny_pure (wpAny_pure (hsome x hk'))
    | false =>
      try refine wpAny_bind (wpAny_pure ?_)
      simp only [Bool.false_eq_true, if_false]
      refine wpAny_bind (wpAny_rule ?_)
      refine wpAny_pure ⟨rfl, rfl, next fun z => ?_⟩
      rw [hk'] at z
      cases z
      rw [NestedKey.beq_self] at hb
      cases hb
  · rintro b s' ⟨rfl, rfl, pre, hp, hn⟩
    rw [List.append_nil] at hp
    subst hp
    exact wpAny_pure (hnone (not_in hn))
/-- all are texts -/
theorem byValue_ok {x : Str} {t : Tok} {Q : Option Nat → Shared → Prop} (hu : A.units + 9 < cLine) (hk : NestedIs s.heap k (.str x t)) (ho : s.heap.get? d = some o) (hdat : o.data = .dict es ep) (en : EnK w s.heap ks es)
    (hnone : k ∉ ks → Q none s) (hsome : ∀ j, ks[j]? = some k → Q (some j) s) : wpAny (model P w) A (foundByValue d (.str x t) es x) Q E s := by
  cases hk
  unfold foundByValue
  cases hf : es.findIdx? (fun e => e.key.isStr x) with
  | none =>
    dsimp only
    refine wpAny_pure (hnone fun m => ?_)
    obtain ⟨j, hj⟩ := List.mem_iff_getElem?.mp m
    obtain ⟨e, he, _, h2, _⟩ := en.ent j _ hj
    have hin : e ∈ es := Array.mem_of_getElem? he
    have := (Array.findIdx?_eq_none_iff.mp hf) e hin
    cases h3 : e.key with
    | str y t' =>
      rw [h3] at h2 this
      cases h2
      simp [Value.isStr] at this
    | _ => rw [h3] at h2; cases h2
  | some i =>
    dsimp only
    obtain ⟨hi, hp, _⟩ := Array.findIdx?_eq_some_iff_getElem.mp hf
    rw [show es[i]? = some es[i] from Array.getElem?_eq_getElem hi]
    dsimp only
    obtain ⟨k', hk', h1, h2, h3⟩ := en.of (i := i) (Array.getElem?_eq_getElem hi)
    have ek : k' = .text x := by
      cases h4 : es[i].key with
      | str y t' =>
        rw [h4] at h2 hp
        have : y = x := by simpa [Value.isStr] using hp
        subst this
        cases h2
        rfl
      | _ => rw [h4] at hp; simp [Value.isStr] at hp
    subst ek
    refine wpAny_bind (wpAny_dictEpoch ho hdat (wpAny_bind (ask hu h2 h3 (.text x t) (wpAny_bind (wpAny_dictEpoch ho hdat ?_)))))
    show wpAny _ _ (if (ep != ep) = true then _ else _) _ E _
    rw [if_neg (by simp), NestedKey.beq_self]
    try refine wpAny_bind (wpAny_pure ?_)
    simp only [if_true]
    refine wpAny_bind (wpAny_rule ?_)
    exact wpAny_pure (hsome i hk')
theorem mayTell_ok {stored : List Value} {Q : Bool → Shared → Prop} (hk : NestedIs s.heap k u) (hd : k.depth ≤ 8) (hst : ∀ v ∈ stored, ∃ k', NestedIs s.heap k' v ∧ k'.depth ≤ 8) (h : Q false s) : wpAny (model P w) A (tableMayTell u stored) Q E s := by
  unfold tableMayTell
  split
  · exact wpAny_pure h
  · refine wpAny_bind (quiet_key k u 8 s hk hd A E _ ?_)
    simp only [Bool.not_true, Bool.false_eq_true, if_false]
    refine wpAny_bind ?_
    refine wpAny_forIn_list _ (fun rest r s' => s' = s ∧ r = (none, ()) ∧ ∀ v ∈ rest, ∃ k', NestedIs s.heap k' v ∧ k'.depth ≤ 8) _ ?_ ?_ _ _ ⟨rfl, rfl, hst⟩
    · rintro x rest r s' ⟨rfl, rfl, hr⟩
      obtain ⟨k', hb, hd'⟩ := hr x List.mem_cons_self
      refine wpAny_bind (quiet_key k' x 8 s' hb hd' A E _ ?_)
      simp only [Bool.not_true, Bool.false_eq_true, if_false]
      exact wpAny_pure ⟨rfl, rfl, fun v hv => hr v (List.mem_cons_of_mem _ hv)⟩
    · rintro r s' ⟨rfl, rfl, _⟩
      exact wpAny_pure h
theorem find_ok {Q : Option Nat → Shared → Prop} (hu : A.units + 9 < cLine) (hk : NestedIs s.heap k u) (hd : k.depth ≤ 8) (ho : s.heap.get? d = some o) (hdat : o.data = .dict es ep) (en : EnK w s.heap ks es)
    (hnone : k ∉ ks → Q none s) (hsome : ∀ j, ks[j]? = some k → Q (some j) s) : wpAny (model P w) A (dictFind d u (k.hash w)) Q E s := by
  unfold dictFind
  try with_reducible refine wpAny_holding ?_
  refine wpAny_bind (wpAny_dictEntries ho hdat ?_)
  dsimp only
  rw [plcs_eq en]
  have stored : ∀ v ∈ (plcs w ks k).filterMap (fun i => es[i]?.map (·.key)), ∃ k', NestedIs s.heap k' v ∧ k'.depth ≤ 8 := fun v hv => by
    obtain ⟨i, _, hi⟩ := List.mem_filterMap.mp hv
    cases he : es[i]? with
    | none => rw [he] at hi; cases hi
    | some e =>
      rw [he] at hi
      cases hi
      obtain ⟨k', _, _, h2, h3⟩ := en.of he
      exact ⟨k', h2, h3⟩
  have inv0 : ∃ hit, ((none, none) : Option (Option Nat) × Option Nat) = (none, hit) ∧ ∃ pre, plcs w ks k = pre ++ plcs w ks k ∧ ((hit = none ∧ ∀ j ∈ pre, ks[j]? ≠ some k) ∨ ∃ j, hit = some j ∧ ks[j]? = some k ∧ j ∉ plcs w ks k) := ⟨none, rfl, [], rfl, .inl ⟨rfl, fun _ z => nomatch z⟩⟩
  have hpl := fun (Q' : Option Nat → Shared → Prop) h1 h2 => walkPlain_ok (P := P) (A := A) (E := E) (Q := Q') hu hk ho hdat en h1 h2
  have hmt := fun (Q' : Bool → Shared → Prop) h1 => mayTell_ok (P := P) (w := w) (A := A) (E := E) (Q := Q') hk hd stored h1
  have hany : ¬ (es.any fun e => e.key == u && e.hash != k.hash w) = true := by
    rw [← Array.any_toList, List.any_eq_true]
    rintro ⟨e, hin, hc⟩
    obtain ⟨i, hi⟩ := Array.getElem?_of_mem (Array.mem_toList_iff.mp hin)
    obtain ⟨k', hk', h1, h2, _⟩ := en.of hi
    simp only [Bool.and_eq_true, beq_iff_eq, bne_iff_ne, ne_eq] at hc
    rw [hc.1] at h2
    exact hc.2 (by rw [h1, NestedIs.inj k' k _ h2 hk])
  have hbv := fun (Q' : Option Nat → Shared → Prop) (x : Str) (t : Tok) (hk : NestedIs s.heap k (.str x t)) h1 h2 => byValue_ok (P := P) (A := A) (E := E) (Q := Q') hu hk ho hdat en h1 h2
  by_cases hone : (((plcs w ks k).filterMap (fun i => es[i]?.map (·.key))) == [u]) = true
  all_goals by_cases hall : ((u :: (plcs w ks k).filterMap (fun i => es[i]?.map (·.key))).all carriedByValue) = true
  all_goals by_cases hes : (es.all fun e => isExactStrKey e.key) = true
  all_goals cases hu0 : u
  all_goals (try (subst hu0; cases hk; done))
  all_goals (subst hu0; dsimp only)
  all_goals first
    | rw [if_pos hall]
    | rw [if_neg hall]
  all_goals try rw [if_pos hes]
  all_goals try rw [if_neg hes]
  all_goals try (with_reducible exact hbv _ _ _ hk hnone hsome)
  all_goals try (with_reducible exact hpl _ hnone hsome)
  all_goals try rw [if_neg hany]
  all_goals first
    | (rw [if_pos hone]; refine wpAny_bind (wpAny_pure ?_); rw [if_neg (by simp)])
    | (rw [if_neg hone]; refine wpAny_bind (hmt _ ?_); rw [if_neg (by simp)])
  all_goals (
    refine wpAny_bind ?_
    refine wpAny_forIn_list _ (fun rest b s' => s' = s ∧ ∃ hit, b = (none, hit) ∧ ∃ pre, plcs w ks k = pre ++ rest ∧ ((hit = none ∧ ∀ j ∈ pre, ks[j]? ≠ some k) ∨ ∃ j, hit = some j ∧ ks[j]? = some k ∧ j ∉ rest)) _ ?_ ?_ _ _ ⟨rfl, inv0⟩
    · rintro x rest b s' ⟨rfl, hit, rfl, pre, hp, hn⟩
      obtain ⟨k', hk', hh⟩ := plcs_get (w := w) (ks := ks) (k := k) (j := x) (by rw [hp]; simp)
      obtain ⟨e, he, h1, h2, h3⟩ := en.ent x k' hk'
      rw [he]
      dsimp only
      rw [if_pos (by rw [h1, hh]; simp)]
      refine wpAny_bind (wpAny_dictEpoch ho hdat (wpAny_bind (ask hu h2 h3 hk (wpAny_bind (wpAny_dictEpoch ho hdat ?_)))))
      show wpAny _ _ (if (ep != ep) = true then _ else _) _ E _
      rw [if_neg (by simp)]
      have hx0 : x ∉ rest := fun z => by
        have nd := plcs_nodup (w := w) (ks := ks) (k := k)
        rw [hp, List.nodup_append] at nd
        exact (List.nodup_cons.mp nd.2.1).1 z
      cases hb : NestedKey.beq k' k with
      | true =>
        have := beq_true hb
        subst this
        rcases hn with ⟨rfl, hn⟩ | ⟨j, rfl, hj, hr⟩
        · try refine wpAny_bind (wpAny_pure ?_)
          simp only [if_true, Option.isSome_none, Bool.false_eq_true, if_false]
          refine wpAny_bind (wpAny_rule ?_)
          split
          · exact wpAny_pure (wpAny_pure (hsome x hk'))
          · exact wpAny_pure ⟨rfl, some x, rfl, pre ++ [x], by simp [hp], .inr ⟨x, rfl, hk', hx0⟩⟩
        · have e2 := nodup_at en.nd hj hk'
          exact absurd (by rw [e2]; simp) hr
      | false =>
        have ne : ks[x]? ≠ some k := fun z => by
          rw [hk'] at z
          cases z
          rw [NestedKey.beq_self] at hb
          cases hb
        try refine wpAny_bind (wpAny_pure ?_)
        simp only [Bool.false_eq_true, if_false]
        refine wpAny_bind (wpAny_rule ?_)
        simp only [Bool.false_and, Bool.false_eq_true, if_false]
        refine wpAny_pure ⟨rfl, hit, rfl, pre ++ [x], by simp [hp], ?_⟩
        rcases hn with ⟨rfl, hn⟩ | ⟨j, rfl, hj, hr⟩
        · refine .inl ⟨rfl, fun j hj => ?_⟩
          rcases List.mem_append.mp hj with q | q
          · exact hn j q
          · obtain rfl : j = x := by simpa using q
            exact ne
        · exact .inr ⟨j, rfl, hj, fun z => hr (List.mem_cons_of_mem _ z)⟩
    · rintro b s' ⟨rfl, hit, rfl, pre, hp, hn⟩
      rw [List.append_nil] at hp
      subst hp
      rcases hn with ⟨rfl, hn⟩ | ⟨j, rfl, hj, _⟩
      · exact wpAny_pure (hnone (not_in hn))
      · exact wpAny_pure (hsome j hj))
end
end Kf
end
section
set_option maxHeartbeats 4000000
/-! Kf: what is asked of a dict and done to it, whatever its keys. -/
namespace Kf
open PySem PySem.Spec
/-- an entry: what its key is, the key's own value, the value -/
abbrev XEnt := NestedKey × Value × Value
def entX (w : World) (x : XEnt) : DictEntry := ⟨x.1.hash w, x.2.1, x.2.2⟩
structure DAt (w : World) (h : Heap) (a : Addr) (xs : List XEnt) : Prop where
  ex : ∃ o ep, h.get? a = some o ∧ o.ExactDict ∧ o.data = .dict (xs.map (entX w)).toArray ep
  nd : (xs.map (·.1)).Nodup
  ks : ∀ x ∈ xs, NestedIs h x.1 x.2.1 ∧ x.1.depth ≤ 8
def vAt (xs : List XEnt) (k : NestedKey) : Option Value := (xs.find? fun x => decide (x.1 = k)).map (·.2.2)
def vPut (xs : List XEnt) (k : NestedKey) (u v : Value) : List XEnt := if (xs.any fun x => decide (x.1 = k)) = true then xs.map (fun x => if x.1 = k then (x.1, x.2.1, v) else x) else xs ++ [(k, u, v)]
def vDrop (xs : List XEnt) (k : NestedKey) : List XEnt := xs.filter fun x => decide (x.1 ≠ k)
theorem vAt_none {xs : List XEnt} {k : NestedKey} (h : k ∉ xs.map (·.1)) : vAt xs k = none := by
  unfold vAt
  rw [Option.map_eq_none_iff, List.find?_eq_none]
  intro x hx z
  exact h (List.mem_map.mpr ⟨x, hx, of_decide_eq_true z⟩)
theorem vAny_none {xs : List XEnt} {k : NestedKey} (h : k ∉ xs.map (·.1)) : ¬ (xs.any fun x => decide (x.1 = k)) = true := by
  rw [List.any_eq_true]
  rintro ⟨x, hx, z⟩
  exact h (List.mem_map.mpr ⟨x, hx, of_decide_eq_true z⟩)
theorem at_key {xs : List XEnt} {k : NestedKey} {j : Nat} (h : (xs.map (·.1))[j]? = some k) : ∃ u v, xs[j]? = some (k, u, v) := by
  rw [List.getElem?_map] at h
  obtain ⟨x, hx, e⟩ := Option.map_eq_some_iff.mp h
  subst e
  exact ⟨x.2.1, x.2.2, hx⟩
theorem vAny_some {xs : List XEnt} {k : NestedKey} {j : Nat} (h : (xs.map (·.1))[j]? = some k) : (xs.any fun x => decide (x.1 = k)) = true := by
  obtain ⟨u, v, hx⟩ := at_key h
  exact List.any_eq_true.mpr ⟨_, List.mem_of_getElem? hx, decide_eq_true rfl⟩
theorem vAt_some : ∀ {xs : List XEnt} {k : NestedKey} {u v : Value} {j : Nat}, (xs.map (·.1)).Nodup → xs[j]? = some (k, u, v) → vAt xs k = some v
  | [], _, _, _, _, _, h => by simp at h
  | x :: xs, k, u, v, 0, _, h => by
    simp at h
    subst h
    simp [vAt]
  | x :: xs, k, u, v, j + 1, nd, h => by
    simp only [List.map_cons, List.nodup_cons] at nd
    simp at h
    have ne : ¬ x.1 = k := fun e => nd.1 (List.mem_map.mpr ⟨_, List.mem_of_getElem? h, e.symm⟩)
    have := vAt_some nd.2 h
    simpa [vAt, List.find?_cons, ne] using this
theorem map_same : ∀ {xs : List XEnt} {k : NestedKey} (v : Value), k ∉ xs.map (·.1) → xs.map (fun x => if x.1 = k then (x.1, x.2.1, v) else x) = xs
  | [], _, _, _ => rfl
  | x :: xs, k, v, h => by
    simp only [List.map_cons, List.mem_cons, not_or] at h
    rw [List.map_cons, if_neg (fun e => h.1 e.symm), map_same v h.2]
theorem modify_put (w : World) (k : NestedKey) (v : Value) : ∀ {xs : List XEnt} {j : Nat} {u v0 : Value}, (xs.map (·.1)).Nodup → xs[j]? = some (k, u, v0) →
    (xs.map (entX w)).modify j (fun e => { e with val := v }) = (xs.map (fun x => if x.1 = k then (x.1, x.2.1, v) else x)).map (entX w)
  | [], _, _, _, _, h => by simp at h
  | x :: xs, 0, u, v0, nd, h => by
    simp only [List.map_cons, List.nodup_cons] at nd
    simp at h
    subst h
    simp [map_same v nd.1, entX]
  | x :: xs, j + 1, u, v0, nd, h => by
    simp only [List.map_cons, List.nodup_cons] at nd
    simp at h
    have ne : ¬ x.1 = k := fun e => nd.1 (List.mem_map.mpr ⟨_, List.mem_of_getElem? h, e.symm⟩)
    simp only [List.map_cons, if_neg ne, List.modify_succ_cons, modify_put w k v nd.2 h]
theorem erase_drop : ∀ {xs : List XEnt} {j : Nat} {k : NestedKey} {u v : Value}, (xs.map (·.1)).Nodup → xs[j]? = some (k, u, v) → xs.eraseIdx j = vDrop xs k
  | [], _, _, _, _, _, h => by simp at h
  | x :: xs, 0, k, u, v, nd, h => by
    simp only [List.map_cons, List.nodup_cons] at nd
    simp at h
    subst h
    have : vDrop xs k = xs := List.filter_eq_self.mpr fun x hx => by
      have : x.1 ≠ k := fun e => nd.1 (List.mem_map.mpr ⟨x, hx, e⟩)
      simpa using this
    show xs = List.filter _ ((k, u, v) :: xs)
    rw [List.filter_cons, if_neg (by simp)]
    exact this.symm
  | x :: xs, j + 1, k, u, v, nd, h => by
    simp only [List.map_cons, List.nodup_cons] at nd
    simp at h
    have ne : x.1 ≠ k := fun e => nd.1 (List.mem_map.mpr ⟨_, List.mem_of_getElem? h, e.symm⟩)
    show x :: xs.eraseIdx j = List.filter _ (x :: xs)
    rw [List.filter_cons, if_pos (by simpa using ne), erase_drop nd.2 h]
    rfl
section
variable {P : Program} {w : World} {A : Around} {E : Value → Shared → Prop} {s : Shared} {a : Addr} {xs : List XEnt} {k : NestedKey} {u v : Value}
theorem DAt.typeIs (d : DAt w s.heap a xs) : s.TypeIs (.ref a) "dict" := let ⟨o, _, ho, hc, _⟩ := d.ex; ⟨o, ho, hc.1⟩
theorem DAt.enk {h : Heap} (d : DAt w h a xs) : EnK w h (xs.map (·.1)) (xs.map (entX w)).toArray where
  len := by simp
  ent := fun i k hk => by
    obtain ⟨u, v, hx⟩ := at_key hk
    obtain ⟨h1, h2⟩ := d.ks _ (List.mem_of_getElem? hx)
    exact ⟨entX w (k, u, v), by simp [hx], rfl, h1, h2⟩
  nd := d.nd
/-- keys stay keys while the tuples stay -/
theorem keep_key {h h' : Heap} {o : Obj} {es : Array DictEntry} {ep : Nat} (ho : h.get? a = some o) (hd : o.data = .dict es ep) (sb : Heap.SameBut a h h') {k : NestedKey} {u : Value} (x : NestedIs h k u) : NestedIs h' k u :=
  NestedIs.at (fun b ob vs n hb hc => by
    refine (sb.2 b fun e => ?_).trans hb
    subst e
    rw [ho] at hb
    cases hb
    rw [hd] at hc
    cases hc) k u x
theorem dictGet_ok {Q : Option Value → Shared → Prop} (hu : A.units + 9 < cLine) (hk : NestedIs s.heap k u) (hd : k.depth ≤ 8) (d : DAt w s.heap a xs) (h : ∀ tk, Q (vAt xs k) { s with toks := tk }) : wpAny (model P w) A (dictGet a u) Q E s := by
  obtain ⟨o, ep, ho, hc, hdat⟩ := d.ex
  unfold dictGet
  try with_reducible refine wpAny_holding ?_
  refine wpAny_bind (pyHash_key k u A s _ hk (by omega) (wpAny_bind (find_ok (s := { s with toks := s.toks + k.draws }) hu hk hd ho hdat d.enk ?_ ?_)))
  · intro hn
    have := h (s.toks + k.draws)
    rw [vAt_none hn] at this
    exact wpAny_pure this
  · intro j hj
    obtain ⟨u0, v0, hx⟩ := at_key hj
    have := h (s.toks + k.draws)
    rw [vAt_some d.nd hx] at this
    refine wpAny_bind (wpAny_dictEntries (s := { s with toks := s.toks + k.draws }) ho hdat ?_)
    rw [show (xs.map (entX w)).toArray[j]? = some (entX w (k, u0, v0)) by simp [hx]]
    exact wpAny_pure this
theorem DAt.put {h' : Heap} (d : DAt w s.heap a xs) (sb : Heap.SameBut a s.heap h') (hk : NestedIs s.heap k u) (hd : k.depth ≤ 8) (e : ∃ o ep, h'.get? a = some o ∧ o.ExactDict ∧ o.data = .dict ((vPut xs k u v).map (entX w)).toArray ep) : DAt w h' a (vPut xs k u v) := by
  obtain ⟨o, ep, ho, hc, hdat⟩ := d.ex
  refine ⟨e, ?_, ?_⟩
  · unfold vPut
    split
    · have : (xs.map (fun x => if x.1 = k then (x.1, x.2.1, v) else x)).map (·.1) = xs.map (·.1) := by
        rw [List.map_map]
        refine List.map_congr_left fun x _ => ?_
        simp only [Function.comp]
        split <;> rfl
      rw [this]
      exact d.nd
    · rename_i hn
      rw [List.map_append, List.nodup_append]
      refine ⟨d.nd, by simp, ?_⟩
      rintro x hx y hy rfl
      obtain ⟨z, hz, e1⟩ := List.mem_map.mp hx
      obtain rfl : x = k := by simpa using hy
      exact hn (List.any_eq_true.mpr ⟨z, hz, decide_eq_true e1⟩)
  · unfold vPut
    intro x hx
    split at hx
    · obtain ⟨y, hy, rfl⟩ := List.mem_map.mp hx
      obtain ⟨h1, h2⟩ := d.ks y hy
      have h1 := keep_key ho hdat sb h1
      split <;> exact ⟨h1, h2⟩
    · rcases List.mem_append.mp hx with hx | hx
      · obtain ⟨h1, h2⟩ := d.ks x hx
        exact ⟨keep_key ho hdat sb h1, h2⟩
      · simp only [List.mem_singleton] at hx
        subst hx
        exact ⟨keep_key ho hdat sb hk, hd⟩
theorem dictSet_ok {Q : Unit → Shared → Prop} (hu : A.units + 9 < cLine) (hk : NestedIs s.heap k u) (hd : k.depth ≤ 8) (d : DAt w s.heap a xs) (hsz : xs.length ≤ sizeLine)
    (h : ∀ h' tk, DAt w h' a (vPut xs k u v) → Heap.SameBut a s.heap h' → Q () { s with heap := h', toks := tk }) : wpAny (model P w) A (dictSet a u v) Q E s := by
  obtain ⟨o, ep, ho, hc, hdat⟩ := d.ex
  unfold dictSet
  try with_reducible refine wpAny_holding ?_
  refine wpAny_bind (pyHash_key k u A s _ hk (by omega) ?_)
  unfold dictSetHashed
  try with_reducible refine wpAny_holding ?_
  refine wpAny_bind (find_ok (s := { s with toks := s.toks + k.draws }) hu hk hd ho hdat d.enk ?_ ?_)
  · intro hn
    refine wpAny_bind (wpAny_rule (wpAny_updateDictKeys (hz := by simpa using hsz) (s := { s with toks := s.toks + k.draws }) ho hdat (h _ _ (d.put (Heap.SameBut.update ..) hk hd
      ⟨_, ep + 1, Heap.get?_update_self _ ho (Obj.isFreed_of_dict (Obj.data_mapDictKeys hdat _)), hc.mapDictKeys _, ?_⟩) (Heap.SameBut.update ..))))
    rw [Obj.data_mapDictKeys hdat _]
    unfold vPut
    rw [if_neg (vAny_none hn)]
    simp [entX]
  · intro j hj
    obtain ⟨u0, v0, hx⟩ := at_key hj
    refine wpAny_bind (wpAny_rule (wpAny_bind (wpAny_updateDict (s := { s with toks := s.toks + k.draws }) ho hdat (wpAny_point (h _ _ (d.put (Heap.SameBut.update ..) hk hd
      ⟨_, ep, Heap.get?_update_self _ ho (Obj.isFreed_of_dict (Obj.data_mapDict hdat _)), hc.mapDict _, ?_⟩) (Heap.SameBut.update ..))))))
    rw [Obj.data_mapDict hdat _]
    unfold vPut
    rw [if_pos (vAny_some hj), ← modify_put w k v d.nd hx]
    simp
theorem takeOut_ok {Q : Option DictEntry → Shared → Prop} (hu : A.units + 9 < cLine) (hk : NestedIs s.heap k u) (hd : k.depth ≤ 8) (d : DAt w s.heap a xs) (hsz : xs.length ≤ sizeLine)
    (hnone : vAt xs k = none → ∀ tk, Q none { s with toks := tk })
    (hsome : ∀ e v, vAt xs k = some v → e.val = v → ∀ h' tk, DAt w h' a (vDrop xs k) → Heap.SameBut a s.heap h' → Q (some e) { s with heap := h', toks := tk }) : wpAny (model P w) A (Builtin.Dict.takeOut a u) Q E s := by
  obtain ⟨o, ep, ho, hc, hdat⟩ := d.ex
  unfold Builtin.Dict.takeOut
  try with_reducible refine wpAny_holding ?_
  refine wpAny_bind (pyHash_key k u A s _ hk (by omega) ?_)
  refine wpAny_bind (find_ok (s := { s with toks := s.toks + k.draws }) hu hk hd ho hdat d.enk ?_ ?_)
  · intro hn
    exact wpAny_pure (hnone (vAt_none hn) _)
  · intro j hj
    obtain ⟨u0, v0, hx⟩ := at_key hj
    refine wpAny_bind (wpAny_dictEntries (s := { s with toks := s.toks + k.draws }) ho hdat ?_)
    rw [show (xs.map (entX w)).toArray[j]? = some (entX w (k, u0, v0)) by simp [hx]]
    refine wpAny_bind (wpAny_updateDictKeys (hz := by simpa using hsz) (s := { s with toks := s.toks + k.draws }) ho hdat (wpAny_pure (hsome _ v0 (vAt_some d.nd hx) rfl _ _ ⟨⟨_, ep + 1, Heap.get?_update_self _ ho (Obj.isFreed_of_dict (Obj.data_mapDictKeys hdat _)), hc.mapDictKeys _, ?_⟩, ?_, ?_⟩ (Heap.SameBut.update ..))))
    · rw [Obj.data_mapDictKeys hdat _, ← erase_drop d.nd hx, map_eraseIdx]
      simp
    · exact List.Nodup.sublist (List.Sublist.map _ List.filter_sublist) d.nd
    · intro x hx
      obtain ⟨h1, h2⟩ := d.ks x (List.mem_filter.mp hx).1
      exact ⟨keep_key ho hdat (Heap.SameBut.update ..) h1, h2⟩
/-! ### the words -/
theorem getItem_ok {Q : Value → Shared → Prop} (hu : A.units + 10 < cLine) (hk : NestedIs s.heap k u) (hd : k.depth ≤ 8) (d : DAt w s.heap a xs) (hv : vAt xs k = some v) (h : ∀ tk, Q v { s with toks := tk }) : wpAny (model P w) A (getItem (.ref a) u) Q E s := by
  unfold getItem
  try with_reducible refine wpAny_holding ?_
  refine wpAny_bind (wpAny_sequenceKey d.typeIs (by decide) ?_)
  refine wpAny_bind (wpAny_callSpecial?_slot (name := Str.ofString "__getitem__") d.typeIs slot_dict_getitem
    (wpAny_call_entry slot_dict_getitem d.typeIs entry_dict_getitem ?_ (args_dict_getitem _ _)))
  show wpAny _ _ (dictGet a u >>= _) _ _ s
  refine wpAny_bind (dictGet_ok (by simp only [Around.in1_units]; omega) hk hd d fun tk => ?_)
  rw [hv]
  exact wpAny_pure ⟨v, rfl, wpAny_pure (h tk)⟩
theorem contains_ok {Q : Bool → Shared → Prop} (hu : A.units + 10 < cLine) (hk : NestedIs s.heap k u) (hd : k.depth ≤ 8) (hs : (a == sysModules) = false) (d : DAt w s.heap a xs) (h : ∀ tk, Q (vAt xs k).isSome { s with toks := tk }) : wpAny (model P w) A (contains (.ref a) u) Q E s := by
  unfold contains
  try with_reducible refine wpAny_holding ?_
  refine wpAny_bind (wpAny_specialOf d.typeIs slot_dict_contains.lookup ?_)
  show wpAny _ _ (if (some (Value.builtin "dict.__contains__") == some Value.none) = true then _ else _) _ E s
  rw [if_neg (by rw [beq_builtin_none]; exact Bool.false_ne_true)]
  refine wpAny_bind (wpAny_callSpecialUnlessNone?_slot (name := Str.ofString "__contains__") d.typeIs slot_dict_contains
    (wpAny_call_entry slot_dict_contains d.typeIs entry_dict_contains ?_ (args_dict_contains _ _)))
  show wpAny _ _ (dictGet a u >>= _) _ _ s
  refine wpAny_bind (dictGet_ok (by simp only [Around.in1_units]; omega) hk hd d fun tk => ?_)
  have h := h tk
  cases hf : vAt xs k with
  | some p =>
    rw [hf] at h
    show wpAny _ _ (ret (.bool true)) _ _ _
    exact wpAny_pure ⟨_, rfl, wpAny_truthy_bool h⟩
  | none =>
    rw [hf] at h
    show wpAny _ _ (Builtin.Dict.pendingKey? a u >>= _) _ _ _
    exact wpAny_bind (wpAny_pendingKey_other hs (wpAny_pure ⟨_, rfl, wpAny_truthy_bool h⟩))
theorem in_ok {Q : Value → Shared → Prop} (hu : A.units + 10 < cLine) (hk : NestedIs s.heap k u) (hd : k.depth ≤ 8) (hs : (a == sysModules) = false) (d : DAt w s.heap a xs) (h : ∀ tk, Q (.bool (vAt xs k).isSome) { s with toks := tk }) : wpAny (model P w) A (compareOp .In u (.ref a)) Q E s := by
  show wpAny _ _ (do return .bool (← contains (.ref a) u)) Q E s
  exact wpAny_bind (contains_ok hu hk hd hs d fun tk => wpAny_pure (h tk))
theorem notIn_ok {Q : Value → Shared → Prop} (hu : A.units + 10 < cLine) (hk : NestedIs s.heap k u) (hd : k.depth ≤ 8) (hs : (a == sysModules) = false) (d : DAt w s.heap a xs) (h : ∀ tk, Q (.bool (!(vAt xs k).isSome)) { s with toks := tk }) : wpAny (model P w) A (compareOp .NotIn u (.ref a)) Q E s := by
  show wpAny _ _ (do return .bool (!(← contains (.ref a) u))) Q E s
  exact wpAny_bind (contains_ok hu hk hd hs d fun tk => wpAny_pure (h tk))
theorem setItem_ok {Q : Unit → Shared → Prop} (hu : A.units + 10 < cLine) (hk : NestedIs s.heap k u) (hd : k.depth ≤ 8) (d : DAt w s.heap a xs) (hsz : xs.length ≤ sizeLine)
    (h : ∀ h' tk, DAt w h' a (vPut xs k u v) → Heap.SameBut a s.heap h' → Q () { s with heap := h', toks := tk }) : wpAny (model P w) A (setItem (.ref a) u v) Q E s := by
  unfold setItem
  try with_reducible refine wpAny_holding ?_
  refine wpAny_bind (wpAny_sequenceKey d.typeIs (by decide) ?_)
  refine wpAny_bind (wpAny_callSpecial?_slot (name := Str.ofString "__setitem__") d.typeIs slot_dict_setitem
    (wpAny_call_entry slot_dict_setitem d.typeIs entry_dict_setitem ?_ (args_dict_setitem _ _ _)))
  show wpAny _ _ (Builtin.Dict.notOrdered "__setitem__" ⟨[.ref a, u, v], []⟩ >>= _) _ _ s
  refine wpAny_bind (wpAny_notOrdered_dict d.typeIs ?_)
  show wpAny _ _ (dictSet a u v >>= _) _ _ s
  exact wpAny_bind (dictSet_ok (by simp only [Around.in1_units]; omega) hk hd d hsz fun h' tk hm' hs' => wpAny_pure ⟨.none, rfl, wpAny_pure (h h' tk hm' hs')⟩)
theorem get1_meets (hs : (a == sysModules) = false) : MeetsIn P w (Builtin.«dict.get» ⟨[.ref a, u], []⟩) (fun A R s => A.units + 10 < cLine ∧ NestedIs s.heap k u ∧ k.depth ≤ 8 ∧ DAt w s.heap a xs ∧ ∀ tk, R (.ok (.ret ((vAt xs k).getD .none))) { s with toks := tk }) :=
  .of_wp fun A R s ⟨hu, hk, hd, d, h⟩ => by
    show wpAny _ _ (dictGet a u >>= _) _ _ s
    refine wpAny_bind (dictGet_ok (by simp only [Around.in1_units]; omega) hk hd d fun tk => ?_)
    have h := h tk
    cases hf : vAt xs k with
    | some v =>
      rw [hf] at h
      exact wpAny_pure ⟨v, rfl, h⟩
    | none =>
      rw [hf] at h
      show wpAny _ _ (Builtin.Dict.missed a u >>= _) _ _ _
      exact wpAny_bind (wpAny_missed_other hs (wpAny_pure ⟨.none, rfl, h⟩))
theorem get2_meets {z : Value} (hs : (a == sysModules) = false) : MeetsIn P w (Builtin.«dict.get» ⟨[.ref a, u, z], []⟩) (fun A R s => A.units + 10 < cLine ∧ NestedIs s.heap k u ∧ k.depth ≤ 8 ∧ DAt w s.heap a xs ∧ ∀ tk, R (.ok (.ret ((vAt xs k).getD z))) { s with toks := tk }) :=
  .of_wp fun A R s ⟨hu, hk, hd, d, h⟩ => by
    show wpAny _ _ (dictGet a u >>= _) _ _ s
    refine wpAny_bind (dictGet_ok (by simp only [Around.in1_units]; omega) hk hd d fun tk => ?_)
    have h := h tk
    cases hf : vAt xs k with
    | some v =>
      rw [hf] at h
      exact wpAny_pure ⟨v, rfl, h⟩
    | none =>
      rw [hf] at h
      show wpAny _ _ (Builtin.Dict.missed a u >>= _) _ _ _
      exact wpAny_bind (wpAny_missed_other hs (wpAny_pure ⟨z, rfl, h⟩))
theorem get1_ok {Q : Value → Shared → Prop} (hu : A.units + 10 < cLine) (hk : NestedIs s.heap k u) (hd : k.depth ≤ 8) (hs : (a == sysModules) = false) (d : DAt w s.heap a xs) (h : ∀ tk, Q ((vAt xs k).getD .none) { s with toks := tk }) : wpAny (model P w) A (call (.builtin "dict.get") [.ref a, u]) Q E s :=
  call_meetsIn PySem.F.slot_dict_get d.typeIs PySem.F.entry_dict_get (PySem.F.args_dict_get_2 _ _) (get1_meets hs) ⟨hu, hk, hd, d, h⟩
theorem get2_ok {z : Value} {Q : Value → Shared → Prop} (hu : A.units + 10 < cLine) (hk : NestedIs s.heap k u) (hd : k.depth ≤ 8) (hs : (a == sysModules) = false) (d : DAt w s.heap a xs) (h : ∀ tk, Q ((vAt xs k).getD z) { s with toks := tk }) : wpAny (model P w) A (call (.builtin "dict.get") [.ref a, u, z]) Q E s :=
  call_meetsIn PySem.F.slot_dict_get d.typeIs PySem.F.entry_dict_get (PySem.F.args_dict_get_3 _ _ _) (get2_meets hs) ⟨hu, hk, hd, d, h⟩
theorem del_meets (hs : (a == sysModules) = false) : MeetsIn P w (Builtin.«dict.__delitem__» ⟨[.ref a, u], []⟩) (fun A R s => A.units + 10 < cLine ∧ NestedIs s.heap k u ∧ k.depth ≤ 8 ∧ DAt w s.heap a xs ∧ xs.length ≤ sizeLine ∧ (vAt xs k).isSome = true ∧
      ∀ h' tk, DAt w h' a (vDrop xs k) → Heap.SameBut a s.heap h' → R (.ok (.ret .none)) { s with heap := h', toks := tk }) :=
  .of_wp fun A R s ⟨hu, hk, hd, d, hz, hv, h⟩ => by
    unfold Builtin.«dict.__delitem__»
    refine wpAny_bind ?_
    unfold Builtin.Dict.dictSlotArgs
    refine wpAny_bind (wpAny_notOrdered_dict d.typeIs ?_)
    show wpAny _ _ (pure (Value.ref a, u)) _ _ s
    refine wpAny_pure ?_
    show wpAny _ _ (Builtin.Dict.takeOut a u >>= _) _ _ s
    refine wpAny_bind (takeOut_ok (by simp only [Around.in1_units]; omega) hk hd d hz (fun hn => by rw [hn] at hv; cases hv) fun e v hv' he h' tk hm' hs' => ?_)
    exact wpAny_bind (wpAny_letGo (wpAny_pure ⟨.none, rfl, h h' tk hm' hs'⟩))
theorem delItem_ok {Q : Unit → Shared → Prop} (hu : A.units + 10 < cLine) (hk : NestedIs s.heap k u) (hd : k.depth ≤ 8) (hs : (a == sysModules) = false) (d : DAt w s.heap a xs) (hsz : xs.length ≤ sizeLine) (hv : (vAt xs k).isSome = true)
    (h : ∀ h' tk, DAt w h' a (vDrop xs k) → Heap.SameBut a s.heap h' → Q () { s with heap := h', toks := tk }) : wpAny (model P w) A (delItem (.ref a) u) Q E s :=
  wpAny_delItem_slot d.typeIs (by decide) PySem.F.slot_dict_delitem (call_meetsIn PySem.F.slot_dict_delitem d.typeIs PySem.F.entry_dict_delitem (PySem.F.args_dict_delitem_2 _ _) (del_meets hs) ⟨hu, hk, hd, d, hsz, hv, h⟩)
/-- d.pop(k): there -/
theorem pop_meets (hs : (a == sysModules) = false) (rest : List Value) (hr : rest = [] ∨ ∃ z, rest = [z]) : MeetsIn P w (Builtin.«dict.pop» ⟨.ref a :: u :: rest, []⟩) (fun A R s => A.units + 10 < cLine ∧ NestedIs s.heap k u ∧ k.depth ≤ 8 ∧ DAt w s.heap a xs ∧ xs.length ≤ sizeLine ∧
      (∀ v, vAt xs k = some v → ∀ h' tk, DAt w h' a (vDrop xs k) → Heap.SameBut a s.heap h' → R (.ok (.ret v)) { s with heap := h', toks := tk }) ∧
      (vAt xs k = none → ∃ z, rest = [z] ∧ ∀ tk, R (.ok (.ret z)) { s with toks := tk })) :=
  .of_wp fun A R s ⟨hu, hk, hd, d, hz, h1, h2⟩ => by
    obtain ⟨o, ep, ho, hc, hdat⟩ := d.ex
    unfold Builtin.«dict.pop»
    refine wpAny_bind ?_
    unfold Builtin.Dict.keyAndDefault
    refine wpAny_bind (wpAny_notOrdered_dict d.typeIs ?_)
    rcases hr with rfl | ⟨z, rfl⟩
    · show wpAny _ _ (pure (a, u, none)) _ _ s
      refine wpAny_pure ?_
      by_cases hp : (keyPart u).isSome = true
      · simp only [hp, if_true]
        refine wpAny_bind (wpAny_pure ?_)
        simp only [Bool.false_eq_true, if_false]
        refine wpAny_bind (takeOut_ok (by simp only [Around.in1_units]; omega) hk hd d hz (fun hn tk => ?_) fun e v hv he h' tk hm' hs' => ?_)
        · (obtain ⟨z, hz, _⟩ := h2 hn; cases hz)
        · simp only [Option.isNone_some, Bool.false_eq_true, if_false]
          exact wpAny_bind (wpAny_letGo (wpAny_pure ⟨e.val, rfl, by rw [he]; exact h1 v hv h' tk hm' hs'⟩))
      · simp only [hp, Bool.false_eq_true, if_false]
        refine wpAny_bind (wpAny_dictEntries ho hdat (wpAny_bind (wpAny_pure ?_)))
        by_cases hemp : (xs.map (entX w)).toArray.isEmpty = true
        · have hx : xs = [] := by simpa using hemp
          rw [if_pos hemp]
          refine wpAny_bind (wpAny_rule (wpAny_bind (wpAny_pure ?_)))
          have hn : vAt xs k = none := by rw [hx]; rfl
          have tk := s.toks
          (obtain ⟨z, hz, _⟩ := h2 hn; cases hz)
        · rw [if_neg hemp]
          refine wpAny_bind (takeOut_ok (by simp only [Around.in1_units]; omega) hk hd d hz (fun hn tk => ?_) fun e v hv he h' tk hm' hs' => ?_)
          · (obtain ⟨z, hz, _⟩ := h2 hn; cases hz)
          · simp only [Option.isNone_some, Bool.false_eq_true, if_false]
            exact wpAny_bind (wpAny_letGo (wpAny_pure ⟨e.val, rfl, by rw [he]; exact h1 v hv h' tk hm' hs'⟩))
    · show wpAny _ _ (pure (a, u, some z)) _ _ s
      refine wpAny_pure ?_
      by_cases hp : (keyPart u).isSome = true
      · simp only [hp, if_true]
        refine wpAny_bind (wpAny_pure ?_)
        simp only [Bool.false_eq_true, if_false]
        refine wpAny_bind (takeOut_ok (by simp only [Around.in1_units]; omega) hk hd d hz (fun hn tk => ?_) fun e v hv he h' tk hm' hs' => ?_)
        · obtain ⟨z', hz', h2⟩ := h2 hn
          cases hz'
          simp only [Option.isNone_none, if_true]
          refine wpAny_bind (wpAny_missedRemoval_other hs ?_)
          exact wpAny_bind (wpAny_rule (wpAny_pure ⟨z, rfl, h2 tk⟩))
        · simp only [Option.isNone_some, Bool.false_eq_true, if_false]
          exact wpAny_bind (wpAny_letGo (wpAny_pure ⟨e.val, rfl, by rw [he]; exact h1 v hv h' tk hm' hs'⟩))
      · simp only [hp, Bool.false_eq_true, if_false]
        refine wpAny_bind (wpAny_dictEntries ho hdat (wpAny_bind (wpAny_pure ?_)))
        by_cases hemp : (xs.map (entX w)).toArray.isEmpty = true
        · have hx : xs = [] := by simpa using hemp
          rw [if_pos hemp]
          refine wpAny_bind (wpAny_rule (wpAny_bind (wpAny_pure ?_)))
          have hn : vAt xs k = none := by rw [hx]; rfl
          have tk := s.toks
          obtain ⟨z', hz', h2⟩ := h2 hn
          cases hz'
          simp only [Option.isNone_none, if_true]
          refine wpAny_bind (wpAny_missedRemoval_other hs ?_)
          exact wpAny_bind (wpAny_rule (wpAny_pure ⟨z, rfl, h2 s.toks⟩))
        · rw [if_neg hemp]
          refine wpAny_bind (takeOut_ok (by simp only [Around.in1_units]; omega) hk hd d hz (fun hn tk => ?_) fun e v hv he h' tk hm' hs' => ?_)
          · obtain ⟨z', hz', h2⟩ := h2 hn
            cases hz'
            simp only [Option.isNone_none, if_true]
            refine wpAny_bind (wpAny_missedRemoval_other hs ?_)
            exact wpAny_bind (wpAny_rule (wpAny_pure ⟨z, rfl, h2 tk⟩))
          · simp only [Option.isNone_some, Bool.false_eq_true, if_false]
            exact wpAny_bind (wpAny_letGo (wpAny_pure ⟨e.val, rfl, by rw [he]; exact h1 v hv h' tk hm' hs'⟩))
theorem pop_ok {rest : List Value} {Q : Value → Shared → Prop} (hr : rest = [] ∨ ∃ z, rest = [z]) (hu : A.units + 10 < cLine) (hk : NestedIs s.heap k u) (hd : k.depth ≤ 8) (hs : (a == sysModules) = false) (d : DAt w s.heap a xs) (hsz : xs.length ≤ sizeLine)
    (h1 : ∀ v, vAt xs k = some v → ∀ h' tk, DAt w h' a (vDrop xs k) → Heap.SameBut a s.heap h' → Q v { s with heap := h', toks := tk })
    (h2 : vAt xs k = none → ∃ z, rest = [z] ∧ ∀ tk, Q z { s with toks := tk }) : wpAny (model P w) A (call (.builtin "dict.pop") (.ref a :: u :: rest)) Q E s :=
  call_meetsIn PySem.F.slot_dict_pop d.typeIs PySem.F.entry_dict_pop (by
    rcases hr with rfl | ⟨z, rfl⟩
    · exact PySem.F.args_dict_pop_2 _ _
    · exact PySem.F.args_dict_pop_3 _ _ _) (pop_meets hs rest hr) ⟨hu, hk, hd, d, hsz, h1, h2⟩
theorem DAt.raw {h : Heap} (d : DAt w h a xs) : ∃ ep, h.DictRaw a (xs.map (entX w)).toArray ep := by
  obtain ⟨o, ep, r⟩ := d.ex
  exact ⟨ep, o, r⟩
theorem DAt.noDict {h : Heap} (d : DAt w h a xs) : ∀ b, Value.ref a = .ref b → ∃ ob, h.get? b = some ob ∧ ob.dict = none := fun b q => by
  cases q
  obtain ⟨o, _, h1, h2, _⟩ := d.ex
  exact ⟨o, h1, h2.2.1⟩
theorem DAt.new (h : Heap) : DAt w (h.push { cls := .type "dict", data := .dict #[] }) h.objs.size [] :=
  ⟨⟨_, 0, Heap.get?_push_size _ rfl, ⟨rfl, rfl, rfl⟩, rfl⟩, List.nodup_nil, fun _ z => nomatch z⟩
theorem len_ok {Q : Value → Shared → Prop} (hsz : xs.length ≤ sizeLine) (hs : (a == sysModules) = false) (d : DAt w s.heap a xs) (h : ∀ t tk, Q (.int xs.length t) { s with toks := tk }) : wpAny (model P w) A (call (.builtin "len") [.ref a]) Q E s := by
  refine PyProof.Rows.call_len_slot d.typeIs PySem.F.slot_dict_len (fun Q' q => ?_) (by omega) (by have := hsz; rw [sizeLine_eq] at this; omega) (h _ _)
  obtain ⟨ep, r⟩ := d.raw
  refine call_len_raw hs r ?_
  simpa using q
theorem truth_ok {Q : Bool → Shared → Prop} (hsz : xs.length ≤ sizeLine) (hs : (a == sysModules) = false) (d : DAt w s.heap a xs) (h : ∀ tk, Q (!xs.isEmpty) { s with toks := tk }) : wpAny (model P w) A (truthy (.ref a)) Q E s := by
  have hne : ((xs.length : Int) != 0) = !xs.isEmpty := by cases xs <;> simp <;> omega
  have body : wpAny (model P w) A.in1 (Builtin.«len» ⟨[.ref a], []⟩) (fun fin s' => ∃ t, fin = .done (.ret (.int xs.length t)) ∧ Q (!xs.isEmpty) s') E s := by
    unfold Builtin.«len»
    refine wpAny_bind (m := oneArg "len" _) (wpAny_pure ?_)
    obtain ⟨ep, r⟩ := d.raw
    refine wpAny_bind (m := callSpecial? (.ref a) (Str.ofString "__len__")) (wpAny_callSpecial?_slot (name := Str.ofString "__len__") d.typeIs PySem.F.slot_dict_len (call_len_raw hs r ?_))
    rw [show (xs.map (entX w)).toArray.size = xs.length by simp]
    refine wpAny_bind (wpAny_holding (wpAny_pure ?_))
    refine wpAny_bind (wpAny_letGo ?_)
    show wpAny _ _ (if ((xs.length : Nat) : Int) < 0 then _ else _) _ _ _
    rw [if_neg (by omega)]
    show wpAny _ _ (if ((xs.length : Nat) : Int) ≥ 2 ^ 63 then _ else _) _ _ _
    rw [if_neg (by rw [sizeLine_eq] at hsz; omega)]
    exact wpAny_bind (wpAny_mkInt (wpAny_pure ⟨_, rfl, h _⟩))
  have key : wpAny (model P w) A (runValue (.builtin "len" ⟨[.ref a], []⟩)) (fun r s' => (∃ t, r = .int xs.length t) ∧ Q (!xs.isEmpty) s') E s := by
    refine wpAny_runValue (codeAny_builtin entry_len ?_)
    rw [Around.under_plainId plain_len _]
    exact wpAny_mono body (fun fin s' h' => by obtain ⟨t, rfl, hq⟩ := h'; exact ⟨⟨t, rfl⟩, hq⟩) fun _ _ e => e
  unfold truthy
  first
    | refine wpAny_bind (wpAny_callSpecial?_none (name := Str.ofString "__bool__") d.typeIs noBool_dict ?_)
    | refine wpAny_bind (wpAny_pure (wpAny_bind (wpAny_callSpecial?_none (name := Str.ofString "__bool__") d.typeIs noBool_dict ?_)))
  first
    | refine wpAny_bind (wpAny_specialOf (name := Str.ofString "__len__") d.typeIs PySem.F.slot_dict_len.lookup ?_)
    | refine wpAny_bind (wpAny_pure (wpAny_bind (wpAny_specialOf (name := Str.ofString "__len__") d.typeIs PySem.F.slot_dict_len.lookup ?_)))
  exact wpAny_bind (wpAny_mono key (fun r s' h' => by obtain ⟨⟨t, rfl⟩, hq⟩ := h'; exact wpAny_pure (hne ▸ hq)) fun _ _ e => e)
end
end Kf
end
section
set_option maxHeartbeats 4000000
/-! Kf: tuples whose object is known to have no dict of its own. -/
namespace Kf
open PySem PySem.Spec L2
/-- a plain tuple: known to its object, or of the written part -/
def PlT (K : PySem.W.Frag) (H : Hp) (a : Addr) (xs : List V) : Prop := (∃ o, H a = some (.frz o (.tup xs)) ∧ o.dict = none) ∨
  ∃ (o : Obj) (its : Array Value) (n : Nat), K.lookup a = some o ∧ o.cls = .type "tuple" ∧ o.dict = none ∧ o.data = .seq its n ∧ its.size ≤ sizeLine ∧ Vals xs its.toList
theorem PlT.sqt {K : PySem.W.Frag} {H : Hp} {a : Addr} {xs : List V} (h : PlT K H a xs) : SqT K H a xs := by
  rcases h with ⟨o, e, _⟩ | ⟨o, its, n, h1, h2, _, h4, h5, h6⟩
  · exact .inl (.inr ⟨o, e⟩)
  · exact .inr ⟨o, its, n, h1, h2, h4, h5, h6⟩
/-- what is made: a tuple of xs at a new place, its object without a dict -/
def Makes (H : Hp) (xs : List V) (Q : VK) : Prop := ∀ p o, H p = none → o.dict = none → Q (.ref p) (upd H p (.frz o (.tup xs)))
section
variable {X : Cx} {pins : List (Addr × Obj)} {σ : L2.St} {H : Hp} {s : Shared}
theorem lay_tup {Q : VK} {its : List Value} {xs : List V} (I : Inv X pins σ H s) (r : Vals xs its) (z : xs.length ≤ sizeLine) (q : Makes H xs Q) :
    ∃ x H', Inv X pins σ H' { s with heap := s.heap.push { cls := .type "tuple", data := .seq its.toArray } } ∧ RelV x (.ref s.heap.objs.size) ∧ Q x H' := by
  refine ⟨.ref s.heap.objs.size, _, I.laid (t' := s.toks) (o := .frz { cls := .type "tuple", data := .seq its.toArray } (.tup xs)) (fun b u e => Heap.get?_push_of_some _ e) (Nat.le_refl _) ?_, rfl, q _ _ (I.hok.fresh (Nat.le_refl _)) rfl⟩
  exact ⟨Heap.get?_push_size _ rfl, z, its, r, PyProof.Rows.IsTup.new _ _⟩
def tTupP (t : TA) : TE := fun σ H Q => t σ H fun xs H1 => xs.length ≤ sizeLine ∧ Makes H1 xs Q
theorem pe_tupP {es : List Expr} {t : TA} {j : Nat} {pos : Pos} (h : PA X es t) : PE X (.Tuple es j pos) (tTupP t) := by
  refine ⟨fun pins s σ H Q I hq => ?_⟩
  exact wpAny_Tuple_spliced (thn (h.run pos pins s σ H _ I hq) fun us s1 ⟨xs, H1, I1, r, z, q⟩ => ⟨by rw [← r.length]; exact z, lay_tup I1 r z q⟩)
/-- tuple(x): of a list; of a tuple it is that tuple -/
theorem call_tupleP : CallR X (.type "tuple") (fun xs H Q => ∃ p ys, xs = [.ref p] ∧ ((SqL X.K H p ys ∧ Makes H ys Q) ∨ (SqT X.K H p ys ∧ Q (.ref p) H))) := by
  intro pins s σ H xs us Q I r h
  obtain ⟨p, ys, rfl, h⟩ := h
  obtain ⟨u, rfl, rx⟩ := vals1 r
  cases rx
  rcases h with ⟨hq, q⟩ | ⟨hq, q⟩
  · obtain ⟨its, r', pl, hz⟩ := I.list hq
    have hlen := r'.length
    refine call_tuple_list pl.isList (fun h' kp => ?_) (by simp only [List.size_toArray] <;> omega)
    exact lay_tup (s := { s with heap := h' }) (I.kept (t' := s.toks) kp) r' hz q
  · obtain ⟨its, r', pl, hz⟩ := I.tuple hq
    exact call_tuple_same pl ⟨.ref p, H, I, rfl, q⟩
def rCatP (K : PySem.W.Frag) : R2 := fun x y H Q => ∃ a b xs ys, x = .ref a ∧ y = .ref b ∧ SqT K H a xs ∧ SqT K H b ys ∧ xs.length + ys.length ≤ sizeLine ∧
  (xs = [] → Q (.ref b) H) ∧ (xs ≠ [] → ys = [] → Q (.ref a) H) ∧ (xs ≠ [] → ys ≠ [] → Makes H (xs ++ ys) Q)
theorem op_catP : OpR X (binaryOp .Add) (rCatP X.K) := by
  intro pins s σ H x y v u Q I rx ry h
  obtain ⟨a, b, xs, ys, rfl, rfl, ha, hb, hz, q0, q1, q2⟩ := h
  cases rx
  cases ry
  obtain ⟨its, r1, p1, _⟩ := I.tuple ha
  obtain ⟨its2, r2, p2, _⟩ := I.tuple hb
  by_cases hx : xs = []
  · subst hx
    cases r1
    exact cat_tup0 p1 p2 ⟨.ref b, H, I, rfl, q0 rfl⟩
  · refine HT.cat_tup p1 p2 (fun z => hx (r1.nil_iff.mp z)) (fun z => ⟨.ref a, H, I, rfl, q1 hx (r2.nil_iff.mp z)⟩) (fun z => ?_) (by rw [← r1.length, ← r2.length]; exact hz)
    exact lay_tup I (r1.append r2) (by rw [List.length_append]; exact hz) (q2 hx fun w => z (r2.nil_iff.mpr w))
def rSlP (K : PySem.W.Frag) : V → Option Int → Option Int → Hp → VK → Prop := fun x lo hi H Q => ∃ a xs, x = .ref a ∧ SqT K H a xs ∧
  (HT.sIx xs.length 0 lo = 0 ∧ HT.sIx xs.length xs.length hi = xs.length → Q (.ref a) H) ∧ (¬ (HT.sIx xs.length 0 lo = 0 ∧ HT.sIx xs.length xs.length hi = xs.length) → Makes H (cutV xs lo hi) Q)
theorem sl_tupP : SlR X (rSlP X.K) := by
  intro pins s σ H x v vl vu lo hi sl Q I rx hs pl pu h
  obtain ⟨a, xs, rfl, hx, q1, q2⟩ := h
  cases rx
  obtain ⟨its, r, ht, hz⟩ := I.tuple hx
  have hlen : its.toArray.size = xs.length := by rw [List.size_toArray]; exact r.length.symm
  refine ⟨"tuple", _, PyProof.Rows.slot_tuple_getitem.lookup, ht.typeIs, ?_⟩
  by_cases hw : HT.sIx xs.length 0 lo = 0 ∧ HT.sIx xs.length xs.length hi = xs.length
  · exact getItem_tuple_whole ht hs pl pu (by rw [hlen]; exact hw) ⟨.ref a, H, I, rfl, q1 hw⟩
  · refine HT.getItem_tuple_cut ht hs pl pu (by rw [hlen]; exact hw) ?_ (by rw [hlen]; exact hz)
    rw [hlen]
    exact lay_tup I ((r.drop (HT.sIx xs.length 0 lo)).take (HT.sIx xs.length xs.length hi - HT.sIx xs.length 0 lo)) (Nat.le_trans (cutV_length xs lo hi) hz) (q2 hw)
def rRepP (K : PySem.W.Frag) : R2 := fun x y H Q => ∃ l k xs, x = .ref l ∧ y = .int k ∧ SqT K H l xs ∧ xs ≠ [] ∧ 2 ≤ k ∧ k ≤ 1000 ∧ xs.length ≤ 1000 ∧ Makes H (List.replicate k.toNat xs).flatten Q
theorem op_repP : OpR X (binaryOp .Mult) (rRepP X.K) := by
  intro pins s σ H x y v u Q I rx ry h
  obtain ⟨l, k, xs, rfl, rfl, hT, hne, h1, h2, hz, q⟩ := h
  cases rx
  obtain ⟨t, rfl⟩ := ry
  obtain ⟨its, r, ⟨⟨cls, dd, data, sl⟩, ho, hc, n, hd⟩, hs⟩ := I.tuple hT
  simp only at hc hd
  subst hc hd
  have el : its.length = xs.length := r.length.symm
  have hi : its.toArray.isEmpty = false := by
    cases its with
    | nil => exact absurd (List.eq_nil_of_length_eq_zero el.symm) hne
    | cons a b => rfl
  have len : k.toNat * xs.length ≤ 1000000 := Nat.le_trans (Nat.mul_le_mul (show k.toNat ≤ 1000 by omega) hz) (by decide)
  have es : its.toArray.size = xs.length := by rw [List.size_toArray, el]
  have c5 : ((its.toArray.size : Nat) : Int) * k ≤ 1000000 := by
    have a1 : ((xs.length : Nat) : Int) * k ≤ 1000 * k := Int.mul_le_mul_of_nonneg_right (by omega) (by omega)
    rw [es]
    omega
  have c4 : Builtin.Tuple.tupleTooMany (((its.toArray.size : Nat) : Int) * k) = false := by
    have a1 : ((xs.length : Nat) : Int) * k ≤ 1000 * k := Int.mul_le_mul_of_nonneg_right (by omega) (by omega)
    unfold Builtin.Tuple.tupleTooMany
    rw [sizeLine_eq, es]
    exact decide_eq_false (by omega)
  have fl : (List.replicate k.toNat xs).flatten.length ≤ sizeLine := by
    rw [PyProof.Rows.lm_len_rep_flat, sizeLine_eq]; omega
  refine wpAny_binaryOp_repeat_ref (T := "tuple") (U := "int") (by decide) ⟨_, ho, rfl⟩ (fun s' => typeIs_int s' k t) noFill_tuple_mul PySem.F.fills_int_mul PySem.F.slot_int_rmul repeat_tuple PySem.F.slot_int_index.lookup
    (call_meets PySem.F.slot_int_rmul (typeIs_int s k t) PySem.F.entry_int_rmul (PySem.F.args_int_rmul_2 _ _) (int_rmul_tuple k t l its.toArray n dd sl)
      ⟨ho, rfl, ⟨_, ho, rfl⟩, call_meets PySem.F.slot_tuple_mul ⟨_, ho, rfl⟩ PySem.F.entry_tuple_mul (PySem.F.args_tuple_mul_2 _ _) (tuple_mulW l its.toArray n dd sl k t
        (by rw [decide_eq_false (by omega), decide_eq_false (by omega)] <;> rfl) (by rw [hi, Bool.false_or]; exact beq_eq_false_iff_ne.mpr (by omega)) (by rw [hi, Bool.or_false]; exact decide_eq_false (by omega)) (by omega) c4
        (by rw [size_rep, List.size_toArray, PyProof.Rows.lm_len_rep_flat, el, sizeLine_eq]; omega)) ⟨ho, ?_⟩⟩)
  rw [size_rep]
  exact lay_tup I (r.rep k.toNat) fl q
end
end Kf
end
section
set_option maxHeartbeats 4000000
/-! Kf: a deterministic reading of the program's defs, over the hand layer. Values D, objects O in a heap Hd (a list), results Res;
    tD turns such a reading into a reading of the hand layer (a TE). -/
namespace Kf
open PySem PySem.Spec L2

inductive D where
  | non | bl (b : Bool) | int (i : Int) | str (s : String) | raw (x : Str) | tup (xs : List D) | ref (n : Nat)
  /-- a pair that a walk has made -/
  | ztp (xs : List D)
  /-- a list that nobody changes -/
  | fls (xs : List D)
  /-- an exception that a suite holds: its class, where it lies, its dict, its fields -/
  | xc (c : String) (a : Nat) (d : Option Nat) (fs : List (String × D))
inductive O where
  | lst (xs : List D)
  | dict (kvs : List (D × D))
  /-- a dict that is walked -/
  | lkd (kvs : List (D × D))
  | ins (c : String) (fs : List (String × D))
abbrev Hd := List O
abbrev En := List (Option D)

inductive Res (α : Type) where
  | ok (a : α) (h : Hd)
  | exc (c : String) (fs : List (String × D)) (h : Hd)
  | stuck
def Res.bind {α β : Type} (r : Res α) (f : α → Hd → Res β) : Res β := match r with
  | .ok a h => f a h
  | .exc c fs h => .exc c fs h
  | .stuck => .stuck
@[simp] theorem Res.bind_ok {α β : Type} (a : α) (h : Hd) (f : α → Hd → Res β) : (Res.ok a h).bind f = f a h := id rfl
@[simp] theorem Res.bind_exc {α β : Type} (c fs) (h : Hd) (f : α → Hd → Res β) : (Res.exc c fs h : Res α).bind f = .exc c fs h := id rfl
@[simp] theorem Res.bind_stuck {α β : Type} (f : α → Hd → Res β) : (Res.stuck : Res α).bind f = .stuck := id rfl

/-- a list that nobody changes: frozen, or of the written part -/
def FzL (K : PySem.W.Frag) (H : Hp) (a : Addr) (xs : List V) : Prop := (∃ o, H a = some (.frz o (.lst xs))) ∨
  ∃ (o : Obj) (its : Array Value) (n : Nat), K.lookup a = some o ∧ o.cls = .type "list" ∧ o.dict = none ∧ o.data = .seq its n ∧ its.size ≤ sizeLine ∧ Vals xs its.toList
theorem FzL.sql {K : PySem.W.Frag} {H : Hp} {a : Addr} {xs : List V} (h : FzL K H a xs) : SqL K H a xs := h.elim (fun ⟨o, e⟩ => .inl (.inr ⟨o, e⟩)) .inr
/-- the classes' addresses -/
structure CA where
  f : String → Addr
  w : World
instance : CoeFun CA (fun _ => String → Addr) := ⟨CA.f⟩
/-! ### keys -/
mutual
def keyN : D → Option NestedKey
  | .non => some .none
  | .bl b => some (.num (if b = true then 1 else 0))
  | .int i => some (.num i)
  | .str s => some (.text (Str.ofString s))
  | .raw x => some (.text x)
  | .tup ds => match keyNs ds with | some ks => some (.tup ks) | none => none
  | .ref _ => none
  | .fls _ => none
  | .ztp _ => none
  | .xc _ _ _ _ => none
def keyNs : List D → Option (List NestedKey)
  | [] => some []
  | d :: ds => match keyN d, keyNs ds with | some k, some ks => some (k :: ks) | _, _ => none
end
/-- a key that a dict takes -/
def keyD (d : D) : Option NestedKey := match keyN d with | some k => if k.depth ≤ 8 then some k else none | none => none
theorem keyD_some {d : D} {k : NestedKey} (h : keyD d = some k) : keyN d = some k ∧ k.depth ≤ 8 := by
  unfold keyD at h
  cases e : keyN d with
  | none => rw [e] at h; cases h
  | some k' =>
    rw [e] at h
    by_cases c : k'.depth ≤ 8
    · have h : (if k'.depth ≤ 8 then some k' else none) = some k := h
      rw [if_pos c] at h
      cases h
      exact ⟨rfl, c⟩
    · have h : (if k'.depth ≤ 8 then some k' else none) = some k := h
      rw [if_neg c] at h; cases h
/-- an entry: what its key is, the key's own value, the value -/
abbrev NEnt := NestedKey × V × V
def EV (p : NEnt) (q : XEnt) : Prop := p.1 = q.1 ∧ RelV p.2.1 q.2.1 ∧ RelV p.2.2 q.2.2
def DNphi (w : World) (a : Addr) (kvs : List NEnt) (h : Heap) : Prop :=
  kvs.length ≤ sizeLine ∧ (a == sysModules) = false ∧ ∃ xs, Paired EV kvs xs ∧ (xs.map (·.1)).Nodup ∧ ∃ o ep, h.get? a = some o ∧ o.ExactDict ∧ o.data = .dict (xs.map (entX w)).toArray ep
section
variable (K : PySem.W.Frag) (cA : CA) (ι : Nat → Addr) (n : Nat) (H : Hp)
mutual
inductive Rep : V → D → Prop where
  | non : Rep .non .non
  | bl {b} : Rep (.bl b) (.bl b)
  | int {i} : Rep (.int i) (.int i)
  | str {s} : Rep (.str (Str.ofString s)) (.str s)
  | raw {x} : Rep (.str x) (.raw x)
  | tup {a xs ds} : PlT K H a xs → Reps xs ds → Rep (.ref a) (.tup ds)
  | ztp {a xs ds} : SqT K H a xs → Reps xs ds → Rep (.ref a) (.ztp ds)
  | ref {m} : m < n → Rep (.ref (ι m)) (.ref m)
  | fls {a xs ds} : FzL K H a xs → Reps xs ds → Rep (.ref a) (.fls ds)
  | xc0 {c a} : Rep (.ref a) (.xc c a none [])
  | xc {c a d gs fs} : H d = some (.xd gs) → FRep gs fs → Rep (.ref a) (.xc c a (some d) fs)
inductive Reps : List V → List D → Prop where
  | nil : Reps [] []
  | cons {x d xs ds} : Rep x d → Reps xs ds → Reps (x :: xs) (d :: ds)
inductive FRep : List (Str × V) → List (String × D) → Prop where
  | nil : FRep [] []
  | cons {f x d fs gs} : Rep x d → FRep fs gs → FRep ((Str.ofString f, x) :: fs) ((f, d) :: gs)
end
/-- the pairs of a dict -/
inductive KRep : List NEnt → List (D × D) → Prop where
  | nil : KRep [] []
  | cons {k u kd x d ks ds} : keyD kd = some k → Rep K ι n H u kd → Rep K ι n H x d → KRep ks ds → KRep ((k, u, x) :: ks) ((kd, d) :: ds)
inductive ORep (a : Addr) : HO → O → Prop where
  | lst {xs ds} : Reps K ι n H xs ds → ORep a (.lst xs) (.lst ds)
  | dict {ks ds} : KRep K ι n H ks ds → ORep a (.ext (DNphi cA.w a ks)) (.dict ds)
  | lkd {o ks ds} : KRep K ι n H ks ds → ORep a (.frz o (.ext (DNphi cA.w a ks))) (.lkd ds)
  | ins {c dx fs gs} : FRep K ι n H fs gs → ORep a (.ins (cA c) dx fs) (.ins c gs)
structure HRep (h : Hd) : Prop where
  obj : ∀ m o, h[m]? = some o → ∃ ho, H (ι m) = some ho ∧ ORep K cA ι h.length H (ι m) ho o
  inj : ∀ m k, m < h.length → k < h.length → ι m = ι k → m = k
end
/-- from one state to a later one: the old addresses stay, what the heap h does not speak of stays, the new addresses were free -/
structure Step (ι : Nat → Addr) (h : Hd) (H : Hp) (ι' : Nat → Addr) (h' : Hd) (H' : Hp) : Prop where
  eq : ∀ m, m < h.length → ι' m = ι m
  len : h.length ≤ h'.length
  keep : ∀ a o, H a = some o → (∀ m, m < h.length → a ≠ ι m) → H' a = some o
  fresh : ∀ m, h.length ≤ m → m < h'.length → H (ι' m) = none
  there : ∀ a o, H a = some o → ∃ o', H' a = some o'
  frz : ∀ a o u, H a = some (.frz o u) → H' a = some (.frz o u)

section
variable {K : PySem.W.Frag} {cA : CA} {ι ι' ι'' : Nat → Addr} {n n' : Nat} {H H' H'' : Hp} {h h' h'' : Hd}
theorem ORep.xd {a : Addr} {ho : HO} {o : O} (r : ORep K cA ι n H a ho o) : ∀ gs, ho ≠ .xd gs := by
  cases r <;> refine fun _ z => ?_ <;> cases z
theorem HRep.xdOff' {K : PySem.W.Frag} {cA : CA} {ι : Nat → Addr} {H : Hp} {h : Hd} (R : HRep K cA ι H h) {a : Addr} {gs : List (Str × V)} (e : H a = some (.xd gs)) : ∀ m, m < h.length → a ≠ ι m := fun m hm z => by
  obtain ⟨ho, e2, r⟩ := R.obj m h[m] (by simp [hm])
  rw [z, e2] at e
  exact r.xd gs (Option.some.inj e)
theorem ORep.mut {a : Addr} {ho : HO} {o : O} (r : ORep K cA ι n H a ho o) : (∀ xs, ho ≠ .tup xs) ∧ (∀ x xs, ho ≠ .frz x (.tup xs)) ∧ (∀ x, ho ≠ .own x) := by
  cases r <;> refine ⟨fun _ z => ?_, fun _ _ z => ?_, fun _ z => ?_⟩ <;> cases z
theorem HRep.lt_obj (R : HRep K cA ι H h) {m : Nat} (hm : m < h.length) : ∃ o ho, h[m]? = some o ∧ H (ι m) = some ho ∧ ORep K cA ι h.length H (ι m) ho o := by
  obtain ⟨ho, e, r⟩ := R.obj m h[m] (by simp [hm])
  exact ⟨_, ho, by simp [hm], e, r⟩
theorem HRep.tupOff (R : HRep K cA ι H h) {a : Addr} {xs : List V} (e : H a = some (.tup xs)) : ∀ m, m < h.length → a ≠ ι m := fun m hm z => by
  obtain ⟨o, ho, _, e2, r⟩ := R.lt_obj hm
  rw [z, e2] at e
  exact r.mut.1 xs (Option.some.inj e)
theorem HRep.frzOff (R : HRep K cA ι H h) {a : Addr} {o : Obj} {u : List V} (e : H a = some (.frz o (.tup u))) : ∀ m, m < h.length → a ≠ ι m := fun m hm z => by
  obtain ⟨o2, ho, _, e2, r⟩ := R.lt_obj hm
  rw [z, e2] at e
  exact r.mut.2.1 _ _ (Option.some.inj e)
/-- what keeps tuples -/
structure TKeep (K : PySem.W.Frag) (H H' : Hp) : Prop where
  tup : ∀ a xs, SqT K H a xs → SqT K H' a xs
  pl : ∀ a xs, PlT K H a xs → PlT K H' a xs
  fzl : ∀ a xs, FzL K H a xs → FzL K H' a xs
  xd : ∀ a gs, H a = some (.xd gs) → H' a = some (.xd gs)
theorem Step.tkeep (S : Step ι h H ι' h' H') (R : HRep K cA ι H h) : TKeep K H H' := ⟨fun a xs q => by
  rcases q with (q | ⟨o, q⟩) | q
  · exact .inl (.inl (S.keep a _ q (R.tupOff q)))
  · exact .inl (.inr ⟨o, S.keep a _ q (R.frzOff q)⟩)
  · exact .inr q, fun a xs q => by
  rcases q with ⟨o, q, d⟩ | q
  · exact .inl ⟨o, S.frz a _ _ q, d⟩
  · exact .inr q, fun a xs q => by
  rcases q with ⟨o, q⟩ | q
  · exact .inl ⟨o, S.frz a _ _ q⟩
  · exact .inr q, fun a gs q => S.keep a _ q (R.xdOff' q)⟩
mutual
theorem Rep.keep (t : TKeep K H H') (hn : n ≤ n') (hi : ∀ m, m < n → ι' m = ι m) : ∀ {v : V} {d : D}, Rep K ι n H v d → Rep K ι' n' H' v d
  | _, _, .non => .non
  | _, _, .bl => .bl
  | _, _, .int => .int
  | _, _, .str => .str
  | _, _, .raw => .raw
  | _, _, .tup q r => .tup (t.pl _ _ q) (Reps.keep t hn hi r)
  | _, _, .ztp q r => .ztp (t.tup _ _ q) (Reps.keep t hn hi r)
  | _, _, .fls q r => .fls (t.fzl _ _ q) (Reps.keep t hn hi r)
  | _, _, .ref (m := m) q => by
    have e := hi m q
    rw [← e]
    exact .ref (Nat.lt_of_lt_of_le q hn)
  | _, _, .xc0 => .xc0
  | _, _, .xc q r => .xc (t.xd _ _ q) (FRep.keep t hn hi r)
theorem Reps.keep (t : TKeep K H H') (hn : n ≤ n') (hi : ∀ m, m < n → ι' m = ι m) : ∀ {v : List V} {d : List D}, Reps K ι n H v d → Reps K ι' n' H' v d
  | _, _, .nil => .nil
  | _, _, .cons r q => .cons (Rep.keep t hn hi r) (Reps.keep t hn hi q)
theorem FRep.keep (t : TKeep K H H') (hn : n ≤ n') (hi : ∀ m, m < n → ι' m = ι m) : ∀ {v : List (Str × V)} {d : List (String × D)}, FRep K ι n H v d → FRep K ι' n' H' v d
  | _, _, .nil => .nil
  | _, _, .cons r q => .cons (Rep.keep t hn hi r) (FRep.keep t hn hi q)
end
theorem KRep.keep (t : TKeep K H H') (hn : n ≤ n') (hi : ∀ m, m < n → ι' m = ι m) {v d} (r : KRep K ι n H v d) : KRep K ι' n' H' v d := by
  induction r with
  | nil => exact .nil
  | cons e r q _ ih => exact .cons e (r.keep t hn hi) (q.keep t hn hi) ih
theorem ORep.keep (t : TKeep K H H') (hn : n ≤ n') (hi : ∀ m, m < n → ι' m = ι m) {a : Addr} {v d} (r : ORep K cA ι n H a v d) : ORep K cA ι' n' H' a v d := by
  cases r with
  | lst r => exact .lst (r.keep t hn hi)
  | dict r => exact .dict (r.keep t hn hi)
  | lkd r => exact .lkd (r.keep t hn hi)
  | ins r => exact .ins (r.keep t hn hi)
theorem Step.refl : Step ι h H ι h H := ⟨fun _ _ => rfl, Nat.le_refl _, fun _ _ q _ => q, fun m a b => absurd (Nat.lt_of_lt_of_le b a) (Nat.lt_irrefl _), fun _ o q => ⟨o, q⟩, fun _ _ _ q => q⟩
theorem Step.trans (S : Step ι h H ι' h' H') (T : Step ι' h' H' ι'' h'' H'') : Step ι h H ι'' h'' H'' where
  eq := fun m hm => (T.eq m (Nat.lt_of_lt_of_le hm S.len)).trans (S.eq m hm)
  len := Nat.le_trans S.len T.len
  keep := fun a o q hn => T.keep a o (S.keep a o q hn) fun m hm z => by
    by_cases h1 : m < h.length
    · exact hn m h1 (z.trans (S.eq m h1))
    · have := S.fresh m (Nat.le_of_not_lt h1) hm
      rw [← z, q] at this; cases this
  fresh := fun m h1 h2 => by
    by_cases h3 : m < h'.length
    · rw [T.eq m h3]; exact S.fresh m h1 h3
    · have z := T.fresh m (Nat.le_of_not_lt h3) h2
      cases e : H (ι'' m) with
      | none => rfl
      | some o =>
        obtain ⟨o', e'⟩ := S.there _ o e
        rw [z] at e'; cases e'
  there := fun a o q => by
    obtain ⟨o', q'⟩ := S.there a o q
    exact T.there a o' q'
  frz := fun a o u q => T.frz a o u (S.frz a o u q)
end

/-! ### readings of expressions -/
/-- an environment -/
structure VRep (K : PySem.W.Frag) (ι : Nat → Addr) (n : Nat) (H : Hp) (σ : St) (env : En) : Prop where
  len : σ.length = env.length
  var : ∀ (i : Nat) (d : D), env[i]? = some (some d) → ∃ v, (σ : List (Option V))[i]? = some (some v) ∧ Rep K ι n H v d
/-- what an exception is, behind its raise -/
def XRep (K : PySem.W.Frag) (cA : CA) (ι : Nat → Addr) (n : Nat) (H : Hp) (c : String) (fs : List (String × D)) (cls : Value) (od : Option Addr) : Prop :=
  cls = .ref (cA c) ∧ ((fs = [] ∧ od = none) ∨ ∃ d gs, od = some d ∧ H d = some (.xd gs) ∧ FRep K ι n H gs fs)

/-- what is wanted behind a result -/
def RPost {α : Type} (K : PySem.W.Frag) (cA : CA) (W : WX) (σ : St) (ι : Nat → Addr) (h : Hd) (H : Hp) (r : Res α) (P : α → Hd → (Nat → Addr) → Hp → Prop) : Prop := match r with
  | .ok a h' => ∀ ι' H', Step ι h H ι' h' H' → HRep K cA ι' H' h' → P a h' ι' H'
  | .exc c fs h' => ∀ ι' H' cls od, Step ι h H ι' h' H' → HRep K cA ι' H' h' → XRep K cA ι' h'.length H' c fs cls od → W cls od σ H'
  | .stuck => False
section
variable {K : PySem.W.Frag} {cA : CA} {W : WX} {σ : St} {ι ι' ι'' : Nat → Addr} {n n' : Nat} {H H' H'' : Hp} {h h' h'' : Hd} {α β : Type}
theorem RPost.mono {r : Res α} {P P' : α → Hd → (Nat → Addr) → Hp → Prop} (p : RPost K cA W σ ι h H r P) (k : ∀ a h' ι' H', Step ι h H ι' h' H' → HRep K cA ι' H' h' → P a h' ι' H' → P' a h' ι' H') : RPost K cA W σ ι h H r P' := by
  cases r with
  | ok a h' => exact fun ι' H' S R => k a h' ι' H' S R (p ι' H' S R)
  | exc c fs h' => exact p
  | stuck => exact p
theorem RPost.step {r : Res α} {P : α → Hd → (Nat → Addr) → Hp → Prop} (S : Step ι h H ι' h' H') (p : RPost K cA W σ ι h H r P) : RPost K cA W σ ι' h' H' r P := by
  cases r with
  | ok a h2 => exact fun ι2 H2 T R => p ι2 H2 (S.trans T) R
  | exc c fs h2 => exact fun ι2 H2 cls od T R x => p ι2 H2 cls od (S.trans T) R x
  | stuck => exact p
theorem RPost.bind {r : Res α} {f : α → Hd → Res β} {P : β → Hd → (Nat → Addr) → Hp → Prop} (p : RPost K cA W σ ι h H (r.bind f) P) : RPost K cA W σ ι h H r fun a h' ι' H' => RPost K cA W σ ι' h' H' (f a h') P := by
  cases r with
  | ok a h' => exact fun ι' H' S R => RPost.step S p
  | exc c fs h' => exact p
  | stuck => exact p
theorem RPost.ok {a : α} {P : α → Hd → (Nat → Addr) → Hp → Prop} (R : HRep K cA ι H h) (p : RPost K cA W σ ι h H (.ok a h) P) : P a h ι H := p ι H .refl R
theorem VRep.step {env : En} (V : VRep K ι h.length H σ env) (S : Step ι h H ι' h' H') (R : HRep K cA ι H h) : VRep K ι' h'.length H' σ env :=
  ⟨V.len, fun i d e => by
    obtain ⟨v, e1, r⟩ := V.var i d e
    exact ⟨v, e1, r.keep (S.tkeep R) S.len S.eq⟩⟩
theorem Rep.step {v : V} {d : D} (r : Rep K ι h.length H v d) (S : Step ι h H ι' h' H') (R : HRep K cA ι H h) : Rep K ι' h'.length H' v d := r.keep (S.tkeep R) S.len S.eq
theorem Reps.step {v : List V} {d : List D} (r : Reps K ι h.length H v d) (S : Step ι h H ι' h' H') (R : HRep K cA ι H h) : Reps K ι' h'.length H' v d := r.keep (S.tkeep R) S.len S.eq
end

/-- a reading of an expression; of a test; of an argument list; of a statement -/
abbrev SE := En → Hd → Res D
abbrev SB := En → Hd → Res Bool
abbrev SA := En → Hd → Res (List D)
inductive Fl where
  | nx (env : En) | ret (d : D) | brk (env : En) | ct (env : En) | exc (c : String) (fs : List (String × D)) (env : En)
inductive Rs where
  | ok (fl : Fl) (h : Hd)
  | stuck
abbrev SS := En → Hd → Rs
def Res.lift {α : Type} (r : Res α) (env : En) (k : α → Hd → Rs) : Rs := match r with
  | .ok a h => k a h
  | .exc c fs h => .ok (.exc c fs env) h
  | .stuck => .stuck
@[simp] theorem Res.lift_ok {α : Type} (a : α) (h : Hd) (env : En) (k : α → Hd → Rs) : (Res.ok a h).lift env k = k a h := id rfl
@[simp] theorem Res.lift_exc {α : Type} (c fs) (h : Hd) (env : En) (k : α → Hd → Rs) : (Res.exc c fs h : Res α).lift env k = .ok (.exc c fs env) h := id rfl
@[simp] theorem Res.lift_stuck {α : Type} (env : En) (k : α → Hd → Rs) : (Res.stuck : Res α).lift env k = .stuck := id rfl
/-- what a def's body runs in -/
structure Kx where
  X : Cx
  cA : CA
  W : WX
section
variable (Z : Kx)
def tD (f : SE) : TE := fun σ H Q => ∃ ι env h, HRep Z.X.K Z.cA ι H h ∧ VRep Z.X.K ι h.length H σ env ∧
  RPost Z.X.K Z.cA Z.W σ ι h H (f env h) fun d h' ι' H' => ∀ v, Rep Z.X.K ι' h'.length H' v d → Q v H'
def tDB (f : SB) : TT := fun σ H Q => ∃ ι env h, HRep Z.X.K Z.cA ι H h ∧ VRep Z.X.K ι h.length H σ env ∧
  RPost Z.X.K Z.cA Z.W σ ι h H (f env h) fun b h' ι' H' => Q b H'
def tDA (f : SA) : TA := fun σ H Q => ∃ ι env h, HRep Z.X.K Z.cA ι H h ∧ VRep Z.X.K ι h.length H σ env ∧
  RPost Z.X.K Z.cA Z.W σ ι h H (f env h) fun ds h' ι' H' => ∀ vs, Reps Z.X.K ι' h'.length H' vs ds → Q vs H'
def FlP (D : Ends) (fl : Fl) (h' : Hd) (ι' : Nat → Addr) (H' : Hp) : Prop := match fl with
  | .nx env => ∀ σ', VRep Z.X.K ι' h'.length H' σ' env → D.nx σ' H'
  | .brk env => ∀ σ', VRep Z.X.K ι' h'.length H' σ' env → D.bk σ' H'
  | .ct env => ∀ σ', VRep Z.X.K ι' h'.length H' σ' env → D.ct σ' H'
  | .ret d => ∀ v, Rep Z.X.K ι' h'.length H' v d → D.rt v H'
  | .exc c fs env => ∀ σ' cls od, VRep Z.X.K ι' h'.length H' σ' env → XRep Z.X.K Z.cA ι' h'.length H' c fs cls od → Z.W cls od σ' H'
def RsPost (D : Ends) (ι : Nat → Addr) (h : Hd) (H : Hp) (r : Rs) : Prop := match r with
  | .ok fl h' => ∀ ι' H', Step ι h H ι' h' H' → HRep Z.X.K Z.cA ι' H' h' → FlP Z D fl h' ι' H'
  | .stuck => False
def tDS (f : SS) : TS := fun D σ H => ∃ ι env h, HRep Z.X.K Z.cA ι H h ∧ VRep Z.X.K ι h.length H σ env ∧ RsPost Z D ι h H (f env h)
structure KE (e : Expr) (f : SE) : Prop where
  pe : PE Z.X e (tD Z f)
structure KB (e : Expr) (f : SB) : Prop where
  pt : PT Z.X e (tDB Z f)
structure KWB (e : Expr) (f : SB) : Prop where
  pw : PW Z.X e (tDB Z f)
structure KA (es : List Expr) (f : SA) : Prop where
  pa : PA Z.X es (tDA Z f)
structure KS (st : Stmt) (f : SS) : Prop where
  ps : PS Z.X st (tDS Z f)
structure KSs (st : List Stmt) (f : SS) : Prop where
  pss : PSs Z.X st (tDS Z f)
end
theorem _root_.L2.PE.weak {X : Cx} {e : Expr} {t t' : TE} (p : PE X e t) (k : ∀ σ H Q, t' σ H Q → t σ H Q) : PE X e t' := ⟨fun pins s σ H Q I q => p.run pins s σ H Q I (k σ H Q q)⟩
theorem _root_.L2.PT.weak {X : Cx} {e : Expr} {t t' : TT} (p : PT X e t) (k : ∀ σ H Q, t' σ H Q → t σ H Q) : PT X e t' := ⟨fun pins s σ H Q I q => p.run pins s σ H Q I (k σ H Q q)⟩
theorem _root_.L2.PW.weak {X : Cx} {e : Expr} {t t' : TT} (p : PW X e t) (k : ∀ σ H Q, t' σ H Q → t σ H Q) : PW X e t' := ⟨fun wh pins s σ H Q I q => p.run wh pins s σ H Q I (k σ H Q q)⟩
theorem _root_.L2.PA.weak {X : Cx} {e : List Expr} {t t' : TA} (p : PA X e t) (k : ∀ σ H Q, t' σ H Q → t σ H Q) : PA X e t' := ⟨fun pos pins s σ H Q I q => p.run pos pins s σ H Q I (k σ H Q q)⟩
theorem _root_.L2.PS.weak {X : Cx} {e : Stmt} {t t' : TS} (p : PS X e t) (k : ∀ D σ H, t' D σ H → t D σ H) : PS X e t' := ⟨fun pins s σ H D I q => p.run pins s σ H D I (k D σ H q)⟩
theorem _root_.L2.PSs.weak {X : Cx} {e : List Stmt} {t t' : TS} (p : PSs X e t) (k : ∀ D σ H, t' D σ H → t D σ H) : PSs X e t' := ⟨fun pins s σ H D I q => p.run pins s σ H D I (k D σ H q)⟩

section
variable {Z : Kx} {D : Ends} {σ : St} {ι ι' : Nat → Addr} {H H' : Hp} {h h' : Hd}
theorem RsPost.step {r : Rs} (S : Step ι h H ι' h' H') (p : RsPost Z D ι h H r) : RsPost Z D ι' h' H' r := by
  cases r with
  | ok fl h2 => exact fun ι2 H2 T R => p ι2 H2 (S.trans T) R
  | stuck => exact p
theorem RsPost.of {α : Type} {r : Res α} {env : En} {k : α → Hd → Rs} (R : HRep Z.X.K Z.cA ι H h) (V : VRep Z.X.K ι h.length H σ env) (p : RsPost Z D ι h H (r.lift env k)) : RPost Z.X.K Z.cA Z.W σ ι h H r fun a h1 ι1 H1 => RsPost Z D ι1 h1 H1 (k a h1) := by
  cases r with
  | ok a h1 => exact fun ι' H' S R' => p.step S
  | exc c fs h1 => exact fun ι' H' cls od S R' x => p ι' H' S R' σ cls od (V.step S R) x
  | stuck => exact p
theorem RsPost.fin {fl : Fl} (R : HRep Z.X.K Z.cA ι H h) (p : RsPost Z D ι h H (.ok fl h)) : FlP Z D fl h ι H := p ι H .refl R
end
section
variable {Z : Kx}
/-! ### names, constants -/
def sVar (i : Nat) : SE := fun env h => match env[i]? with | some (some d) => .ok d h | _ => .stuck
def sC (d : D) : SE := fun _ h => .ok d h
theorem ke_var {i : Nat} {x : Str} {pos : Pos} (hN : Z.X.N[i]? = some x) (hv : Vis Z.X.env.scope x) (hd : (x == ("__debug__" : Str)) = false := by decide) (hcd : (x == ("__classdict__" : Str)) = false := by decide) : KE Z (.Name x pos) (sVar i) :=
  ⟨(pe_var hN hv hd hcd).weak fun σ H Q ⟨ι, env, h, R, V, p⟩ => by
    unfold sVar at p
    cases e : env[i]? with
    | none => rw [e] at p; exact p.elim
    | some o =>
      cases o with
      | none => rw [e] at p; exact p.elim
      | some d =>
        rw [e] at p
        obtain ⟨v, e1, r⟩ := V.var i d e
        exact ⟨v, e1, RPost.ok R p v r⟩⟩
theorem ke_c {e : Expr} {v : V} {d : D} (p : PE Z.X e (tC v)) (r : ∀ ι n H, Rep Z.X.K ι n H v d) : KE Z e (sC d) :=
  ⟨p.weak fun σ H Q ⟨ι, env, h, R, V, p⟩ => RPost.ok R p v (r ι _ H)⟩
theorem ke_int {i j pos} : KE Z (.Constant (.int i) j pos) (sC (.int i)) := ke_c pe_int fun _ _ _ => .int
theorem ke_bl {b j pos} : KE Z (.Constant (.bool b) j pos) (sC (.bl b)) := ke_c pe_bl fun _ _ _ => .bl
theorem ke_non {j pos} : KE Z (.Constant .none j pos) (sC .non) := ke_c pe_non fun _ _ _ => .non
theorem ke_str {s : String} {j pos} : KE Z (.Constant (.str (Str.ofString s)) j pos) (sC (.str s)) := ke_c pe_str fun _ _ _ => .str

/-! ### argument lists -/
def sNil : SA := fun _ h => .ok [] h
def sCons (f : SE) (g : SA) : SA := fun env h => (f env h).bind fun d h1 => (g env h1).bind fun ds h2 => .ok (d :: ds) h2
theorem ka_nil : KA Z [] sNil := ⟨pa_nil.weak fun σ H Q ⟨ι, env, h, R, V, p⟩ => RPost.ok R p [] .nil⟩
theorem ka_cons {e : Expr} {es : List Expr} {f : SE} {g : SA} (he : KE Z e f) (hs : KA Z es g) (hq : starEach (e :: es) Z.X.env = (false, eval e Z.X.env) :: starEach es Z.X.env := by rfl) : KA Z (e :: es) (sCons f g) :=
  ⟨(pa_cons he.pe hs.pa hq).weak fun σ H Q ⟨ι, env, h, R, V, p⟩ => ⟨ι, env, h, R, V, (RPost.bind p).mono fun d h1 ι1 H1 S1 R1 p1 v r =>
    ⟨ι1, env, h1, R1, V.step S1 R, (RPost.bind p1).mono fun ds h2 ι2 H2 S2 R2 p2 vs rs => RPost.ok R2 p2 (v :: vs) (.cons (r.step S2 R1) rs)⟩⟩⟩

/-! ### operations on values -/
abbrev F2 := D → D → Hd → Res D
/-- a two-place operation of the hand layer does what F says -/
def OpK (Z : Kx) (f : Value → Value → Sem Value) (F : F2) : Prop := ∃ r : R2, OpR Z.X f r ∧ ∀ (σ : St) (ι : Nat → Addr) (h : Hd) (H : Hp) (x y : V) (dx dy : D) (Q : VK), HRep Z.X.K Z.cA ι H h → Rep Z.X.K ι h.length H x dx → Rep Z.X.K ι h.length H y dy →
  RPost Z.X.K Z.cA Z.W σ ι h H (F dx dy h) (fun d h' ι' H' => ∀ v, Rep Z.X.K ι' h'.length H' v d → Q v H') → r x y H Q
def s2 (F : F2) (f g : SE) : SE := fun env h => (f env h).bind fun x h1 => (g env h1).bind fun y h2 => F x y h2
theorem t2_of {F : F2} {f g : SE} {r : R2} (hr : ∀ (σ : St) (ι : Nat → Addr) (h : Hd) (H : Hp) (x y : V) (dx dy : D) (Q : VK), HRep Z.X.K Z.cA ι H h → Rep Z.X.K ι h.length H x dx → Rep Z.X.K ι h.length H y dy →
  RPost Z.X.K Z.cA Z.W σ ι h H (F dx dy h) (fun d h' ι' H' => ∀ v, Rep Z.X.K ι' h'.length H' v d → Q v H') → r x y H Q) (σ : St) (H : Hp) (Q : VK) (q : tD Z (s2 F f g) σ H Q) : tOp r (tD Z f) (tD Z g) σ H Q := by
  obtain ⟨ι, env, h, R, V, p⟩ := q
  exact ⟨ι, env, h, R, V, (RPost.bind p).mono fun d h1 ι1 H1 S1 R1 p1 v r =>
    ⟨ι1, env, h1, R1, V.step S1 R, (RPost.bind p1).mono fun e h2 ι2 H2 S2 R2 p2 w rw => hr σ ι2 h2 H2 v w d e Q R2 (r.step S2 R1) rw p2⟩⟩
theorem ke_op {op : Operator} {F : F2} {a b : Expr} {f g : SE} {pos : Pos} (ho : OpK Z (binaryOp op) F) (ha : KE Z a f) (hb : KE Z b g) : KE Z (.BinOp a op b pos) (s2 F f g) := by
  obtain ⟨r, hr, k⟩ := ho
  exact ⟨(pe_op hr ha.pe hb.pe).weak (t2_of k)⟩
theorem ke_cmp {op : CmpOp} {F : F2} {a b : Expr} {f g : SE} {pos : Pos} (ho : OpK Z (compareOp op) F) (ha : KE Z a f) (hb : KE Z b g) (hm : behindInMarks op b = false := by first | exact nomark _ | rfl) : KE Z (.Compare a [op] [b] pos) (s2 F f g) := by
  obtain ⟨r, hr, k⟩ := ho
  exact ⟨(pe_cmpR hr ha.pe hb.pe hm).weak (t2_of k)⟩
/-- several rules for one operation, by what the values are -/
theorem OpK.alt {f : Value → Value → Sem Value} {F G M : F2} (a : OpK Z f F) (b : OpK Z f G) (hm : ∀ x y h, M x y h = F x y h ∨ M x y h = G x y h) : OpK Z f M := by
  obtain ⟨r, hr, kr⟩ := a
  obtain ⟨q, hq, kq⟩ := b
  refine ⟨fun x y H Q => r x y H Q ∨ q x y H Q, fun pins s σ H x y v u Q I rx ry z => z.elim (hr pins s σ H x y v u Q I rx ry) (hq pins s σ H x y v u Q I rx ry), fun σ ι h H x y dx dy Q R rx ry p => ?_⟩
  rcases hm dx dy h with e | e
  · rw [e] at p; exact .inl (kr σ ι h H x y dx dy Q R rx ry p)
  · rw [e] at p; exact .inr (kq σ ι h H x y dx dy Q R rx ry p)
/-- an operation on two ints -/
def f2I (C : Int → Int → Bool) (g : Int → Int → D) : F2 := fun x y h => match x, y with
  | .int i, .int j => if C i j then .ok (g i j) h else .stuck
  | _, _ => .stuck
theorem OpK.ints {f : Value → Value → Sem Value} {C : Int → Int → Prop} {g : Int → Int → V} {C' : Int → Int → Bool} {g' : Int → Int → D} (o : OpR Z.X f (rI C g)) (hC : ∀ i j, C' i j = true → C i j) (hg : ∀ i j ι n H, Rep Z.X.K ι n H (g i j) (g' i j)) : OpK Z f (f2I C' g') :=
  ⟨_, o, fun σ ι h H x y dx dy Q R rx ry p => by
    cases rx <;> cases ry <;> first | exact p.elim | skip
    rename_i i j
    unfold f2I at p
    by_cases c : C' i j = true
    · simp only [c, if_true] at p
      exact ⟨i, j, rfl, rfl, hC i j c, RPost.ok R p _ (hg i j _ _ _)⟩
    · simp only [c] at p
      exact p.elim⟩
theorem rI_of0 {f : Value → Value → Sem Value} {g : Int → Int → V} (o : OpR Z.X f (rI0 g)) : OpR Z.X f (rI (fun _ _ => True) g) := fun pins s σ H x y v u Q I rx ry ⟨i, j, e1, e2, _, q⟩ => o pins s σ H x y v u Q I rx ry ⟨i, j, e1, e2, q⟩
abbrev yes2 : Int → Int → Bool := fun _ _ => true
theorem ko_add : OpK Z (binaryOp .Add) (f2I yes2 fun i j => .int (i + j)) := .ints (rI_of0 op_add) (fun _ _ _ => trivial) fun _ _ _ _ _ => .int
theorem ko_sub : OpK Z (binaryOp .Sub) (f2I yes2 fun i j => .int (i - j)) := .ints (rI_of0 op_sub) (fun _ _ _ => trivial) fun _ _ _ _ _ => .int
theorem ko_lt : OpK Z (compareOp .Lt) (f2I yes2 fun i j => .bl (decide (i < j))) := .ints (rI_of0 op_lt) (fun _ _ _ => trivial) fun _ _ _ _ _ => .bl
theorem ko_le : OpK Z (compareOp .LtE) (f2I yes2 fun i j => .bl (decide (i ≤ j))) := .ints (rI_of0 op_le) (fun _ _ _ => trivial) fun _ _ _ _ _ => .bl
theorem ko_gt : OpK Z (compareOp .Gt) (f2I yes2 fun i j => .bl (decide (j < i))) := .ints (rI_of0 op_gt) (fun _ _ _ => trivial) fun _ _ _ _ _ => .bl
theorem ko_ge : OpK Z (compareOp .GtE) (f2I yes2 fun i j => .bl (decide (j ≤ i))) := .ints (rI_of0 op_ge) (fun _ _ _ => trivial) fun _ _ _ _ _ => .bl
theorem ko_mod : OpK Z (binaryOp .Mod) (f2I (fun _ j => decide (0 < j)) fun i j => .int (i % j)) := .ints op_mod (fun _ _ c => of_decide_eq_true c) fun _ _ _ _ _ => .int
end
end Kf
end
section
set_option maxHeartbeats 4000000
/-! Kf: statements, tests, displays, loops. -/
namespace Kf
open PySem PySem.Spec L2
section
variable {K : PySem.W.Frag} {cA : CA} {ι : Nat → Addr} {n : Nat} {H : Hp} {h : Hd}
theorem HRep.off (R : HRep K cA ι H h) {p : Addr} (hp : H p = none) {m : Nat} (hm : m < h.length) : ι m ≠ p := fun z => by
  obtain ⟨o, ho, _, e, _⟩ := R.lt_obj hm
  rw [z, hp] at e; cases e
/-- something new that the heap does not speak of -/
theorem Step.aside (R : HRep K cA ι H h) {p : Addr} (hp : H p = none) (o : HO) : Step ι h H ι h (upd H p o) where
  eq := fun _ _ => rfl
  len := Nat.le_refl _
  keep := fun a u e _ => by rw [upd_ne (ne_of_none e hp)]; exact e
  fresh := fun m a b => absurd (Nat.lt_of_lt_of_le b a) (Nat.lt_irrefl _)
  there := fun a u e => ⟨u, by rw [upd_ne (ne_of_none e hp)]; exact e⟩
  frz := fun a u w e => by rw [upd_ne (ne_of_none e hp)]; exact e
/-- a later H under the same heap -/
theorem HRep.same {ι' : Nat → Addr} {H' : Hp} (R : HRep K cA ι H h) (S : Step ι h H ι' h H') (k : ∀ m, m < h.length → H' (ι m) = H (ι m)) : HRep K cA ι' H' h where
  obj := fun m o e => by
    have hm : m < h.length := by
      cases Nat.lt_or_ge m h.length with
      | inl q => exact q
      | inr q => rw [List.getElem?_eq_none q] at e; cases e
    obtain ⟨ho, e2, r⟩ := R.obj m o e
    refine ⟨ho, ?_, by rw [S.eq m hm]; exact r.keep (S.tkeep R) (Nat.le_refl _) S.eq⟩
    rw [S.eq m hm, k m hm]; exact e2
  inj := fun m k' hm hk e => R.inj m k' hm hk (by rw [← S.eq m hm, ← S.eq k' hk]; exact e)
theorem HRep.aside (R : HRep K cA ι H h) {p : Addr} (hp : H p = none) (o : HO) : HRep K cA ι (upd H p o) h := R.same (Step.aside R hp o) fun m hm => upd_ne (R.off hp hm)
/-- ι with one more address -/
def more (ι : Nat → Addr) (n : Nat) (p : Addr) : Nat → Addr := fun m => if m = n then p else ι m
theorem more_lt {ι : Nat → Addr} {n m : Nat} {p : Addr} (hm : m < n) : more ι n p m = ι m := if_neg (Nat.ne_of_lt hm)
theorem more_at {ι : Nat → Addr} {n : Nat} {p : Addr} : more ι n p n = p := if_pos rfl
theorem Step.alloc (R : HRep K cA ι H h) {p : Addr} (hp : H p = none) (ho : HO) (o : O) : Step ι h H (more ι h.length p) (h ++ [o]) (upd H p ho) where
  eq := fun m hm => more_lt hm
  len := by simp
  keep := fun a u e _ => by rw [upd_ne (ne_of_none e hp)]; exact e
  fresh := fun m a b => by
    have : m = h.length := by simp at b; omega
    subst this
    rw [more_at]; exact hp
  there := fun a u e => ⟨u, by rw [upd_ne (ne_of_none e hp)]; exact e⟩
  frz := fun a u w e => by rw [upd_ne (ne_of_none e hp)]; exact e
theorem lt_of_get {α : Type} {l : List α} {m : Nat} {o : α} (e : l[m]? = some o) : m < l.length := by
  cases Nat.lt_or_ge m l.length with
  | inl q => exact q
  | inr q => rw [List.getElem?_eq_none q] at e; cases e
theorem HRep.alloc (R : HRep K cA ι H h) {p : Addr} (hp : H p = none) {ho : HO} {o : O} (r : ORep K cA ι h.length H p ho o) : HRep K cA (more ι h.length p) (upd H p ho) (h ++ [o]) := by
  have S := Step.alloc R hp ho o
  refine ⟨fun m o' e => ?_, fun m k hm hk e => ?_⟩
  · have hm := lt_of_get e
    by_cases hlt : m < h.length
    · rw [List.getElem?_append_left hlt] at e
      obtain ⟨ho', e2, r'⟩ := R.obj m o' e
      refine ⟨ho', ?_, by rw [more_lt hlt]; exact r'.keep (S.tkeep R) (by simp) S.eq⟩
      rw [more_lt hlt, upd_ne (R.off hp hlt)]; exact e2
    · have hm' : m = h.length := by simp at hm; omega
      subst hm'
      rw [List.getElem?_append_right (Nat.le_refl _), Nat.sub_self] at e
      cases e
      refine ⟨ho, ?_, by rw [more_at]; exact r.keep (S.tkeep R) (by simp) S.eq⟩
      rw [more_at, upd_same]
  · have hm1 : m ≤ h.length := by simp at hm; omega
    have hk1 : k ≤ h.length := by simp at hk; omega
    rcases Nat.lt_or_eq_of_le hm1 with a | a <;> rcases Nat.lt_or_eq_of_le hk1 with b | b
    · rw [more_lt a, more_lt b] at e; exact R.inj m k a b e
    · subst b; rw [more_lt a, more_at] at e; exact absurd e (R.off hp a)
    · subst a; rw [more_lt b, more_at] at e; exact absurd e.symm (R.off hp b)
    · rw [a, b]
theorem Step.set (R : HRep K cA ι H h) {m : Nat} (hm : m < h.length) (hf : ∀ x u, H (ι m) ≠ some (.frz x u)) (ho : HO) (o : O) : Step ι h H ι (h.set m o) (upd H (ι m) ho) where
  eq := fun _ _ => rfl
  len := by simp
  keep := fun a u e k => by rw [upd_ne (k m hm)]; exact e
  fresh := fun k a b => by simp at b; exact absurd (Nat.lt_of_lt_of_le b a) (Nat.lt_irrefl _)
  there := fun a u e => by
    by_cases q : a = ι m
    · subst q; exact ⟨ho, upd_same⟩
    · exact ⟨u, by rw [upd_ne q]; exact e⟩
  frz := fun a x u e => by
    by_cases q : a = ι m
    · subst q; exact absurd e (hf x u)
    · rw [upd_ne q]; exact e
theorem HRep.set (R : HRep K cA ι H h) {m : Nat} (hm : m < h.length) (hf : ∀ x u, H (ι m) ≠ some (.frz x u)) {ho : HO} {o : O} (r : ORep K cA ι h.length H (ι m) ho o) : HRep K cA ι (upd H (ι m) ho) (h.set m o) := by
  have S := Step.set R hm hf ho o
  refine ⟨fun k o' e => ?_, fun a b ha hb e => R.inj a b (by simpa using ha) (by simpa using hb) e⟩
  have hk := lt_of_get e
  by_cases q : k = m
  · subst q
    rw [List.getElem?_set_self hm] at e
    cases e
    exact ⟨ho, upd_same, r.keep (S.tkeep R) (by simp) S.eq⟩
  · rw [List.getElem?_set_ne (Ne.symm q)] at e
    obtain ⟨ho', e2, r'⟩ := R.obj k o' e
    have hk' : k < h.length := by simpa using hk
    exact ⟨ho', by rw [upd_ne fun z => q (R.inj k m hk' hm z)]; exact e2, r'.keep (S.tkeep R) (by simp) S.eq⟩
theorem VRep.set {σ : St} {env : En} {i : Nat} {v : V} {d : D} (V : VRep K ι n H σ env) (r : Rep K ι n H v d) : VRep K ι n H (σ.set i (some v)) (env.set i (some d)) := by
  refine ⟨by simp [V.len], fun j e he => ?_⟩
  by_cases q : j = i
  · subst q
    have hj : j < env.length := by have := lt_of_get he; simpa using this
    rw [List.getElem?_set_self hj] at he
    cases he
    exact ⟨v, by rw [List.getElem?_set_self (by rw [V.len]; exact hj)], r⟩
  · rw [List.getElem?_set_ne (Ne.symm q)] at he ⊢
    exact V.var j e he
theorem Reps.len {vs : List V} {ds : List D} (r : Reps K ι n H vs ds) : vs.length = ds.length := by
  induction ds generalizing vs with
  | nil => cases r; rfl
  | cons d ds ih => cases r with | cons _ q => simp [ih q]
theorem Reps.get : ∀ {vs : List V} {ds : List D} {i : Nat} {d : D}, Reps K ι n H vs ds → ds[i]? = some d → ∃ v, vs[i]? = some v ∧ Rep K ι n H v d
  | _, _, 0, _, .cons r _, e => by simp at e; subst e; exact ⟨_, by simp, r⟩
  | _, _, i + 1, _, .cons _ q, e => by
    obtain ⟨v, e1, r⟩ := Reps.get (i := i) q (by simpa using e)
    exact ⟨v, by simpa using e1, r⟩
  | _, _, 0, _, .nil, e => by simp at e
  | _, _, _ + 1, _, .nil, e => by simp at e
theorem Reps.get' : ∀ {vs : List V} {ds : List D} {i : Nat} {v : V}, Reps K ι n H vs ds → vs[i]? = some v → ∃ d, ds[i]? = some d ∧ Rep K ι n H v d
  | _, _, 0, _, .cons r _, e => by simp at e; subst e; exact ⟨_, by simp, r⟩
  | _, _, i + 1, _, .cons _ q, e => by
    obtain ⟨v, e1, r⟩ := Reps.get' (i := i) q (by simpa using e)
    exact ⟨v, by simpa using e1, r⟩
  | _, _, 0, _, .nil, e => by simp at e
  | _, _, _ + 1, _, .nil, e => by simp at e
theorem Reps.append : ∀ {vs ws : List V} {ds es : List D}, Reps K ι n H vs ds → Reps K ι n H ws es → Reps K ι n H (vs ++ ws) (ds ++ es)
  | _, _, _, _, .nil, q => q
  | _, _, _, _, .cons r p, q => .cons r (Reps.append p q)
end

section
variable {Z : Kx}
/-! ### displays -/
abbrev LIM : Nat := 16777216
theorem lim_le {n : Nat} (h : n ≤ LIM) : n ≤ sizeLine := by rw [sizeLine_eq]; exact h
def sTup (f : SA) : SE := fun env h => (f env h).bind fun ds h1 => if ds.length ≤ LIM then .ok (.tup ds) h1 else .stuck
/-- a new tuple of ours -/
theorem made_post {σ : St} {ι : Nat → Addr} {h : Hd} {H : Hp} {vs : List V} {ds : List D} {Q : VK} (R : HRep Z.X.K Z.cA ι H h) (rs : Reps Z.X.K ι h.length H vs ds) (p : RPost Z.X.K Z.cA Z.W σ ι h H (.ok (.tup ds) h) fun d h' ι' H' => ∀ v, Rep Z.X.K ι' h'.length H' v d → Q v H') : Makes H vs Q :=
  fun a o ha hd => p ι _ (Step.aside R ha (.frz o (.tup vs))) (R.aside ha _) _ (.tup (.inl ⟨o, upd_same, hd⟩) (rs.step (Step.aside R ha _) R))
theorem ke_tup {es : List Expr} {f : SA} {k : Nat} {pos : Pos} (ha : KA Z es f) : KE Z (.Tuple es k pos) (sTup f) :=
  ⟨(pe_tupP ha.pa).weak fun σ H Q ⟨ι, env, h, R, V, p⟩ => ⟨ι, env, h, R, V, (RPost.bind p).mono fun ds h1 ι1 H1 S1 R1 p1 vs rs => by
    by_cases c : ds.length ≤ LIM
    · rw [if_pos c] at p1
      exact ⟨lim_le (by rw [rs.len]; exact c), made_post R1 rs p1⟩
    · rw [if_neg c] at p1; exact p1.elim⟩⟩
/-- a new list, not yet one of ours -/
structure KL (Z : Kx) (e : Expr) (f : SA) : Prop where
  pe : PE Z.X e fun σ H Q => ∃ ι env h, HRep Z.X.K Z.cA ι H h ∧ VRep Z.X.K ι h.length H σ env ∧
    RPost Z.X.K Z.cA Z.W σ ι h H (f env h) fun ds h' ι' H' => ∀ p vs, H p = none → H' p = some (.lst vs) → (∀ m, m < h'.length → p ≠ ι' m) → Reps Z.X.K ι' h'.length H' vs ds → Q (.ref p) H'
def sLst (f : SA) : SA := fun env h => (f env h).bind fun ds h1 => if ds.length ≤ LIM then .ok ds h1 else .stuck
theorem kl_lst {es : List Expr} {f : SA} {pos : Pos} (ha : KA Z es f) : KL Z (.List es pos) (sLst f) :=
  ⟨(pe_lst ha.pa).weak fun σ H Q ⟨ι, env, h, R, V, p⟩ => ⟨ι, env, h, R, V, (RPost.bind p).mono fun ds h1 ι1 H1 S1 R1 p1 vs rs => by
    by_cases c : ds.length ≤ LIM
    · rw [if_pos c] at p1
      refine ⟨lim_le (by rw [rs.len]; exact c), fun a ha => ?_⟩
      have S2 := Step.aside R1 ha (.lst vs)
      have hH : H a = none := by
        cases e : H a with
        | none => rfl
        | some o => obtain ⟨o', e'⟩ := S1.there a o e; rw [ha] at e'; cases e'
      exact p1 ι1 _ S2 (R1.aside ha _) a vs hH upd_same (fun m hm z => R1.off ha hm z.symm) (rs.step S2 R1)
    · rw [if_neg c] at p1; exact p1.elim⟩⟩
def sNew (f : SA) : SE := fun env h => (f env h).bind fun ds h1 => .ok (.ref h1.length) (h1 ++ [.lst ds])
/-- what was aside is ours from now on -/
theorem Step.take {ι ι' : Nat → Addr} {H H' : Hp} {h h' : Hd} (S : Step ι h H ι' h' H') {p : Addr} (hp : H p = none) (o : O) : Step ι h H (more ι' h'.length p) (h' ++ [o]) H' where
  eq := fun m hm => by rw [more_lt (Nat.lt_of_lt_of_le hm S.len)]; exact S.eq m hm
  len := by have := S.len; simp; omega
  keep := S.keep
  fresh := fun m a b => by
    by_cases q : m < h'.length
    · rw [more_lt q]; exact S.fresh m a q
    · have : m = h'.length := by simp at b; omega
      subst this
      rw [more_at]; exact hp
  there := S.there
  frz := S.frz
theorem HRep.take {K : PySem.W.Frag} {cA : CA} {ι : Nat → Addr} {H : Hp} {h : Hd} (R : HRep K cA ι H h) {p : Addr} {ho : HO} {o : O} (e : H p = some ho) (hn : ∀ m, m < h.length → p ≠ ι m) (r : ORep K cA ι h.length H p ho o) : HRep K cA (more ι h.length p) H (h ++ [o]) := by
  have t : TKeep K H H := ⟨fun _ _ q => q, fun _ _ q => q, fun _ _ q => q, fun _ _ q => q⟩
  refine ⟨fun m o' e' => ?_, fun m k hm hk e' => ?_⟩
  · have hm := lt_of_get e'
    by_cases hlt : m < h.length
    · rw [List.getElem?_append_left hlt] at e'
      obtain ⟨ho', e2, r'⟩ := R.obj m o' e'
      exact ⟨ho', by rw [more_lt hlt]; exact e2, by rw [more_lt hlt]; exact r'.keep t (by simp) fun m hm => more_lt hm⟩
    · have hm' : m = h.length := by simp at hm; omega
      subst hm'
      rw [List.getElem?_append_right (Nat.le_refl _), Nat.sub_self] at e'
      cases e'
      exact ⟨ho, by rw [more_at]; exact e, by rw [more_at]; exact r.keep t (by simp) fun m hm => more_lt hm⟩
  · have hm1 : m ≤ h.length := by simp at hm; omega
    have hk1 : k ≤ h.length := by simp at hk; omega
    rcases Nat.lt_or_eq_of_le hm1 with a | a <;> rcases Nat.lt_or_eq_of_le hk1 with b | b
    · rw [more_lt a, more_lt b] at e'; exact R.inj m k a b e'
    · subst b; rw [more_lt a, more_at] at e'; exact absurd e'.symm (hn m a)
    · subst a; rw [more_lt b, more_at] at e'; exact absurd e' (hn k b)
    · rw [a, b]
theorem RPost.bind0 {K : PySem.W.Frag} {cA : CA} {W : WX} {σ : St} {ι : Nat → Addr} {H : Hp} {h : Hd} {α β : Type} {r : Res α} {f : α → Hd → Res β} {P : β → Hd → (Nat → Addr) → Hp → Prop} (p : RPost K cA W σ ι h H (r.bind f) P) :
    RPost K cA W σ ι h H r fun a h' _ _ => RPost K cA W σ ι h H (f a h') P := by
  cases r with
  | ok a h' => exact fun ι' H' S R => p
  | exc c fs h' => exact p
  | stuck => exact p
theorem ke_new {e : Expr} {f : SA} (hl : KL Z e f) : KE Z e (sNew f) :=
  ⟨hl.pe.weak fun σ H Q ⟨ι, env, h, R, V, p⟩ => ⟨ι, env, h, R, V, (RPost.bind0 p).mono fun ds h1 ι1 H1 S1 R1 p1 a vs hH ea hn rs =>
    p1 _ H1 (S1.take hH _) (R1.take ea hn (.lst rs)) _ (by
      have e : Rep Z.X.K (more ι1 h1.length a) (h1 ++ [O.lst ds]).length H1 (.ref (more ι1 h1.length a h1.length)) (.ref h1.length) := .ref (by simp)
      rw [more_at] at e; exact e)⟩⟩

/-! ### tests -/
def sTest (f : SE) : SB := fun env h => (f env h).bind fun d h1 => match d with | .bl b => .ok b h1 | _ => .stuck
theorem kb_val {e : Expr} {f : SE} (p : KE Z e f) (he : ∀ whole, isTrue e Z.X.env whole = (do let v ← whole; standAt e.pos; holding [v] (truthy v)) := by intro _; rfl) : KB Z e (sTest f) :=
  ⟨(pt_val p.pe he).weak fun σ H Q ⟨ι, env, h, R, V, p⟩ => ⟨ι, env, h, R, V, (RPost.bind p).mono fun d h1 ι1 H1 S1 R1 p1 v r => by
    cases r with
    | bl => exact ⟨_, rfl, RPost.ok R1 p1⟩
    | non => exact p1.elim
    | int => exact p1.elim
    | str => exact p1.elim
    | raw => exact p1.elim
    | fls _ _ => exact p1.elim
    | ztp _ _ => exact p1.elim
    | tup _ _ => exact p1.elim
    | xc0 => exact p1.elim
    | xc _ _ => exact p1.elim
    | ref _ => exact p1.elim⟩⟩
def sAnd (f g : SB) : SB := fun env h => (f env h).bind fun b h1 => if b = true then g env h1 else .ok false h1
def sOr (f g : SB) : SB := fun env h => (f env h).bind fun b h1 => if b = true then .ok true h1 else g env h1
def sNot (f : SB) : SB := fun env h => (f env h).bind fun b h1 => .ok (!b) h1
section
variable {a b c : Expr} {rest : List Expr} {f g k : SB} {pos : Pos}
theorem kw_and1 (ha : KB Z a f) : KWB Z (.BoolOp .And [a] pos) f := ⟨pw_and1 ha.pt⟩
theorem kw_or1 (ha : KB Z a f) : KWB Z (.BoolOp .Or [a] pos) f := ⟨pw_or1 ha.pt⟩
theorem kw_and (ha : KB Z a f) (hb : KWB Z (.BoolOp .And (b :: rest) pos) g) : KWB Z (.BoolOp .And (a :: b :: rest) pos) (sAnd f g) :=
  ⟨(pw_and ha.pt hb.pw).weak fun σ H Q ⟨ι, env, h, R, V, p⟩ => ⟨ι, env, h, R, V, (RPost.bind p).mono fun d h1 ι1 H1 S1 R1 p1 => by
    cases d with
    | true => rw [if_pos rfl] at p1 ⊢; exact ⟨ι1, env, h1, R1, V.step S1 R, p1⟩
    | false => rw [if_neg Bool.false_ne_true] at p1 ⊢; exact RPost.ok R1 p1⟩⟩
theorem kw_or (ha : KB Z a f) (hb : KWB Z (.BoolOp .Or (b :: rest) pos) g) : KWB Z (.BoolOp .Or (a :: b :: rest) pos) (sOr f g) :=
  ⟨(pw_or ha.pt hb.pw).weak fun σ H Q ⟨ι, env, h, R, V, p⟩ => ⟨ι, env, h, R, V, (RPost.bind p).mono fun d h1 ι1 H1 S1 R1 p1 => by
    cases d with
    | false => rw [if_neg Bool.false_ne_true] at p1 ⊢; exact ⟨ι1, env, h1, R1, V.step S1 R, p1⟩
    | true => rw [if_pos rfl] at p1 ⊢; exact RPost.ok R1 p1⟩⟩
theorem kb_w (h : KWB Z a f) : KB Z a f := ⟨h.pw.pt⟩
theorem kb_not (ha : KB Z a f) : KB Z (.UnaryOp .Not a pos) (sNot f) :=
  ⟨(pt_not ha.pt).weak fun σ H Q ⟨ι, env, h, R, V, p⟩ => ⟨ι, env, h, R, V, (RPost.bind p).mono fun d h1 ι1 H1 S1 R1 p1 => RPost.ok R1 p1⟩⟩
def sIfE (c : SB) (f g : SE) : SE := fun env h => (c env h).bind fun b h1 => if b = true then f env h1 else g env h1
theorem ke_ife {f g : SE} (hc : KB Z c k) (ha : KE Z a f) (hb : KE Z b g) : KE Z (.IfExp c a b pos) (sIfE k f g) :=
  ⟨(pe_ifExp hc.pt ha.pe hb.pe).weak fun σ H Q ⟨ι, env, h, R, V, p⟩ => ⟨ι, env, h, R, V, (RPost.bind p).mono fun d h1 ι1 H1 S1 R1 p1 => by
    cases d with
    | true => rw [if_pos rfl] at p1 ⊢; exact ⟨ι1, env, h1, R1, V.step S1 R, p1⟩
    | false => rw [if_neg Bool.false_ne_true] at p1 ⊢; exact ⟨ι1, env, h1, R1, V.step S1 R, p1⟩⟩⟩
end

/-! ### statements -/
def sNext : SS := fun env h => .ok (.nx env) h
def sSeq (f g : SS) : SS := fun env h => match f env h with
  | .ok (.nx env1) h1 => g env1 h1
  | r => r
def sRet (f : SE) : SS := fun env h => (f env h).lift env fun d h1 => .ok (.ret d) h1
def sRetN : SS := fun _ h => .ok (.ret .non) h
def sBrk : SS := fun env h => .ok (.brk env) h
def sCt : SS := fun env h => .ok (.ct env) h
def sDrop (f : SE) : SS := fun env h => (f env h).lift env fun _ h1 => .ok (.nx env) h1
def sIf (c : SB) (f g : SS) : SS := fun env h => (c env h).lift env fun b h1 => if b = true then f env h1 else g env h1
section
variable {e c : Expr} {st : Stmt} {as bs rest : List Stmt} {f g : SS} {fe : SE} {k : SB} {pos : Pos}
theorem kss_nil : KSs Z [] sNext := ⟨pss_nil.weak fun D σ H ⟨ι, env, h, R, V, p⟩ => RsPost.fin R p σ V⟩
theorem kss_cons (h1 : KS Z st f) (h2 : KSs Z rest g) : KSs Z (st :: rest) (sSeq f g) :=
  ⟨(pss_cons h1.ps h2.pss).weak fun D σ H ⟨ι, env, h, R, V, p⟩ => by
    refine ⟨ι, env, h, R, V, ?_⟩
    unfold sSeq at p
    cases e : f env h with
    | stuck => rw [e] at p; exact p.elim
    | ok fl h' =>
      rw [e] at p
      cases fl with
      | nx env1 => exact fun ι' H' S R' σ' V' => ⟨ι', env1, h', R', V', p.step S⟩
      | ret d => exact p
      | brk env1 => exact p
      | ct env1 => exact p
      | exc c fs env1 => exact p⟩
theorem kss_one (h1 : KS Z st f) : KSs Z [st] f := ⟨pss_one h1.ps⟩
theorem ks_pass : KS Z (.Pass pos) sNext := ⟨ps_pass.weak fun D σ H ⟨ι, env, h, R, V, p⟩ => RsPost.fin R p σ V⟩
theorem ks_brk : KS Z (.Break pos) sBrk := ⟨ps_break.weak fun D σ H ⟨ι, env, h, R, V, p⟩ => RsPost.fin R p σ V⟩
theorem ks_ct : KS Z (.Continue pos) sCt := ⟨ps_continue.weak fun D σ H ⟨ι, env, h, R, V, p⟩ => RsPost.fin R p σ V⟩
theorem ks_expr (he : KE Z e fe) (hs : swapsWith e none pos.line Z.X.env = pure false := by rfl) : KS Z (.Expr e pos) (sDrop fe) :=
  ⟨(ps_expr he.pe hs).weak fun D σ H ⟨ι, env, h, R, V, p⟩ => ⟨ι, env, h, R, V, (RsPost.of R V p).mono fun d h1 ι1 H1 S1 R1 p1 v r => RsPost.fin R1 p1 σ (V.step S1 R)⟩⟩
theorem ks_ret (he : KE Z e fe) : KS Z (.Return (some e) pos) (sRet fe) :=
  ⟨(ps_ret he.pe).weak fun D σ H ⟨ι, env, h, R, V, p⟩ => ⟨ι, env, h, R, V, (RsPost.of R V p).mono fun d h1 ι1 H1 S1 R1 p1 v r => RsPost.fin R1 p1 v r⟩⟩
theorem ks_retN : KS Z (.Return none pos) sRetN := ⟨ps_retN.weak fun D σ H ⟨ι, env, h, R, V, p⟩ => RsPost.fin R p .non .non⟩
theorem ks_if (hc : KB Z c k) (ha : KSs Z as f) (hb : KSs Z bs g) : KS Z (.If c as bs pos) (sIf k f g) :=
  ⟨(ps_if hc.pt ha.pss hb.pss).weak fun D σ H ⟨ι, env, h, R, V, p⟩ => ⟨ι, env, h, R, V, (RsPost.of R V p).mono fun b h1 ι1 H1 S1 R1 p1 => by
    cases b with
    | true => rw [if_pos rfl] at p1 ⊢; exact ⟨ι1, env, h1, R1, V.step S1 R, p1⟩
    | false => rw [if_neg Bool.false_ne_true] at p1 ⊢; exact ⟨ι1, env, h1, R1, V.step S1 R, p1⟩⟩⟩
end

/-! ### targets -/
abbrev SG := D → En → Hd → Res En
abbrev SGs := List D → En → Hd → Res En
/-- an exception in a target's parts is not spoken of -/
structure KG (Z : Kx) (t : Expr) (g : SG) : Prop where
  pg : PG Z.X t fun v σ H Q => ∃ ι env h d, HRep Z.X.K Z.cA ι H h ∧ VRep Z.X.K ι h.length H σ env ∧ Rep Z.X.K ι h.length H v d ∧
    RPost Z.X.K Z.cA Z.W σ ι h H (g d env h) fun env' h' ι' H' => ∀ σ', VRep Z.X.K ι' h'.length H' σ' env' → Q σ' H'
structure KGs (Z : Kx) (ts : List Expr) (g : SGs) : Prop where
  pgs : PGs Z.X ts fun vs σ H Q => ∃ ι env h ds, HRep Z.X.K Z.cA ι H h ∧ VRep Z.X.K ι h.length H σ env ∧ Reps Z.X.K ι h.length H vs ds ∧
    RPost Z.X.K Z.cA Z.W σ ι h H (g ds env h) fun env' h' ι' H' => ∀ σ', VRep Z.X.K ι' h'.length H' σ' env' → Q σ' H'
theorem _root_.L2.PG.weak {X : Cx} {e : Expr} {t t' : TG} (p : PG X e t) (k : ∀ v σ H Q, t' v σ H Q → t v σ H Q) : PG X e t' := ⟨fun pins s σ H v u Q I r q => p.run pins s σ H v u Q I r (k v σ H Q q)⟩
theorem _root_.L2.PGs.weak {X : Cx} {e : List Expr} {t t' : TGs} (p : PGs X e t) (k : ∀ v σ H Q, t' v σ H Q → t v σ H Q) : PGs X e t' := ⟨fun pins s σ H v u Q I r q => p.run pins s σ H v u Q I r (k v σ H Q q)⟩
def gN (i : Nat) : SG := fun d env h => .ok (env.set i (some d)) h
theorem kg_name {i : Nat} {x : Str} {pos : Pos} (hN : Z.X.N.Nodup) (hi : Z.X.N[i]? = some x) (hx : Loc Z.X.env.scope x) (hf : Z.X.fn x = true ∨ Z.X.env.scope.names.lookup x = some .local := by first | exact .inl rfl | exact .inr rfl | assumption) : KG Z (.Name x pos) (gN i) :=
  ⟨(pg_name hN hi hx hf).weak fun v σ H Q ⟨ι, env, h, d, R, V, r, p⟩ => RPost.ok R p _ (V.set r)⟩
def gNil' : SGs := fun ds env h => match ds with | [] => .ok env h | _ => .stuck
/-- σ of the parts is that of the whole: exceptions of the parts carry their own slots; a target with no exception only -/
def noX {α : Type} (r : Res α) : Res α := match r with | .exc _ _ _ => .stuck | r => r
def gCons' (g : SG) (k : SGs) : SGs := fun ds env h => match ds with
  | [] => .stuck
  | d :: ds => (noX (g d env h)).bind fun env1 h1 => noX (k ds env1 h1)
theorem RPost.noX {α : Type} {K : PySem.W.Frag} {cA : CA} {W : WX} {σ σ' : St} {ι : Nat → Addr} {H : Hp} {h : Hd} {r : Res α} {P : α → Hd → (Nat → Addr) → Hp → Prop} (p : RPost K cA W σ ι h H (noX r) P) : RPost K cA W σ' ι h H r P := by
  cases r with
  | ok a h' => exact p
  | exc c fs h' => exact p.elim
  | stuck => exact p
theorem RPost.noX' {α : Type} {K : PySem.W.Frag} {cA : CA} {W : WX} {σ σ' : St} {ι : Nat → Addr} {H : Hp} {h : Hd} {r : Res α} {P : α → Hd → (Nat → Addr) → Hp → Prop} (p : RPost K cA W σ ι h H (Kf.noX r) P) : RPost K cA W σ' ι h H (Kf.noX r) P := by
  cases r with
  | ok a h' => exact p
  | exc c fs h' => exact p.elim
  | stuck => exact p
theorem kgs_nil : KGs Z [] gNil' := ⟨pgs_nil.weak fun vs σ H Q ⟨ι, env, h, ds, R, V, r, p⟩ => by
  cases r with
  | nil => exact ⟨rfl, RPost.ok R p σ V⟩
  | cons _ _ => exact p.elim⟩
theorem kgs_cons {e : Expr} {es : List Expr} {g : SG} {k : SGs} (h1 : KG Z e g) (h2 : KGs Z es k)
    (hs : (assignEach (e :: es) Z.X.env).map (·.2) = assign e Z.X.env :: (assignEach es Z.X.env).map (·.2) := by rfl) : KGs Z (e :: es) (gCons' g k) := ⟨(pgs_cons h1.pg h2.pgs hs).weak fun vs σ H Q ⟨ι, env, h, ds, R, V, r, p⟩ => by
  cases r with
  | nil => exact p.elim
  | cons r rs =>
    exact ⟨_, _, rfl, ι, env, h, _, R, V, r, RPost.noX ((RPost.bind p).mono fun env1 h1 ι1 H1 S1 R1 p1 σ1 V1 => ⟨ι1, env1, h1, _, R1, V1, rs.step S1 R, RPost.noX p1⟩)⟩⟩
def gTp (n : Nat) (k : SGs) : SG := fun d env h => match d with
  | .tup ds => if ds.length = n then k ds env h else .stuck
  | .fls ds => if ds.length = n then k ds env h else .stuck
  | .ztp ds => if ds.length = n then k ds env h else .stuck
  | .ref m => match h[m]? with
    | some (.lst ds) => if ds.length = n then k ds env h else .stuck
    | _ => .stuck
  | _ => .stuck
/-- a tuple or a list, taken apart -/
theorem pg_row {X : Cx} {es : List Expr} {k : Nat} {t : TGs} {n : Nat} {pos : Pos} (hc : X.calm = true) (h : PGs X es t)
    (hn : (assignEach es X.env).length = n := by rfl) (hst : (assignEach es X.env).findIdx? (·.1) = none := by rfl) : PG X (.Tuple es k pos) fun v σ H Q => gTup X.K n t v σ H Q ∨ gLst X.K n t v σ H Q :=
  ⟨fun pins s σ H v u Q I r q => q.elim ((pg_tup hc h hn hst).run pins s σ H v u Q I r) ((pg_lst hc h hn hst).run pins s σ H v u Q I r)⟩
/-- what gTp asks of the target's parts -/
theorem row_post {K : PySem.W.Frag} {cA : CA} {W : WX} {σ : St} {ι : Nat → Addr} {h : Hd} {H : Hp} {v : V} {d : D} {n : Nat} {k : SGs} {env : En} {P : En → Hd → (Nat → Addr) → Hp → Prop} (R : HRep K cA ι H h) (r : Rep K ι h.length H v d) (p : RPost K cA W σ ι h H (gTp n k d env h) P) :
    ∃ a xs ds, v = .ref a ∧ (SqT K H a xs ∨ SqL K H a xs) ∧ xs.length = n ∧ Reps K ι h.length H xs ds ∧ RPost K cA W σ ι h H (k ds env h) P := by
  have fin : ∀ {a : Addr} {xs : List V} {ds : List D}, SqT K H a xs ∨ SqL K H a xs → Reps K ι h.length H xs ds → RPost K cA W σ ι h H (if ds.length = n then k ds env h else .stuck) P →
      ∃ a' xs ds, V.ref a = .ref a' ∧ (SqT K H a' xs ∨ SqL K H a' xs) ∧ xs.length = n ∧ Reps K ι h.length H xs ds ∧ RPost K cA W σ ι h H (k ds env h) P := fun {a xs ds} q rs p => by
    by_cases c : ds.length = n
    · rw [if_pos c] at p
      exact ⟨a, xs, ds, rfl, q, by rw [rs.len]; exact c, rs, p⟩
    · rw [if_neg c] at p
      exact p.elim
  cases r with
  | tup q rs => exact fin (.inl q.sqt) rs p
  | ztp q rs => exact fin (.inl q) rs p
  | fls q rs => exact fin (.inr q.sql) rs p
  | @ref m hlt =>
    have p : RPost K cA W σ ι h H (match h[m]? with | some (.lst ds) => if ds.length = n then k ds env h else .stuck | _ => .stuck) P := p
    cases e : h[m]? with
    | none => rw [e] at p; exact p.elim
    | some o =>
      rw [e] at p
      obtain ⟨ho, e3, ro⟩ := R.obj m _ e
      cases ro with
      | lst rs => exact fin (.inr (.of e3)) rs p
      | dict _ => exact p.elim
      | lkd _ => exact p.elim
      | ins _ => exact p.elim
  | non => exact p.elim
  | bl => exact p.elim
  | int => exact p.elim
  | str => exact p.elim
  | raw => exact p.elim
  | xc0 => exact p.elim
  | xc _ _ => exact p.elim
theorem kg_tup {es : List Expr} {j : Nat} {k : SGs} {n : Nat} {pos : Pos} (hc : Z.X.calm = true) (hk : KGs Z es k)
    (hn : (assignEach es Z.X.env).length = n := by rfl) (hst : (assignEach es Z.X.env).findIdx? (·.1) = none := by rfl) : KG Z (.Tuple es j pos) (gTp n k) := ⟨(pg_row hc hk.pgs hn hst).weak fun v σ H Q ⟨ι, env, h, d, R, V, r, p⟩ => by
  obtain ⟨a, xs, ds, ev, q, hl, rs, p⟩ := row_post R r p
  exact q.elim (fun q => .inl ⟨a, xs, ev, q, hl, ι, env, h, ds, R, V, rs, p⟩) fun q => .inr ⟨a, xs, ev, q, hl, ι, env, h, ds, R, V, rs, p⟩⟩
def sAsg (f : SE) (g : SG) : SS := fun env h => (f env h).lift env fun d h1 => (noX (g d env h1)).lift env fun env' h2 => .ok (.nx env') h2
theorem ks_asg {tg e : Expr} {f : SE} {g : SG} {pos : Pos} (he : KE Z e f) (hg : KG Z tg g) (hs : swapsWithSole [tg] e pos.line Z.X.env = pure false := by rfl) (hw : swappedStores [tg] e Z.X.env = pure none := by rfl)
    (h1 : (assignEach [tg] Z.X.env).map (·.2) = [assign tg Z.X.env] := by rfl) : KS Z (.Assign [tg] e pos) (sAsg f g) :=
  ⟨(ps_asg he.pe hg.pg hs hw h1).weak fun D σ H ⟨ι, env, h, R, V, p⟩ => ⟨ι, env, h, R, V, (RsPost.of R V p).mono fun d h1 ι1 H1 S1 R1 p1 v r =>
    ⟨ι1, env, h1, d, R1, V.step S1 R, r, RPost.noX ((RsPost.of R1 (V.step S1 R) p1).mono fun env' h2 ι2 H2 S2 R2 p2 σ' V' => RsPost.fin R2 p2 σ' V')⟩⟩⟩
end
end Kf
end
section
set_option maxHeartbeats 4000000
/-! Kf: loops. -/
namespace Kf
open PySem PySem.Spec L2
section
variable {Z : Kx}
/-- the items of a tuple or of a list of ours -/
def itemsD (h : Hd) : D → Option (List D)
  | .tup ds => some ds
  | .fls ds => some ds
  | .ref m => match h[m]? with | some (.lst ds) => some ds | _ => none
  | _ => none
inductive ItD where
  | snap (ds : List D) | live (m : Nat) | zp (x y : D) | en (x : D) | rv (x : D) (n : Nat)
abbrev SI := En → Hd → Res ItD
/-- the item at place i; none: the end -/
def nextD (it : ItD) (h : Hd) (i : Nat) : Option (Option D) := match it with
  | .snap ds => some ds[i]?
  | .live m => match h[m]? with
    | some (.lst ds) => some ds[i]?
    | _ => none
  | .zp x y => match itemsD h x, itemsD h y with
    | some xs, some ys => some (match xs[i]?, ys[i]? with | some u, some v => some (.ztp [u, v]) | _, _ => none)
    | _, _ => none
  | .en x => match itemsD h x with
    | some xs => some (match xs[i]? with | some u => some (.ztp [.int (i : Nat), u]) | none => none)
    | none => none
  | .rv x n => match itemsD h x with
    | some xs => if xs.length = n then some xs.reverse[i]? else none
    | none => none
/-- the iterator J hands out it, whatever is done meanwhile -/
def ItOk (Z : Kx) (J : It) (it : ItD) (ι : Nat → Addr) (h : Hd) (H : Hp) : Prop := ∀ ι2 h2 H2, Step ι h H ι2 h2 H2 → HRep Z.X.K Z.cA ι2 H2 h2 → ∀ i,
  (∀ d, nextD it h2 i = some (some d) → J.go i H2 ∧ ∀ x H3, J.yld i H2 x H3 → Step ι2 h2 H2 ι2 h2 H3 ∧ HRep Z.X.K Z.cA ι2 H3 h2 ∧ Rep Z.X.K ι2 h2.length H3 x d) ∧ (nextD it h2 i = some none → J.stop i H2)
structure KI (Z : Kx) (tg e : Expr) (f : SI) : Prop where
  pi : PI Z.X tg e fun σ H R => ∃ ι env h, HRep Z.X.K Z.cA ι H h ∧ VRep Z.X.K ι h.length H σ env ∧
    RPost Z.X.K Z.cA Z.W σ ι h H (f env h) fun it h' ι' H' => ∀ J, ItOk Z J it ι' h' H' → R J H'
theorem _root_.L2.PI.weak {X : Cx} {tg e : Expr} {t t' : TI} (p : PI X tg e t) (k : ∀ σ H R, t' σ H R → t σ H R) : PI X tg e t' := ⟨fun pins s σ H R I q => p.run pins s σ H R I (k σ H R q)⟩
def sSnap (f : SA) : SI := fun env h => (f env h).bind fun ds h1 => .ok (.snap ds) h1
theorem it_list {ds : List D} {vs : List V} {ι2 : Nat → Addr} {h2 : Hd} {H2 : Hp} {a : Addr} {i : Nat} (R2 : HRep Z.X.K Z.cA ι2 H2 h2) (e2 : SqL Z.X.K H2 a vs) (rs2 : Reps Z.X.K ι2 h2.length H2 vs ds) :
    (∀ d, ds[i]? = some d → (Itl Z.X.K a).go i H2 ∧ ∀ x H3, (Itl Z.X.K a).yld i H2 x H3 → Step ι2 h2 H2 ι2 h2 H3 ∧ HRep Z.X.K Z.cA ι2 H3 h2 ∧ Rep Z.X.K ι2 h2.length H3 x d) ∧ (ds[i]? = none → (Itl Z.X.K a).stop i H2) := by
  refine ⟨fun d hd => ?_, fun hd => ⟨vs, e2, by rw [rs2.len]; exact List.getElem?_eq_none_iff.mp hd⟩⟩
  obtain ⟨v, hv, r⟩ := rs2.get hd
  refine ⟨⟨vs, v, e2, hv⟩, fun x H3 ⟨q1, q2⟩ => ?_⟩
  subst q1
  have hx := q2 vs e2
  rw [hv] at hx; cases hx
  exact ⟨.refl, R2, r⟩
/-- over a new list -/
theorem ki_new {tg e : Expr} {f : SA} (hl : KL Z e f) : KI Z tg e (sSnap f) :=
  ⟨(pi_list hl.pe).weak fun σ H Q ⟨ι, env, h, R, V, p⟩ => ⟨ι, env, h, R, V, (RPost.bind p).mono fun ds h1 ι1 H1 S1 R1 p1 a vs hH ea hn rs =>
    ⟨a, rfl, ⟨vs, .of ea⟩, RPost.ok R1 p1 _ fun ι2 h2 H2 S2 R2 i => by
      have e2 : H2 a = some (.lst vs) := S2.keep a _ ea hn
      have q := it_list (i := i) R2 (.of e2) (rs.step S2 R1)
      exact ⟨fun d hd => q.1 d (Option.some.inj hd), fun hd => q.2 (Option.some.inj hd)⟩⟩⟩⟩
/-- over a tuple, a list -/
def itOf (d : D) (h : Hd) : Option ItD := match d with
  | .tup ds => some (.snap ds)
  | .fls ds => some (.snap ds)
  | .ref m => match h[m]? with
    | some (.lst _) => some (.live m)
    | _ => none
  | _ => none
def sVal (f : SE) : SI := fun env h => (f env h).bind fun d h1 => match itOf d h1 with | some it => .ok it h1 | none => .stuck
theorem _root_.L2.PI.or {X : Cx} {tg e : Expr} {t t' : TI} (p : PI X tg e t) (q : PI X tg e t') : PI X tg e fun σ H R => t σ H R ∨ t' σ H R := ⟨fun pins s σ H R I z => z.elim (p.run pins s σ H R I) (q.run pins s σ H R I)⟩
/-- either way, by values -/
def iAny (K : PySem.W.Frag) (tl : TE) : TI := fun σ H R => tl σ H fun x H1 => ∃ a, x = .ref a ∧ (((∃ xs, SqL K H1 a xs) ∧ R (Itl K a) H1) ∨ ((∃ xs, SqT K H1 a xs) ∧ R (Itt K a) H1))
theorem pi_any {tg l : Expr} {tl : TE} (hl : PE Z.X l tl) : PI Z.X tg l (iAny Z.X.K tl) := by
  refine ⟨fun pins s σ H R I h => thn (hl.run pins s σ H _ I h) fun v s1 ⟨x, H1, I1, r1, a, ex, q⟩ => ?_⟩
  subst ex
  obtain rfl : v = Value.ref a := r1
  have J : ∀ ob : Obj, L2.Inv Z.X pins σ H1 { s1 with heap := s1.heap.push ob } := fun ob => I1.kept (t' := s1.toks) fun b o e => Heap.get?_push_of_some _ e
  have fp : ∀ b ∈ [s1.heap.objs.size], FpOk Z.X pins H1 b := fun b hb => by
    obtain rfl : b = s1.heap.objs.size := by simpa using hb
    exact I1.fpOk (Nat.le_refl _) (I1.hok.fresh (Nat.le_refl _))
  rcases q with ⟨⟨xs, hq⟩, q⟩ | ⟨⟨xs, hq⟩, q⟩
  · obtain ⟨_, _, hp, _⟩ := I1.list hq
    exact wpAny_pyIter_list hp.isList ⟨_, [_], _, _, H1, rfl, J _, turn_list a _, ⟨_, Heap.get?_push_size _ rfl, rfl, rfl⟩, fp, q⟩
  · obtain ⟨its, _, hp, _⟩ := I1.tuple hq
    exact wpAny_pyIter_tuple (show s1.heap.IsTuple a its.toArray from hp) ⟨_, [_], _, _, H1, rfl, J _, turn_tuple a _, ⟨_, Heap.get?_push_size _ rfl, rfl, rfl⟩, fp, q⟩
theorem ki_val {tg e : Expr} {f : SE} (he : KE Z e f) : KI Z tg e (sVal f) :=
  ⟨(pi_any he.pe).weak fun σ H Q ⟨ι, env, h, R, V, p⟩ => ⟨ι, env, h, R, V, (RPost.bind p).mono fun d h1 ι1 H1 S1 R1 p1 v r => by
    have p1 : RPost Z.X.K Z.cA Z.W σ ι1 h1 H1 (match itOf d h1 with | some it => .ok it h1 | none => .stuck) fun it h' ι' H' => ∀ J, ItOk Z J it ι' h' H' → Q J H' := p1
    cases e : itOf d h1 with
    | none => rw [e] at p1; exact p1.elim
    | some it =>
      rw [e] at p1
      have p1 : RPost Z.X.K Z.cA Z.W σ ι1 h1 H1 (.ok it h1) fun it h' ι' H' => ∀ J, ItOk Z J it ι' h' H' → Q J H' := p1
      cases r with
      | @tup a xs ds q rs =>
        cases e
        refine ⟨a, rfl, .inr ⟨⟨xs, q.sqt⟩, RPost.ok R1 p1 _ fun ι2 h2 H2 S2 R2 i => ?_⟩⟩
        have q2 := (S2.tkeep R1).tup _ _ q.sqt
        have rs2 := rs.step S2 R1
        refine ⟨fun d hd => ?_, fun hd => ⟨xs, q2, by rw [rs2.len]; exact List.getElem?_eq_none_iff.mp (Option.some.inj hd)⟩⟩
        obtain ⟨v, hv, r⟩ := rs2.get (Option.some.inj hd)
        refine ⟨⟨xs, v, q2, hv⟩, fun x H3 ⟨z1, z2⟩ => ?_⟩
        subst z1
        have hx := z2 xs q2
        rw [hv] at hx; cases hx
        exact ⟨.refl, R2, r⟩
      | ztp _ _ => cases e
      | @fls a xs ds q rs =>
        cases e
        refine ⟨a, rfl, .inl ⟨⟨xs, q.sql⟩, RPost.ok R1 p1 _ fun ι2 h2 H2 S2 R2 i => ?_⟩⟩
        have z := it_list (i := i) R2 ((S2.tkeep R1).fzl _ _ q).sql (rs.step S2 R1)
        exact ⟨fun d hd => z.1 d (Option.some.inj hd), fun hd => z.2 (Option.some.inj hd)⟩
      | @ref m hlt =>
        have e : (match h1[m]? with | some (O.lst _) => some (ItD.live m) | _ => none) = some it := e
        cases hm : h1[m]? with
        | none => rw [hm] at e; cases e
        | some o =>
          rw [hm] at e
          cases o with
          | lst ds =>
            cases e
            obtain ⟨ho, e3, ro⟩ := R1.obj m _ hm
            cases ro with
            | @lst xs _ rs =>
              refine ⟨_, rfl, .inl ⟨⟨xs, .of e3⟩, RPost.ok R1 p1 _ fun ι2 h2 H2 S2 R2 i => ?_⟩⟩
              have nx : ∀ {o : Option D}, nextD (.live m) h2 i = some o → ∃ es ys, h2[m]? = some (.lst es) ∧ es[i]? = o ∧ H2 (ι1 m) = some (.lst ys) ∧ Reps Z.X.K ι2 h2.length H2 ys es := fun {o} en => by
                have en : (match h2[m]? with | some (O.lst ds) => some ds[i]? | _ => none) = some o := en
                cases hm2 : h2[m]? with
                | none => rw [hm2] at en; cases en
                | some u =>
                  rw [hm2] at en
                  cases u with
                  | lst es =>
                    obtain ⟨ho2, e4, ro2⟩ := R2.obj m _ hm2
                    rw [S2.eq m hlt] at e4
                    cases ro2 with
                    | lst rs2 => exact ⟨es, _, rfl, Option.some.inj en, e4, rs2⟩
                  | dict _ => cases en
                  | lkd _ => cases en
                  | ins _ _ => cases en
              refine ⟨fun d hd => ?_, fun hd => ?_⟩
              · obtain ⟨es, ys, _, e5, e6, r6⟩ := nx hd
                exact (it_list (i := i) R2 (.of e6) r6).1 d e5
              · obtain ⟨es, ys, _, e5, e6, r6⟩ := nx hd
                exact (it_list (i := i) R2 (.of e6) r6).2 e5
          | dict _ => cases e
          | lkd _ => cases e
          | ins _ _ => cases e
      | xc0 => cases e
      | xc _ _ => cases e
      | non => cases e
      | bl => cases e
      | int => cases e
      | raw => cases e
      | str => cases e⟩⟩
def rangeL (lo : Int) (n : Nat) : List D := (List.range n).map fun (i : Nat) => D.int (lo + (i : Int))
def BIG : Int := 4611686018427387904
theorem big_eq : BIG = 2 ^ 62 := by decide
def sRange1 (f : SE) : SI := fun env h => (f env h).bind fun d h1 => match d with | .int j => if -BIG ≤ j ∧ j < BIG then .ok (.snap (rangeL 0 j.toNat)) h1 else .stuck | _ => .stuck
def sRange2 (f g : SE) : SI := fun env h => (f env h).bind fun d h1 => (g env h1).bind fun e h2 => match d, e with | .int i, .int j => if (-BIG ≤ i ∧ i < BIG) ∧ -BIG ≤ j ∧ j < BIG then .ok (.snap (rangeL i (j - i).toNat)) h2 else .stuck | _, _ => .stuck
theorem snap_range {lo : Int} {n : Nat} {ι : Nat → Addr} {h : Hd} {H : Hp} : ItOk Z (Itr lo n) (.snap (rangeL lo n)) ι h H := fun ι2 h2 H2 S2 R2 i => by
  refine ⟨fun d hd => ?_, fun hd => ?_⟩
  · have hd := Option.some.inj hd
    have hi : i < n := by have := lt_of_get hd; simpa [rangeL] using this
    refine ⟨hi, fun x H3 ⟨z1, z2⟩ => ?_⟩
    subst z1; subst z2
    simp [rangeL, hi] at hd
    subst hd
    exact ⟨.refl, R2, .int⟩
  · have hd := Option.some.inj hd
    have := List.getElem?_eq_none_iff.mp hd
    show n ≤ i
    simpa [rangeL] using this
theorem ki_range1 {tg a : Expr} {f : SE} {p pos : Pos} (hg : Gl Z.X "range") (hm : Z.X.mg "range" = none) (ha : KE Z a f) (hs : starEach [a] Z.X.env = [(false, eval a Z.X.env)] := by rfl) : KI Z tg (.Call (.Name "range" p) [a] [] pos) (sRange1 f) :=
  ⟨(pi_range1 hg hm (ka_cons ha ka_nil hs).pa hs).weak fun σ H Q ⟨ι, env, h, R, V, p⟩ => ⟨ι, env, h, R, V, by
    have p' := RPost.bind p
    refine RPost.mono (r := sCons f sNil env h) (P := fun ds h1 ι1 H1 => ∃ d, ds = [d] ∧ RPost Z.X.K Z.cA Z.W σ ι1 h1 H1 (match d with | .int j => if -BIG ≤ j ∧ j < BIG then .ok (.snap (rangeL 0 j.toNat)) h1 else .stuck | _ => .stuck) fun it h' ι' H' => ∀ J, ItOk Z J it ι' h' H' → Q J H') ?_ ?_
    · show RPost _ _ _ _ _ _ _ ((f env h).bind fun d h1 => .ok [d] h1) _
      cases e : f env h with
      | ok d h1 => rw [e] at p'; exact fun ι' H' S R' => ⟨d, rfl, p' ι' H' S R'⟩
      | exc c fs h1 => rw [e] at p'; exact p'
      | stuck => rw [e] at p'; exact p'.elim
    · rintro ds h1 ι1 H1 S1 R1 ⟨d, rfl, p1⟩ vs rs
      cases rs with
      | cons r rr =>
        cases rr
        cases r with
        | @int j =>
          by_cases c : -BIG ≤ j ∧ j < BIG
          · have p1 : RPost _ _ _ _ _ _ _ (if -BIG ≤ j ∧ j < BIG then _ else _) _ := p1
            rw [if_pos c] at p1
            rw [big_eq] at c
            exact ⟨j, rfl, c.1, c.2, RPost.ok R1 p1 _ snap_range⟩
          · have p1 : RPost _ _ _ _ _ _ _ (if -BIG ≤ j ∧ j < BIG then _ else _) _ := p1
            rw [if_neg c] at p1; exact p1.elim
        | non => exact p1.elim
        | bl => exact p1.elim
        | str => exact p1.elim
        | raw => exact p1.elim
        | xc0 => exact p1.elim
        | xc _ _ => exact p1.elim
        | fls _ _ => exact p1.elim
        | ztp _ _ => exact p1.elim
        | tup _ _ => exact p1.elim
        | ref _ => exact p1.elim⟩⟩
theorem ki_range2 {tg a b : Expr} {f g : SE} {p pos : Pos} (hg : Gl Z.X "range") (hm : Z.X.mg "range" = none) (ha : KE Z a f) (hb : KE Z b g) (hs : starEach [a, b] Z.X.env = [(false, eval a Z.X.env), (false, eval b Z.X.env)] := by rfl) (hs2 : starEach [b] Z.X.env = [(false, eval b Z.X.env)] := by rfl) :
    KI Z tg (.Call (.Name "range" p) [a, b] [] pos) (sRange2 f g) :=
  ⟨(pi_range2 hg hm (ka_cons ha (ka_cons hb ka_nil hs2) (by rw [hs, hs2])).pa hs hs2).weak fun σ H Q ⟨ι, env, h, R, V, p⟩ => ⟨ι, env, h, R, V, by
    refine RPost.mono (r := sCons f (sCons g sNil) env h) (P := fun ds h1 ι1 H1 => ∃ d e, ds = [d, e] ∧ RPost Z.X.K Z.cA Z.W σ ι1 h1 H1 (match d, e with | .int i, .int j => if (-BIG ≤ i ∧ i < BIG) ∧ -BIG ≤ j ∧ j < BIG then .ok (.snap (rangeL i (j - i).toNat)) h1 else .stuck | _, _ => .stuck) fun it h' ι' H' => ∀ J, ItOk Z J it ι' h' H' → Q J H') ?_ ?_
    · have p : RPost _ _ _ _ _ _ _ ((f env h).bind _) _ := p
      show RPost _ _ _ _ _ _ _ ((f env h).bind _) _
      cases e : f env h with
      | ok d h1 =>
        rw [e] at p
        have p : RPost _ _ _ _ _ _ _ ((g env h1).bind _) _ := p
        show RPost _ _ _ _ _ _ _ (((g env h1).bind _).bind _) _
        cases e2 : g env h1 with
        | ok d2 h2 => rw [e2] at p; exact fun ι' H' S R' => ⟨d, d2, rfl, RPost.step S p⟩
        | exc c fs h1 => rw [e2] at p; exact p
        | stuck => rw [e2] at p; exact p.elim
      | exc c fs h1 => rw [e] at p; exact p
      | stuck => rw [e] at p; exact p.elim
    · rintro ds h1 ι1 H1 S1 R1 ⟨d, e, rfl, p1⟩ vs rs
      cases rs with
      | cons r rr =>
        cases rr with
        | cons r' rr =>
          cases rr
          cases r <;> first | exact p1.elim | skip
          cases r' <;> first | exact p1.elim | skip
          rename_i i j
          have p1 : RPost _ _ _ _ _ _ _ (if (-BIG ≤ i ∧ i < BIG) ∧ -BIG ≤ j ∧ j < BIG then _ else _) _ := p1
          by_cases c : (-BIG ≤ i ∧ i < BIG) ∧ -BIG ≤ j ∧ j < BIG
          · rw [if_pos c] at p1
            rw [big_eq] at c
            exact ⟨i, j, rfl, ⟨c.1.1, c.1.2, c.2.1, c.2.2⟩, RPost.ok R1 p1 _ snap_range⟩
          · rw [if_neg c] at p1; exact p1.elim⟩⟩

/-! ### for -/
def loopI (it : ItD) (g : SG) (body : SS) : Nat → Nat → En → Hd → Rs
  | 0, _, _, _ => .stuck
  | n + 1, i, env, h => match nextD it h i with
    | none => .stuck
    | some none => .ok (.nx env) h
    | some (some d) => (noX (g d env h)).lift env fun env1 h1 => match body env1 h1 with
      | .ok (.nx env2) h2 => loopI it g body n (i + 1) env2 h2
      | .ok (.ct env2) h2 => loopI it g body n (i + 1) env2 h2
      | .ok (.brk env2) h2 => .ok (.nx env2) h2
      | r => r
/-- how many turns at most -/
def turnsD (it : ItD) (h : Hd) : Nat := match it with
  | .snap ds => ds.length + 1
  | .live m => match h[m]? with
    | some (.lst ds) => ds.length + 1
    | _ => 0
  | .zp x _ => match itemsD h x with
    | some ds => ds.length + 1
    | none => 0
  | .en x => match itemsD h x with
    | some ds => ds.length + 1
    | none => 0
  | .rv _ n => n + 1
def sFor (it : SI) (g : SG) (body : SS) : SS := fun env h => (it env h).lift env fun j h1 => loopI j g body (turnsD j h1) 0 env h1
/-- over written-out items -/
def loopItems (g : SG) (body : SS) : List D → En → Hd → Rs
  | [], env, h => .ok (.nx env) h
  | d :: ds, env, h => (noX (g d env h)).lift env fun env1 h1 => match body env1 h1 with
    | .ok (.nx env2) h2 => loopItems g body ds env2 h2
    | .ok (.ct env2) h2 => loopItems g body ds env2 h2
    | .ok (.brk env2) h2 => .ok (.nx env2) h2
    | r => r
theorem loop_snap (g : SG) (body : SS) (ds : List D) : ∀ (n i : Nat) (env : En) (h : Hd), n + i = ds.length → loopI (.snap ds) g body (n + 1) i env h = loopItems g body (ds.drop i) env h
  | n, i, env, h, e => by
    unfold loopI
    show (match (some ds[i]? : Option (Option D)) with | none => _ | some none => _ | some (some d) => _) = _
    by_cases hi : i < ds.length
    · rw [List.drop_eq_getElem_cons hi, List.getElem?_eq_getElem hi]
      unfold loopItems
      dsimp only
      congr 1
      funext env1 h1
      cases body env1 h1 with
      | stuck => rfl
      | ok fl h2 => cases fl <;> first | rfl | (obtain ⟨k, rfl⟩ : ∃ k, n = k + 1 := ⟨n - 1, by omega⟩; exact loop_snap g body ds k (i + 1) _ _ (by omega))
    · rw [List.drop_eq_nil_of_le (Nat.le_of_not_lt hi), List.getElem?_eq_none (Nat.le_of_not_lt hi)]
      rfl
theorem ks_for {tg iter : Expr} {body : List Stmt} {it : SI} {g : SG} {b : SS} {pos : Pos} (hp : PassesOwn (model Z.X.prog Z.X.w) Z.X.A Z.X.env Z.X.xe) (hc : Z.X.calm = true) (hi : KI Z tg iter it) (hg : KG Z tg g) (hb : KSs Z body b)
    (hs : ∀ x, foldedSetIterable iter Z.X.env x = pure x := by intro _; rfl) : KS Z (.For tg iter body [] pos) (sFor it g b) :=
  ⟨(ps_for hp hc hi.pi hg.pg hb.pss hs).weak fun Dd σ H ⟨ι, env, h, R, V, p⟩ => ⟨ι, env, h, R, V, (RsPost.of R V p).mono fun j h1 ι1 H1 S1 R1 p1 J ok => by
    refine ⟨fun i m σ' H' => ∃ ι' env' h', Step ι1 h1 H1 ι' h' H' ∧ HRep Z.X.K Z.cA ι' H' h' ∧ VRep Z.X.K ι' h'.length H' σ' env' ∧ RsPost Z Dd ι' h' H' (loopI j g b m i env' h'),
      ⟨_, ι1, env, h1, .refl, R1, V.step S1 R, p1⟩, ?_⟩
    rintro i m σ' H' ⟨ι', env', h', S', R', V', p'⟩
    cases m with
    | zero => exact p'.elim
    | succ m =>
      obtain ⟨k1, k2⟩ := ok ι' h' H' S' R' i
      unfold loopI at p'
      cases en : nextD j h' i with
      | none => rw [en] at p'; exact p'.elim
      | some o =>
        rw [en] at p'
        cases o with
        | none => exact .inl ⟨k2 en, RsPost.fin R' p' σ' V'⟩
        | some d =>
          obtain ⟨go, yl⟩ := k1 d en
          refine .inr ⟨go, fun σ2 H2 => ∃ ι' env' h', Step ι1 h1 H1 ι' h' H2 ∧ HRep Z.X.K Z.cA ι' H2 h' ∧ VRep Z.X.K ι' h'.length H2 σ2 env' ∧ RsPost Z Dd ι' h' H2 (loopI j g b m (i + 1) env' h'),
            fun σ2 H2 q => ⟨m, Nat.lt_succ_self _, q⟩, fun x H3 y => ?_⟩
          obtain ⟨S3, R3, r3⟩ := yl x H3 y
          have p3 : RsPost Z Dd ι' h' H3 ((noX (g d env' h')).lift env' _) := p'.step S3
          refine ⟨ι', env', h', d, R3, V'.step S3 R', r3, ?_⟩
          refine RPost.noX ((RsPost.of R3 (V'.step S3 R') p3).mono fun env4 h4 ι4 H4 S4 R4 p4 σ4 V4 => ⟨ι4, env4, h4, R4, V4, ?_⟩)
          cases eb : b env4 h4 with
          | stuck => rw [eb] at p4; exact p4.elim
          | ok fl h5 =>
            rw [eb] at p4
            have again : ∀ env5, RsPost Z Dd ι4 h4 H4 (loopI j g b m (i + 1) env5 h5) → ∀ ι5 H5, Step ι4 h4 H4 ι5 h5 H5 → HRep Z.X.K Z.cA ι5 H5 h5 → ∀ σ5, VRep Z.X.K ι5 h5.length H5 σ5 env5 →
                ∃ ι' env' h', Step ι1 h1 H1 ι' h' H5 ∧ HRep Z.X.K Z.cA ι' H5 h' ∧ VRep Z.X.K ι' h'.length H5 σ5 env' ∧ RsPost Z Dd ι' h' H5 (loopI j g b m (i + 1) env' h') := fun env5 q ι5 H5 S5 R5 σ5 V5 =>
              ⟨ι5, env5, h5, ((S'.trans S3).trans S4).trans S5, R5, V5, q.step S5⟩
            cases fl with
            | nx env5 => exact fun ι5 H5 S5 R5 => again env5 p4 ι5 H5 S5 R5
            | ct env5 => exact fun ι5 H5 S5 R5 => again env5 p4 ι5 H5 S5 R5
            | brk env5 => exact p4
            | ret d => exact p4
            | exc c fs env5 => exact p4⟩⟩

/-! ### while -/
def loopWhile (c : SB) (body : SS) : Nat → En → Hd → Rs
  | 0, _, _ => .stuck
  | n + 1, env, h => (c env h).lift env fun b h1 => if b = true then (match body env h1 with
    | .ok (.nx env2) h2 => loopWhile c body n env2 h2
    | .ok (.ct env2) h2 => loopWhile c body n env2 h2
    | .ok (.brk env2) h2 => .ok (.nx env2) h2
    | r => r) else .ok (.nx env) h1
def sWhile (n : Nat) (c : SB) (body : SS) : SS := loopWhile c body n
theorem ks_while {c : Expr} {body : List Stmt} {f : SB} {b : SS} {pos : Pos} (n : Nat) (hp : PassesOwn (model Z.X.prog Z.X.w) Z.X.A Z.X.env Z.X.xe) (hc : KB Z c f) (hb : KSs Z body b) : KS Z (.While c body [] pos) (sWhile n f b) :=
  ⟨(ps_while hp hc.pt hb.pss).weak fun Dd σ H ⟨ι, env, h, R, V, p⟩ => by
    refine ⟨fun m σ' H' => ∃ ι' env' h', HRep Z.X.K Z.cA ι' H' h' ∧ VRep Z.X.K ι' h'.length H' σ' env' ∧ RsPost Z Dd ι' h' H' (loopWhile f b m env' h'), ⟨n, ι, env, h, R, V, p⟩, ?_⟩
    rintro m σ' H' ⟨ι', env', h', R', V', p'⟩
    cases m with
    | zero => exact p'.elim
    | succ m =>
      refine ⟨ι', env', h', R', V', (RsPost.of R' V' p').mono fun t h1 ι1 H1 S1 R1 p1 => ?_⟩
      cases t with
      | false => rw [if_neg Bool.false_ne_true] at p1 ⊢; exact RsPost.fin R1 p1 σ' (V'.step S1 R')
      | true =>
        rw [if_pos rfl] at p1 ⊢
        refine ⟨fun σ2 H2 => ∃ ι' env' h', HRep Z.X.K Z.cA ι' H2 h' ∧ VRep Z.X.K ι' h'.length H2 σ2 env' ∧ RsPost Z Dd ι' h' H2 (loopWhile f b m env' h'), fun σ2 H2 q => ⟨m, Nat.lt_succ_self _, q⟩, ι1, env', h1, R1, V'.step S1 R', ?_⟩
        cases eb : b env' h1 with
        | stuck => rw [eb] at p1; exact p1.elim
        | ok fl h5 =>
          rw [eb] at p1
          cases fl with
          | nx env5 => exact fun ι5 H5 S5 R5 σ5 V5 => ⟨ι5, env5, h5, R5, V5, RsPost.step S5 p1⟩
          | ct env5 => exact fun ι5 H5 S5 R5 σ5 V5 => ⟨ι5, env5, h5, R5, V5, RsPost.step S5 p1⟩
          | brk env5 => exact p1
          | ret d => exact p1
          | exc c fs env5 => exact p1⟩
end
end Kf
end
section
set_option maxHeartbeats 4000000
/-! Kf: list comprehensions; what is made of new lists. -/
namespace Kf
open PySem PySem.Spec L2
section
variable {K : PySem.W.Frag} {cA : CA} {W W' : WX} {σ σ' : St} {ι ι1 ι' : Nat → Addr} {n : Nat} {H H1 H' : Hp} {h h1 h' : Hd} {α β : Type}
theorem RPost.bind1 {r : Res α} {f : α → Hd → Res β} {P : β → Hd → (Nat → Addr) → Hp → Prop} (S : Step ι h H ι' h' H') (p : RPost K cA W σ ι h H (r.bind f) P) : RPost K cA W σ ι' h' H' r fun a h2 _ _ => RPost K cA W σ ι h H (f a h2) P := by
  cases r with
  | ok a h2 => exact fun ι2 H2 S R => p
  | exc c fs h2 => exact fun ι2 H2 cls od T R x => p ι2 H2 cls od (S.trans T) R x
  | stuck => exact p
theorem RPost.noW {r : Res α} {P : α → Hd → (Nat → Addr) → Hp → Prop} (p : RPost K cA W σ ι h H (Kf.noX r) P) : RPost K cA W' σ' ι h H r P := by
  cases r with
  | ok a h' => exact p
  | exc c fs h' => exact p.elim
  | stuck => exact p
theorem none_of_there' {ι ι' : Nat → Addr} {H H' : Hp} {h h' : Hd} (S : Step ι h H ι' h' H') {a : Addr} (ha : H' a = none) : H a = none := by
  cases e : H a with
  | none => rfl
  | some o => obtain ⟨o', e'⟩ := S.there a o e; rw [ha] at e'; cases e'
/-- an address that the heap does not speak of is written -/
theorem Step.write (S : Step ι h H ι' h' H') {p : Addr} (hp : H p = none) (hn : ∀ m, m < h'.length → p ≠ ι' m) (o : HO) : Step ι h H ι' h' (upd H' p o) where
  eq := S.eq
  len := S.len
  keep := fun a u e k => by rw [upd_ne (ne_of_none e hp)]; exact S.keep a u e k
  fresh := S.fresh
  there := fun a u e => by rw [upd_ne (ne_of_none e hp)]; exact S.there a u e
  frz := fun a o u e => by rw [upd_ne (ne_of_none e hp)]; exact S.frz a o u e
theorem tkeep_upd {p : Addr} {v : HO} (e : H p = some v) (h1 : ∀ xs, v ≠ .tup xs) (h2 : ∀ x u, v ≠ .frz x u) (o : HO) (h3 : ∀ gs, v ≠ .xd gs := by first | exact fun _ z => by cases z) : TKeep K H (upd H p o) := by
  have hne : ∀ {a : Addr} {u : HO}, H a = some u → u ≠ v → a ≠ p := fun {a u} e1 ne z => by rw [z, e] at e1; exact ne (Option.some.inj e1).symm
  refine ⟨fun a ys q => ?_, fun a ys q => ?_, fun a ys q => ?_, fun a gs q => by rw [upd_ne (hne q fun z => h3 _ z.symm)]; exact q⟩
  · rcases q with (q | ⟨o2, q⟩) | q
    · exact .inl (.inl (by rw [upd_ne (hne q fun z => h1 _ z.symm)]; exact q))
    · exact .inl (.inr ⟨o2, by rw [upd_ne (hne q fun z => h2 _ _ z.symm)]; exact q⟩)
    · exact .inr q
  · rcases q with ⟨o2, q, d⟩ | q
    · exact .inl ⟨o2, by rw [upd_ne (hne q fun z => h2 _ _ z.symm)]; exact q, d⟩
    · exact .inr q
  · rcases q with ⟨o2, q⟩ | q
    · exact .inl ⟨o2, by rw [upd_ne (hne q fun z => h2 _ _ z.symm)]; exact q⟩
    · exact .inr q
theorem tkeep_write {p : Addr} {xs : List V} (e : H p = some (.lst xs)) (o : HO) : TKeep K H (upd H p o) := tkeep_upd e (fun _ z => by cases z) (fun _ _ z => by cases z) o
theorem HRep.write (R : HRep K cA ι H h) {p : Addr} {xs : List V} (e : H p = some (.lst xs)) (hn : ∀ m, m < h.length → p ≠ ι m) (o : HO) : HRep K cA ι (upd H p o) h where
  obj := fun m o2 e2 => by
    obtain ⟨ho, e3, r⟩ := R.obj m o2 e2
    exact ⟨ho, by rw [upd_ne (Ne.symm (hn m (lt_of_get e2)))]; exact e3, r.keep (tkeep_write e o) (Nat.le_refl _) fun _ _ => rfl⟩
  inj := R.inj
def wipeD (env : En) : List Nat → En
  | [] => env
  | v :: vs => (wipeD env vs).set v none
theorem VRep.wipe {env : En} (R : VRep K ι n H σ env) : ∀ vs : List Nat, VRep K ι n H (wipe σ vs) (wipeD env vs)
  | [] => R
  | v :: vs => by
    have q := R.wipe vs
    refine ⟨by simp [Kf.wipeD, L2.wipe, q.len], fun i d e => ?_⟩
    unfold wipeD at e
    unfold L2.wipe
    by_cases c : v = i
    · subst c
      have hi : v < (Kf.wipeD env vs).length := by have := lt_of_get e; simpa using this
      rw [List.getElem?_set_self hi] at e; cases e
    · rw [List.getElem?_set_ne c] at e ⊢
      exact q.var i d e
theorem wipe_set {i : Nat} {x : Option V} : ∀ {vs : List Nat}, i ∈ vs → wipe (σ.set i x) vs = wipe σ vs
  | v :: vs, hi => by
    unfold L2.wipe
    by_cases c : i ∈ vs
    · rw [wipe_set c]
    · have e : i = v := by rcases List.mem_cons.mp hi with q | q; exact q; exact absurd q c
      subst e
      have : ∀ (vs : List Nat) (σ : St), i ∉ vs → (L2.wipe (σ.set i x) vs).set i none = (L2.wipe σ vs).set i none := by
        intro vs
        induction vs with
        | nil => intro σ _; simp [L2.wipe]
        | cons v vs ih =>
          intro σ hn
          simp only [List.mem_cons, not_or] at hn
          unfold L2.wipe
          rw [List.set_comm _ _ (Ne.symm hn.1), ih σ hn.2, List.set_comm _ _ hn.1]
      exact this vs σ c
theorem wipe_set_none {j : Nat} : ∀ {vs : List Nat} {σ : St}, wipe (σ.set j none) vs = (wipe σ vs).set j none
  | [], _ => rfl
  | v :: vs, σ => by
    unfold L2.wipe
    rw [wipe_set_none (vs := vs)]
    by_cases c : j = v
    · subst c; rfl
    · rw [List.set_comm _ _ c]
theorem wipe_wipe : ∀ {vs : List Nat} {σ : St}, wipe (wipe σ vs) vs = wipe σ vs
  | [], _ => rfl
  | v :: vs, σ => by
    show (wipe ((wipe σ vs).set v none) vs).set v none = (wipe σ vs).set v none
    rw [wipe_set_none, wipe_wipe]
    simp
end
section
variable {Z : Kx}
/-- targets of a comprehension: names of its own -/
structure KGw (Z : Kx) (t : Expr) (g : SG) (vs : List Nat) : Prop where
  pg : PG Z.X t fun v σ H Q => ∃ ι env h d, HRep Z.X.K Z.cA ι H h ∧ VRep Z.X.K ι h.length H σ env ∧ Rep Z.X.K ι h.length H v d ∧
    RPost Z.X.K Z.cA Z.W σ ι h H (g d env h) fun env' h' ι' H' => ∀ σ', wipe σ' vs = wipe σ vs → VRep Z.X.K ι' h'.length H' σ' env' → Q σ' H'
structure KGws (Z : Kx) (ts : List Expr) (g : SGs) (vs : List Nat) : Prop where
  pgs : PGs Z.X ts fun xs σ H Q => ∃ ι env h ds, HRep Z.X.K Z.cA ι H h ∧ VRep Z.X.K ι h.length H σ env ∧ Reps Z.X.K ι h.length H xs ds ∧
    RPost Z.X.K Z.cA Z.W σ ι h H (g ds env h) fun env' h' ι' H' => ∀ σ', wipe σ' vs = wipe σ vs → VRep Z.X.K ι' h'.length H' σ' env' → Q σ' H'
theorem kgw_name {i : Nat} {x : Str} {pos : Pos} {vs : List Nat} (hv : i ∈ vs) (hN : Z.X.N.Nodup) (hi : Z.X.N[i]? = some x) (hx : Loc Z.X.env.scope x) (hf : Z.X.fn x = true ∨ Z.X.env.scope.names.lookup x = some .local := by first | exact .inl rfl | exact .inr rfl | assumption) : KGw Z (.Name x pos) (gN i) vs :=
  ⟨(pg_name hN hi hx hf).weak fun v σ H Q ⟨ι, env, h, d, R, V, r, p⟩ => RPost.ok R p _ (wipe_set hv) (V.set r)⟩
theorem kgws_nil {vs : List Nat} : KGws Z [] gNil' vs := ⟨pgs_nil.weak fun xs σ H Q ⟨ι, env, h, ds, R, V, r, p⟩ => by
  cases r with
  | nil => exact ⟨rfl, RPost.ok R p σ rfl V⟩
  | cons _ _ => exact p.elim⟩
theorem kgws_cons {e : Expr} {es : List Expr} {g : SG} {k : SGs} {vs : List Nat} (h1 : KGw Z e g vs) (h2 : KGws Z es k vs)
    (hs : (assignEach (e :: es) Z.X.env).map (·.2) = assign e Z.X.env :: (assignEach es Z.X.env).map (·.2) := by rfl) : KGws Z (e :: es) (gCons' g k) vs := ⟨(pgs_cons h1.pg h2.pgs hs).weak fun xs σ H Q ⟨ι, env, h, ds, R, V, r, p⟩ => by
  cases r with
  | nil => exact p.elim
  | cons r rs =>
    exact ⟨_, _, rfl, ι, env, h, _, R, V, r, RPost.noX ((RPost.bind p).mono fun env1 h1 ι1 H1 S1 R1 p1 σ1 w1 V1 => ⟨ι1, env1, h1, _, R1, V1, rs.step S1 R, (RPost.noX p1).mono fun env2 h2 ι2 H2 S2 R2 p2 σ2 w2 V2 => p2 σ2 (w2.trans w1) V2⟩)⟩⟩
theorem kgw_tup {es : List Expr} {j : Nat} {k : SGs} {n : Nat} {pos : Pos} {vs : List Nat} (hc : Z.X.calm = true) (hk : KGws Z es k vs)
    (hn : (assignEach es Z.X.env).length = n := by rfl) (hst : (assignEach es Z.X.env).findIdx? (·.1) = none := by rfl) : KGw Z (.Tuple es j pos) (gTp n k) vs := ⟨(pg_row hc hk.pgs hn hst).weak fun v σ H Q ⟨ι, env, h, d, R, V, r, p⟩ => by
  obtain ⟨a, xs, ds, ev, q, hl, rs, p⟩ := row_post R r p
  exact q.elim (fun q => .inl ⟨a, xs, ev, q, hl, ι, env, h, ds, R, V, rs, p⟩) fun q => .inr ⟨a, xs, ev, q, hl, ι, env, h, ds, R, V, rs, p⟩⟩

/-- a comprehension's block -/
abbrev Kx.blk (Z : Kx) (s : Shared) (H : Hp) (scope : Scope) (C : Addr) (cl : List (Str × Addr)) (fp : List Addr) : Kx := { X := Z.X.blk s H scope (compEnvC scope cl C Z.X.env) fp, cA := Z.cA, W := fun _ _ _ _ => False }
structure KT (Z : Kx) (ifs : List Expr) (f : SB) : Prop where
  pts : PTs Z.X ifs (tDB Z f)
def sYes : SB := fun _ h => .ok true h
theorem kt_nil : KT Z [] sYes := ⟨⟨fun pins s σ H Q I ⟨ι, env, h, R, V, p⟩ => pts_nil.run pins s σ H Q I (RPost.ok R p)⟩⟩
theorem kt_one {c : Expr} {f : SB} (h : KB Z c f) : KT Z [c] f := ⟨pts_one h.pt⟩
def compI (it : ItD) (g : SG) (t : SB) (f : SE) (env : En) : Nat → Nat → Nat → Hd → Res (List D)
  | 0, _, _, _ => .stuck
  | m + 1, i, n, h => match nextD it h i with
    | none => .stuck
    | some none => .ok [] h
    | some (some d) => (noX (g d env h)).bind fun env1 h1 => (noX (t env1 h1)).bind fun b h2 =>
      if b = true then (noX (f env1 h2)).bind fun y h3 => if n < LIM then (compI it g t f env m (i + 1) (n + 1) h3).bind fun r h4 => .ok (y :: r) h4 else .stuck
      else compI it g t f env m (i + 1) n h2
def sLc (it : SI) (g : SG) (t : SB) (f : SE) (vs : List Nat) : SA := fun env h => (it env h).bind fun j h1 => compI j g t f (wipeD env vs) (turnsD j h1) 0 0 h1
/-- over written-out items -/
def compItems (g : SG) (t : SB) (f : SE) (env : En) : List D → Nat → Hd → Res (List D)
  | [], _, h => .ok [] h
  | d :: ds, n, h => (noX (g d env h)).bind fun env1 h1 => (noX (t env1 h1)).bind fun b h2 =>
    if b = true then (noX (f env1 h2)).bind fun y h3 => if n < LIM then (compItems g t f env ds (n + 1) h3).bind fun r h4 => .ok (y :: r) h4 else .stuck
    else compItems g t f env ds n h2
theorem comp_snap (g : SG) (t : SB) (f : SE) (env : En) (ds : List D) : ∀ (m i n : Nat) (h : Hd), m + i = ds.length → compI (.snap ds) g t f env (m + 1) i n h = compItems g t f env (ds.drop i) n h
  | m, i, n, h, e => by
    unfold compI
    show (match (some ds[i]? : Option (Option D)) with | none => _ | some none => _ | some (some d) => _) = _
    by_cases hi : i < ds.length
    · obtain ⟨k, rfl⟩ : ∃ k, m = k + 1 := ⟨m - 1, by omega⟩
      rw [List.drop_eq_getElem_cons hi, List.getElem?_eq_getElem hi]
      unfold compItems
      dsimp only
      congr 1
      funext env1 h1
      congr 1
      funext b h2
      cases b with
      | false => exact comp_snap g t f env ds k (i + 1) n h2 (by omega)
      | true =>
        show Res.bind _ _ = Res.bind _ _
        congr 1
        funext y h3
        rw [comp_snap g t f env ds k (i + 1) (n + 1) h3 (by omega)]
    · rw [List.drop_eq_nil_of_le (Nat.le_of_not_lt hi), List.getElem?_eq_none (Nat.le_of_not_lt hi)]
      rfl
theorem lim_lt {n : Nat} (h : n < LIM) : n < sizeLine := by rw [sizeLine_eq]; exact h
theorem lc_of {it : SI} {g : SG} {t : SB} {f : SE} {vs : List Nat} {wg : TG} {wt : TT} {we : TE} {σ : St} {H : Hp} {Q : VK}
    (hg : ∀ v σ H Q, (∃ ι env h d, HRep Z.X.K Z.cA ι H h ∧ VRep Z.X.K ι h.length H σ env ∧ Rep Z.X.K ι h.length H v d ∧ RPost Z.X.K Z.cA (fun _ _ _ _ => False) σ ι h H (g d env h) fun env' h' ι' H' => ∀ σ', wipe σ' vs = wipe σ vs → VRep Z.X.K ι' h'.length H' σ' env' → Q σ' H') → wg v σ H Q)
    (ht : ∀ σ H Q, (∃ ι env h, HRep Z.X.K Z.cA ι H h ∧ VRep Z.X.K ι h.length H σ env ∧ RPost Z.X.K Z.cA (fun _ _ _ _ => False) σ ι h H (t env h) fun b h' ι' H' => Q b H') → wt σ H Q)
    (he : ∀ σ H Q, (∃ ι env h, HRep Z.X.K Z.cA ι H h ∧ VRep Z.X.K ι h.length H σ env ∧ RPost Z.X.K Z.cA (fun _ _ _ _ => False) σ ι h H (f env h) fun d h' ι' H' => ∀ v, Rep Z.X.K ι' h'.length H' v d → Q v H') → we σ H Q)
    (q : ∃ ι env h, HRep Z.X.K Z.cA ι H h ∧ VRep Z.X.K ι h.length H σ env ∧
      RPost Z.X.K Z.cA Z.W σ ι h H (sLc it g t f vs env h) fun ds h' ι' H' => ∀ p xs, H p = none → H' p = some (.lst xs) → (∀ m, m < h'.length → p ≠ ι' m) → Reps Z.X.K ι' h'.length H' xs ds → Q (.ref p) H') :
    tLc (fun σ H R => ∃ ι env h, HRep Z.X.K Z.cA ι H h ∧ VRep Z.X.K ι h.length H σ env ∧ RPost Z.X.K Z.cA Z.W σ ι h H (it env h) fun it h' ι' H' => ∀ J, ItOk Z J it ι' h' H' → R J H') wg wt we vs σ H Q := by
  obtain ⟨ι, env, h, R, V, p⟩ := q
  refine ⟨ι, env, h, R, V, (RPost.bind0 p).mono fun j h1 ι1 H1 S1 R1 p1 J ok D hD => ?_⟩
  have hHD : H D = none := none_of_there' S1 hD
  have SD : Step ι1 h1 H1 ι1 h1 (upd H1 D (.lst [])) := Step.aside R1 hD _
  refine ⟨fun i m Hc => ∃ ι' h' acc xacc, Step ι1 h1 H1 ι' h' Hc ∧ HRep Z.X.K Z.cA ι' Hc h' ∧ Hc D = some (.lst xacc) ∧ (∀ m, m < h'.length → D ≠ ι' m) ∧ Reps Z.X.K ι' h'.length Hc xacc acc ∧
      VRep Z.X.K ι' h'.length Hc σ env ∧ RPost Z.X.K Z.cA Z.W σ ι h H (compI j g t f (wipeD env vs) m i acc.length h') fun rest h2 ι2 H2 => ∀ p xs, H p = none → H2 p = some (.lst xs) → (∀ m, m < h2.length → p ≠ ι2 m) → Reps Z.X.K ι2 h2.length H2 xs (acc ++ rest) → Q (.ref p) H2, ?_, ?_⟩
  · refine ⟨turnsD j h1, ι1, h1, [], [], SD, R1.aside hD _, upd_same, fun m hm z => R1.off hD hm z.symm, .nil, (V.step S1 R).step SD R1, ?_⟩
    simpa using p1
  · rintro i m Hc ⟨ι', h', acc, xacc, Sn, R', eD, nD, rs, V', p'⟩
    have So : Step ι h H ι' h' Hc := S1.trans Sn
    obtain ⟨k1, k2⟩ := ok ι' h' Hc Sn R' i
    cases m with
    | zero => exact p'.elim
    | succ m =>
      unfold compI at p'
      cases en : nextD j h' i with
      | none => rw [en] at p'; exact p'.elim
      | some o =>
        rw [en] at p'
        cases o with
        | none =>
          have p' : RPost Z.X.K Z.cA Z.W σ ι h H (.ok [] h') _ := p'
          exact .inl ⟨k2 en, p' ι' Hc So R' D xacc hHD eD nD (by simpa using rs)⟩
        | some d =>
          obtain ⟨go, yl⟩ := k1 d en
          refine .inr ⟨go, fun H2 => ∃ ι' h' acc xacc, Step ι1 h1 H1 ι' h' H2 ∧ HRep Z.X.K Z.cA ι' H2 h' ∧ H2 D = some (.lst xacc) ∧ (∀ m, m < h'.length → D ≠ ι' m) ∧ Reps Z.X.K ι' h'.length H2 xacc acc ∧
            VRep Z.X.K ι' h'.length H2 σ env ∧ RPost Z.X.K Z.cA Z.W σ ι h H (compI j g t f (wipeD env vs) m (i + 1) acc.length h') fun rest h2 ι2 H2 => ∀ p xs, H p = none → H2 p = some (.lst xs) → (∀ m, m < h2.length → p ≠ ι2 m) → Reps Z.X.K ι2 h2.length H2 xs (acc ++ rest) → Q (.ref p) H2,
            fun H2 q => ⟨m, Nat.lt_succ_self _, q⟩, fun x H3 y => ?_⟩
          obtain ⟨S3, R3, r3⟩ := yl x H3 y
          have keepD : ∀ {ι4 : Nat → Addr} {h4 : Hd} {H4 : Hp}, Step ι' h' Hc ι4 h4 H4 → H4 D = some (.lst xacc) ∧ (∀ m, m < h4.length → D ≠ ι4 m) := fun {ι4 h4 H4} S => ⟨S.keep D _ eD nD, fun m hm z => by
            by_cases c : m < h'.length
            · exact nD m c (z.trans (S.eq m c))
            · have := S.fresh m (Nat.le_of_not_lt c) hm
              rw [← z, eD] at this; cases this⟩
          have p3 := RPost.bind1 (So.trans S3) p'
          refine hg x (wipe σ vs) H3 _ ⟨ι', wipeD env vs, h', d, R3, (V'.step S3 R').wipe vs, r3, (RPost.noW p3).mono fun env4 h4 ι4 H4 S4 R4 p4 σ4 w4 V4 => ⟨w4.trans wipe_wipe, ?_⟩⟩
          have S34 := S3.trans S4
          refine ht σ4 H4 _ ⟨ι4, env4, h4, R4, V4, (RPost.noW (RPost.bind1 (So.trans S34) p4)).mono fun b h5 ι5 H5 S5 R5 p5 => ?_⟩
          have S35 := S34.trans S5
          cases b with
          | true =>
            rw [if_pos rfl] at p5 ⊢
            refine he σ4 H5 _ ⟨ι5, env4, h5, R5, V4.step S5 R4, (RPost.noW (RPost.bind1 (So.trans S35) p5)).mono fun y h6 ι6 H6 S6 R6 p6 v r => ?_⟩
            have S36 := S35.trans S6
            obtain ⟨eD6, nD6⟩ := keepD S36
            by_cases c : acc.length < LIM
            · rw [if_pos c] at p6
              have rs6 := rs.step S36 R'
              have t6 := tkeep_write (K := Z.X.K) eD6 (.lst (xacc ++ [v]))
              refine ⟨xacc, eD6, lim_lt (by rw [rs.len]; exact c), ι6, h6, acc ++ [y], xacc ++ [v], (Sn.trans S36).write hD nD6 _, R6.write eD6 nD6 _, upd_same, nD6, (rs6.append (.cons r .nil)).keep t6 (Nat.le_refl _) fun _ _ => rfl, ?_, ?_⟩
              · have q := V'.step S36 R'
                exact ⟨q.len, fun j d e => by
                  obtain ⟨v, e1, r⟩ := q.var j d e
                  exact ⟨v, e1, r.keep t6 (Nat.le_refl _) fun _ _ => rfl⟩⟩
              · have p7 := RPost.bind0 p6
                rw [List.length_append]
                refine p7.mono fun rest h7 ι7 H7 S7 R7 p8 p xs e1 e2 e3 e4 => ?_
                have e4' : Reps Z.X.K ι7 h7.length H7 xs (acc ++ y :: rest) := by
                  have z : acc ++ y :: rest = acc ++ [y] ++ rest := by simp
                  rw [z]; exact e4
                exact (show RPost Z.X.K Z.cA Z.W σ ι h H (.ok (y :: rest) h7) _ from p8) ι7 H7 S7 R7 p xs e1 e2 e3 e4'
            · rw [if_neg c] at p6; exact p6.elim
          | false =>
            rw [if_neg Bool.false_ne_true] at p5 ⊢
            obtain ⟨eD5, nD5⟩ := keepD S35
            exact ⟨ι5, h5, acc, xacc, Sn.trans S35, R5, eD5, nD5, rs.step S35 R', V'.step S35 R', p5⟩

theorem RsPost.of0 {Dd : Ends} {σ : St} {ι : Nat → Addr} {H : Hp} {h : Hd} {α : Type} {r : Res α} {env : En} {k : α → Hd → Rs} (R : HRep Z.X.K Z.cA ι H h) (V : VRep Z.X.K ι h.length H σ env) (p : RsPost Z Dd ι h H (r.lift env k)) :
    RPost Z.X.K Z.cA Z.W σ ι h H r fun a h1 _ _ => RsPost Z Dd ι h H (k a h1) := by
  cases r with
  | ok a h1 => exact fun ι' H' S R' => p
  | exc c fs h1 => exact fun ι' H' cls od S R' x => p ι' H' S R' σ cls od (V.step S R) x
  | stuck => exact p
theorem kl_lc {elt tg iter : Expr} {ifs : List Expr} {scope : Scope} {own : List (Str × Nat)} {pos : Pos} {it : SI} {g : SG} {t : SB} {f : SE} (hc : Z.X.calm = true) (hN : Z.X.N.Nodup) (hi : KI Z tg iter it) (ok : BlkOk Z.X.N Z.X.env.scope scope own)
    (hg : ∀ s H C cl fp, KGw (Z.blk s H scope C cl fp) tg g (own.map (·.2))) (ht : ∀ s H C cl fp, KT (Z.blk s H scope C cl fp) ifs t) (he : ∀ s H C cl fp, KE (Z.blk s H scope C cl fp) elt f)
    (hs : ∀ x, foldedSetIterable iter Z.X.env x = pure x := by intro _; rfl) : KL Z (.ListComp elt [⟨tg, iter, ifs, 0⟩] scope pos) (sLc it g t f (own.map (·.2))) :=
  ⟨(pe_lc hc hN hi.pi ok (fun s H C cl fp => (hg s H C cl fp).pg) (fun s H C cl fp => (ht s H C cl fp).pts) (fun s H C cl fp => (he s H C cl fp).pe) hs).weak fun σ H Q q =>
    lc_of (fun _ _ _ _ q => q) (fun _ _ _ q => q) (fun _ _ _ q => q) q⟩
theorem ks_setLc {i : Nat} {y : Str} {py : Pos} {elt tg iter : Expr} {ifs : List Expr} {scope : Scope} {own : List (Str × Nat)} {pos spos : Pos} {it : SI} {g : SG} {t : SB} {f : SE} (hc : Z.X.calm = true) (hN : Z.X.N.Nodup) (hy : Z.X.N[i]? = some y) (hyl : Z.X.env.scope.names.lookup y = some .local)
    (hsw : swapsWith (.ListComp elt [⟨tg, iter, ifs, 0⟩] scope pos) (some (.Name y py)) spos.line Z.X.env = pure true) (hi : KI Z tg iter it) (ok : BlkOk Z.X.N Z.X.env.scope scope own)
    (hg : ∀ s H C cl fp, KGw (Z.blk s H scope C cl fp) tg g (own.map (·.2))) (ht : ∀ s H C cl fp, KT (Z.blk s H scope C cl fp) ifs t) (he : ∀ s H C cl fp, KE (Z.blk s H scope C cl fp) elt f)
    (hs : ∀ x, foldedSetIterable iter Z.X.env x = pure x := by intro _; rfl) : KS Z (.Assign [.Name y py] (.ListComp elt [⟨tg, iter, ifs, 0⟩] scope pos) spos) (sAsg (sNew (sLc it g t f (own.map (·.2)))) (gN i)) :=
  ⟨(ps_setLc hc hN hy hyl hsw hi.pi ok (fun s H C cl fp => (hg s H C cl fp).pg) (fun s H C cl fp => (ht s H C cl fp).pts) (fun s H C cl fp => (he s H C cl fp).pe) hs).weak fun Dd σ H ⟨ι, env, h, R, V, p⟩ => by
    refine lc_of (fun _ _ _ _ q => q) (fun _ _ _ q => q) (fun _ _ _ q => q) ⟨ι, env, h, R, V, (RPost.bind0 (RsPost.of0 R V p)).mono fun ds h1 ι1 H1 S1 R1 p1 a vs hH ea hn rs => ?_⟩
    have V2 := V.step (S1.take hH (.lst ds)) R
    have r : Rep Z.X.K (more ι1 h1.length a) (h1 ++ [O.lst ds]).length H1 (.ref (more ι1 h1.length a h1.length)) (.ref h1.length) := .ref (by simp)
    rw [more_at] at r
    exact (show RPost Z.X.K Z.cA Z.W σ ι h H (.ok (D.ref h1.length) (h1 ++ [.lst ds])) (fun d h2 _ _ => RsPost Z Dd ι h H ((noX (gN i d env h2)).lift env fun env' h2 => Rs.ok (Fl.nx env') h2)) from p1) _ H1 (S1.take hH _) (R1.take ea hn (.lst rs)) _ H1 (S1.take hH _) (R1.take ea hn (.lst rs)) _ (V2.set r)⟩
end
end Kf
end
section
set_option maxHeartbeats 4000000
/-! Kf: operators. -/
namespace Kf
open PySem PySem.Spec L2
/-! ### what data a value is -/
def allS {α : Type} : List (Option α) → Option (List α)
  | [] => some []
  | some x :: xs => (allS xs).map (x :: ·)
  | none :: _ => none
def py (h : Hd) : Nat → D → Option PyData
  | 0, _ => none
  | _ + 1, .non => some .none
  | _ + 1, .bl b => some (.bool b)
  | _ + 1, .int i => some (.int i)
  | _ + 1, .str s => some (.str (Str.ofString s))
  | _ + 1, .raw s => if PyData.strOk s = true then some (.str s) else none
  | n + 1, .tup ds => (allS (ds.map (py h n))).map .tuple
  | n + 1, .fls ds => (allS (ds.map (py h n))).map .list
  | _ + 1, .ztp _ => none
  | n + 1, .ref m => match h[m]? with
    | some (.lst ds) => (allS (ds.map (py h n))).map .list
    | _ => none
  | _ + 1, .xc _ _ _ _ => none
theorem allS_some {α β : Type} {f : α → Option β} : ∀ {xs : List α} {ys : List β}, allS (xs.map f) = some ys → Paired (fun x y => f x = some y) xs ys
  | [], ys, e => by simp [allS] at e; subst e; exact .nil
  | x :: xs, ys, e => by
    simp only [List.map_cons] at e
    cases q : f x with
    | none => rw [q] at e; simp [allS] at e
    | some y =>
      rw [q] at e
      simp only [allS, Option.map_eq_some_iff] at e
      obtain ⟨zs, e1, e2⟩ := e
      subst e2
      exact .cons q (allS_some e1)
section
variable {K : PySem.W.Frag} {cA : CA} {ι : Nat → Addr} {H : Hp} {h : Hd}
theorem strOk_of (s : String) : PyData.strOk (Str.ofString s) = true := by
  rw [Str.ofString_eq_toList]
  unfold PyData.strOk
  simp only [List.all_toArray, List.all_map, List.all_eq_true]
  intro c _
  have := c.valid
  have h2 : c.toNat < 0x110000 := by
    have : c.val.toNat < 0x110000 := by
      rcases c.valid with h | h
      · exact Nat.lt_trans h (by decide)
      · exact h.2
    exact this
  simpa using h2
theorem py_ok : ∀ {n : Nat} {d : D} {p : PyData}, py h n d = some p → p.canLay0 = true ∧ p.depth ≤ n
  | 0, d, p, e => by simp [py] at e
  | n + 1, .ztp _, p, e => by simp [py] at e
  | n + 1, .non, p, e => by simp [py] at e; subst e; exact ⟨rfl, Nat.zero_le _⟩
  | n + 1, .bl _, p, e => by simp [py] at e; subst e; exact ⟨rfl, Nat.zero_le _⟩
  | n + 1, .int _, p, e => by simp [py] at e; subst e; exact ⟨rfl, Nat.zero_le _⟩
  | n + 1, .str s, p, e => by simp [py] at e; subst e; exact ⟨strOk_of s, Nat.zero_le _⟩
  | n + 1, .raw s, p, e => by simp [py] at e; obtain ⟨e1, e⟩ := e; subst e; exact ⟨e1, Nat.zero_le _⟩
  | n + 1, .tup ds, p, e => by
    simp only [py, Option.map_eq_some_iff] at e
    obtain ⟨ys, e1, e2⟩ := e
    subst e2
    have q := allS_some e1
    have r : PyData.canLayAll0 ys = true ∧ PyData.depthAll ys ≤ n := by
      clear e1
      induction q with
      | nil => exact ⟨rfl, Nat.zero_le _⟩
      | cons z _ ih =>
        have ⟨z1, z2⟩ := py_ok z
        exact ⟨by simp [PyData.canLayAll0, z1, ih.1], by simp only [PyData.depthAll]; omega⟩
    exact ⟨by simpa [PyData.canLay0] using r.1, by have := r.2; simp only [PyData.depth]; omega⟩
  | n + 1, .fls ds, p, e => by
    simp only [py, Option.map_eq_some_iff] at e
    obtain ⟨ys, e1, e2⟩ := e
    subst e2
    have q := allS_some e1
    have r : PyData.canLayAll0 ys = true ∧ PyData.depthAll ys ≤ n := by
      clear e1
      induction q with
      | nil => exact ⟨rfl, Nat.zero_le _⟩
      | cons z _ ih =>
        have ⟨z1, z2⟩ := py_ok z
        exact ⟨by simp [PyData.canLayAll0, z1, ih.1], by simp only [PyData.depthAll]; omega⟩
    exact ⟨by simpa [PyData.canLay0] using r.1, by have := r.2; simp only [PyData.depth]; omega⟩
  | n + 1, .xc _ _ _ _, p, e => by simp [py] at e
  | n + 1, .ref m, p, e => by
    unfold py at e
    cases hm : h[m]? with
    | none => rw [hm] at e; simp at e
    | some o =>
      rw [hm] at e
      cases o with
      | lst ds =>
        simp only [Option.map_eq_some_iff] at e
        obtain ⟨ys, e1, e2⟩ := e
        subst e2
        have q := allS_some e1
        have r : PyData.canLayAll0 ys = true ∧ PyData.depthAll ys ≤ n := by
          clear e1 hm
          induction q with
          | nil => exact ⟨rfl, Nat.zero_le _⟩
          | cons z _ ih =>
            have ⟨z1, z2⟩ := py_ok z
            exact ⟨by simp [PyData.canLayAll0, z1, ih.1], by simp only [PyData.depthAll]; omega⟩
        exact ⟨by simpa [PyData.canLay0] using r.1, by have := r.2; simp only [PyData.depth]; omega⟩
      | dict _ => simp at e
      | lkd _ => simp at e
      | ins _ _ => simp at e
theorem py_shaped {n : Nat} {d : D} {p : PyData} (hn : n ≤ 64) (e : py h n d = some p) : SeqAt.shaped p = true := by
  obtain ⟨a, b⟩ := py_ok e
  unfold SeqAt.shaped
  rw [a, decide_eq_true (by omega)]
  rfl
theorem py_dp (R : HRep K cA ι H h) : ∀ {n : Nat} {d : D} {p : PyData} {v : V}, py h n d = some p → Rep K ι h.length H v d → Dp K H v p
  | 0, d, p, v, e, _ => by simp [py] at e
  | n + 1, .ztp _, p, v, e, r => by simp [py] at e
  | n + 1, .non, p, v, e, r => by simp [py] at e; subst e; cases r; exact .non
  | n + 1, .bl _, p, v, e, r => by simp [py] at e; subst e; cases r; exact .bl _
  | n + 1, .int _, p, v, e, r => by simp [py] at e; subst e; cases r; exact .int _
  | n + 1, .str s, p, v, e, r => by simp [py] at e; subst e; cases r; exact .str _
  | n + 1, .raw s, p, v, e, r => by simp [py] at e; obtain ⟨_, e⟩ := e; subst e; cases r; exact .str _
  | n + 1, .tup ds, p, v, e, r => by
    simp only [py, Option.map_eq_some_iff] at e
    obtain ⟨ys, e1, e2⟩ := e
    subst e2
    cases r with
    | tup q rs =>
      refine .tup q.sqt ?_
      have w := allS_some e1
      clear e1 q
      rename_i a xs
      induction w generalizing xs with
      | nil => cases rs; exact .nil
      | cons z _ ih => cases rs with | cons r1 r2 => exact .cons (py_dp R z r1) (ih r2)
  | n + 1, .fls ds, p, v, e, r => by
    simp only [py, Option.map_eq_some_iff] at e
    obtain ⟨ys, e1, e2⟩ := e
    subst e2
    cases r with
    | fls q rs =>
      refine .lst q.sql ?_
      have w := allS_some e1
      clear e1 q
      rename_i a xs
      induction w generalizing xs with
      | nil => cases rs; exact .nil
      | cons z _ ih => cases rs with | cons r1 r2 => exact .cons (py_dp R z r1) (ih r2)
  | n + 1, .xc _ _ _ _, p, v, e, r => by simp [py] at e
  | n + 1, .ref m, p, v, e, r => by
    unfold py at e
    cases hm : h[m]? with
    | none => rw [hm] at e; simp at e
    | some o =>
      rw [hm] at e
      cases o with
      | lst ds =>
        simp only [Option.map_eq_some_iff] at e
        obtain ⟨ys, e1, e2⟩ := e
        subst e2
        cases r with
        | ref hlt =>
          obtain ⟨ho, e3, ro⟩ := R.obj m _ hm
          cases ro with
          | lst rs =>
            refine .lst (.of e3) ?_
            have w := allS_some e1
            clear e1 e3 hm hlt
            rename_i xs
            induction w generalizing xs with
            | nil => cases rs; exact .nil
            | cons z _ ih => cases rs with | cons r1 r2 => exact .cons (py_dp R z r1) (ih r2)
      | dict _ => simp at e
      | lkd _ => simp at e
      | ins _ _ => simp at e
end

section
variable {Z : Kx}
open PySem.SeqAt PySem.W
/-! ### comparisons of data -/
def f2P (g : PyData → PyData → Option Bool) : F2 := fun x y h => match py h 60 x, py h 60 y with
  | some p, some q => match g p q with
    | some b => .ok (.bl b) h
    | none => .stuck
  | _, _ => .stuck
abbrev eqF : F2 := f2P fun p q => some (PyData.eqv p q)
abbrev neF : F2 := f2P fun p q => some (!PyData.eqv p q)
def isNonP : PyData → Bool
  | .none => true
  | _ => false
def cmpG (r : PyData → PyData → Bool) : PyData → PyData → Option Bool := fun p q => if alike p q = true ∧ isNonP p = false then some (r p q) else none
abbrev ltF : F2 := f2P (cmpG fun p q => dataLt p q)
abbrev gtF : F2 := f2P (cmpG fun p q => dataLt q p)
abbrev leF : F2 := f2P (cmpG fun p q => !dataLt q p)
abbrev geF : F2 := f2P (cmpG fun p q => !dataLt p q)
theorem f2P_post {g : PyData → PyData → Option Bool} {σ : St} {ι : Nat → Addr} {h : Hd} {H : Hp} {dx dy : D} {P : D → Hd → (Nat → Addr) → Hp → Prop} (R : HRep Z.X.K Z.cA ι H h) (p : RPost Z.X.K Z.cA Z.W σ ι h H (f2P g dx dy h) P) :
    ∃ a b c, py h 60 dx = some a ∧ py h 60 dy = some b ∧ g a b = some c ∧ P (.bl c) h ι H := by
  unfold f2P at p
  cases e1 : py h 60 dx with
  | none => rw [e1] at p; exact p.elim
  | some a =>
    cases e2 : py h 60 dy with
    | none => rw [e1, e2] at p; exact p.elim
    | some b =>
      rw [e1, e2] at p
      have p : RPost Z.X.K Z.cA Z.W σ ι h H (match g a b with | some b => .ok (.bl b) h | none => .stuck) P := p
      cases e3 : g a b with
      | none => rw [e3] at p; exact p.elim
      | some c => rw [e3] at p; exact ⟨a, b, c, rfl, rfl, e3, RPost.ok R p⟩
theorem ko_eq (hu : Z.X.A.units + 64 < cLine) : OpK Z (compareOp .Eq) eqF := ⟨_, op_eqD hu, fun σ ι h H x y dx dy Q R rx ry p => by
  obtain ⟨a, b, c, e1, e2, e3, q⟩ := f2P_post R p
  cases e3
  exact ⟨a, b, py_dp R e1 rx, py_dp R e2 ry, py_shaped (by decide) e1, py_shaped (by decide) e2, q _ .bl⟩⟩
theorem ko_ne (hu : Z.X.A.units + 64 < cLine) : OpK Z (compareOp .NotEq) neF := ⟨_, op_neD hu, fun σ ι h H x y dx dy Q R rx ry p => by
  obtain ⟨a, b, c, e1, e2, e3, q⟩ := f2P_post R p
  cases e3
  exact ⟨a, b, py_dp R e1 rx, py_dp R e2 ry, py_shaped (by decide) e1, py_shaped (by decide) e2, q _ .bl⟩⟩
def rCmp (K : PySem.W.Frag) (r : PyData → PyData → Bool) : R2 := fun x y H Q => ∃ a b, Dp K H x a ∧ Dp K H y b ∧ alike a b = true ∧ a ≠ .none ∧ a.depth ≤ 64 ∧ Q (.bl (r a b)) H
theorem isNonP_ne {p : PyData} (h : isNonP p = false) : p ≠ .none := by intro e; subst e; cases h
theorem ko_cmp {op : CmpOp} {r : PyData → PyData → Bool} (o : OpR Z.X (compareOp op) (rCmp Z.X.K r)) : OpK Z (compareOp op) (f2P (cmpG r)) := ⟨_, o, fun σ ι h H x y dx dy Q R rx ry p => by
  obtain ⟨a, b, c, e1, e2, e3, q⟩ := f2P_post R p
  unfold cmpG at e3
  split at e3
  · rename_i hc
    cases e3
    exact ⟨a, b, py_dp R e1 rx, py_dp R e2 ry, hc.1, isNonP_ne hc.2, by have := (py_ok e1).2; omega, q _ .bl⟩
  · cases e3⟩
theorem room_min {u a b : Nat} (h : u + 64 < cLine) (ha : a ≤ 64) : u + min a b < cLine := by
  have := Nat.min_le_left a b
  omega
theorem ko_ltD (hu : Z.X.A.units + 64 < cLine) : OpK Z (compareOp .Lt) ltF := ko_cmp fun pins s σ H x y v u Q I rx ry ⟨a, b, ha, hb, hl, hn, hd, q⟩ => by
  obtain ⟨as, r1⟩ := Dp.reads I a x v ha rx
  obtain ⟨bs, r2⟩ := Dp.reads I b y u hb ry
  exact lt_data r1 r2 hl hn (room_min hu hd) ⟨.bl _, H, I, rfl, q⟩
theorem ko_gtD (hu : Z.X.A.units + 64 < cLine) : OpK Z (compareOp .Gt) gtF := ko_cmp fun pins s σ H x y v u Q I rx ry ⟨a, b, ha, hb, hl, hn, hd, q⟩ => by
  obtain ⟨as, r1⟩ := Dp.reads I a x v ha rx
  obtain ⟨bs, r2⟩ := Dp.reads I b y u hb ry
  exact gt_data r1 r2 hl hn (room_min hu hd) ⟨.bl _, H, I, rfl, q⟩
theorem ko_leD (hu : Z.X.A.units + 64 < cLine) : OpK Z (compareOp .LtE) leF := ko_cmp fun pins s σ H x y v u Q I rx ry ⟨a, b, ha, hb, hl, hn, hd, q⟩ => by
  obtain ⟨as, r1⟩ := Dp.reads I a x v ha rx
  obtain ⟨bs, r2⟩ := Dp.reads I b y u hb ry
  exact le_data r1 r2 hl hn (room_min hu hd) ⟨.bl _, H, I, rfl, q⟩
theorem ko_geD (hu : Z.X.A.units + 64 < cLine) : OpK Z (compareOp .GtE) geF := ko_cmp fun pins s σ H x y v u Q I rx ry ⟨a, b, ha, hb, hl, hn, hd, q⟩ => by
  obtain ⟨as, r1⟩ := Dp.reads I a x v ha rx
  obtain ⟨bs, r2⟩ := Dp.reads I b y u hb ry
  exact ge_data r1 r2 hl hn (room_min hu hd) ⟨.bl _, H, I, rfl, q⟩
def isNonD : D → Bool
  | .non => true
  | _ => false
theorem isNon_rep {K : PySem.W.Frag} {ι : Nat → Addr} {n : Nat} {H : Hp} {x : V} {d : D} (r : Rep K ι n H x d) : decide (x = .non) = isNonD d := by cases r <;> simp [isNonD]
def isF : F2 := fun x y h => match y with | .non => .ok (.bl (isNonD x)) h | _ => .stuck
def notF : F2 := fun x y h => match y with | .non => .ok (.bl (!isNonD x)) h | _ => .stuck
theorem ko_is : OpK Z (compareOp .Is) isF := ⟨_, op_isN, fun σ ι h H x y dx dy Q R rx ry p => by
  cases ry with
  | non => exact ⟨rfl, by rw [isNon_rep rx]; exact RPost.ok R p _ .bl⟩
  | bl => exact p.elim
  | int => exact p.elim
  | str => exact p.elim
  | raw => exact p.elim
  | xc0 => exact p.elim
  | xc _ _ => exact p.elim
  | fls _ _ => exact p.elim
  | ztp _ _ => exact p.elim
  | tup _ _ => exact p.elim
  | ref _ => exact p.elim⟩
theorem ko_isnot : OpK Z (compareOp .IsNot) notF := ⟨_, op_notN, fun σ ι h H x y dx dy Q R rx ry p => by
  cases ry with
  | non => exact ⟨rfl, by rw [isNon_rep rx]; exact RPost.ok R p _ .bl⟩
  | bl => exact p.elim
  | int => exact p.elim
  | str => exact p.elim
  | raw => exact p.elim
  | xc0 => exact p.elim
  | xc _ _ => exact p.elim
  | fls _ _ => exact p.elim
  | ztp _ _ => exact p.elim
  | tup _ _ => exact p.elim
  | ref _ => exact p.elim⟩
/-! ### arithmetic -/
theorem ko_mul : OpK Z (binaryOp .Mult) (f2I (fun i j => (decide (-(18446744073709551616) < i) && decide (i < 18446744073709551616)) || (decide (-(18446744073709551616) < j) && decide (j < 18446744073709551616))) fun i j => .int (i * j)) :=
  .ints op_mul (fun i j c => by
    simp only [Bool.or_eq_true, Bool.and_eq_true, decide_eq_true_eq] at c
    have e : (2 : Int) ^ 64 = 18446744073709551616 := by decide
    unfold CMul
    rw [e]; exact c) fun _ _ _ _ _ => .int
theorem ko_fdiv : OpK Z (binaryOp .FloorDiv) (f2I (fun _ j => decide (0 < j) && decide (j < 1073741824)) fun i j => .int (i / j)) :=
  .ints op_fdiv (fun i j c => by simpa [CDiv] using c) fun _ _ _ _ _ => .int
theorem ko_pow : OpK Z (binaryOp .Pow) (f2I (fun i j => decide (0 ≤ j) && decide (j ≤ 1000000) && decide (i.natAbs < 18446744073709551616)) fun i j => .int (i ^ j.toNat)) :=
  .ints op_pow (fun i j c => by
    simp only [Bool.and_eq_true, decide_eq_true_eq] at c
    have e : (2 : Nat) ^ 64 = 18446744073709551616 := by decide
    unfold CPow
    rw [e]; exact ⟨c.1.1, c.1.2, c.2⟩) fun _ _ _ _ _ => .int
/-! ### + of texts and tuples -/
theorem ofString_append (s t : String) : Str.ofString (s ++ t) = Str.ofString s ++ Str.ofString t := by
  rw [Str.ofString_eq_toList, Str.ofString_eq_toList, Str.ofString_eq_toList]
  show _ = Str.append _ _
  unfold Str.append
  simp
theorem ofString_length (s : String) : (Str.ofString s).length = s.length := by
  rw [Str.ofString_eq_toList]
  simp [Str.length, String.length_toList]
def addS : F2 := fun x y h => match x, y with | .str s, .str t => if s.length + t.length ≤ LIM then .ok (.str (s ++ t)) h else .stuck | _, _ => .stuck
def addT : F2 := fun x y h => match x, y with | .tup s, .tup t => if s.length + t.length ≤ LIM then .ok (.tup (s ++ t)) h else .stuck | _, _ => .stuck
theorem ko_addS : OpK Z (binaryOp .Add) addS := ⟨_, op_add_str, fun σ ι h H x y dx dy Q R rx ry p => by
  cases rx <;> cases ry <;> first | exact p.elim | skip
  rename_i s t
  have p : RPost Z.X.K Z.cA Z.W σ ι h H (if s.length + t.length ≤ LIM then .ok (D.str (s ++ t)) h else .stuck) _ := p
  by_cases c : s.length + t.length ≤ LIM
  · rw [if_pos c] at p
    exact ⟨_, _, rfl, rfl, by rw [ofString_length, ofString_length]; exact lim_le c, by
      rw [← ofString_append]; exact RPost.ok R p _ .str⟩
  · rw [if_neg c] at p; exact p.elim⟩
theorem ko_addT : OpK Z (binaryOp .Add) addT := ⟨_, op_catP, fun σ ι h H x y dx dy Q R rx ry p => by
  cases rx <;> cases ry <;> first | exact p.elim | skip
  rename_i a xs s q1 rs b ys t q2 rt
  have p : RPost Z.X.K Z.cA Z.W σ ι h H (if s.length + t.length ≤ LIM then .ok (D.tup (s ++ t)) h else .stuck) _ := p
  by_cases c : s.length + t.length ≤ LIM
  · rw [if_pos c] at p
    refine ⟨a, b, xs, ys, rfl, rfl, q1.sqt, q2.sqt, by rw [rs.len, rt.len]; exact lim_le c, fun e => ?_, fun _ e => ?_, fun _ _ => made_post R (rs.append rt) p⟩
    · subst e
      cases rs
      exact RPost.ok R p _ (.tup q2 rt)
    · subst e
      cases rt
      rw [List.append_nil] at p
      exact RPost.ok R p _ (.tup q1 rs)
  · rw [if_neg c] at p; exact p.elim⟩
/-- + of ints, texts, tuples -/
def addF : F2 := fun x y h => match x with
  | .int _ => f2I yes2 (fun i j => .int (i + j)) x y h
  | .str _ => addS x y h
  | .tup _ => addT x y h
  | _ => .stuck
theorem ko_plus : OpK Z (binaryOp .Add) addF := .alt ko_add (.alt ko_addS ko_addT (M := fun x y h => match x with | .str _ => addS x y h | _ => addT x y h) fun x y h => by cases x <;> simp) fun x y h => by
  cases x <;> simp [addF, f2I, addS, addT]
end

/-! ### results by cases -/
def onSome {α β : Type} (o : Option α) (k : α → Res β) : Res β := match o with | some a => k a | none => .stuck
@[simp] theorem onSome_some {α β : Type} (a : α) (k : α → Res β) : onSome (some a) k = k a := id rfl
def asInt {β : Type} (d : D) (k : Int → Res β) : Res β := match d with | .int i => k i | _ => .stuck
@[simp] theorem asInt_int {β : Type} (i : Int) (k : Int → Res β) : asInt (.int i) k = k i := id rfl
def asTup {β : Type} (d : D) (k : List D → Res β) : Res β := match d with | .tup i => k i | _ => .stuck
@[simp] theorem asTup_tup {β : Type} (i : List D) (k : List D → Res β) : asTup (.tup i) k = k i := id rfl
def asStr {β : Type} (d : D) (k : String → Res β) : Res β := match d with | .str i => k i | _ => .stuck
@[simp] theorem asStr_str {β : Type} (i : String) (k : String → Res β) : asStr (.str i) k = k i := id rfl
def asRef {β : Type} (d : D) (k : Nat → Res β) : Res β := match d with | .ref i => k i | _ => .stuck
@[simp] theorem asRef_ref {β : Type} (i : Nat) (k : Nat → Res β) : asRef (.ref i) k = k i := id rfl
def asBl {β : Type} (d : D) (k : Bool → Res β) : Res β := match d with | .bl i => k i | _ => .stuck
@[simp] theorem asBl_bl {β : Type} (i : Bool) (k : Bool → Res β) : asBl (.bl i) k = k i := id rfl
def onLst {β : Type} (h : Hd) (m : Nat) (k : List D → Res β) : Res β := match h[m]? with | some (.lst ds) => k ds | _ => .stuck
theorem onLst_of {β : Type} {h : Hd} {m : Nat} {ds : List D} (e : h[m]? = some (.lst ds)) (k : List D → Res β) : onLst h m k = k ds := by unfold onLst; rw [e]
def onDict {β : Type} (h : Hd) (m : Nat) (k : List (D × D) → Res β) : Res β := match h[m]? with | some (.dict ds) => k ds | _ => .stuck
theorem onDict_of {β : Type} {h : Hd} {m : Nat} {ds : List (D × D)} (e : h[m]? = some (.dict ds)) (k : List (D × D) → Res β) : onDict h m k = k ds := by unfold onDict; rw [e]
def onIns {β : Type} (h : Hd) (m : Nat) (k : String → List (String × D) → Res β) : Res β := match h[m]? with | some (.ins c fs) => k c fs | _ => .stuck
theorem onIns_of {β : Type} {h : Hd} {m : Nat} {c : String} {fs : List (String × D)} (e : h[m]? = some (.ins c fs)) (k : String → List (String × D) → Res β) : onIns h m k = k c fs := by unfold onIns; rw [e]
def guard' {β : Type} (c : Prop) [Decidable c] (r : Res β) : Res β := if c then r else .stuck
theorem guard_of {β : Type} {c : Prop} [Decidable c] (hc : c) (r : Res β) : guard' c r = r := if_pos hc
def fa1 {β : Type} (g : D → Hd → Res β) : List D → Hd → Res β := fun ds h => match ds with | [d] => g d h | _ => .stuck
@[simp] theorem fa1_one {β : Type} (g : D → Hd → Res β) (d : D) (h : Hd) : fa1 g [d] h = g d h := id rfl
def fa2 {β : Type} (g : D → D → Hd → Res β) : List D → Hd → Res β := fun ds h => match ds with | [d, e] => g d e h | _ => .stuck
@[simp] theorem fa2_two {β : Type} (g : D → D → Hd → Res β) (d e : D) (h : Hd) : fa2 g [d, e] h = g d e h := id rfl
section
variable {K : PySem.W.Frag} {cA : CA} {W : WX} {σ : St} {ι : Nat → Addr} {H : Hp} {h : Hd} {α β : Type} {P : β → Hd → (Nat → Addr) → Hp → Prop}
theorem RPost.onSome {o : Option α} {k : α → Res β} (p : RPost K cA W σ ι h H (onSome o k) P) : ∃ a, o = some a ∧ RPost K cA W σ ι h H (k a) P := by
  cases o with
  | none => exact p.elim
  | some a => exact ⟨a, rfl, p⟩
theorem RPost.asInt {d : D} {k : Int → Res β} (p : RPost K cA W σ ι h H (asInt d k) P) : ∃ i, d = .int i ∧ RPost K cA W σ ι h H (k i) P := by
  cases d <;> first | exact ⟨_, rfl, p⟩ | exact p.elim
theorem RPost.asTup {d : D} {k : List D → Res β} (p : RPost K cA W σ ι h H (asTup d k) P) : ∃ i, d = .tup i ∧ RPost K cA W σ ι h H (k i) P := by
  cases d <;> first | exact ⟨_, rfl, p⟩ | exact p.elim
theorem RPost.asStr {d : D} {k : String → Res β} (p : RPost K cA W σ ι h H (asStr d k) P) : ∃ i, d = .str i ∧ RPost K cA W σ ι h H (k i) P := by
  cases d <;> first | exact ⟨_, rfl, p⟩ | exact p.elim
theorem RPost.asRef {d : D} {k : Nat → Res β} (p : RPost K cA W σ ι h H (asRef d k) P) : ∃ i, d = .ref i ∧ RPost K cA W σ ι h H (k i) P := by
  cases d <;> first | exact ⟨_, rfl, p⟩ | exact p.elim
theorem RPost.asBl {d : D} {k : Bool → Res β} (p : RPost K cA W σ ι h H (asBl d k) P) : ∃ i, d = .bl i ∧ RPost K cA W σ ι h H (k i) P := by
  cases d <;> first | exact ⟨_, rfl, p⟩ | exact p.elim
theorem RPost.onLst {h2 : Hd} {m : Nat} {k : List D → Res β} (p : RPost K cA W σ ι h H (onLst h2 m k) P) : ∃ ds, h2[m]? = some (.lst ds) ∧ RPost K cA W σ ι h H (k ds) P := by
  unfold Kf.onLst at p
  cases e : h2[m]? with
  | none => rw [e] at p; exact p.elim
  | some o => rw [e] at p; cases o <;> first | exact ⟨_, rfl, p⟩ | exact p.elim
theorem RPost.onDict {h2 : Hd} {m : Nat} {k : List (D × D) → Res β} (p : RPost K cA W σ ι h H (onDict h2 m k) P) : ∃ ds, h2[m]? = some (.dict ds) ∧ RPost K cA W σ ι h H (k ds) P := by
  unfold Kf.onDict at p
  cases e : h2[m]? with
  | none => rw [e] at p; exact p.elim
  | some o => rw [e] at p; cases o <;> first | exact ⟨_, rfl, p⟩ | exact p.elim
theorem RPost.onIns {h2 : Hd} {m : Nat} {k : String → List (String × D) → Res β} (p : RPost K cA W σ ι h H (onIns h2 m k) P) : ∃ c fs, h2[m]? = some (.ins c fs) ∧ RPost K cA W σ ι h H (k c fs) P := by
  unfold Kf.onIns at p
  cases e : h2[m]? with
  | none => rw [e] at p; exact p.elim
  | some o => rw [e] at p; cases o <;> first | exact ⟨_, _, rfl, p⟩ | exact p.elim
theorem RPost.guard {c : Prop} [Decidable c] {r : Res β} (p : RPost K cA W σ ι h H (guard' c r) P) : c ∧ RPost K cA W σ ι h H r P := by
  unfold guard' at p
  by_cases q : c
  · rw [if_pos q] at p; exact ⟨q, p⟩
  · rw [if_neg q] at p; exact p.elim
theorem RPost.fa1 {g : D → Hd → Res β} {ds : List D} {h2 : Hd} (p : RPost K cA W σ ι h H (fa1 g ds h2) P) : ∃ d, ds = [d] ∧ RPost K cA W σ ι h H (g d h2) P := by
  match ds, p with
  | [], p => exact p.elim
  | [d], p => exact ⟨d, rfl, p⟩
  | _ :: _ :: _, p => exact p.elim
theorem RPost.fa2 {g : D → D → Hd → Res β} {ds : List D} {h2 : Hd} (p : RPost K cA W σ ι h H (fa2 g ds h2) P) : ∃ d e, ds = [d, e] ∧ RPost K cA W σ ι h H (g d e h2) P := by
  match ds, p with
  | [], p => exact p.elim
  | [d], p => exact p.elim
  | [d, e], p => exact ⟨d, e, rfl, p⟩
  | _ :: _ :: _ :: _, p => exact p.elim
end
end Kf
end
section
set_option maxHeartbeats 4000000
/-! Kf: subscripts, slices, calls of built-ins. -/
namespace Kf
open PySem PySem.Spec L2
section
variable {K : PySem.W.Frag} {cA : CA} {ι : Nat → Addr} {n : Nat} {H : Hp} {h : Hd}
theorem items_rep (R : HRep K cA ι H h) {v : V} {d : D} {ds : List D} (r : Rep K ι h.length H v d) (e : itemsD h d = some ds) : ∃ a xs, v = .ref a ∧ (SqL K H a xs ∨ PlT K H a xs) ∧ Reps K ι h.length H xs ds := by
  cases r with
  | ztp _ _ => cases e
  | tup q rs => cases e; exact ⟨_, _, rfl, .inr q, rs⟩
  | fls q rs => cases e; exact ⟨_, _, rfl, .inl q.sql, rs⟩
  | ref hlt =>
    rename_i m
    have e : (match h[m]? with | some (O.lst ds) => some ds | _ => none) = some ds := e
    cases hm : h[m]? with
    | none => rw [hm] at e; cases e
    | some o =>
      rw [hm] at e
      cases o with
      | lst es =>
        cases e
        obtain ⟨ho, e3, ro⟩ := R.obj m _ hm
        cases ro with
        | lst rs => exact ⟨_, _, rfl, .inl (.of e3), rs⟩
      | dict _ => cases e
      | lkd _ => cases e
      | ins _ _ => cases e
  | xc0 => cases e
  | xc _ _ => cases e
  | non => cases e
  | bl => cases e
  | int => cases e
  | raw => cases e
  | str => cases e
theorem atI_rep {xs : List V} {ds : List D} {i : Int} {d : D} (rs : Reps K ι n H xs ds) (e : atI ds i = some d) : ∃ v, atI xs i = some v ∧ Rep K ι n H v d := by
  unfold atI at e ⊢
  rw [rs.len]
  cases q : ixN ds.length i with
  | none => rw [q] at e; cases e
  | some j => rw [q] at e; exact rs.get e
theorem Reps.take : ∀ {vs : List V} {ds : List D} (k : Nat), Reps K ι n H vs ds → Reps K ι n H (vs.take k) (ds.take k)
  | _, _, 0, _ => .nil
  | _, _, _ + 1, .nil => .nil
  | _, _, k + 1, .cons r q => .cons r (Reps.take k q)
theorem Reps.drop : ∀ {vs : List V} {ds : List D} (k : Nat), Reps K ι n H vs ds → Reps K ι n H (vs.drop k) (ds.drop k)
  | _, _, 0, q => q
  | _, _, _ + 1, .nil => .nil
  | _, _, k + 1, .cons _ q => Reps.drop k q
def cutD (ds : List D) (lo hi : Option Int) : List D := (ds.drop (HT.sIx ds.length 0 lo)).take (HT.sIx ds.length ds.length hi - HT.sIx ds.length 0 lo)
theorem Reps.cut {vs : List V} {ds : List D} (r : Reps K ι n H vs ds) (lo hi : Option Int) : Reps K ι n H (cutV vs lo hi) (cutD ds lo hi) := by
  unfold cutV cutD
  rw [r.len]
  exact (r.drop _).take _
end
section
variable {Z : Kx}
/-! ### subscripts -/
def IxK (Z : Kx) (F : F2) : Prop := ∃ r : R2, IxR Z.X r ∧ ∀ (σ : St) (ι : Nat → Addr) (h : Hd) (H : Hp) (x y : V) (dx dy : D) (Q : VK), HRep Z.X.K Z.cA ι H h → Rep Z.X.K ι h.length H x dx → Rep Z.X.K ι h.length H y dy →
  RPost Z.X.K Z.cA Z.W σ ι h H (F dx dy h) (fun d h' ι' H' => ∀ v, Rep Z.X.K ι' h'.length H' v d → Q v H') → r x y H Q
theorem ke_ix {F : F2} {a b : Expr} {f g : SE} {pos : Pos} (ho : IxK Z F) (ha : KE Z a f) (hb : KE Z b g) (hs : PlainIx b := by exact fun _ _ => rfl) : KE Z (.Subscript a b pos) (s2 F f g) := by
  obtain ⟨r, hr, k⟩ := ho
  exact ⟨(pe_ix hr ha.pe hb.pe hs).weak (t2_of k)⟩
def ixF : F2 := fun x y h => asInt y fun i => onSome (itemsD h x) fun ds => onSome (atI ds i) fun d => .ok d h
theorem ik_seq : IxK Z ixF := ⟨_, ix_list.or ix_tup, fun σ ι h H x y dx dy Q R rx ry p => by
  obtain ⟨i, rfl, p⟩ := p.asInt
  obtain ⟨ds, e, p⟩ := p.onSome
  obtain ⟨d, e2, p⟩ := p.onSome
  cases ry
  obtain ⟨a, xs, rfl, q, rs⟩ := items_rep R rx e
  obtain ⟨v, ev, r⟩ := atI_rep rs e2
  rcases q with q | q
  · exact .inl ⟨a, xs, i, v, rfl, rfl, q, ev, RPost.ok R p v r⟩
  · exact .inr ⟨a, xs, i, v, rfl, rfl, q.sqt, ev, RPost.ok R p v r⟩⟩
/-- a slice's part -/
abbrev SO := En → Hd → Res (Option Int)
structure KO (Z : Kx) (e : Option Expr) (f : SO) : Prop where
  po : PO Z.X e fun σ H Q => ∃ ι env h, HRep Z.X.K Z.cA ι H h ∧ VRep Z.X.K ι h.length H σ env ∧ RPost Z.X.K Z.cA Z.W σ ι h H (f env h) fun o h' ι' H' => Q o H'
theorem _root_.L2.PO.weak {X : Cx} {e : Option Expr} {t t' : TO} (p : PO X e t) (k : ∀ σ H Q, t' σ H Q → t σ H Q) : PO X e t' := ⟨fun pins s σ H Q I q => p.run pins s σ H Q I (k σ H Q q)⟩
def sNoPart : SO := fun _ h => .ok none h
def sPart (f : SE) : SO := fun env h => (f env h).bind fun d h1 => match d with | .int i => .ok (some i) h1 | _ => .stuck
theorem ko_none : KO Z none sNoPart := ⟨po_none.weak fun σ H Q ⟨ι, env, h, R, V, p⟩ => RPost.ok R p⟩
theorem ko_some {e : Expr} {f : SE} (he : KE Z e f) : KO Z (some e) (sPart f) := ⟨(po_some he.pe).weak fun σ H Q ⟨ι, env, h, R, V, p⟩ => ⟨ι, env, h, R, V, (RPost.bind p).mono fun d h1 ι1 H1 S1 R1 p1 v r => by
  cases r with
  | int => exact ⟨_, rfl, RPost.ok R1 p1⟩
  | non => exact p1.elim
  | bl => exact p1.elim
  | str => exact p1.elim
  | raw => exact p1.elim
  | xc0 => exact p1.elim
  | xc _ _ => exact p1.elim
  | fls _ _ => exact p1.elim
  | ztp _ _ => exact p1.elim
  | tup _ _ => exact p1.elim
  | ref _ => exact p1.elim⟩⟩
def sSlT (f : SE) (l u : SO) : SE := fun env h => (f env h).bind fun d h1 => (l env h1).bind fun lo h2 => (u env h2).bind fun hi h3 => asTup d fun ds => .ok (.tup (cutD ds lo hi)) h3
/-- t[lo:hi] of a tuple -/
theorem ke_slT {e : Expr} {lo hi : Option Expr} {f : SE} {l u : SO} {pos p2 : Pos} (he : KE Z e f) (hl : KO Z lo l) (hu : KO Z hi u) : KE Z (.Subscript e (.Slice lo hi none p2) pos) (sSlT f l u) :=
  ⟨(pe_slice sl_tupP he.pe hl.po hu.po).weak fun σ H Q ⟨ι, env, h, R, V, p⟩ => ⟨ι, env, h, R, V, (RPost.bind p).mono fun d h1 ι1 H1 S1 R1 p1 v r =>
    ⟨ι1, env, h1, R1, V.step S1 R, (RPost.bind p1).mono fun o1 h2 ι2 H2 S2 R2 p2 => ⟨ι2, env, h2, R2, (V.step S1 R).step S2 R1, (RPost.bind p2).mono fun o2 h3 ι3 H3 S3 R3 p3 => by
      have r3 := r.step (S2.trans S3) R1
      obtain ⟨ds, e0, p4⟩ := p3.asTup
      subst e0
      cases r3 with
      | @tup a xs ds q rs =>
        refine ⟨a, xs, rfl, q.sqt, fun hw => ?_, fun _ => made_post R3 (rs.cut o1 o2) p4⟩
        · have e : cutD ds o1 o2 = ds := by
            unfold cutD
            rw [rs.len] at hw
            rw [hw.1, hw.2]
            simp
          rw [e] at p4
          exact RPost.ok R3 p4 _ (.tup q rs)⟩⟩⟩⟩
def sSlL (f : SE) (l u : SO) : SA := fun env h => (f env h).bind fun d h1 => (l env h1).bind fun lo h2 => (u env h2).bind fun hi h3 => asRef d fun m => onLst h3 m fun ds => .ok (cutD ds lo hi) h3
theorem none_of_there {ι ι' : Nat → Addr} {H H' : Hp} {h h' : Hd} (S : Step ι h H ι' h' H') {a : Addr} (ha : H' a = none) : H a = none := by
  cases e : H a with
  | none => rfl
  | some o => obtain ⟨o', e'⟩ := S.there a o e; rw [ha] at e'; cases e'
/-- xs[lo:hi] of a list of ours: a new list -/
theorem kl_sl {e : Expr} {lo hi : Option Expr} {f : SE} {l u : SO} {pos p2 : Pos} (he : KE Z e f) (hl : KO Z lo l) (hu : KO Z hi u) : KL Z (.Subscript e (.Slice lo hi none p2) pos) (sSlL f l u) :=
  ⟨(pe_slice sl_list he.pe hl.po hu.po).weak fun σ H Q ⟨ι, env, h, R, V, p⟩ => ⟨ι, env, h, R, V, (RPost.bind p).mono fun d h1 ι1 H1 S1 R1 p1 v r =>
    ⟨ι1, env, h1, R1, V.step S1 R, (RPost.bind p1).mono fun o1 h2 ι2 H2 S2 R2 p2 => ⟨ι2, env, h2, R2, (V.step S1 R).step S2 R1, (RPost.bind p2).mono fun o2 h3 ι3 H3 S3 R3 p3 => by
      have r3 := r.step (S2.trans S3) R1
      obtain ⟨m, rfl, p3⟩ := p3.asRef
      obtain ⟨ds, hm, p3⟩ := p3.onLst
      cases r3
      obtain ⟨ho, e3, ro⟩ := R3.obj m _ hm
      cases ro with
      | @lst xs _ rs =>
        refine ⟨_, xs, rfl, .of e3, fun b hb => ?_⟩
        have S4 := Step.aside R3 hb (.lst (cutV xs o1 o2))
        exact p3 ι3 _ S4 (R3.aside hb _) b _ (none_of_there (S1.trans (S2.trans S3)) hb) upd_same (fun m hm z => R3.off hb hm z.symm) ((rs.cut o1 o2).step S4 R3)⟩⟩⟩⟩

/-! ### built-ins by their names -/
abbrev FA := List D → Hd → Res D
def CallK (Z : Kx) (f : Value) (F : FA) : Prop := ∃ r, CallR Z.X f r ∧ ∀ (σ : St) (ι : Nat → Addr) (h : Hd) (H : Hp) (xs : List V) (ds : List D) (Q : VK), HRep Z.X.K Z.cA ι H h → Reps Z.X.K ι h.length H xs ds →
  RPost Z.X.K Z.cA Z.W σ ι h H (F ds h) (fun d h' ι' H' => ∀ v, Rep Z.X.K ι' h'.length H' v d → Q v H') → r xs H Q
/-- .. that hand out a new list -/
def CallKL (Z : Kx) (f : Value) (F : List D → Hd → Res (List D)) : Prop := ∃ r, CallR Z.X f r ∧ ∀ (σ : St) (ι : Nat → Addr) (h : Hd) (H : Hp) (xs : List V) (ds : List D) (Q : VK), HRep Z.X.K Z.cA ι H h → Reps Z.X.K ι h.length H xs ds →
  RPost Z.X.K Z.cA Z.W σ ι h H (F ds h) (fun ds h' ι' H' => ∀ p vs, H p = none → H' p = some (.lst vs) → (∀ m, m < h'.length → p ≠ ι' m) → Reps Z.X.K ι' h'.length H' vs ds → Q (.ref p) H') → r xs H Q
def sCall (F : FA) (a : SA) : SE := fun env h => (a env h).bind fun ds h1 => F ds h1
def sCallL (F : List D → Hd → Res (List D)) (a : SA) : SA := fun env h => (a env h).bind fun ds h1 => F ds h1
section
variable {x : Str} {p pos : Pos} {e : Expr} {es : List Expr} {a : SA} {F : FA} {id T : String}
theorem ke_callB (hc : CallK Z (.builtin id) F) (hg : Gl Z.X x) (hm : Z.X.mg x = none) (hv : bootBuiltins x = some (.builtin id)) (ha : KA Z (e :: es) a) (hn : x ≠ "__name__" := by decide) (hdb : (x == ("__debug__" : Str)) = false := by decide)
    (he : starEach (e :: es) Z.X.env = (false, eval e Z.X.env) :: starEach es Z.X.env := by rfl) (hpl : (backTo pos (starEach es Z.X.env)).any (·.1) = false := by rfl) : KE Z (.Call (.Name x p) (e :: es) [] pos) (sCall F a) := by
  obtain ⟨r, hr, k⟩ := hc
  exact ⟨(pe_callB hr hg hm hv ha.pa hn hdb he hpl).weak fun σ H Q ⟨ι, env, h, R, V, p⟩ => ⟨ι, env, h, R, V, (RPost.bind p).mono fun ds h1 ι1 H1 S1 R1 p1 vs rs => k σ ι1 h1 H1 vs ds Q R1 rs p1⟩⟩
theorem ke_callTy (hc : CallK Z (.type T) F) (hg : Gl Z.X x) (hm : Z.X.mg x = none) (hv : bootBuiltins x = some (.type T)) (ha : KA Z (e :: es) a) (hn : x ≠ "__name__" := by decide) (hdb : (x == ("__debug__" : Str)) = false := by decide)
    (he : starEach (e :: es) Z.X.env = (false, eval e Z.X.env) :: starEach es Z.X.env := by rfl) (hpl : (backTo pos (starEach es Z.X.env)).any (·.1) = false := by rfl) : KE Z (.Call (.Name x p) (e :: es) [] pos) (sCall F a) := by
  obtain ⟨r, hr, k⟩ := hc
  exact ⟨(pe_callTy hr hg hm hv ha.pa hn hdb he hpl).weak fun σ H Q ⟨ι, env, h, R, V, p⟩ => ⟨ι, env, h, R, V, (RPost.bind p).mono fun ds h1 ι1 H1 S1 R1 p1 vs rs => k σ ι1 h1 H1 vs ds Q R1 rs p1⟩⟩
end

/-! ### len, tuple, list, int, str -/
theorem wit {K : PySem.W.Frag} {ι : Nat → Addr} {n : Nat} {H : Hp} {xs : List V} {d : D} (r : Reps K ι n H xs [d]) : ∃ x, xs = [x] ∧ Rep K ι n H x d := by
  cases r with
  | cons r q => cases q; exact ⟨_, rfl, r⟩
theorem wit2 {K : PySem.W.Frag} {ι : Nat → Addr} {n : Nat} {H : Hp} {xs : List V} {d e : D} (r : Reps K ι n H xs [d, e]) : ∃ x y, xs = [x, y] ∧ Rep K ι n H x d ∧ Rep K ι n H y e := by
  cases r with
  | cons r q =>
    obtain ⟨y, rfl, r2⟩ := wit q
    exact ⟨_, _, rfl, r, r2⟩
def lenF : FA := fa1 fun d h => match d with
  | .str s => guard' (s.length ≤ LIM) (.ok (.int s.length) h)
  | d => onSome (itemsD h d) fun es => .ok (.int es.length) h
theorem ck_len : CallK Z (.builtin "len") lenF := ⟨_, call_len, fun σ ι h H xs ds Q R rs p => by
  obtain ⟨d, rfl, p⟩ := p.fa1
  obtain ⟨x, rfl, r⟩ := wit rs
  refine ⟨x, ?_⟩
  by_cases hs : ∃ s, d = .str s
  · obtain ⟨s, rfl⟩ := hs
    cases r
    have p : RPost Z.X.K Z.cA Z.W σ ι h H (guard' (s.length ≤ LIM) (.ok (D.int s.length) h)) _ := p
    obtain ⟨c, p⟩ := p.guard
    exact ⟨_, rfl, ⟨by rw [ofString_length]; exact lim_le c, rfl⟩, by rw [ofString_length]; exact RPost.ok R p _ .int⟩
  · have p : RPost Z.X.K Z.cA Z.W σ ι h H (onSome (itemsD h d) fun es => .ok (D.int es.length) h) (fun d h' ι' H' => ∀ v, Rep Z.X.K ι' h'.length H' v d → Q v H') := by
      cases d <;> first | exact p | exact absurd ⟨_, rfl⟩ hs
    obtain ⟨es, e, p⟩ := p.onSome
    obtain ⟨a, ys, rfl, q, rs⟩ := items_rep R r e
    refine ⟨ys.length, rfl, ?_, by rw [rs.len]; exact RPost.ok R p _ .int⟩
    rcases q with q | q
    · exact .inl ⟨ys, q, rfl⟩
    · exact .inr ⟨ys, q.sqt, rfl⟩⟩
def tupF : FA := fa1 fun d h => onSome (itemsD h d) fun es => .ok (.tup es) h
theorem ck_tuple : CallK Z (.type "tuple") tupF := ⟨_, call_tupleP, fun σ ι h H xs ds Q R rs p => by
  obtain ⟨d, rfl, p⟩ := p.fa1
  obtain ⟨x, rfl, r⟩ := wit rs
  obtain ⟨es, e, p⟩ := p.onSome
  obtain ⟨a, ys, rfl, q, rs⟩ := items_rep R r e
  refine ⟨a, ys, rfl, ?_⟩
  rcases q with q | q
  · exact .inl ⟨q, made_post R rs p⟩
  · exact .inr ⟨q.sqt, RPost.ok R p _ (.tup q rs)⟩⟩
def listF : List D → Hd → Res (List D) := fa1 fun d h => onSome (itemsD h d) fun es => .ok es h
theorem ck_list : CallKL Z (.type "list") listF := ⟨_, call_list_of, fun σ ι h H xs ds Q R rs p => by
  obtain ⟨d, rfl, p⟩ := p.fa1
  obtain ⟨x, rfl, r⟩ := wit rs
  obtain ⟨es, e, p⟩ := p.onSome
  obtain ⟨a, ys, rfl, q, rs⟩ := items_rep R r e
  refine ⟨a, ys, rfl, q.imp id PlT.sqt, fun l hl => ?_⟩
  have S2 := Step.aside R hl (.lst ys)
  exact p ι _ S2 (R.aside hl _) l ys hl upd_same (fun m hm z => R.off hl hm z.symm) (rs.step S2 R)⟩
theorem kl_callTy {x : Str} {p pos : Pos} {e : Expr} {es : List Expr} {a : SA} {F : List D → Hd → Res (List D)} {T : String} (hc : CallKL Z (.type T) F) (hg : Gl Z.X x) (hm : Z.X.mg x = none) (hv : bootBuiltins x = some (.type T)) (ha : KA Z (e :: es) a) (hn : x ≠ "__name__" := by decide) (hdb : (x == ("__debug__" : Str)) = false := by decide)
    (he : starEach (e :: es) Z.X.env = (false, eval e Z.X.env) :: starEach es Z.X.env := by rfl) (hpl : (backTo pos (starEach es Z.X.env)).any (·.1) = false := by rfl) : KL Z (.Call (.Name x p) (e :: es) [] pos) (sCallL F a) := by
  obtain ⟨r, hr, k⟩ := hc
  exact ⟨(pe_callTy hr hg hm hv ha.pa hn hdb he hpl).weak fun σ H Q ⟨ι, env, h, R, V, p⟩ => ⟨ι, env, h, R, V, (RPost.bind p).mono fun ds h1 ι1 H1 S1 R1 p1 vs rs => k σ ι1 h1 H1 vs ds Q R1 rs (p1.mono fun ds2 h2 ι2 H2 S2 R2 p2 q ws e1 e2 e3 e4 => p2 q ws (none_of_there S1 e1) e2 e3 e4)⟩⟩
def intF : FA := fa1 fun d h => match d with
  | .int i => .ok (.int i) h
  | .bl b => .ok (.int (if b then 1 else 0)) h
  | _ => .stuck
theorem ck_int : CallK Z (.type "int") intF := ⟨_, call_int1, fun σ ι h H xs ds Q R rs p => by
  obtain ⟨d, rfl, p⟩ := p.fa1
  obtain ⟨x, rfl, r⟩ := wit rs
  cases r with
  | int => exact .inl ⟨_, rfl, RPost.ok R p _ .int⟩
  | bl => exact .inr ⟨_, rfl, RPost.ok R p _ .int⟩
  | non => exact p.elim
  | str => exact p.elim
  | raw => exact p.elim
  | xc0 => exact p.elim
  | xc _ _ => exact p.elim
  | fls _ _ => exact p.elim
  | ztp _ _ => exact p.elim
  | tup _ _ => exact p.elim
  | ref _ => exact p.elim⟩
def strF : FA := fa1 fun d h => asInt d fun i => guard' (i.natAbs < 10 ^ 100) (.ok (.str (toString i)) h)
theorem ck_str : CallK Z (.type "str") strF := ⟨_, call_str_int, fun σ ι h H xs ds Q R rs p => by
  obtain ⟨d, rfl, p⟩ := p.fa1
  obtain ⟨x, rfl, r⟩ := wit rs
  obtain ⟨i, rfl, p⟩ := p.asInt
  obtain ⟨c, p⟩ := p.guard
  cases r
  refine ⟨i, rfl, ?_, RPost.ok R p _ .str⟩
  by_cases h0 : i.natAbs = 0
  · rw [h0]; decide
  · exact (Nat.log2_lt h0).mpr (Nat.lt_trans c (by decide +kernel))⟩
/-! ### in -/
def itemsP : PyData → Option (List PyData)
  | .list ps => some ps
  | .tuple ps => some ps
  | _ => none
def inF (neg : Bool) : F2 := fun x y h => onSome (py h 60 x) fun p => onSome (py h 60 y) fun q => onSome (itemsP q) fun ps => .ok (.bl (if neg then !ps.any (fun z => PyData.eqv z p) else ps.any (fun z => PyData.eqv z p))) h
def rInA (K : PySem.W.Frag) (neg : Bool) : R2 := fun x y H Q => ∃ d e ds, Dp K H x d ∧ Dp K H y e ∧ itemsP e = some ds ∧ SeqAt.shaped d = true ∧ SeqAt.shaped e = true ∧ Q (.bl (if neg then !ds.any (fun z => PyData.eqv z d) else ds.any fun z => PyData.eqv z d)) H
theorem roomA {u : Nat} {d : PyData} {n : Nat} (sd : SeqAt.shaped d = true) (hu : u + 65 < cLine) : u + 1 + min n d.depth < cLine := by
  have h1 := SeqAt.depth_of_shaped sd
  have h2 := Nat.min_le_right n d.depth
  omega
theorem op_inA (hu : Z.X.A.units + 65 < cLine) : OpR Z.X (compareOp .In) (rInA Z.X.K false) := by
  intro pins s σ H x y v u Q I rx ry ⟨d, e, ds, hd, he, hi, sd, se, q⟩
  obtain ⟨as, r1⟩ := Dp.reads I d x v hd rx
  obtain ⟨bs, r2⟩ := Dp.reads I e y u he ry
  cases e with
  | list ps => cases hi; exact SeqAt.in_list_reads r2 r1 (SeqAt.canLay_of_shaped se) (SeqAt.canLay_of_shaped sd) (roomA sd hu) ⟨.bl _, H, I, rfl, q⟩
  | tuple ps => cases hi; exact SeqAt.in_tuple_reads r2 r1 (SeqAt.canLay_of_shaped se) (SeqAt.canLay_of_shaped sd) (roomA sd hu) ⟨.bl _, H, I, rfl, q⟩
  | none => cases hi
  | bool _ => cases hi
  | int _ => cases hi
  | str _ => cases hi
  | dict _ => cases hi
theorem op_notInA (hu : Z.X.A.units + 65 < cLine) : OpR Z.X (compareOp .NotIn) (rInA Z.X.K true) := by
  intro pins s σ H x y v u Q I rx ry ⟨d, e, ds, hd, he, hi, sd, se, q⟩
  obtain ⟨as, r1⟩ := Dp.reads I d x v hd rx
  obtain ⟨bs, r2⟩ := Dp.reads I e y u he ry
  cases e with
  | list ps => cases hi; exact SeqAt.notIn_list_reads r2 r1 (SeqAt.canLay_of_shaped se) (SeqAt.canLay_of_shaped sd) (roomA sd hu) ⟨.bl _, H, I, rfl, q⟩
  | tuple ps => cases hi; exact SeqAt.notIn_tuple_reads r2 r1 (SeqAt.canLay_of_shaped se) (SeqAt.canLay_of_shaped sd) (roomA sd hu) ⟨.bl _, H, I, rfl, q⟩
  | none => cases hi
  | bool _ => cases hi
  | int _ => cases hi
  | str _ => cases hi
  | dict _ => cases hi
theorem ko_in (hu : Z.X.A.units + 65 < cLine) : OpK Z (compareOp .In) (inF false) := ⟨_, op_inA hu, fun σ ι h H x y dx dy Q R rx ry p => by
  obtain ⟨a, e1, p⟩ := p.onSome
  obtain ⟨b, e2, p⟩ := p.onSome
  obtain ⟨ps, e3, p⟩ := p.onSome
  exact ⟨a, b, ps, py_dp R e1 rx, py_dp R e2 ry, e3, py_shaped (by decide) e1, py_shaped (by decide) e2, RPost.ok R p _ .bl⟩⟩
theorem ko_notin (hu : Z.X.A.units + 65 < cLine) : OpK Z (compareOp .NotIn) (inF true) := ⟨_, op_notInA hu, fun σ ι h H x y dx dy Q R rx ry p => by
  obtain ⟨a, e1, p⟩ := p.onSome
  obtain ⟨b, e2, p⟩ := p.onSome
  obtain ⟨ps, e3, p⟩ := p.onSome
  exact ⟨a, b, ps, py_dp R e1 rx, py_dp R e2 ry, e3, py_shaped (by decide) e1, py_shaped (by decide) e2, RPost.ok R p _ .bl⟩⟩
end
end Kf
end
section
set_option maxHeartbeats 4000000
/-! Kf: defs whose callers run no repr (the guards are known to be none). -/
namespace Kf
open PySem PySem.Spec L2 PyProof.Rows
/-- room, and nothing is being shown -/
structure RoomG (k : Nat) (A : Around) : Prop where
  rm : Room k A
  gu : A.guards = some []
section
variable {j k : Nat} {A : Around}
theorem RoomG.mono (r : RoomG k A) (h : j ≤ k) : RoomG j A := ⟨r.rm.mono h, r.gu⟩
theorem RoomG.deeper (r : RoomG (k + 1) A) (env : Env) : RoomG k (A.deeper env) := ⟨r.rm.deeper env, r.gu⟩
theorem RoomG.make (r : RoomG (k + 1) A) (C : Addr) (us : List Value) (kw : List (Str × Value)) : RoomG k (A.under (.builtin "type.__call__" ⟨.ref C :: us, kw⟩)) :=
  ⟨r.rm.make C us kw, by
    have g := r.gu
    show pushGuards (Code.guards (.builtin "type.__call__" ⟨.ref C :: us, kw⟩)) A.guards = some []
    rw [g]; rfl⟩
end
/-- a def, ready to be called where nothing is being shown -/
structure FnG (P : Program) (w : World) (K : PySem.W.Frag) (mg : Str → Option Value) (base : Heap) (CX : CXT) (k : Nat) (f : Addr) (fd : FuncData) (ps : List Str) (sp : Sp) : Prop where
  len : ∀ vs H Q E, sp vs H Q E → vs.length = ps.length
  go : ∀ {A : Around} {outer : List Env} {s : Shared} {H : Hp} {args : Args} {us : List Value} {vs : List V} {Q : VK} {E : XK}, RoomG k A → Env0 P w K mg base A outer s H → BindsTo s fd args (ps.zip us) → Vals vs us → sp vs H Q E →
    codeAny (model P w) A (.call (.ref f) args) (CR CX outer P w H s Q E) s
section
variable {P : Program} {w : World} {K : PySem.W.Frag} {mg : Str → Option Value} {base : Heap} {CX : CXT} {j k : Nat} {f : Addr} {fd : FuncData} {ps : List Str} {sp sp' : Sp}
theorem FnG.mono (F : FnG P w K mg base CX j f fd ps sp) (h : j ≤ k) : FnG P w K mg base CX k f fd ps sp := ⟨F.len, fun r => F.go (r.mono h)⟩
theorem FnG.imp (F : FnG P w K mg base CX k f fd ps sp) (h : ∀ vs H Q E, sp' vs H Q E → sp vs H Q E) : FnG P w K mg base CX k f fd ps sp' := ⟨fun vs H Q E q => F.len vs H Q E (h _ _ _ _ q), fun r e b v q => F.go r e b v (h _ _ _ _ q)⟩
/-- a def by its body -/
theorem fnG_of {name qual : Str} {params : Arguments} {body : List Stmt} {scope : Scope} {dV kV doc pm cdv ct oc : Value} {an od : Option Addr} {osl : Array (Option Value)} {N : List Str}
    (lk : K.lookup f = some ⟨oc, od, .func (PySem.W.fnOf name qual params body scope dV kV doc pm an cdv ct), osl⟩) (hcd : PySem.W.codeIn K cdv qual = true) (S : FnScope N ps scope) (len : ∀ vs H Q E, sp vs H Q E → vs.length = ps.length)
    (hb : ∀ (A : Around) (outer : List Env) (s : Shared) (H : Hp) (vs : List V) (Q : VK) (E : XK), RoomG k (A.deeper (envOfC qual scope s.heap.objs.size f cdv)) → sp vs H Q E →
      ∃ t, PSs (cxOf CX P w K mg base N qual scope f cdv A outer s H E) body t ∧ t { nx := fun _ H' => Q .non H', rt := Q } (L2.start N vs) H) :
    FnG P w K mg base CX (k + 1) f (PySem.W.fnOf name qual params body scope dV kV doc pm an cdv ct) ps sp where
  len := len
  go := by
    intro A outer s H args us vs Q E r e0 b rv q
    have old : ∀ a o, base.get? a = some o → s.heap.get? a = some o := fun a o e => (e0.bs a o e).1
    have inK : K.In s.heap := e0.mod.kin.keeps old
    have par : ∀ y ∈ ps.zip us, scope.names.lookup y.1 = some .local ∨ (scope.names.lookup y.1 = some .cell ∧ ((cellsFrom (s.heap.objs.size + 1) scope.names []).lookup y.1).isSome = true) := by
      intro y hy
      have := S.par y.1 (List.of_mem_zip (a := y.1) (b := y.2) hy).1
      exact this.imp id fun z => ⟨z, PySem.W.cellsFrom_some _ _ _ (.inl z)⟩
    apply codeAny_call_function r.rm.depth (inK _ _ lk) rfl S.co S.gen rfl (PySem.W.codeRec_of inK hcd)
    apply b
    apply wpAny_newFunctionEnv_cells S.kind par
    intro env he s1 x
    cases he
    refine ⟨(e0.mod.nolimit.keeps old).keeps x.toInCall.keep, codeAny_func ?_⟩
    obtain ⟨t, T, q'⟩ := hb A outer s H vs Q E (r.deeper _) q
    refine wpAny_mono (T.run [] s1 (L2.start N vs) H _ (inv_start S r.rm.hd e0 (len _ _ _ _ q) rv x) q') ?_ (fun _ _ z => z)
    intro fl s' z
    match fl, z with
    | .ret u, ⟨v, _, H', J, rv', z⟩ => exact ⟨v, H', J.os, J.bare, J.base, J.hok, rv', z⟩
    | .next, ⟨_, H', J, z⟩ => exact ⟨V.non, H', J.os, J.bare, J.base, J.hok, rfl, z⟩
    | .brk, ⟨_, _, _, z⟩ => exact z.elim
    | .cont, ⟨_, _, _, z⟩ => exact z.elim
theorem funG {x qual : Str} {st : Stmt} {N : List Str} (F : Fun K x qual st f fd) (S : FnScope N ps (defScope st)) (len : ∀ vs H Q E, sp vs H Q E → vs.length = ps.length)
    (hb : ∀ (cdv : Value) (A : Around) (outer : List Env) (s : Shared) (H : Hp) (vs : List V) (Q : VK) (E : XK), RoomG k (A.deeper (envOfC qual (defScope st) s.heap.objs.size f cdv)) → sp vs H Q E →
      ∃ t, PSs (cxOf (L2.CX P w) P w K mg base N qual (defScope st) f cdv A outer s H E) (defBody st) t ∧ t { nx := fun _ H' => Q .non H', rt := Q } (L2.start N vs) H) : FnG P w K mg base (L2.CX P w) (k + 1) f fd ps sp := by
  obtain ⟨oc, od, kV, doc, pm, an, cdv, ct, osl, e, lk, hcd⟩ := F.ex
  subst e
  exact fnG_of lk hcd S len fun A outer s H vs Q E => hb cdv A outer s H vs Q E
end
section
variable {X : Cx} {CX : CXT} {k : Nat} {f : Addr} {fd : FuncData} {ps : List Str} {sp : Sp} {dvs : List V} {ds : List Value} {E : L2.St → XK} {x : Str} {p pos : Pos} {e : Expr} {es : List Expr} {t : TA}
/-- a call of such a def -/
theorem goG {pins : List (Addr × Obj)} {σ : L2.St} {H : Hp} {s : Shared} {Q : VK} {us : List Value} {vs : List V} (F : FnG X.prog X.w X.K X.mg X.base CX k f fd ps sp) (hr : RoomG k X.A) (hb : Binds X.K fd ps ds) (hd : Vals dvs ds) (hx : PassesAt CX X σ (E σ))
    (I : Inv X pins σ H s) (r : Vals vs us) (h : sp (vs ++ dvs) H Q (E σ)) : wpAny (model X.prog X.w) X.A (call (.ref f) us) (EP X pins σ Q) X.xe s := by
  have rr := r.append hd
  have bd := hb s us I.kIn (rr.length.symm.trans (F.len _ _ _ _ h))
  apply wpAny_call
  apply codeAny_mono (F.go hr I.env0 bd rr h)
  intro z s' q
  match z, q with
  | .error e, q => exact hx pins H s e s' I q
  | .ok (.ret u), q => exact I.after q
  | .ok .next, q => exact q.elim
  | .ok .brk, q => exact q.elim
  | .ok .cont, q => exact q.elim
theorem pe_callG (F : FnG X.prog X.w X.K X.mg X.base CX k f fd ps sp) (hr : RoomG k X.A) (hg : Gl X x) (hm : X.mg x = some (.ref f)) (hk : PySem.W.keepIn X.K (.ref f) = true) (hb : Binds X.K fd ps ds) (hd : Vals dvs ds) (hx : ∀ σ, PassesAt CX X σ (E σ))
    (ha : PA X (e :: es) t) (hdb : (x == ("__debug__" : Str)) = false := by decide) (he : starEach (e :: es) X.env = (false, eval e X.env) :: starEach es X.env := by rfl) (hpl : (backTo pos (starEach es X.env)).any (·.1) = false := by rfl) :
    PE X (.Call (.Name x p) (e :: es) [] pos) (tCallSD sp dvs E t) := by
  constructor
  intro pins s σ H Q I h
  apply wpAny_Call_Name_kw (ld_glob I hg hm _ hdb)
  apply PySem.W.callWith_K (h₀ := X.base) I.ok.mod.kin hk (thn (ha.run pos pins s σ H _ I h) _) he hpl
  rintro us s1 ⟨vs, H1, I1, r, q⟩
  exact ⟨I1.kIn, goG F hr hb hd (hx σ) I1 r q⟩
end
end Kf
end
section
set_option maxHeartbeats 4000000
/-! Kf: defs and their calls, instances. -/
namespace Kf
open PySem PySem.Spec L2
theorem ofString_inj {s t : String} (h : Str.ofString s = Str.ofString t) : s = t := by
  rw [Str.ofString_eq_toList, Str.ofString_eq_toList] at h
  have h := Str.mk.inj h
  have h2 : s.toList.map Char.toNat = t.toList.map Char.toNat := by simpa using h
  have inj : ∀ (a b : List Char), a.map Char.toNat = b.map Char.toNat → a = b := by
    intro a
    induction a with
    | nil => intro b e; cases b with | nil => rfl | cons _ _ => simp at e
    | cons x xs ih =>
      intro b e
      cases b with
      | nil => simp at e
      | cons y ys =>
        simp only [List.map_cons, List.cons.injEq] at e
        rw [ih ys e.2, Char.toNat_inj.mp e.1]
  exact String.ext (inj _ _ h2)
theorem ofString_beq (s t : String) : (Str.ofString s == Str.ofString t) = (s == t) := by
  by_cases h : s = t
  · subst h
    rw [beq_iff_eq.mpr rfl, beq_iff_eq.mpr rfl]
  · have h2 : ¬ Str.ofString s = Str.ofString t := fun e => h (ofString_inj e)
    rw [beq_eq_false_iff_ne.mpr h, beq_eq_false_iff_ne.mpr h2]
/-- the promise of a def whose reading is M -/
def spOf (K : PySem.W.Frag) (cA : CA) (n : Nat) (M : FA) : Sp := fun vs H Q E => vs.length = n ∧ ∃ ι h ds, HRep K cA ι H h ∧ Reps K ι h.length H vs ds ∧
  RPost K cA (fun cls od _ H => E cls od H) [] ι h H (M ds h) fun d h' ι' H' => ∀ v, Rep K ι' h'.length H' v d → Q v H'
theorem RPost.toW {K : PySem.W.Frag} {cA : CA} {W W' : WX} {σ σ' : St} {ι : Nat → Addr} {h : Hd} {H : Hp} {α : Type} {r : Res α} {P : α → Hd → (Nat → Addr) → Hp → Prop} (k : ∀ cls od H, W cls od σ H → W' cls od σ' H) (p : RPost K cA W σ ι h H r P) : RPost K cA W' σ' ι h H r P := by
  cases r with
  | ok a h' => exact p
  | exc c fs h' => exact fun ι' H' cls od S R x => k _ _ _ (p ι' H' cls od S R x)
  | stuck => exact p
theorem len2 {K : PySem.W.Frag} {ι : Nat → Addr} {n : Nat} {H : Hp} {vs : List V} {ds : List D} (r : Reps K ι n H vs ds) {k : Nat} (h : ds.length = k) : vs.length = k := r.len.trans h
section
variable {Z : Kx}
def sFn (n : Nat) (M : FA) (dds : List D) (a : SA) : SE := fun env h => (a env h).bind fun ds h1 => guard' (ds.length + dds.length = n) (M (ds ++ dds) h1)
section
variable {k : Nat} {f C : Addr} {fd : FuncData} {ps : List Str} {x m : Str} {n : Nat} {M : FA} {dvs : List V} {dds : List D} {ds : List Value} {p pos apos : Pos} {e o : Expr} {es : List Expr} {a : SA} {fo : SE}
theorem ke_call (F : FnG Z.X.prog Z.X.w Z.X.K Z.X.mg Z.X.base (L2.CX Z.X.prog Z.X.w) k f fd ps (spOf Z.X.K Z.cA n M)) (hr : RoomG k Z.X.A) (hg : Gl Z.X x) (hm : Z.X.mg x = some (.ref f)) (hk : PySem.W.keepIn Z.X.K (.ref f) = true)
    (hb : Binds Z.X.K fd ps ds) (hd : Vals dvs ds) (hq : ∀ ι n H, Reps Z.X.K ι n H dvs dds) (tk : Takes Z.X Z.W) (ha : KA Z (e :: es) a) (hdb : (x == ("__debug__" : Str)) = false := by decide)
    (he : starEach (e :: es) Z.X.env = (false, eval e Z.X.env) :: starEach es Z.X.env := by rfl) (hpl : (backTo pos (starEach es Z.X.env)).any (·.1) = false := by rfl) : KE Z (.Call (.Name x p) (e :: es) [] pos) (sFn n M dds a) :=
  ⟨(pe_callG (E := WE Z.W) F hr hg hm hk hb hd (fun σ => passAt tk σ) ha.pa hdb he hpl).weak fun σ H Q ⟨ι, env, h, R, V, p⟩ => ⟨ι, env, h, R, V, (RPost.bind p).mono fun ds h1 ι1 H1 S1 R1 p1 vs rs => by
    obtain ⟨hl, p1⟩ := p1.guard
    have rr := rs.append (hq ι1 h1.length H1)
    exact ⟨len2 rr (by simpa using hl), ι1, h1, _, R1, rr, p1.toW fun _ _ _ w => w⟩⟩⟩
theorem run_call {pins : List (Addr × Obj)} {σ : St} {H : Hp} {s : Shared} {Q : VK} {us : List Value} {vs : List V} {ι : Nat → Addr} {h : Hd} {xs : List D} (F : FnG Z.X.prog Z.X.w Z.X.K Z.X.mg Z.X.base (L2.CX Z.X.prog Z.X.w) k f fd ps (spOf Z.X.K Z.cA n M)) (hr : RoomG k Z.X.A)
    (hb : Binds Z.X.K fd ps ds) (hd : Vals dvs ds) (hq : ∀ ι n H, Reps Z.X.K ι n H dvs dds) (tk : Takes Z.X Z.W) (I : Inv Z.X pins σ H s) (r : Vals vs us) (R : HRep Z.X.K Z.cA ι H h) (rs : Reps Z.X.K ι h.length H vs xs) (hl : xs.length + dds.length = n)
    (q : RPost Z.X.K Z.cA Z.W σ ι h H (M (xs ++ dds) h) fun d h' ι' H' => ∀ v, Rep Z.X.K ι' h'.length H' v d → Q v H') : wpAny (model Z.X.prog Z.X.w) Z.X.A (call (.ref f) us) (EP Z.X pins σ Q) Z.X.xe s := by
  have rr := rs.append (hq ι h.length H)
  exact goG (E := WE Z.W) F hr hb hd (passAt tk σ) I r ⟨len2 rr (by simpa using hl), ι, h, _, R, rr, q.toW fun _ _ _ w => w⟩
theorem ke_call0 (F : FnG Z.X.prog Z.X.w Z.X.K Z.X.mg Z.X.base (L2.CX Z.X.prog Z.X.w) k f fd ps (spOf Z.X.K Z.cA n M)) (hr : RoomG k Z.X.A) (hg : Gl Z.X x) (hm : Z.X.mg x = some (.ref f)) (hk : PySem.W.keepIn Z.X.K (.ref f) = true)
    (hb : Binds Z.X.K fd ps ds) (hd : Vals dvs ds) (hq : ∀ ι n H, Reps Z.X.K ι n H dvs dds) (tk : Takes Z.X Z.W) (hdb : (x == ("__debug__" : Str)) = false := by decide) : KE Z (.Call (.Name x p) [] [] pos) (sFn n M dds sNil) := by
  refine ⟨⟨fun pins s σ H Q I ⟨ι, env, h, R, V, q⟩ => ?_⟩⟩
  refine wpAny_Call_Name_kw (ld_glob I hg hm ?_ hdb)
  obtain ⟨hl, q⟩ := (RPost.ok R (RPost.bind q)).guard
  exact PySem.W.callWith_K0 I.kIn hk (run_call F hr hb hd hq tk I .nil R .nil hl q)
/-- the methods of the classes cs: the table of their readings -/
structure MethK (Z : Kx) (m : Str) (c : String) (n : Nat) (M : FA) (dds : List D) : Prop where
  ex : ∃ (k : Nat) (f : Addr) (fd : FuncData) (ps : List Str) (dvs : List V) (ds : List Value), Cls Z.X.K (Z.cA c) ∧ Meth Z.X.K (Z.cA c) m f ∧ FnG Z.X.prog Z.X.w Z.X.K Z.X.mg Z.X.base (L2.CX Z.X.prog Z.X.w) k f fd ps (spOf Z.X.K Z.cA n M) ∧ RoomG k Z.X.A ∧
    Binds Z.X.K fd ps ds ∧ Vals dvs ds ∧ ∀ ι n H, Reps Z.X.K ι n H dvs dds
/-- which reading a method of a class has -/
abbrev MT := String → Option (Nat × FA × List D)
def MethT (Z : Kx) (m : Str) (T : MT) : Prop := ∀ c n M dds, T c = some (n, M, dds) → MethK Z m c n M dds
def sMeth (mm : String) (T : MT) (o : SE) (a : SA) : SE := fun env h => (o env h).bind fun d h1 => asRef d fun r => onIns h1 r fun c fs => onSome (T c) fun t => guard' (fs.lookup mm = none) ((a env h1).bind fun ds h2 => guard' (ds.length + 1 + t.2.2.length = t.1) (t.2.1 (d :: ds ++ t.2.2) h2))
end
/-! ### attributes -/
section
variable {K : PySem.W.Frag} {ι : Nat → Addr} {n : Nat} {H : Hp}
theorem FRep.lookup : ∀ {fs : List (Str × V)} {gs : List (String × D)} (r : FRep K ι n H fs gs) (f : String), match gs.lookup f with
    | some d => ∃ v, fs.lookup (Str.ofString f) = some v ∧ Rep K ι n H v d
    | none => fs.lookup (Str.ofString f) = none
  | _, _, .nil, f => rfl
  | _, _, .cons (f := g) (x := x) (d := d) r q, f => by
    simp only [List.lookup_cons, ofString_beq]
    cases e : f == g with
    | true => exact ⟨x, rfl, r⟩
    | false => exact FRep.lookup q f
theorem FRep.some {fs : List (Str × V)} {gs : List (String × D)} (r : FRep K ι n H fs gs) {f : String} {d : D} (e : gs.lookup f = some d) : ∃ v, fs.lookup (Str.ofString f) = some v ∧ Rep K ι n H v d := by
  have q := r.lookup f
  rw [e] at q; exact q
theorem FRep.none {fs : List (Str × V)} {gs : List (String × D)} (r : FRep K ι n H fs gs) {f : String} (e : gs.lookup f = none) : fs.lookup (Str.ofString f) = none := by
  have q := r.lookup f
  rw [e] at q; exact q
theorem FRep.len : ∀ {fs : List (Str × V)} {gs : List (String × D)} (r : FRep K ι n H fs gs), fs.length = gs.length
  | _, _, .nil => rfl
  | _, _, .cons _ q => by simp [FRep.len q]
def putD (f : String) (d : D) : List (String × D) → List (String × D)
  | [] => [(f, d)]
  | (g, x) :: r => if g = f then (g, d) :: r else (g, x) :: putD f d r
theorem FRep.put : ∀ {fs : List (Str × V)} {gs : List (String × D)} (r : FRep K ι n H fs gs) {f : String} {v : V} {d : D} (rv : Rep K ι n H v d), FRep K ι n H (putF (Str.ofString f) v fs) (putD f d gs)
  | _, _, .nil, f, v, d, rv => .cons rv .nil
  | _, _, .cons (f := g) (x := x) (d := d') r q, f, v, d, rv => by
    unfold putF putD
    by_cases e : g = f
    · rw [if_pos e, if_pos (by rw [e])]; exact .cons rv q
    · rw [if_neg e, if_neg fun z => e (ofString_inj z)]; exact .cons r (FRep.put q rv)
end
/-- the attribute f of the classes cs -/
def FldK (Z : Kx) (f : String) (cs : List String) : Prop := ∀ c, c ∈ cs → Cls Z.X.K (Z.cA c) ∧ NoAttr Z.X.K (Z.cA c) (Str.ofString f)
def sFld (o : SE) (f : String) (cs : List String) : SE := fun env h => (o env h).bind fun d h1 => asRef d fun r => onIns h1 r fun c fs => guard' (c ∈ cs) (onSome (fs.lookup f) fun v => .ok v h1)
theorem ke_fld {e : Expr} {g : SE} {f : String} {cs : List String} {pos : Pos} (he : KE Z e g) (hc : FldK Z f cs) (hb : attributeBase e (Str.ofString f) Z.X.env (eval e Z.X.env) = eval e Z.X.env := by rfl) : KE Z (.Attribute e (Str.ofString f) pos) (sFld g f cs) :=
  ⟨(pe_fld he.pe hb).weak fun σ H Q ⟨ι, env, h, R, V, p⟩ => ⟨ι, env, h, R, V, (RPost.bind p).mono fun d h1 ι1 H1 S1 R1 p1 v r => by
    obtain ⟨m, rfl, p1⟩ := p1.asRef
    obtain ⟨c, fs, hm, p1⟩ := p1.onIns
    obtain ⟨hcs, p1⟩ := p1.guard
    obtain ⟨d, hd, p1⟩ := p1.onSome
    cases r
    obtain ⟨ho, e3, ro⟩ := R1.obj m _ hm
    cases ro with
    | ins rf =>
      obtain ⟨v, ev, r⟩ := rf.some hd
      exact ⟨_, _, _, _, v, rfl, e3, (hc c hcs).1, (hc c hcs).2, ev, RPost.ok R1 p1 v r⟩⟩⟩
def sSetF (o : SE) (f : String) (cs : List String) (e : SE) : SS := fun env h => (e env h).lift env fun d h1 => (o env h1).lift env fun od h2 =>
  Res.lift (asRef od fun r => onIns h2 r fun c fs => guard' (c ∈ cs ∧ fs.length < 1000) (.ok () (h2.set r (.ins c (putD f d fs))))) env fun _ h3 => .ok (.nx env) h3
theorem ks_fld {o e : Expr} {g ge : SE} {f : String} {cs : List String} {pos pos' : Pos} (ho : KE Z o g) (he : KE Z e ge) (hc : FldK Z f cs) (hs : swapsWith e (some (.Attribute o (Str.ofString f) pos')) pos.line Z.X.env = pure false := by rfl) :
    KS Z (.Assign [.Attribute o (Str.ofString f) pos'] e pos) (sSetF g f cs ge) :=
  ⟨(ps_fld ho.pe he.pe hs).weak fun Dd σ H ⟨ι, env, h, R, V, p⟩ => ⟨ι, env, h, R, V, (RsPost.of R V p).mono fun d h1 ι1 H1 S1 R1 p1 v r =>
    ⟨ι1, env, h1, R1, V.step S1 R, (RsPost.of R1 (V.step S1 R) p1).mono fun od h2 ι2 H2 S2 R2 p2 ov ro => by
      have V2 := (V.step S1 R).step S2 R1
      have q := RsPost.of R2 V2 p2
      obtain ⟨m, rfl, q⟩ := q.asRef
      obtain ⟨c, fs, hm, q⟩ := q.onIns
      obtain ⟨hcs, q⟩ := q.guard
      cases ro with
      | ref hlt =>
        obtain ⟨ho, e3, ro⟩ := R2.obj m _ hm
        cases ro with
        | @ins _ dx fv _ rf =>
          have rv := r.step S2 R1
          refine ⟨_, _, _, fv, rfl, e3, (hc c hcs.1).1, (hc c hcs.1).2, by rw [rf.len]; exact hcs.2, ?_⟩
          have hf : ∀ x u, H2 (ι2 m) ≠ some (.frz x u) := fun x u z => by rw [e3] at z; cases z
          have S3 := Step.set R2 hlt hf (.ins (Z.cA c) dx (putF (Str.ofString f) v fv)) (.ins c (putD f d fs))
          have R3 : HRep Z.X.K Z.cA ι2 (upd H2 (ι2 m) (.ins (Z.cA c) dx (putF (Str.ofString f) v fv))) (h2.set m (.ins c (putD f d fs))) := R2.set hlt hf (.ins (rf.put rv))
          have q2 := q ι2 _ S3 R3
          exact RsPost.fin R3 q2 σ (V2.step S3 R2)⟩⟩⟩
/-! ### instances made -/
def sNewI (c : String) (n : Nat) (M : FA) (dds : List D) (a : SA) : SE := fun env h => (a env h).bind fun ds h1 => guard' (ds.length + 1 + dds.length = n) ((M (.ref h1.length :: (ds ++ dds)) (h1 ++ [.ins c []])).bind fun v h2 => match v with | .non => .ok (.ref h1.length) h2 | _ => .stuck)
theorem ins_new {ι : Nat → Addr} {h : Hd} {H : Hp} (c : String) (R : HRep Z.X.K Z.cA ι H h) {x dx : Addr} (hx : H x = none) (hdx : H dx = none) (hne : dx ≠ x) :
    Step ι h H (more ι h.length x) (h ++ [.ins c []]) (upd (upd H dx (.own x)) x (.ins (Z.cA c) dx [])) ∧ HRep Z.X.K Z.cA (more ι h.length x) (upd (upd H dx (.own x)) x (.ins (Z.cA c) dx [])) (h ++ [.ins c []]) := by
  have S1 := Step.aside R hdx (.own x)
  have R1 := R.aside hdx (.own x)
  have hx1 : upd H dx (.own x) x = none := by rw [upd_ne (Ne.symm hne)]; exact hx
  exact ⟨S1.trans (Step.alloc R1 hx1 _ _), R1.alloc hx1 (.ins .nil)⟩
theorem new_post {σ : St} {ι : Nat → Addr} {h : Hd} {H : Hp} {c : String} {n : Nat} {M : FA} {dds : List D} {vs dvs : List V} {ds : List D} {Q : VK} (R : HRep Z.X.K Z.cA ι H h) (rs : Reps Z.X.K ι h.length H (vs ++ dvs) (ds ++ dds)) (hl : ds.length + 1 + dds.length = n)
    (q : RPost Z.X.K Z.cA Z.W σ ι h H ((M (.ref h.length :: (ds ++ dds)) (h ++ [.ins c []])).bind fun v h2 => match v with | .non => .ok (.ref h.length) h2 | _ => .stuck) fun d h' ι' H' => ∀ v, Rep Z.X.K ι' h'.length H' v d → Q v H')
    {x dx : Addr} (hx : H x = none) (hdx : H dx = none) (hne : dx ≠ x) : spOf Z.X.K Z.cA n M (.ref x :: (vs ++ dvs)) (upd (upd H dx (.own x)) x (.ins (Z.cA c) dx [])) (fun v H2 => v = .non ∧ Q (.ref x) H2) (WE Z.W σ) := by
  obtain ⟨S, R1⟩ := ins_new (Z := Z) c R hx hdx hne
  have rx : Rep Z.X.K (more ι h.length x) (h ++ [O.ins c []]).length (upd (upd H dx (.own x)) x (.ins (Z.cA c) dx [])) (.ref x) (.ref h.length) := by
    have e : Rep Z.X.K (more ι h.length x) (h ++ [O.ins c []]).length (upd (upd H dx (.own x)) x (.ins (Z.cA c) dx [])) (.ref (more ι h.length x h.length)) (.ref h.length) := .ref (by simp)
    rw [more_at] at e; exact e
  have rr := Reps.cons rx (rs.step S R)
  refine ⟨len2 rr (by simpa [Nat.add_comm, Nat.add_left_comm, Nat.add_assoc] using hl), _, _, _, R1, rr, ?_⟩
  refine ((RPost.bind (RPost.step S q)).toW fun _ _ _ w => w).mono fun v h2 ι2 H2 S2 R2 p2 w rw => ?_
  cases rw with
  | non => exact ⟨rfl, RPost.ok R2 p2 _ (rx.step S2 R1)⟩
  | bl => exact p2.elim
  | int => exact p2.elim
  | str => exact p2.elim
  | raw => exact p2.elim
  | xc0 => exact p2.elim
  | xc _ _ => exact p2.elim
  | fls _ _ => exact p2.elim
  | ztp _ _ => exact p2.elim
  | tup _ _ => exact p2.elim
  | ref _ => exact p2.elim
section
variable {k : Nat} {f : Addr} {fd : FuncData} {ps : List Str} {x m : Str} {c : String} {n : Nat} {M : FA} {dvs : List V} {dds : List D} {ds : List Value} {p pos apos : Pos} {e o : Expr} {es : List Expr} {a : SA} {fo : SE}
/-- an instance is made: what the hand layer says of it, the exceptions at the slots -/
theorem makes {pins : List (Addr × Obj)} {σ : L2.St} {H : Hp} {s : Shared} {Q : VK} {us : List Value} {vs : List V} {sp : Sp} {C : Addr} (hM : Mk Z.X.K C f)
    (F : FnG Z.X.prog Z.X.w Z.X.K Z.X.mg Z.X.base (L2.CX Z.X.prog Z.X.w) k f fd ps sp) (hr : RoomG (k + 1) Z.X.A) (hb : Binds Z.X.K fd ps ds) (hd : Vals dvs ds) (tk : Takes Z.X Z.W) (I : Inv Z.X pins σ H s) (r : Vals vs us)
    (q : ∀ y dy, H y = none → H dy = none → dy ≠ y → sp (.ref y :: (vs ++ dvs)) (upd (upd H dy (.own y)) y (.ins C dy [])) (fun v H2 => v = .non ∧ Q (.ref y) H2) (WE Z.W σ)) : wpAny (model Z.X.prog Z.X.w) Z.X.A (call (.ref C) us) (EP Z.X pins σ Q) Z.X.xe s := by
  have q0 := q (s.heap.objs.size + 1) s.heap.objs.size (I.hok.fresh (Nat.le_succ _)) (I.hok.fresh (Nat.le_refl _)) (Nat.ne_of_lt (Nat.lt_succ_self _))
  have J := Inv.made (C := C) I
  have rr : Vals (V.ref (s.heap.objs.size + 1) :: (vs ++ dvs)) (Value.ref (s.heap.objs.size + 1) :: (us ++ ds)) := Paired.cons rfl (r.append hd)
  have ll : (Value.ref (s.heap.objs.size + 1) :: us ++ ds).length = ps.length := (rr.length.symm.trans (F.len _ _ _ _ q0))
  have run := F.go (outer := Z.X.stack) (args := ⟨Value.ref (s.heap.objs.size + 1) :: us, []⟩) (us := Value.ref (s.heap.objs.size + 1) :: (us ++ ds)) (E := WE Z.W σ) (hr.make C us []) (J.env0.make C us []) (hb _ (Value.ref (s.heap.objs.size + 1) :: us) J.kIn ll) rr q0
  refine wpAny_call (make_map (f := f) I.kIn hM.makes hM.init (beq_iff_eq.mp hM.fn) (codeAny_mono run fun z s' hz => ?_))
  rcases z with e | fl
  · exact passAt tk σ pins _ _ e s' J hz
  · rcases fl with _ | _ | _ | u
    · exact hz.elim
    · exact hz.elim
    · exact hz.elim
    · obtain ⟨v, H', I3, rv, ev, q3⟩ := J.after hz
      subst ev
      exact ⟨rv, ⟨V.ref (s.heap.objs.size + 1), H', I3, rfl, q3⟩⟩
/-- the arguments have come; what is left to do -/
def After (Z : Kx) (σ : L2.St) (g : List D → Hd → Res D) (Q : VK) (vs : List V) (H : Hp) : Prop := ∃ ι h ds, HRep Z.X.K Z.cA ι H h ∧ Reps Z.X.K ι h.length H vs ds ∧ RPost Z.X.K Z.cA Z.W σ ι h H (g ds h) fun d h' ι' H' => ∀ v, Rep Z.X.K ι' h'.length H' v d → Q v H'
theorem after_of {σ : L2.St} {H : Hp} {Q : VK} {g : List D → Hd → Res D} {ι : Nat → Addr} {env : En} {h : Hd} (R : HRep Z.X.K Z.cA ι H h) (V : VRep Z.X.K ι h.length H σ env)
    (q : RPost Z.X.K Z.cA Z.W σ ι h H ((a env h).bind g) fun d h' ι' H' => ∀ v, Rep Z.X.K ι' h'.length H' v d → Q v H') : tDA Z a σ H (After Z σ g Q) :=
  ⟨ι, env, h, R, V, (RPost.bind q).mono fun ds h1 ι1 H1 S1 R1 p1 vs rs => ⟨ι1, h1, ds, R1, rs, p1⟩⟩
theorem ke_make (hM : Mk Z.X.K (Z.cA c) f) (F : FnG Z.X.prog Z.X.w Z.X.K Z.X.mg Z.X.base (L2.CX Z.X.prog Z.X.w) k f fd ps (spOf Z.X.K Z.cA n M)) (hr : RoomG (k + 1) Z.X.A) (hg : Gl Z.X x) (hm : Z.X.mg x = some (.ref (Z.cA c)))
    (hb : Binds Z.X.K fd ps ds) (hd : Vals dvs ds) (hq : ∀ ι n H, Reps Z.X.K ι n H dvs dds) (tk : Takes Z.X Z.W) (ha : KA Z (e :: es) a) (hdb : (x == ("__debug__" : Str)) = false := by decide)
    (he : starEach (e :: es) Z.X.env = (false, eval e Z.X.env) :: starEach es Z.X.env := by rfl) (hpl : (backTo pos (starEach es Z.X.env)).any (·.1) = false := by rfl) : KE Z (.Call (.Name x p) (e :: es) [] pos) (sNewI c n M dds a) := by
  refine ⟨⟨fun pins s σ H Q I ⟨ι, env, h, R, V, q⟩ => ?_⟩⟩
  refine wpAny_Call_Name_kw (ld_glob I hg hm ?_ hdb)
  refine PySem.W.callWith_K (h₀ := Z.X.base) I.ok.mod.kin hM.kp (thn (ha.pa.run pos pins s σ H _ I (after_of R V q)) fun us s1 ⟨vs, H1, I1, rv, ι1, h1, ds1, R1, rs, q1⟩ => ⟨I1.kIn, ?_⟩) he hpl
  obtain ⟨hl, q1⟩ := q1.guard
  exact makes hM F hr hb hd tk I1 rv fun y dy hy hdy hne => new_post R1 (rs.append (hq ι1 h1.length H1)) hl q1 hy hdy hne
theorem ke_make0 (hM : Mk Z.X.K (Z.cA c) f) (F : FnG Z.X.prog Z.X.w Z.X.K Z.X.mg Z.X.base (L2.CX Z.X.prog Z.X.w) k f fd ps (spOf Z.X.K Z.cA n M)) (hr : RoomG (k + 1) Z.X.A) (hg : Gl Z.X x) (hm : Z.X.mg x = some (.ref (Z.cA c)))
    (hb : Binds Z.X.K fd ps ds) (hd : Vals dvs ds) (hq : ∀ ι n H, Reps Z.X.K ι n H dvs dds) (tk : Takes Z.X Z.W) (hdb : (x == ("__debug__" : Str)) = false := by decide) : KE Z (.Call (.Name x p) [] [] pos) (sNewI c n M dds sNil) := by
  refine ⟨⟨fun pins s σ H Q I ⟨ι, env, h, R, V, q⟩ => ?_⟩⟩
  refine wpAny_Call_Name_kw (ld_glob I hg hm ?_ hdb)
  obtain ⟨hl, q1⟩ := (RPost.ok R (RPost.bind q)).guard
  exact PySem.W.callWith_K0 I.kIn hM.kp (makes (us := []) (vs := []) hM F hr hb hd tk I .nil fun y dy hy hdy hne => new_post R (Reps.nil.append (hq ι h.length H)) hl q1 hy hdy hne)
/-! ### methods -/
theorem ke_meth {mm : String} {T : MT} {pl : Sem Bool} (ho : KE Z o fo) (hT : MethT Z (Str.ofString mm) T) (tk : Takes Z.X Z.W) (ha : KA Z (e :: es) a)
    (hst : starEach (e :: es) Z.X.env = (false, eval e Z.X.env) :: starEach es Z.X.env := by rfl) (hpl : (backTo pos (starEach es Z.X.env)).any (·.1) = false := by rfl)
    (ht : eval (.Call (.Attribute o (Str.ofString mm) apos) (e :: es) [] pos) Z.X.env = (do
      let ov ← eval o Z.X.env; standAt apos.atName
      let (g, first) ← holding [ov] (getMethod ov (Str.ofString mm) pl); callWith pos g first (backTo pos (starEach (e :: es) Z.X.env)) (backToKw pos (keywordEach [] Z.X.env))) := by rfl) :
    KE Z (.Call (.Attribute o (Str.ofString mm) apos) (e :: es) [] pos) (sMeth mm T fo a) := by
  refine ⟨⟨fun pins s σ H Q I ⟨ι, env, h, R, V, q⟩ => ?_⟩⟩
  refine PySem.W.methodCall_KW (pl := pl) (thn (ho.pe.run pins s σ H (fun v H1 => ∃ ι1 h1 d, HRep Z.X.K Z.cA ι1 H1 h1 ∧ VRep Z.X.K ι1 h1.length H1 σ env ∧ Rep Z.X.K ι1 h1.length H1 v d ∧
      RPost Z.X.K Z.cA Z.W σ ι1 h1 H1 (asRef d fun r => onIns h1 r fun c fs => onSome (T c) fun t => guard' (fs.lookup mm = none) ((a env h1).bind fun ds h2 => guard' (ds.length + 1 + t.2.2.length = t.1) (t.2.1 (d :: ds ++ t.2.2) h2)))
        fun d h' ι' H' => ∀ v, Rep Z.X.K ι' h'.length H' v d → Q v H') I
      ⟨ι, env, h, R, V, (RPost.bind q).mono fun d h1 ι1 H1 S1 R1 p1 v r => ⟨ι1, h1, d, R1, V.step S1 R, r, p1⟩⟩) fun u s1 ⟨v, H1, I1, rv, ι1, h1, d, R1, V1, rd, p1⟩ => ?_) ht
  obtain ⟨r, rfl, p1⟩ := p1.asRef
  obtain ⟨c, fs, hm, p1⟩ := p1.onIns
  obtain ⟨⟨n, M, dds⟩, hT1, p1⟩ := p1.onSome
  obtain ⟨hfs, p1⟩ := p1.guard
  obtain ⟨k, f, fd, ps, dvs, dsv, hC, hMe, F, hr, hb, hd, hq⟩ := (hT c n M dds hT1).ex
  cases rd with
  | ref hlt =>
    obtain ⟨ho, e3, ro⟩ := R1.obj r _ hm
    cases ro with
    | @ins _ dx fv _ rf =>
      obtain rfl : u = Value.ref (ι1 r) := rv
      refine getmeth_ok I1 e3 hC hMe (rf.none hfs) ?_
      refine PySem.W.callWith_K (first := [Value.ref (ι1 r)]) (h₀ := Z.X.base) I.ok.mod.kin hMe.kp (thn (ha.pa.run pos pins s1 σ H1 (fun vs H2 => ∃ ι2 h2 ds, HRep Z.X.K Z.cA ι2 H2 h2 ∧ Reps Z.X.K ι2 h2.length H2 (.ref (ι1 r) :: vs) (.ref r :: ds) ∧
          RPost Z.X.K Z.cA Z.W σ ι2 h2 H2 (guard' (ds.length + 1 + dds.length = n) (M (.ref r :: ds ++ dds) h2)) fun d h' ι' H' => ∀ v, Rep Z.X.K ι' h'.length H' v d → Q v H') I1
        ⟨ι1, env, h1, R1, V1, (RPost.bind p1).mono fun ds h2 ι2 H2 S2 R2 p2 vs rs => ⟨ι2, h2, ds, R2, .cons ((Rep.ref hlt).step S2 R1) rs, p2⟩⟩) fun us s2 ⟨vs, H2, I2, rvs, ι2, h2, ds, R2, rs, p2⟩ => ⟨I2.kIn, ?_⟩) hst hpl
      obtain ⟨hl, p2⟩ := p2.guard
      exact run_call F hr hb hd hq tk I2 (Paired.cons (show RelV (.ref (ι1 r)) (Value.ref (ι1 r)) from rfl) rvs) R2 rs (by simpa using hl) p2
theorem ke_meth0 {mm : String} {T : MT} {pl : Sem Bool} (ho : KE Z o fo) (hT : MethT Z (Str.ofString mm) T) (tk : Takes Z.X Z.W)
    (ht : eval (.Call (.Attribute o (Str.ofString mm) apos) [] [] pos) Z.X.env = (do
      let ov ← eval o Z.X.env; standAt apos.atName
      let (g, first) ← holding [ov] (getMethod ov (Str.ofString mm) pl); callWith pos g first (backTo pos (starEach [] Z.X.env)) (backToKw pos (keywordEach [] Z.X.env))) := by rfl) :
    KE Z (.Call (.Attribute o (Str.ofString mm) apos) [] [] pos) (sMeth mm T fo sNil) := by
  refine ⟨⟨fun pins s σ H Q I ⟨ι, env, h, R, V, q⟩ => ?_⟩⟩
  refine PySem.W.methodCall_KW (pl := pl) (thn (ho.pe.run pins s σ H (fun v H1 => ∃ ι1 h1 d, HRep Z.X.K Z.cA ι1 H1 h1 ∧ VRep Z.X.K ι1 h1.length H1 σ env ∧ Rep Z.X.K ι1 h1.length H1 v d ∧
      RPost Z.X.K Z.cA Z.W σ ι1 h1 H1 (asRef d fun r => onIns h1 r fun c fs => onSome (T c) fun t => guard' (fs.lookup mm = none) ((sNil env h1).bind fun ds h2 => guard' (ds.length + 1 + t.2.2.length = t.1) (t.2.1 (d :: ds ++ t.2.2) h2)))
        fun d h' ι' H' => ∀ v, Rep Z.X.K ι' h'.length H' v d → Q v H') I
      ⟨ι, env, h, R, V, (RPost.bind q).mono fun d h1 ι1 H1 S1 R1 p1 v r => ⟨ι1, h1, d, R1, V.step S1 R, r, p1⟩⟩) fun u s1 ⟨v, H1, I1, rv, ι1, h1, d, R1, V1, rd, p1⟩ => ?_) ht
  obtain ⟨r, rfl, p1⟩ := p1.asRef
  obtain ⟨c, fs, hm, p1⟩ := p1.onIns
  obtain ⟨⟨n, M, dds⟩, hT1, p1⟩ := p1.onSome
  obtain ⟨hfs, p1⟩ := p1.guard
  obtain ⟨k, f, fd, ps, dvs, dsv, hC, hMe, F, hr, hb, hd, hq⟩ := (hT c n M dds hT1).ex
  cases rd with
  | ref hlt =>
    obtain ⟨ho, e3, ro⟩ := R1.obj r _ hm
    cases ro with
    | @ins _ dx fv _ rf =>
      obtain rfl : u = Value.ref (ι1 r) := rv
      refine getmeth_ok I1 e3 hC hMe (rf.none hfs) ?_
      obtain ⟨hl, p2⟩ := (RPost.ok R1 (RPost.bind p1)).guard
      exact PySem.W.callWith_K0 (first := [Value.ref (ι1 r)]) I1.kIn hMe.kp (run_call (us := [Value.ref (ι1 r)]) (vs := [.ref (ι1 r)]) F hr hb hd hq tk I1 (Paired.cons (show RelV (.ref (ι1 r)) (Value.ref (ι1 r)) from rfl) .nil) R1 (.cons (.ref hlt) .nil) (by simpa using hl) p2)
end
/-! ### a def by its body -/
def startD (n : Nat) (ds : List D) : En := ds.map some ++ List.replicate (n - ds.length) none
/-- the reading of a def by that of its body; n: how many names it has -/
def defM (n : Nat) (f : SS) : FA := fun ds h => match f (startD n ds) h with
  | .ok (.nx _) h' => .ok .non h'
  | .ok (.ret d) h' => .ok d h'
  | .ok (.exc c fs _) h' => .exc c fs h'
  | _ => .stuck
theorem vrep_start {K : PySem.W.Frag} {ι : Nat → Addr} {n : Nat} {H : Hp} {N : List Str} {vs : List V} {ds : List D} (r : Reps K ι n H vs ds) : VRep K ι n H (L2.start N vs) (startD N.length ds) := by
  unfold L2.start startD
  rw [r.len]
  refine ⟨by simp [r.len], fun i d e => ?_⟩
  by_cases hi : i < ds.length
  · rw [List.getElem?_append_left (by simpa using hi)] at e
    rw [List.getElem?_append_left (by simpa [r.len] using hi)]
    simp only [List.getElem?_map, Option.map_eq_some_iff] at e
    obtain ⟨d', e1, e2⟩ := e
    cases e2
    obtain ⟨v, e3, rv⟩ := r.get e1
    exact ⟨v, by rw [List.getElem?_map, e3]; rfl, rv⟩
  · rw [List.getElem?_append_right (by simpa using Nat.le_of_not_lt hi)] at e
    have := List.mem_of_getElem? e
    simp at this
theorem okM {P : Program} {w : World} {K : PySem.W.Frag} {mg : Str → Option Value} {base : Heap} {cA : CA} {x qual : Str} {st : Stmt} {f : Addr} {fd : FuncData} {N ps : List Str} {k : Nat} {g : SS} (F : Fun K x qual st f fd) (S : FnScope N ps (defScope st))
    (hbody : ∀ (cdv : Value) (A : Around) (outer : List Env) (s : Shared) (H : Hp) (E : XK), RoomG k (A.deeper (PyProof.Rows.envOfC qual (defScope st) s.heap.objs.size f cdv)) →
      KSs ⟨cxOf (L2.CX P w) P w K mg base N qual (defScope st) f cdv A outer s H E, cA, fun cls d _ H => E cls d H⟩ (defBody st) g) :
    FnG P w K mg base (L2.CX P w) (k + 1) f fd ps (spOf K cA ps.length (defM N.length g)) :=
  funG F S (fun vs H Q E h => h.1) fun cdv A outer s H vs Q E hr ⟨hl, ι, h, ds, R, rs, q⟩ => by
    refine ⟨_, (hbody cdv A outer s H E hr).pss, ι, _, h, R, vrep_start (N := N) rs, ?_⟩
    unfold defM at q
    cases e : g (startD N.length ds) h with
    | stuck => rw [e] at q; exact q.elim
    | ok fl h' =>
      rw [e] at q
      cases fl with
      | nx env => exact fun ι' H' S' R' σ' V' => q ι' H' S' R' _ .non
      | ret d => exact q
      | brk env => exact q.elim
      | ct env => exact q.elim
      | exc c fs env => exact fun ι' H' S' R' σ' cls od V' x => q ι' H' cls od S' R' x
end
end Kf
end
section
set_option maxHeartbeats 4000000
/-! Kf: dicts, their keys of any kind. -/
namespace Kf
open PySem PySem.Spec L2
def keyEq (d e : D) : Bool := match keyN d, keyN e with | some a, some b => NestedKey.beq a b | _, _ => false
def dget : List (D × D) → D → Option D
  | [], _ => none
  | (k', v) :: r, k => if keyEq k' k then some v else dget r k
def dhas (kvs : List (D × D)) (k : D) : Bool := (dget kvs k).isSome
def dput (kvs : List (D × D)) (k v : D) : List (D × D) := if dhas kvs k then kvs.map (fun p => if keyEq p.1 k then (p.1, v) else p) else kvs ++ [(k, v)]
def ddrop (kvs : List (D × D)) (k : D) : List (D × D) := kvs.filter fun p => !keyEq p.1 k
/-! ### the same, of values -/
def nAt (kvs : List NEnt) (k : NestedKey) : Option V := (kvs.find? fun x => decide (x.1 = k)).map (·.2.2)
def nPut (kvs : List NEnt) (k : NestedKey) (u v : V) : List NEnt := if (kvs.any fun x => decide (x.1 = k)) = true then kvs.map (fun x => if x.1 = k then (x.1, x.2.1, v) else x) else kvs ++ [(k, u, v)]
def nDrop (kvs : List NEnt) (k : NestedKey) : List NEnt := kvs.filter fun x => decide (x.1 ≠ k)
theorem nAt_any (k : NestedKey) : ∀ kvs : List NEnt, (kvs.any fun x => decide (x.1 = k)) = (nAt kvs k).isSome
  | [] => rfl
  | p :: r => by
    have ih := nAt_any k r
    by_cases e : p.1 = k
    · simp [nAt, List.find?_cons, e]
    · simp [nAt, List.find?_cons, e] at ih ⊢
      exact ih
theorem nAt_cons (p : NEnt) (r : List NEnt) (k : NestedKey) : nAt (p :: r) k = if p.1 = k then some p.2.2 else nAt r k := by
  unfold nAt
  rw [List.find?_cons]
  by_cases e : p.1 = k
  · simp [e]
  · simp [e]
theorem vAt_cons (p : XEnt) (r : List XEnt) (k : NestedKey) : vAt (p :: r) k = if p.1 = k then some p.2.2 else vAt r k := by
  unfold vAt
  rw [List.find?_cons]
  by_cases e : p.1 = k
  · simp [e]
  · simp [e]
theorem nPut_len (kvs : List NEnt) (k : NestedKey) (u v : V) : (nPut kvs k u v).length ≤ kvs.length + 1 := by
  unfold nPut
  split
  · simp
  · simp
theorem nDrop_len (kvs : List NEnt) (k : NestedKey) : (nDrop kvs k).length ≤ kvs.length := List.length_filter_le _ _
section
variable {ks : List NEnt} {xs : List XEnt}
theorem EVs.at (r : Paired EV ks xs) (k : NestedKey) : RelO (nAt ks k) (vAt xs k) := by
  induction r with
  | nil => exact True.intro
  | @cons p q ps qs h t ih =>
    rw [nAt_cons, vAt_cons, ← h.1]
    by_cases e : p.1 = k
    · rw [if_pos e, if_pos e]; exact h.2.2
    · rw [if_neg e, if_neg e]; exact ih
theorem EVs.any (r : Paired EV ks xs) (k : NestedKey) : (ks.any fun x => decide (x.1 = k)) = xs.any fun x => decide (x.1 = k) := by
  induction r with
  | nil => rfl
  | cons h t ih => rw [List.any_cons, List.any_cons, ih, h.1]
theorem EVs.put (r : Paired EV ks xs) (k : NestedKey) {y v : V} {u w : Value} (ry : RelV y u) (rv : RelV v w) : Paired EV (nPut ks k y v) (vPut xs k u w) := by
  unfold nPut vPut
  rw [EVs.any r k]
  split
  · rename_i hc
    clear ry hc
    induction r with
    | nil => exact .nil
    | @cons p q ps qs h t ih =>
      rw [List.map_cons, List.map_cons]
      refine .cons ?_ ih
      by_cases e : p.1 = k
      · rw [if_pos e, if_pos (h.1.symm.trans e)]; exact ⟨h.1, h.2.1, rv⟩
      · rw [if_neg e, if_neg (fun z => e (h.1.trans z))]; exact h
  · exact Paired.snoc r ⟨rfl, ry, rv⟩
theorem EVs.drop (r : Paired EV ks xs) (k : NestedKey) : Paired EV (nDrop ks k) (vDrop xs k) := by
  unfold nDrop vDrop
  induction r with
  | nil => exact .nil
  | @cons p q ps qs h t ih =>
    rw [List.filter_cons, List.filter_cons, ← h.1]
    by_cases e : p.1 = k
    · rw [if_neg (by simp [e]), if_neg (by simp [e])]; exact ih
    · rw [if_pos (by simp [e]), if_pos (by simp [e])]; exact .cons h ih
end
/-! ### values that are keys -/
section
variable (K : PySem.W.Frag) (H : Hp)
mutual
inductive NV : NestedKey → V → Prop where
  | non : NV .none .non
  | bl (b : Bool) : NV (.num (if b = true then 1 else 0)) (.bl b)
  | int (i : Int) : NV (.num i) (.int i)
  | str (x : Str) : NV (.text x) (.str x)
  | tup {a xs ks} : SqT K H a xs → NVs ks xs → NV (.tup ks) (.ref a)
inductive NVs : List NestedKey → List V → Prop where
  | nil : NVs [] []
  | cons {k v ks vs} : NV k v → NVs ks vs → NVs (k :: ks) (v :: vs)
end
end
section
variable {K : PySem.W.Frag} {cA : CA} {ι : Nat → Addr} {n : Nat} {H : Hp}
mutual
theorem nv_of : ∀ {v : V} {d : D} {k : NestedKey}, Rep K ι n H v d → keyN d = some k → NV K H k v
  | _, _, _, .non, e => by cases e; exact .non
  | _, _, _, .bl, e => by cases e; exact .bl _
  | _, _, _, .int, e => by cases e; exact .int _
  | _, _, _, .str, e => by cases e; exact .str _
  | _, _, _, .raw, e => by cases e; exact .str _
  | _, _, k, .tup (ds := ds) q r, e => by
    unfold keyN at e
    cases e2 : keyNs ds with
    | none => rw [e2] at e; cases e
    | some ks =>
      rw [e2] at e
      cases e
      exact .tup q.sqt (nvs_of r e2)
  | _, _, _, .ref _, e => by cases e
  | _, _, _, .fls _ _, e => by cases e
  | _, _, _, .ztp _ _, e => by cases e
  | _, _, _, .xc0, e => by cases e
  | _, _, _, .xc _ _, e => by cases e
theorem nvs_of : ∀ {v : List V} {d : List D} {k : List NestedKey}, Reps K ι n H v d → keyNs d = some k → NVs K H k v
  | _, _, _, .nil, e => by cases e; exact .nil
  | _, _, k, .cons (d := d) (ds := ds) r q, e => by
    unfold keyNs at e
    cases e1 : keyN d with
    | none => rw [e1] at e; cases e
    | some k1 =>
      cases e2 : keyNs ds with
      | none => rw [e1, e2] at e; cases e
      | some ks =>
        rw [e1, e2] at e
        cases e
        exact .cons (nv_of r e1) (nvs_of q e2)
end
end
section
variable {X : Cx} {pins : List (Addr × Obj)} {σ : L2.St} {H : Hp} {s : Shared}
mutual
theorem nv_is (I : Inv X pins σ H s) : ∀ {k : NestedKey} {v : V} {u : Value}, NV X.K H k v → RelV v u → NestedIs s.heap k u
  | _, _, _, .non, r => by cases r; exact .none
  | _, _, _, .bl b, r => by cases r; exact .bool rfl
  | _, _, _, .int i, r => by obtain ⟨t, rfl⟩ := r; exact .int _ _
  | _, _, _, .str x, r => by obtain ⟨t, rfl⟩ := r; exact .text _ _
  | _, _, _, .tup q n, r => by
    cases r
    obtain ⟨its, rv, ⟨o, ho, hc, m, hd⟩, _⟩ := I.tuple q
    exact .tup ho hc hd (by simpa using nvs_is I n rv)
theorem nvs_is (I : Inv X pins σ H s) : ∀ {k : List NestedKey} {v : List V} {u : List Value}, NVs X.K H k v → Vals v u → NestedAll s.heap k u
  | _, _, _, .nil, r => by cases r; exact .nil
  | _, _, _, .cons n ns, r => by
    cases r with
    | cons a b => exact .cons (nv_is I n a) (nvs_is I ns b)
end
/-- a dict stands at a, to be read -/
structure NDr (K : PySem.W.Frag) (w : World) (H : Hp) (a : Addr) (ks : List NEnt) : Prop where
  at' : Rd H a (.ext (DNphi w a ks))
  keys : ∀ p ∈ ks, NV K H p.1 p.2.1 ∧ p.1.depth ≤ 8
theorem evs_mem {ks : List NEnt} {xs : List XEnt} (r : Paired EV ks xs) : ∀ x ∈ xs, ∃ p ∈ ks, EV p x := by
  induction r with
  | nil => intro x hx; cases hx
  | @cons p q ps qs h t ih =>
    intro x hx
    rcases List.mem_cons.mp hx with e | hx
    · subst e; exact ⟨p, List.mem_cons_self, h⟩
    · obtain ⟨p', hp, r⟩ := ih x hx
      exact ⟨p', List.mem_cons_of_mem _ hp, r⟩
theorem NDr.ex {a : Addr} {ks : List NEnt} (d : NDr X.K X.w H a ks) (I : Inv X pins σ H s) : ∃ xs, Paired EV ks xs ∧ DAt X.w s.heap a xs ∧ ks.length ≤ sizeLine ∧ (a == sysModules) = false ∧ xs.length ≤ sizeLine := by
  obtain ⟨⟨z, hs, xs, r, nd, ex⟩, _, _⟩ := rd_of I.hok d.at'
  refine ⟨xs, r, ⟨ex, nd, fun x hx => ?_⟩, z, hs, by rw [← Paired.length r]; exact z⟩
  obtain ⟨p, hp, e1, e2, _⟩ := evs_mem r x hx
  obtain ⟨k1, k2⟩ := d.keys p hp
  rw [← e1]
  exact ⟨nv_is I k1 e2, k2⟩
theorem dn_ok {P : Program} {w : World} {H' : Hp} {h' : Heap} {a : Addr} {ks : List NEnt} {xs : List XEnt} (z : ks.length ≤ sizeLine) (hs : (a == sysModules) = false) (r : Paired EV ks xs) (d : DAt w h' a xs) : ObjOk P w H' h' a (.ext (DNphi w a ks)) := by
  obtain ⟨o, ep, ho, hc, hd⟩ := d.ex
  refine ⟨⟨z, hs, xs, r, d.nd, o, ep, ho, hc, hd⟩, ⟨o, ho⟩, fun h1 h2 ⟨z, hs, xs, r, nd, o, ep, ho, hc, hd⟩ k => ⟨z, hs, xs, r, nd, o, ep, k o ho, hc, hd⟩⟩
theorem d_write' {a : Addr} {h' : Heap} {t' : Nat} {ks ks' : List NEnt} {xs : List XEnt} (I : Inv X pins σ H s) (e : H a = some (.ext (DNphi X.w a ks))) (hsb : Heap.SameBut a s.heap h') (z : ks'.length ≤ sizeLine) (hs : (a == sysModules) = false) (r : Paired EV ks' xs) (d : DAt X.w h' a xs) :
    Inv X pins σ (upd H a (.ext (DNphi X.w a ks'))) { s with heap := h', toks := t' } := by
  obtain ⟨o, ep, ho, hc, hd⟩ := id d.ex
  exact d_write I (by rw [e]; exact True.intro) hsb ⟨o, ho⟩ (dn_ok z hs r d)
end
/-! ### a dict of ours -/
section
variable {K : PySem.W.Frag} {cA : CA} {ι : Nat → Addr} {n : Nat} {H : Hp}
theorem keyEq_iff {k k' : NestedKey} {d d' : D} (e : keyD d = some k) (e' : keyD d' = some k') : keyEq d' d = decide (k' = k) := by
  unfold keyEq
  rw [(keyD_some e).1, (keyD_some e').1]
  exact (NestedKey.decide_eq k' k).symm
theorem KRep.keys {ks : List NEnt} {ds : List (D × D)} (r : KRep K ι n H ks ds) : ∀ p ∈ ks, NV K H p.1 p.2.1 ∧ p.1.depth ≤ 8 := by
  induction r with
  | nil => intro p hp; cases hp
  | cons e ru _ _ ih =>
    intro p hp
    rcases List.mem_cons.mp hp with e' | hp
    · subst e'
      obtain ⟨e1, e2⟩ := keyD_some e
      exact ⟨nv_of ru e1, e2⟩
    · exact ih p hp
theorem KRep.get {ks : List NEnt} {ds : List (D × D)} (r : KRep K ι n H ks ds) {k : NestedKey} {kd : D} (e : keyD kd = some k) : match dget ds kd with
    | some d => ∃ v, nAt ks k = some v ∧ Rep K ι n H v d
    | none => nAt ks k = none := by
  induction r with
  | nil => rfl
  | @cons k' u kd' x d ks ds rk ru rx _ ih =>
    have q := keyEq_iff e rk
    unfold dget
    rw [nAt_cons]
    by_cases c : k' = k
    · rw [q, decide_eq_true c, if_pos rfl, if_pos c]
      exact ⟨x, rfl, rx⟩
    · rw [q, decide_eq_false c, if_neg (by simp), if_neg c]
      exact ih
theorem KRep.has {ks : List NEnt} {ds : List (D × D)} (r : KRep K ι n H ks ds) {k : NestedKey} {kd : D} (e : keyD kd = some k) : dhas ds kd = (nAt ks k).isSome := by
  have q := r.get e
  unfold dhas
  cases h : dget ds kd with
  | none => rw [h] at q; rw [q]; rfl
  | some d => rw [h] at q; obtain ⟨v, e2, _⟩ := q; rw [e2]; rfl
theorem KRep.append {ks ks' : List NEnt} {ds ds' : List (D × D)} (r : KRep K ι n H ks ds) (r' : KRep K ι n H ks' ds') : KRep K ι n H (ks ++ ks') (ds ++ ds') := by
  induction r with
  | nil => exact r'
  | cons e a b _ ih => exact .cons e a b ih
theorem KRep.len {ks : List NEnt} {ds : List (D × D)} (r : KRep K ι n H ks ds) : ks.length = ds.length := by
  induction r with
  | nil => rfl
  | cons _ _ _ _ ih => simp [ih]
theorem KRep.put {ks : List NEnt} {ds : List (D × D)} (r : KRep K ι n H ks ds) {k : NestedKey} {kd : D} {u v : V} {d : D} (e : keyD kd = some k) (ru : Rep K ι n H u kd) (rv : Rep K ι n H v d) : KRep K ι n H (nPut ks k u v) (dput ds kd d) := by
  unfold nPut dput
  rw [nAt_any, r.has e]
  by_cases c : (nAt ks k).isSome = true
  · rw [if_pos c, if_pos c]
    clear c
    induction r with
    | nil => exact .nil
    | @cons k' u' kd' x d' ks ds rk' ru' rx _ ih =>
      have q := keyEq_iff e rk'
      simp only [List.map_cons]
      by_cases c : k' = k
      · rw [if_pos c, q, decide_eq_true c, if_pos rfl]; exact .cons rk' ru' rv ih
      · rw [if_neg c, q, decide_eq_false c, if_neg (by simp)]; exact .cons rk' ru' rx ih
  · rw [if_neg c, if_neg c]
    exact r.append (.cons e ru rv .nil)
theorem KRep.drop {ks : List NEnt} {ds : List (D × D)} (r : KRep K ι n H ks ds) {k : NestedKey} {kd : D} (e : keyD kd = some k) : KRep K ι n H (nDrop ks k) (ddrop ds kd) := by
  unfold nDrop ddrop
  induction r with
  | nil => exact .nil
  | @cons k' u' kd' x d' ks ds rk' ru' rx _ ih =>
    have q := keyEq_iff e rk'
    rw [List.filter_cons, List.filter_cons, q]
    by_cases c : k' = k
    · simp [c]; simpa using ih
    · simp [c]; exact .cons rk' ru' rx (by simpa using ih)
end
section
variable {Z : Kx}
theorem dict_at {ι : Nat → Addr} {H : Hp} {h : Hd} {m : Nat} {kvs : List (D × D)} (R : HRep Z.X.K Z.cA ι H h) (e : h[m]? = some (.dict kvs)) : ∃ ks, H (ι m) = some (.ext (DNphi Z.cA.w (ι m) ks)) ∧ KRep Z.X.K ι h.length H ks kvs := by
  obtain ⟨ho, e3, ro⟩ := R.obj m _ e
  cases ro with
  | dict r => exact ⟨_, e3, r⟩
/-- the pairs of a dict, walked or not -/
def dictD (h : Hd) (m : Nat) : Option (List (D × D)) := match h[m]? with
  | some (.dict kvs) => some kvs
  | some (.lkd kvs) => some kvs
  | _ => none
theorem dictD_of {h : Hd} {m : Nat} {kvs : List (D × D)} (e : h[m]? = some (.dict kvs)) : dictD h m = some kvs := by unfold dictD; rw [e]
theorem dictD_lkd {h : Hd} {m : Nat} {kvs : List (D × D)} (e : h[m]? = some (.lkd kvs)) : dictD h m = some kvs := by unfold dictD; rw [e]
theorem dictD_rep {ι : Nat → Addr} {H : Hp} {h : Hd} {m : Nat} {kvs : List (D × D)} (hw : Z.cA.w = Z.X.w) (R : HRep Z.X.K Z.cA ι H h) (e : dictD h m = some kvs) : ∃ ks, NDr Z.X.K Z.X.w H (ι m) ks ∧ KRep Z.X.K ι h.length H ks kvs := by
  unfold dictD at e
  cases hm : h[m]? with
  | none => rw [hm] at e; cases e
  | some o =>
    rw [hm] at e
    cases o with
    | dict k =>
      cases e
      obtain ⟨ks, e1, r⟩ := dict_at R hm
      rw [hw] at e1
      exact ⟨ks, ⟨.inl e1, r.keys⟩, r⟩
    | lkd k =>
      cases e
      obtain ⟨ho, e3, ro⟩ := R.obj m _ hm
      cases ro with
      | lkd r =>
        rw [hw] at e3
        exact ⟨_, ⟨.inr ⟨_, e3⟩, r.keys⟩, r⟩
    | lst _ => cases e
    | ins _ _ => cases e
/-! ### d[k] -/
/-- the entry of the key y is there, or not -/
def NGet (K : PySem.W.Frag) (w : World) (H : Hp) (a : Addr) (y : V) (o : Option V) : Prop := ∃ ks k, NDr K w H a ks ∧ NV K H k y ∧ k.depth ≤ 8 ∧ o = nAt ks k
theorem nget_of {ι : Nat → Addr} {H : Hp} {h : Hd} {m : Nat} {kvs : List (D × D)} {y : V} {dy : D} (hw : Z.cA.w = Z.X.w) (R : HRep Z.X.K Z.cA ι H h) (e : dictD h m = some kvs) (ry : Rep Z.X.K ι h.length H y dy) (hk : (keyD dy).isSome = true) :
    ∃ o, NGet Z.X.K Z.X.w H (ι m) y o ∧ match dget kvs dy with | some d => ∃ v, o = some v ∧ Rep Z.X.K ι h.length H v d | none => o = none := by
  obtain ⟨k, ek⟩ := Option.isSome_iff_exists.mp hk
  obtain ⟨ks, nd, r⟩ := dictD_rep hw R e
  obtain ⟨e1, e2⟩ := keyD_some ek
  refine ⟨nAt ks k, ⟨ks, k, nd, nv_of ry e1, e2, rfl⟩, ?_⟩
  have q := r.get ek
  cases c : dget kvs dy with
  | none => rw [c] at q; exact q
  | some d => rw [c] at q; exact q
def rNGet (K : PySem.W.Frag) (w : World) : R2 := fun x y H Q => ∃ a v, x = .ref a ∧ NGet K w H a y (some v) ∧ Q v H
theorem NGet.type {X : Cx} {pins : List (Addr × Obj)} {σ : L2.St} {H : Hp} {s : Shared} {a : Addr} {y : V} {o : Option V} (I : Inv X pins σ H s) (g : NGet X.K X.w H a y o) : s.TypeIs (.ref a) "dict" := by
  obtain ⟨ks, k, nd, _⟩ := g
  obtain ⟨xs, _, d, _⟩ := nd.ex I
  exact d.typeIs
theorem NGet.noDict {X : Cx} {pins : List (Addr × Obj)} {σ : L2.St} {H : Hp} {s : Shared} {a : Addr} {y : V} {o : Option V} (I : Inv X pins σ H s) (g : NGet X.K X.w H a y o) : ∀ b, Value.ref a = .ref b → ∃ ob, s.heap.get? b = some ob ∧ ob.dict = none := by
  obtain ⟨ks, k, nd, _⟩ := g
  obtain ⟨xs, _, d, _⟩ := nd.ex I
  exact d.noDict
theorem ix_dict (hu : Z.X.A.units + 10 < cLine) : IxR Z.X (rNGet Z.X.K Z.X.w) := by
  intro value slice pins s σ H x y v u Q I rx ry ⟨a, w, ex, g, q⟩ hs
  subst ex
  obtain rfl : v = Value.ref a := rx
  refine PyProof.Rows.tail_any (g.type I) PySem.F.slot_dict_getitem.lookup ?_ hs
  obtain ⟨ks, k, nd, nv, hd, eo⟩ := g
  obtain ⟨xs, r, d, z, hsys, _⟩ := nd.ex I
  obtain ⟨w', hw', rw'⟩ := RelO.some_of (v := w) (o := vAt xs k) (by rw [eo]; exact EVs.at r k)
  exact getItem_ok hu (nv_is I nv ry) hd d hw' fun tk => ⟨w, H, I.tok _, rw', q⟩
def dixF : F2 := fun x y h => asRef x fun m => onSome (dictD h m) fun kvs => onSome (keyD y) fun _ => onSome (dget kvs y) fun d => .ok d h
theorem ik_dict (hw : Z.cA.w = Z.X.w) (hu : Z.X.A.units + 10 < cLine) : IxK Z dixF := ⟨_, ix_dict hu, fun σ ι h H x y dx dy Q R rx ry p => by
  obtain ⟨m, rfl, p⟩ := p.asRef
  obtain ⟨kvs, e, p⟩ := p.onSome
  obtain ⟨k, ek, p⟩ := p.onSome
  obtain ⟨d, ed, p⟩ := p.onSome
  cases rx
  obtain ⟨o, g, q⟩ := nget_of hw R e ry (by rw [ek]; rfl)
  rw [ed] at q
  obtain ⟨v, ev, rv⟩ := q
  subst ev
  exact ⟨_, v, rfl, g, RPost.ok R p v rv⟩⟩
/-- a[b], whatever a is: a tuple, a list, a dict -/
def getF : F2 := fun x y h => match x with
  | .ref m => match h[m]? with
    | some (.lst _) => ixF x y h
    | _ => dixF x y h
  | _ => ixF x y h
theorem IxK.alt {F G M : F2} (a : IxK Z F) (b : IxK Z G) (hm : ∀ x y h, M x y h = F x y h ∨ M x y h = G x y h) : IxK Z M := by
  obtain ⟨r, hr, kr⟩ := a
  obtain ⟨q, hq, kq⟩ := b
  refine ⟨_, hr.or hq, fun σ ι h H x y dx dy Q R rx ry p => ?_⟩
  rcases hm dx dy h with e | e
  · rw [e] at p; exact .inl (kr σ ι h H x y dx dy Q R rx ry p)
  · rw [e] at p; exact .inr (kq σ ι h H x y dx dy Q R rx ry p)
theorem ik_get (hw : Z.cA.w = Z.X.w) (hu : Z.X.A.units + 10 < cLine) : IxK Z getF := .alt ik_seq (ik_dict hw hu) fun x y h => by
  unfold getF
  cases x with
  | ref m =>
    dsimp only
    cases h[m]? with
    | none => exact .inr rfl
    | some o => cases o <;> first | exact .inl rfl | exact .inr rfl
  | non => exact .inl rfl
  | bl _ => exact .inl rfl
  | int _ => exact .inl rfl
  | str _ => exact .inl rfl
  | raw _ => exact .inl rfl
  | xc _ _ _ _ => exact .inl rfl
  | fls _ => exact .inl rfl
  | ztp _ => exact .inl rfl
  | tup _ => exact .inl rfl
/-! ### stores -/
abbrev F3 := D → D → D → Hd → Res Unit
def StK (Z : Kx) (F : F3) : Prop := ∃ r : TSet, PSet Z.X r ∧ ∀ (σ : L2.St) (ι : Nat → Addr) (h : Hd) (H : Hp) (o i v : V) (dO di dv : D) (Q : Hp → Prop), HRep Z.X.K Z.cA ι H h → Rep Z.X.K ι h.length H o dO → Rep Z.X.K ι h.length H i di → Rep Z.X.K ι h.length H v dv →
  RPost Z.X.K Z.cA Z.W σ ι h H (F dO di dv h) (fun _ h' ι' H' => Q H') → r o i v H Q
def gSub' (fo fi : SE) (F : F3) : SG := fun d env h => (fo env h).bind fun o h1 => (fi env h1).bind fun i h2 => (F o i d h2).bind fun _ h3 => .ok env h3
theorem kg_sub {F : F3} {o i : Expr} {fo fi : SE} {pos : Pos} (hF : StK Z F) (ho : KE Z o fo) (hi : KE Z i fi)
    (ha : ∀ v, assign (.Subscript o i pos) Z.X.env v = (do
      let ov ← holding [v] (eval o Z.X.env); let iv ← holding [v, ov] (eval i Z.X.env); standAt pos
      holding [v, ov, iv] (setItem ov iv v); release [v, ov, iv] []) := by intro _; rfl) : KG Z (.Subscript o i pos) (gSub' fo fi F) := by
  obtain ⟨r, hr, k⟩ := hF
  exact ⟨(pg_sub ho.pe hi.pe hr ha).weak fun v σ H Q ⟨ι, env, h, d, R, V, rv, p⟩ => ⟨ι, env, h, R, V, (RPost.bind p).mono fun od h1 ι1 H1 S1 R1 p1 ov ro =>
    ⟨ι1, env, h1, R1, V.step S1 R, (RPost.bind p1).mono fun di h2 ι2 H2 S2 R2 p2 iv ri =>
      k σ ι2 h2 H2 ov iv v od di d _ R2 (ro.step S2 R1) ri (rv.step (S1.trans S2) R) ((RPost.bind p2).mono fun _ h3 ι3 H3 S3 R3 p3 => RPost.ok R3 p3 σ (V.step (S1.trans (S2.trans S3)) R))⟩⟩⟩
theorem StK.alt {F G M : F3} (a : StK Z F) (b : StK Z G) (hm : ∀ x y z h, M x y z h = F x y z h ∨ M x y z h = G x y z h) : StK Z M := by
  obtain ⟨r, hr, kr⟩ := a
  obtain ⟨q, hq, kq⟩ := b
  refine ⟨fun o i v H Q => r o i v H Q ∨ q o i v H Q, fun pins s σ H o i v ov iv u Q I ro ri rv z => z.elim (hr pins s σ H o i v ov iv u Q I ro ri rv) (hq pins s σ H o i v ov iv u Q I ro ri rv), fun σ ι h H o i v dO di dv Q R ro ri rv p => ?_⟩
  rcases hm dO di dv h with e | e
  · rw [e] at p; exact .inl (kr σ ι h H o i v dO di dv Q R ro ri rv p)
  · rw [e] at p; exact .inr (kq σ ι h H o i v dO di dv Q R ro ri rv p)
def setL : F3 := fun o i v h => asRef o fun m => asInt i fun k => onLst h m fun ds => onSome (ixN ds.length k) fun j => .ok () (h.set m (.lst (ds.set j v)))
theorem Reps.set {K : PySem.W.Frag} {ι : Nat → Addr} {n : Nat} {H : Hp} : ∀ {vs : List V} {ds : List D} (j : Nat) {v : V} {d : D}, Reps K ι n H vs ds → Rep K ι n H v d → Reps K ι n H (vs.set j v) (ds.set j d)
  | _, _, _, _, _, .nil, _ => .nil
  | _, _, 0, _, _, .cons _ q, r => .cons r q
  | _, _, j + 1, _, _, .cons p q, r => .cons p (Reps.set j q r)
theorem lst_at {ι : Nat → Addr} {H : Hp} {h : Hd} {m : Nat} {ds : List D} (R : HRep Z.X.K Z.cA ι H h) (e : h[m]? = some (.lst ds)) : ∃ xs, H (ι m) = some (.lst xs) ∧ Reps Z.X.K ι h.length H xs ds ∧ ∀ x u, H (ι m) ≠ some (.frz x u) := by
  obtain ⟨ho, e3, ro⟩ := R.obj m _ e
  cases ro with
  | lst r => exact ⟨_, e3, r, fun x u z => by rw [e3] at z; cases z⟩
theorem st_list : StK Z setL := ⟨_, set_list, fun σ ι h H o i v dO di dv Q R ro ri rv p => by
  obtain ⟨m, rfl, p⟩ := p.asRef
  obtain ⟨k, rfl, p⟩ := p.asInt
  obtain ⟨ds, e, p⟩ := p.onLst
  obtain ⟨j, ej, p⟩ := p.onSome
  cases ri
  cases ro with
  | ref hlt =>
    obtain ⟨xs, e3, rs, hf⟩ := lst_at R e
    refine ⟨_, xs, k, j, rfl, rfl, e3, by rw [rs.len]; exact ej, ?_⟩
    exact p ι _ (Step.set R hlt hf (.lst (xs.set j v)) (.lst (ds.set j dv))) (R.set hlt hf (.lst (rs.set j rv)))⟩
/-- a dict that may be changed -/
structure NDw (K : PySem.W.Frag) (w : World) (H : Hp) (a : Addr) (ks : List NEnt) : Prop where
  at' : H a = some (.ext (DNphi w a ks))
  keys : ∀ p ∈ ks, NV K H p.1 p.2.1 ∧ p.1.depth ≤ 8
theorem NDw.r {K : PySem.W.Frag} {w : World} {H : Hp} {a : Addr} {ks : List NEnt} (d : NDw K w H a ks) : NDr K w H a ks := ⟨.inl d.at', d.keys⟩
def rNPut (K : PySem.W.Frag) (w : World) : TSet := fun o i v H Q => ∃ a ks k, o = .ref a ∧ NDw K w H a ks ∧ NV K H k i ∧ k.depth ≤ 8 ∧ ks.length < sizeLine ∧ Q (upd H a (.ext (DNphi w a (nPut ks k i v))))
theorem set_dict (hu : Z.X.A.units + 10 < cLine) : PSet Z.X (rNPut Z.X.K Z.X.w) := by
  intro pins s σ H o i v ov iv u Q I ro ri rv ⟨a, ks, k, eo, nd, nv, hd, hl, q⟩
  subst eo
  obtain rfl : ov = Value.ref a := ro
  obtain ⟨xs, r, d, z, hsys, hx⟩ := nd.r.ex I
  exact setItem_ok hu (nv_is I nv ri) hd d hx fun h' tk hm' hs' => ⟨_, d_write' I nd.at' hs' (Nat.le_trans (nPut_len ks k i v) hl) hsys (EVs.put r k ri rv) hm', q⟩
def setD : F3 := fun o i v h => asRef o fun m => onDict h m fun kvs => onSome (keyD i) fun _ => guard' (kvs.length < LIM) (.ok () (h.set m (.dict (dput kvs i v))))
theorem st_dict (hw : Z.cA.w = Z.X.w) (hu : Z.X.A.units + 10 < cLine) : StK Z setD := ⟨_, set_dict hu, fun σ ι h H o i v dO di dv Q R ro ri rv p => by
  obtain ⟨m, rfl, p⟩ := p.asRef
  obtain ⟨kvs, e, p⟩ := p.onDict
  obtain ⟨k, ek, p⟩ := p.onSome
  obtain ⟨hl, p⟩ := p.guard
  cases ro with
  | ref hlt =>
    obtain ⟨ks, e3, rs⟩ := dict_at R e
    have hf : ∀ x u, H (ι m) ≠ some (.frz x u) := fun x u z => by rw [e3] at z; cases z
    obtain ⟨e1, e2⟩ := keyD_some ek
    refine ⟨_, ks, k, rfl, ⟨by rw [← hw]; exact e3, rs.keys⟩, nv_of ri e1, e2, by rw [rs.len]; exact lim_lt hl, ?_⟩
    rw [← hw]
    exact p ι _ (Step.set R hlt hf _ (.dict (dput kvs di dv))) (R.set hlt hf (.dict (rs.put ek ri rv)))⟩
def setF : F3 := fun o i v h => match o with
  | .ref m => match h[m]? with
    | some (.lst _) => setL o i v h
    | _ => setD o i v h
  | _ => .stuck
theorem st_set (hw : Z.cA.w = Z.X.w) (hu : Z.X.A.units + 10 < cLine) : StK Z setF := .alt st_list (st_dict hw hu) fun x y z h => by
  unfold setF
  cases x with
  | ref m =>
    dsimp only
    cases h[m]? with
    | none => exact .inr rfl
    | some o => cases o <;> first | exact .inl rfl | exact .inr rfl
  | non => exact .inl rfl
  | bl _ => exact .inl rfl
  | int _ => exact .inl rfl
  | str _ => exact .inl rfl
  | raw _ => exact .inl rfl
  | xc _ _ _ _ => exact .inl rfl
  | fls _ => exact .inl rfl
  | ztp _ => exact .inl rfl
  | tup _ => exact .inl rfl
end
end Kf
end
section
set_option maxHeartbeats 4000000
/-! Kf: dicts: displays, in, get, len, del, pop. -/
namespace Kf
open PySem PySem.Spec L2
def dmerge (acc more : List (D × D)) : List (D × D) := more.foldl (fun a p => dput a p.1 p.2) acc
def nMerge (acc more : List NEnt) : List NEnt := more.foldl (fun a p => nPut a p.1 p.2.1 p.2.2) acc
def vMerge (acc more : List XEnt) : List XEnt := more.foldl (fun a p => vPut a p.1 p.2.1 p.2.2) acc
theorem nMerge_len : ∀ (more acc : List NEnt), (nMerge acc more).length ≤ acc.length + more.length
  | [], acc => Nat.le_refl _
  | p :: r, acc => by
    have h1 := nMerge_len r (nPut acc p.1 p.2.1 p.2.2)
    have h2 := nPut_len acc p.1 p.2.1 p.2.2
    show (nMerge (nPut acc p.1 p.2.1 p.2.2) r).length ≤ _
    rw [List.length_cons]; omega
section
variable {K : PySem.W.Frag} {ι : Nat → Addr} {n : Nat} {H : Hp}
theorem KRep.merge {ks : List NEnt} {ds : List (D × D)} (r : KRep K ι n H ks ds) : ∀ {ks' : List NEnt} {ds' : List (D × D)}, KRep K ι n H ks' ds' → KRep K ι n H (nMerge ks' ks) (dmerge ds' ds) := by
  induction r with
  | nil => exact fun q => q
  | cons e ru rv _ ih => exact fun q => ih (q.put e ru rv)
end
theorem EVs.merge {ks : List NEnt} {xs : List XEnt} (r : Paired EV ks xs) : ∀ {ks' : List NEnt} {xs' : List XEnt}, Paired EV ks' xs' → Paired EV (nMerge ks' ks) (vMerge xs' xs) := by
  induction r with
  | nil => exact fun q => q
  | @cons p q ps qs h t ih =>
    intro ks' xs' r0
    have := EVs.put r0 p.1 (u := q.2.1) h.2.1 h.2.2
    rw [show nMerge ks' (p :: ps) = nMerge (nPut ks' p.1 p.2.1 p.2.2) ps from rfl, show vMerge xs' (q :: qs) = vMerge (vPut xs' q.1 q.2.1 q.2.2) qs from rfl, ← h.1]
    exact ih this
/-! ### many puts -/
theorem storeAll_ok {P : Program} {w : World} {A : Around} {E : Value → Shared → Prop} {a : Addr} (hu : A.units + 9 < cLine) : ∀ (more acc : List XEnt) (s : Shared) (Q : PUnit → Shared → Prop), (∀ x ∈ more, NestedIs s.heap x.1 x.2.1 ∧ x.1.depth ≤ 8) → DAt w s.heap a acc → acc.length + more.length ≤ sizeLine →
    (∀ h' tk, DAt w h' a (vMerge acc more) → Heap.SameBut a s.heap h' → Q PUnit.unit { s with heap := h', toks := tk }) →
    wpAny (model P w) A (forIn (more.map fun x => (x.2.1, x.2.2)) PUnit.unit fun (x : Value × Value) (_ : PUnit) => (do dictSet a x.1 x.2; pure (ForInStep.yield PUnit.unit) : Sem (ForInStep PUnit))) Q E s
  | [], acc, s, Q, _, d, _, h => by
    rw [List.map_nil, List.forIn_nil]
    exact wpAny_pure (h s.heap s.toks d (Heap.SameBut.refl _ _))
  | x :: more, acc, s, Q, hk, d, hl, h => by
    rw [List.length_cons] at hl
    rw [List.map_cons, List.forIn_cons]
    obtain ⟨k1, k2⟩ := hk x List.mem_cons_self
    refine wpAny_bind (wpAny_bind (dictSet_ok hu k1 k2 d (by omega) fun h1 tk1 d1 sb1 => wpAny_pure ?_))
    obtain ⟨o, ep, ho, hc, hdat⟩ := d.ex
    have len : (vPut acc x.1 x.2.1 x.2.2).length ≤ acc.length + 1 := by
      unfold vPut
      split <;> simp
    exact storeAll_ok hu more (vPut acc x.1 x.2.1 x.2.2) _ Q (fun y hy => by
      obtain ⟨z1, z2⟩ := hk y (List.mem_cons_of_mem _ hy)
      exact ⟨keep_key ho hdat sb1 z1, z2⟩) d1 (by omega) fun h' tk d' sb' => h h' tk d' (sb1.trans sb')
/-! ### displays -/
theorem subDict_ok {P : Program} {w : World} {A : Around} {E : Value → Shared → Prop} {s : Shared} {pairs : List (Sem Value × Sem Value)} {Q : Addr → Shared → Prop} (hu : A.units + 9 < cLine) (hlen : pairs.length ≤ 15)
    (h : wpAny (model P w) A (evalPairs pairs) (fun vs s1 => ∃ more : List XEnt, vs = more.map (fun x => (x.2.1, x.2.2)) ∧ (∀ x ∈ more, NestedIs s1.heap x.1 x.2.1 ∧ x.1.depth ≤ 8) ∧ DAt w s1.heap s.heap.objs.size [] ∧
      ∀ h' tk, DAt w h' s.heap.objs.size (vMerge [] more) → Heap.SameBut s.heap.objs.size s1.heap h' → Q s.heap.objs.size { s1 with heap := h', toks := tk }) E
      { s with heap := s.heap.push { cls := .type "dict", data := .dict #[] } }) : wpAny (model P w) A (subDict pairs) Q E s := by
  unfold subDict
  refine wpAny_bind (wpAny_alloc ?_)
  refine wpAny_bind (wpAny_holding ?_)
  rw [if_pos hlen]
  refine wpAny_bind (wpAny_mono (wpAny_evalPairs_len h) (fun vs s1 h1 => ?_) fun _ _ e => e)
  obtain ⟨hvl, more, ev, hk, d, hQ⟩ := h1
  subst ev
  refine wpAny_holding ?_
  exact wpAny_bind (storeAll_ok hu more [] s1 _ hk d (by rw [sizeLine_eq]; simp at hvl ⊢; omega) fun h' tk d' sb => wpAny_pure (wpAny_pure (hQ h' tk d' sb)))
theorem Dict_ok {P : Program} {w : World} {A : Around} {E : Value → Shared → Prop} {s : Shared} {env : Env} {keys : List (Option Expr)} {values : List Expr} {pos : Pos} {Q : Value → Shared → Prop} (hu : A.units + 9 < cLine)
    (hall : keys.all (·.isSome) = true) (hl : keys.length = values.length) (h0 : keys ≠ []) (hlen : keys.length ≤ 15)
    (h : wpAny (model P w) A (evalPairs (pairTrees keys values env pos)) (fun vs s1 => ∃ more : List XEnt, vs = more.map (fun x => (x.2.1, x.2.2)) ∧ (∀ x ∈ more, NestedIs s1.heap x.1 x.2.1 ∧ x.1.depth ≤ 8) ∧ DAt w s1.heap s.heap.objs.size [] ∧
      ∀ h' tk, DAt w h' s.heap.objs.size (vMerge [] more) → Heap.SameBut s.heap.objs.size s1.heap h' → Q (.ref s.heap.objs.size) { s1 with heap := h', toks := tk }) E
      { s with heap := s.heap.push { cls := .type "dict", data := .dict #[] } }) : wpAny (model P w) A (eval (.Dict keys values pos) env) Q E s := by
  have hn := pairTrees_length keys values env pos hall hl
  rw [arm_eval_Dict, zip_pairTrees keys values env pos hall hl, dictDisplay_pairs _ (fun he => h0 (List.length_eq_zero_iff.mp (by rw [← hn, he]; rfl))) (by omega)]
  exact wpAny_bind (wpAny_standAt (wpAny_bind (subDict_ok (Q := fun d s' => wpAny (model P w) A (pure (Value.ref d)) Q E s') hu (by omega)
    (wpAny_mono h (fun vs s1 h1 => by obtain ⟨more, e, k, d, q⟩ := h1; exact ⟨more, e, k, d, fun h' tk a b => wpAny_pure (q h' tk a b)⟩) fun _ _ e => e))))
/-- an empty dict just made -/
theorem dn_new {P : Program} {w : World} {H : Hp} (h : Heap) (hb : sysModules < h.objs.size) : ObjOk P w H (h.push { cls := .type "dict", data := .dict #[] }) h.objs.size (.ext (DNphi w h.objs.size [])) :=
  dn_ok (Nat.zero_le _) (beq_eq_false_iff_ne.mpr (Ne.symm (Nat.ne_of_lt hb))) .nil (DAt.new h)
def tDispN (K : PySem.W.Frag) (w : World) (trs : List (TE × TE)) : TE := fun σ H Q => ∀ p, H p = none → tPairs trs σ (upd H p (.ext (DNphi w p []))) fun ps H2 => H2 p = some (.ext (DNphi w p [])) ∧
  ∃ ks : List NEnt, ps = ks.map (fun e => (e.2.1, e.2.2)) ∧ (∀ e ∈ ks, NV K H2 e.1 e.2.1 ∧ e.1.depth ≤ 8) ∧ ks.length ≤ 15 ∧ Q (.ref p) (upd H2 p (.ext (DNphi w p (nMerge [] ks))))
theorem vv_of : ∀ {ks : List NEnt} {ws : List (Value × Value)}, VV (ks.map fun e => (e.2.1, e.2.2)) ws → ∃ xs : List XEnt, ws = xs.map (fun x => (x.2.1, x.2.2)) ∧ Paired EV ks xs
  | [], _, r => by rw [List.map_nil] at r; cases r; exact ⟨[], rfl, .nil⟩
  | p :: ks, _, r => by
    rw [List.map_cons] at r
    cases r with
    | @cons a b as bs h t =>
      obtain ⟨xs, e, q⟩ := vv_of t
      obtain ⟨b1, b2⟩ := b
      exact ⟨(p.1, b1, b2) :: xs, by rw [e]; rfl, .cons ⟨rfl, h.1, h.2⟩ q⟩
theorem pe_dispN {X : Cx} {pos : Pos} {keys : List (Option Expr)} {values : List Expr} {trs : List (TE × TE)} (hu : X.A.units + 10 < cLine) (h : PPs X pos keys values trs) (hall : keys.all (·.isSome) = true) (hl : keys.length = values.length) (h0 : keys ≠ [])
    (h15 : keys.length ≤ 15) : PE X (.Dict keys values pos) (tDispN X.K X.w trs) := by
  refine ⟨fun pins s σ H Q I q => ?_⟩
  have hn := I.hok.fresh (Nat.le_refl s.heap.objs.size)
  have I1 := I.laid (a := s.heap.objs.size) (o := .ext (DNphi X.w s.heap.objs.size [])) (h' := s.heap.push { cls := .type "dict", data := .dict #[] }) (t' := s.toks) (fun _ _ q => Heap.get?_push_of_some _ q) (Nat.le_refl _) (dn_new s.heap I.big)
  refine Dict_ok (by omega) hall hl h0 h15 (thn (h.run pins _ σ _ _ I1 (q _ hn)) fun ws s2 ⟨ps, H2, I2, rel, e, ks, ep, hk, lk, q2⟩ => ?_)
  subst ep
  obtain ⟨xs, ew, r⟩ := vv_of rel
  obtain ⟨x0, r0, d0, z, hs, _⟩ := NDr.ex ⟨.inl e, fun _ z => nomatch z⟩ I2
  cases r0
  refine ⟨xs, ew, fun x hx => ?_, d0, fun h' tk d' sb => ⟨.ref s.heap.objs.size, _, d_write' I2 e sb ?_ hs (EVs.merge r .nil) d', rfl, q2⟩⟩
  · obtain ⟨p, hp, e1, e2, _⟩ := evs_mem r x hx
    obtain ⟨k1, k2⟩ := hk p hp
    rw [← e1]
    exact ⟨nv_is I2 k1 e2, k2⟩
  · have h1 := nMerge_len ks []
    rw [List.length_nil] at h1
    rw [sizeLine_eq]; omega
def tDNewN (w : World) : TE := fun _ H Q => ∀ p, H p = none → Q (.ref p) (upd H p (.ext (DNphi w p [])))
theorem pe_dnewN {X : Cx} {pos : Pos} : PE X (.Dict [] [] pos) (tDNewN X.w) := ⟨fun pins s σ H Q I h =>
  wpAny_Dict_empty ⟨.ref s.heap.objs.size, _, I.laid (a := s.heap.objs.size) (o := .ext (DNphi X.w s.heap.objs.size [])) (t' := s.toks) (fun _ _ q => Heap.get?_push_of_some _ q) (Nat.le_refl _) (dn_new s.heap I.big), rfl, h _ (I.hok.fresh (Nat.le_refl _))⟩⟩
section
variable {Z : Kx}
def sPairs : List (SE × SE) → En → Hd → Res (List (D × D))
  | [], _, h => .ok [] h
  | (f, g) :: r, env, h => (f env h).bind fun k h1 => (g env h1).bind fun v h2 => (sPairs r env h2).bind fun ps h3 => .ok ((k, v) :: ps) h3
inductive PRep (K : PySem.W.Frag) (ι : Nat → Addr) (n : Nat) (H : Hp) : List (V × V) → List (D × D) → Prop where
  | nil : PRep K ι n H [] []
  | cons {x y : V} {d e : D} {ps : List (V × V)} {ds : List (D × D)} : Rep K ι n H x d → Rep K ι n H y e → PRep K ι n H ps ds → PRep K ι n H ((x, y) :: ps) ((d, e) :: ds)
theorem tPairs_of {σ : L2.St} {env : En} : ∀ (r : List (SE × SE)) {ι : Nat → Addr} {h : Hd} {H : Hp} {Q : List (V × V) → Hp → Prop}, HRep Z.X.K Z.cA ι H h → VRep Z.X.K ι h.length H σ env →
    RPost Z.X.K Z.cA Z.W σ ι h H (sPairs r env h) (fun ds h' ι' H' => ∀ ps, PRep Z.X.K ι' h'.length H' ps ds → Q ps H') → tPairs (r.map fun p => (tD Z p.1, tD Z p.2)) σ H Q
  | [], ι, h, H, Q, R, V, p => RPost.ok R p [] .nil
  | (f, g) :: r, ι, h, H, Q, R, V, p => ⟨ι, env, h, R, V, (RPost.bind p).mono fun k h1 ι1 H1 S1 R1 p1 x rx => ⟨ι1, env, h1, R1, V.step S1 R, (RPost.bind p1).mono fun v h2 ι2 H2 S2 R2 p2 y ry =>
      tPairs_of r R2 (V.step (S1.trans S2) R) ((RPost.bind p2).mono fun ds h3 ι3 H3 S3 R3 p3 ps rp => RPost.ok R3 p3 _ (.cons (rx.step (S2.trans S3) R1) (ry.step S3 R2) rp))⟩⟩
structure KPs (Z : Kx) (pos : Pos) (ks : List (Option Expr)) (vs : List Expr) (r : List (SE × SE)) : Prop where
  pps : PPs Z.X pos ks vs (r.map fun p => (tD Z p.1, tD Z p.2))
theorem kps_nil {pos : Pos} : KPs Z pos [] [] [] := ⟨pps_nil⟩
theorem kps_cons {pos : Pos} {k v : Expr} {ks : List (Option Expr)} {vs : List Expr} {f g : SE} {r : List (SE × SE)} (hk : KE Z k f) (hv : KE Z v g) (hr : KPs Z pos ks vs r) : KPs Z pos (some k :: ks) (v :: vs) ((f, g) :: r) := ⟨pps_cons hk.pe hv.pe hr.pps⟩
def sDict (r : List (SE × SE)) : SE := fun env h => (sPairs r env h).bind fun ds h1 => guard' (ds.length ≤ 15 ∧ (ds.all fun p => (keyD p.1).isSome) = true) (.ok (.ref h1.length) (h1 ++ [.dict (dmerge [] ds)]))
theorem keys_of {K : PySem.W.Frag} {ι : Nat → Addr} {n : Nat} {H : Hp} {ps : List (V × V)} {ds : List (D × D)} (r : PRep K ι n H ps ds) (e : (ds.all fun p => (keyD p.1).isSome) = true) : ∃ ks : List NEnt, ps = ks.map (fun e => (e.2.1, e.2.2)) ∧ KRep K ι n H ks ds := by
  induction r with
  | nil => exact ⟨[], rfl, .nil⟩
  | @cons x y d e' ps ds rx ry _ ih =>
    simp only [List.all_cons, Bool.and_eq_true] at e
    obtain ⟨k, ek⟩ := Option.isSome_iff_exists.mp e.1
    obtain ⟨ks, e1, r1⟩ := ih e.2
    exact ⟨(k, x, y) :: ks, by rw [e1]; rfl, .cons ek rx ry r1⟩
theorem ke_dict {pos : Pos} {ks : List (Option Expr)} {vs : List Expr} {r : List (SE × SE)} (hw : Z.cA.w = Z.X.w) (hu : Z.X.A.units + 10 < cLine) (hp : KPs Z pos ks vs r) (hall : ks.all (·.isSome) = true := by rfl) (hl : ks.length = vs.length := by rfl) (h0 : ks ≠ [] := by exact fun z => nomatch z)
    (h15 : ks.length ≤ 15 := by decide) : KE Z (.Dict ks vs pos) (sDict r) :=
  ⟨(pe_dispN hu hp.pps hall hl h0 h15).weak fun σ H Q ⟨ι, env, h, R, V, p⟩ => fun a ha => by
    have S0 := Step.aside R ha (.ext (DNphi Z.X.w a []))
    have R0 := R.aside ha (.ext (DNphi Z.X.w a []))
    refine tPairs_of r R0 (V.step S0 R) (RPost.mono (RPost.bind1 S0 p) fun ds h1 ι1 H1 S1 R1 p1 ps rp => ?_)
    obtain ⟨⟨hl, hk⟩, p1⟩ := p1.guard
    have na : ∀ m, m < h1.length → a ≠ ι1 m := fun m hm z => by
      by_cases c : m < h.length
      · have := S1.eq m c
        rw [this] at z
        exact R.off ha c z.symm
      · have := S1.fresh m (Nat.le_of_not_lt c) hm
        rw [← z, upd_same] at this; cases this
    have ea : H1 a = some (.ext (DNphi Z.X.w a [])) := S1.keep a _ upd_same fun m hm z => R.off ha hm z.symm
    obtain ⟨ks, ek, rk⟩ := keys_of rp hk
    refine ⟨ea, ks, ek, rk.keys, ?_, ?_⟩
    · have := rk.len; omega
    · have t1 : TKeep Z.X.K H1 (upd H1 a (.ext (DNphi Z.X.w a (nMerge [] ks)))) := tkeep_upd ea (fun _ z => by cases z) (fun _ _ z => by cases z) _
      have R2 : HRep Z.X.K Z.cA ι1 (upd H1 a (.ext (DNphi Z.X.w a (nMerge [] ks)))) h1 := ⟨fun m o e => by
        obtain ⟨ho, e3, ro⟩ := R1.obj m o e
        exact ⟨ho, by rw [upd_ne (Ne.symm (na m (lt_of_get e)))]; exact e3, ro.keep t1 (Nat.le_refl _) fun _ _ => rfl⟩, R1.inj⟩
      have S2 : Step ι h H ι1 h1 (upd H1 a (.ext (DNphi Z.X.w a (nMerge [] ks)))) := (S0.trans S1).write ha na _
      have rd : KRep Z.X.K ι1 h1.length (upd H1 a (.ext (DNphi Z.X.w a (nMerge [] ks)))) (nMerge [] ks) (dmerge [] ds) := (rk.merge .nil).keep t1 (Nat.le_refl _) fun _ _ => rfl
      have e4 : Rep Z.X.K (more ι1 h1.length a) (h1 ++ [O.dict (dmerge [] ds)]).length (upd H1 a (.ext (DNphi Z.X.w a (nMerge [] ks)))) (.ref (more ι1 h1.length a h1.length)) (.ref h1.length) := .ref (by simp)
      rw [more_at] at e4
      exact p1 _ _ (S2.take ha _) (R2.take upd_same na (by have q := ORep.dict (cA := Z.cA) (a := a) rd; rw [hw] at q; exact q)) _ e4⟩
def sDict0 : SE := fun _ h => .ok (.ref h.length) (h ++ [.dict []])
theorem ke_dict0 {pos : Pos} (hw : Z.cA.w = Z.X.w) : KE Z (.Dict [] [] pos) sDict0 := ⟨pe_dnewN.weak fun σ H Q ⟨ι, env, h, R, V, p⟩ => fun a ha => by
  have e4 : Rep Z.X.K (more ι h.length a) (h ++ [O.dict []]).length (upd H a (.ext (DNphi Z.X.w a []))) (.ref (more ι h.length a h.length)) (.ref h.length) := .ref (by simp)
  rw [more_at] at e4
  exact p _ _ (Step.alloc R ha _ _) (R.alloc ha (by rw [← hw]; exact .dict .nil)) _ e4⟩
/-! ### in, len -/
def dinF (neg : Bool) : F2 := fun x y h => asRef y fun m => onSome (dictD h m) fun kvs => onSome (keyD x) fun _ => .ok (.bl (if neg then !dhas kvs x else dhas kvs x)) h
def rNIn (K : PySem.W.Frag) (w : World) (neg : Bool) : R2 := fun y x H Q => ∃ a o, x = .ref a ∧ NGet K w H a y o ∧ Q (.bl (if neg then !o.isSome else o.isSome)) H
theorem op_din (hu : Z.X.A.units + 10 < cLine) : OpR Z.X (compareOp .In) (rNIn Z.X.K Z.X.w false) := by
  intro pins s σ H y x iv u Q I ry rx ⟨a, o, ex, ⟨ks, k, nd, nv, hd, eo⟩, q⟩
  subst ex
  obtain rfl : u = Value.ref a := rx
  obtain ⟨xs, r, d, z, hsys, _⟩ := nd.ex I
  refine in_ok hu (nv_is I nv ry) hd hsys d fun tk => ⟨.bl o.isSome, H, I.tok _, ?_, q⟩
  rw [eo, RelO.isSome_eq (EVs.at r k)]
  rfl
theorem op_dnotin (hu : Z.X.A.units + 10 < cLine) : OpR Z.X (compareOp .NotIn) (rNIn Z.X.K Z.X.w true) := by
  intro pins s σ H y x iv u Q I ry rx ⟨a, o, ex, ⟨ks, k, nd, nv, hd, eo⟩, q⟩
  subst ex
  obtain rfl : u = Value.ref a := rx
  obtain ⟨xs, r, d, z, hsys, _⟩ := nd.ex I
  refine notIn_ok hu (nv_is I nv ry) hd hsys d fun tk => ⟨.bl (!o.isSome), H, I.tok _, ?_, q⟩
  rw [eo, RelO.isSome_eq (EVs.at r k)]
  rfl
theorem din_post {neg : Bool} {σ : L2.St} {ι : Nat → Addr} {h : Hd} {H : Hp} {x y : V} {dx dy : D} {Q : VK} (hw : Z.cA.w = Z.X.w) (R : HRep Z.X.K Z.cA ι H h) (rx : Rep Z.X.K ι h.length H x dx) (ry : Rep Z.X.K ι h.length H y dy)
    (p : RPost Z.X.K Z.cA Z.W σ ι h H (dinF neg dx dy h) fun d h' ι' H' => ∀ v, Rep Z.X.K ι' h'.length H' v d → Q v H') : rNIn Z.X.K Z.X.w neg x y H Q := by
  obtain ⟨m, rfl, p⟩ := p.asRef
  obtain ⟨kvs, e, p⟩ := p.onSome
  obtain ⟨k, ek, p⟩ := p.onSome
  cases ry
  obtain ⟨o, g, q⟩ := nget_of hw R e rx (by rw [ek]; rfl)
  refine ⟨_, o, rfl, g, ?_⟩
  have eh : dhas kvs dx = o.isSome := by
    unfold dhas
    cases c : dget kvs dx with
    | none => rw [c] at q; rw [q]; rfl
    | some d => rw [c] at q; obtain ⟨v, e, _⟩ := q; rw [e]; rfl
  rw [← eh]
  exact RPost.ok R p _ .bl
theorem ko_din (hw : Z.cA.w = Z.X.w) (hu : Z.X.A.units + 10 < cLine) : OpK Z (compareOp .In) (dinF false) := ⟨_, op_din hu, fun σ ι h H x y dx dy Q R rx ry p => din_post hw R rx ry p⟩
theorem ko_dnotin (hw : Z.cA.w = Z.X.w) (hu : Z.X.A.units + 10 < cLine) : OpK Z (compareOp .NotIn) (dinF true) := ⟨_, op_dnotin hu, fun σ ι h H x y dx dy Q R rx ry p => din_post hw R rx ry p⟩
/-- x in y, whatever y is -/
def memF (neg : Bool) : F2 := fun x y h => match y with
  | .ref m => match h[m]? with
    | some (.lst _) => inF neg x y h
    | _ => dinF neg x y h
  | _ => inF neg x y h
theorem memF_or (neg : Bool) (x y : D) (h : Hd) : memF neg x y h = inF neg x y h ∨ memF neg x y h = dinF neg x y h := by
  unfold memF
  cases y with
  | ref m =>
    dsimp only
    cases h[m]? with
    | none => exact .inr rfl
    | some o => cases o <;> first | exact .inl rfl | exact .inr rfl
  | non => exact .inl rfl
  | bl _ => exact .inl rfl
  | int _ => exact .inl rfl
  | str _ => exact .inl rfl
  | raw _ => exact .inl rfl
  | xc _ _ _ _ => exact .inl rfl
  | fls _ => exact .inl rfl
  | ztp _ => exact .inl rfl
  | tup _ => exact .inl rfl
theorem ko_mem (hw : Z.cA.w = Z.X.w) (hu : Z.X.A.units + 65 < cLine) : OpK Z (compareOp .In) (memF false) := .alt (ko_in hu) (ko_din hw (by omega)) fun x y h => memF_or _ x y h
theorem ko_notmem (hw : Z.cA.w = Z.X.w) (hu : Z.X.A.units + 65 < cLine) : OpK Z (compareOp .NotIn) (memF true) := .alt (ko_notin hu) (ko_dnotin hw (by omega)) fun x y h => memF_or _ x y h
theorem CallK.alt {f : Value} {F G M : FA} (a : CallK Z f F) (b : CallK Z f G) (hm : ∀ x h, M x h = F x h ∨ M x h = G x h) : CallK Z f M := by
  obtain ⟨r, hr, kr⟩ := a
  obtain ⟨q, hq, kq⟩ := b
  refine ⟨fun xs H Q => r xs H Q ∨ q xs H Q, fun pins s σ H xs us Q I rs z => z.elim (hr pins s σ H xs us Q I rs) (hq pins s σ H xs us Q I rs), fun σ ι h H xs ds Q R rs p => ?_⟩
  rcases hm ds h with e | e
  · rw [e] at p; exact .inl (kr σ ι h H xs ds Q R rs p)
  · rw [e] at p; exact .inr (kq σ ι h H xs ds Q R rs p)
def dlenF : FA := fa1 fun d h => asRef d fun m => onSome (dictD h m) fun kvs => .ok (.int kvs.length) h
theorem call_lenN : CallR Z.X (.builtin "len") (fun xs H Q => ∃ a ks, xs = [V.ref a] ∧ NDr Z.X.K Z.X.w H a ks ∧ Q (.int ks.length) H) := by
  intro pins s σ H xs us Q I r h
  obtain ⟨a, ks, rfl, nd, q⟩ := h
  obtain ⟨u, rfl, ru⟩ := vals1 r
  cases ru
  obtain ⟨xs, r, d, z, hsys, hx⟩ := nd.ex I
  exact len_ok hx hsys d fun t tk => ⟨.int ks.length, H, I.tok _, ⟨t, by rw [Paired.length r]⟩, q⟩
theorem ck_dlen (hw : Z.cA.w = Z.X.w) : CallK Z (.builtin "len") dlenF := ⟨_, call_lenN, fun σ ι h H xs ds Q R rs p => by
  obtain ⟨d, rfl, p⟩ := p.fa1
  obtain ⟨x, rfl, r⟩ := wit rs
  obtain ⟨m, rfl, p⟩ := p.asRef
  obtain ⟨kvs, e, p⟩ := p.onSome
  cases r
  obtain ⟨ks, nd, rk⟩ := dictD_rep hw R e
  exact ⟨_, ks, rfl, nd, by rw [rk.len]; exact RPost.ok R p _ .int⟩⟩
def lenA : FA := fun ds h => match ds with
  | [.ref m] => match h[m]? with
    | some (.dict _) => dlenF ds h
    | some (.lkd _) => dlenF ds h
    | _ => lenF ds h
  | _ => lenF ds h
theorem ck_lenA (hw : Z.cA.w = Z.X.w) : CallK Z (.builtin "len") lenA := .alt ck_len (ck_dlen hw) fun x h => by
  unfold lenA
  split
  · split
    · exact .inr rfl
    · exact .inr rfl
    · exact .inl rfl
  · exact .inl rfl
/-! ### d.get -/
section
variable {o e f : Expr} {apos cpos : Pos} {fo fa fb : SE}
theorem NDr.atType {X : Cx} {pins : List (Addr × Obj)} {σ : L2.St} {H : Hp} {s : Shared} {a : Addr} {ks : List NEnt} (I : Inv X pins σ H s) (nd : NDr X.K X.w H a ks) : s.TypeIs (.ref a) "dict" ∧ ∀ b, Value.ref a = .ref b → ∃ ob, s.heap.get? b = some ob ∧ ob.dict = none := by
  obtain ⟨xs, _, d, _⟩ := nd.ex I
  exact ⟨d.typeIs, d.noDict⟩
def sGet1 (fo fa : SE) : SE := fun env h => (fo env h).bind fun x h1 => asRef x fun m => onSome (dictD h1 m) fun _ => (fa env h1).bind fun y h2 => onSome (dictD h2 m) fun kvs => onSome (keyD y) fun _ => .ok ((dget kvs y).getD .non) h2
theorem ke_get1 (hw : Z.cA.w = Z.X.w) (hu : Z.X.A.units + 10 < cLine) (ho : KE Z o fo) (he : KE Z e fa) (m : M1 Z.X o "get" apos e cpos) : KE Z (.Call (.Attribute o "get" apos) [e] [] cpos) (sGet1 fo fa) := by
  refine ⟨⟨fun pins s σ H Q I ⟨ι, env, h, R, V, q⟩ => ?_⟩⟩
  refine wpAny_Call_method m.base m.few m.line PySem.F.plainAttrs_dict PySem.F.slot_dict_get PySem.F.type_dict_get (thn (ho.pe.run pins s σ H (fun v H1 => ∃ ι1 h1 d, HRep Z.X.K Z.cA ι1 H1 h1 ∧ VRep Z.X.K ι1 h1.length H1 σ env ∧ Rep Z.X.K ι1 h1.length H1 v d ∧
      RPost Z.X.K Z.cA Z.W σ ι1 h1 H1 (asRef d fun m => onSome (dictD h1 m) fun _ => (fa env h1).bind fun y h2 => onSome (dictD h2 m) fun kvs => onSome (keyD y) fun _ => .ok ((dget kvs y).getD .non) h2)
        fun d h' ι' H' => ∀ v, Rep Z.X.K ι' h'.length H' v d → Q v H') I
      ⟨ι, env, h, R, V, (RPost.bind q).mono fun d h1 ι1 H1 S1 R1 p1 v r => ⟨ι1, h1, d, R1, V.step S1 R, r, p1⟩⟩) fun u s1 ⟨v, H1, I1, rv, ι1, h1, d, R1, V1, rd, p1⟩ => ?_)
  obtain ⟨r, rfl, p1⟩ := p1.asRef
  obtain ⟨kvs, ed, p1⟩ := p1.onSome
  cases rd with
  | ref hlt =>
    obtain rfl : u = Value.ref (ι1 r) := rv
    obtain ⟨ks, nd, _⟩ := dictD_rep hw R1 ed
    obtain ⟨t1, t2⟩ := nd.atType I1
    refine ⟨t1, t2, ?_⟩
    rw [m.trees]
    refine Calls.callWith_builtin rfl (Calls.evalArgs_plain (Calls.spliced_cons (thn (he.pe.run pins s1 σ H1 (fun y H2 => ∃ ι2 h2 dy, HRep Z.X.K Z.cA ι2 H2 h2 ∧ ι2 r = ι1 r ∧ Rep Z.X.K ι2 h2.length H2 y dy ∧
        RPost Z.X.K Z.cA Z.W σ ι2 h2 H2 (onSome (dictD h2 r) fun kvs => onSome (keyD dy) fun _ => .ok ((dget kvs dy).getD .non) h2) fun d h' ι' H' => ∀ v, Rep Z.X.K ι' h'.length H' v d → Q v H') I1
        ⟨ι1, env, h1, R1, V1, (RPost.bind p1).mono fun dy h2 ι2 H2 S2 R2 p2 y ry => ⟨ι2, h2, dy, R2, S2.eq r hlt, ry, p2⟩⟩) fun iv s2 ⟨y, H2, I2, ry, ι2, h2, dy, R2, en, ryd, p2⟩ => Calls.spliced_nil ?_)))
    obtain ⟨kvs2, ed2, p2⟩ := p2.onSome
    obtain ⟨k, ek, p2⟩ := p2.onSome
    obtain ⟨o2, g, q2⟩ := nget_of hw R2 ed2 ryd (by rw [ek]; rfl)
    obtain ⟨ks2, k2, nd2, nv, hd, eo⟩ := g
    rw [en] at nd2
    obtain ⟨xs, rr2, d2, z, hsys, _⟩ := nd2.ex I2
    refine get1_ok hu (nv_is I2 nv ry) hd hsys d2 fun tk => ⟨o2.getD .non, H2, I2.tok _, ?_, ?_⟩
    · rw [eo]
      exact (EVs.at rr2 k2).getD rfl
    · cases c : dget kvs2 dy with
      | none =>
        rw [c] at q2 p2
        rw [q2]
        exact RPost.ok R2 p2 _ .non
      | some d =>
        rw [c] at q2 p2
        obtain ⟨v, ev, rv⟩ := q2
        rw [ev]
        exact RPost.ok R2 p2 _ rv
end
end
end Kf
end
section
set_option maxHeartbeats 4000000
/-! Kf: the top's facts in bundles, short words, a law's end. -/
namespace Kf
open PySem PySem.Spec L2
/-- what stays the same through a whole law -/
structure Gx where
  P : Program
  w : World
  K : PySem.W.Frag
  mg : Str → Option Value
  base : Heap
  cA : CA
  hcw : cA.w = w
/-- a body's surroundings stand in those of the law -/
structure Kx.In (Z : Kx) (G : Gx) (k : Nat) : Prop where
  P : Z.X.prog = G.P
  w : Z.X.w = G.w
  K : Z.X.K = G.K
  mg : Z.X.mg = G.mg
  base : Z.X.base = G.base
  cA : Z.cA = G.cA
  room : RoomG k Z.X.A
  tk : Takes Z.X Z.W
  ow : PassesOwn (model Z.X.prog Z.X.w) Z.X.A Z.X.env Z.X.xe
  cm : Z.X.calm = true
theorem Kx.In.hu {Z : Kx} {G : Gx} {k : Nat} (i : Z.In G k) : Z.X.A.units + 65 < cLine := by have := i.room.rm.un; omega
theorem Kx.In.hu64 {Z : Kx} {G : Gx} {k : Nat} (i : Z.In G k) : Z.X.A.units + 64 < cLine := by have := i.room.rm.un; omega
theorem Kx.In.hw {Z : Kx} {G : Gx} {k : Nat} (i : Z.In G k) : Z.cA.w = Z.X.w := by rw [i.cA, i.w]; exact G.hcw
theorem Kx.In.hu10 {Z : Kx} {G : Gx} {k : Nat} (i : Z.In G k) : Z.X.A.units + 10 < cLine := by have := i.room.rm.un; omega
theorem Kx.In.hu1 {Z : Kx} {G : Gx} {k : Nat} (i : Z.In G k) : Z.X.A.units + 1 < cLine := by have := i.room.rm.un; omega
theorem Kx.In.blk {Z : Kx} {G : Gx} {k : Nat} (i : Z.In G k) (s : Shared) (H : Hp) (scope : Scope) (C : Addr) (cl : List (Str × Addr)) (fp : List Addr) : (Z.blk s H scope C cl fp).In G k := ⟨i.P, i.w, i.K, i.mg, i.base, i.cA, i.room, takes0, PassesOwn.never, i.cm⟩
/-- a def of the module, ready to be called: its level, how many parameters, its reading, the defaults that fill up -/
structure CF (G : Gx) (x : Str) (k n : Nat) (M : FA) (dds : List D) : Prop where
  ex : ∃ (f : Addr) (fd : FuncData) (ps : List Str) (ds : List Value) (dvs : List V), G.mg x = some (.ref f) ∧ PySem.W.keepIn G.K (.ref f) = true ∧ FnG G.P G.w G.K G.mg G.base (L2.CX G.P G.w) k f fd ps (spOf G.K G.cA n M) ∧
    Binds G.K fd ps ds ∧ Vals dvs ds ∧ ∀ ι n H, Reps G.K ι n H dvs dds
/-- a class of the module, ready to be made -/
structure CM (G : Gx) (x : Str) (c : String) (k n : Nat) (M : FA) (dds : List D) : Prop where
  ex : ∃ (f : Addr) (fd : FuncData) (ps : List Str) (ds : List Value) (dvs : List V), G.mg x = some (.ref (G.cA c)) ∧ Mk G.K (G.cA c) f ∧ FnG G.P G.w G.K G.mg G.base (L2.CX G.P G.w) k f fd ps (spOf G.K G.cA n M) ∧
    Binds G.K fd ps ds ∧ Vals dvs ds ∧ ∀ ι n H, Reps G.K ι n H dvs dds
/-- a method of a class -/
structure CMeth (G : Gx) (m : Str) (c : String) (k n : Nat) (M : FA) (dds : List D) : Prop where
  ex : ∃ (f : Addr) (fd : FuncData) (ps : List Str) (ds : List Value) (dvs : List V), Cls G.K (G.cA c) ∧ Meth G.K (G.cA c) m f ∧ FnG G.P G.w G.K G.mg G.base (L2.CX G.P G.w) k f fd ps (spOf G.K G.cA n M) ∧
    Binds G.K fd ps ds ∧ Vals dvs ds ∧ ∀ ι n H, Reps G.K ι n H dvs dds
section
variable {Z : Kx} {G : Gx} {j k n : Nat} {x : Str} {c : String} {M : FA} {dds : List D} {p pos apos : Pos} {e o : Expr} {es : List Expr} {a : SA} {fo : SE}
theorem kc {i : Z.In G j} (F : CF G x k n M dds) (hj : k ≤ j) (hg : Gl Z.X x) (ha : KA Z (e :: es) a) (hdb : (x == ("__debug__" : Str)) = false := by decide)
    (he : starEach (e :: es) Z.X.env = (false, eval e Z.X.env) :: starEach es Z.X.env := by rfl) (hpl : (backTo pos (starEach es Z.X.env)).any (·.1) = false := by rfl) : KE Z (.Call (.Name x p) (e :: es) [] pos) (sFn n M dds a) := by
  obtain ⟨X, cA, W⟩ := Z
  obtain ⟨P, w, K, mg, base, cA', hcw⟩ := G
  obtain ⟨h1, h2, h3, h4, h5, h6, room, tk, ow, cm⟩ := i
  obtain ⟨f, fd, ps, ds, dvs, g1, g2, g3, g4, g5, g6⟩ := F.ex
  dsimp only at *
  subst h1 h2 h3 h4 h5 h6
  exact ke_call g3 (room.mono hj) hg g1 g2 g4 g5 g6 tk ha hdb he hpl
theorem kc0 {i : Z.In G j} (F : CF G x k n M dds) (hj : k ≤ j) (hg : Gl Z.X x) (hdb : (x == ("__debug__" : Str)) = false := by decide) : KE Z (.Call (.Name x p) [] [] pos) (sFn n M dds sNil) := by
  obtain ⟨X, cA, W⟩ := Z
  obtain ⟨P, w, K, mg, base, cA', hcw⟩ := G
  obtain ⟨h1, h2, h3, h4, h5, h6, room, tk, ow, cm⟩ := i
  obtain ⟨f, fd, ps, ds, dvs, g1, g2, g3, g4, g5, g6⟩ := F.ex
  dsimp only at *
  subst h1 h2 h3 h4 h5 h6
  exact ke_call0 g3 (room.mono hj) hg g1 g2 g4 g5 g6 tk hdb
theorem km {i : Z.In G j} (F : CM G x c k n M dds) (hj : k + 1 ≤ j) (hg : Gl Z.X x) (ha : KA Z (e :: es) a) (hdb : (x == ("__debug__" : Str)) = false := by decide)
    (he : starEach (e :: es) Z.X.env = (false, eval e Z.X.env) :: starEach es Z.X.env := by rfl) (hpl : (backTo pos (starEach es Z.X.env)).any (·.1) = false := by rfl) : KE Z (.Call (.Name x p) (e :: es) [] pos) (sNewI c n M dds a) := by
  obtain ⟨X, cA, W⟩ := Z
  obtain ⟨P, w, K, mg, base, cA', hcw⟩ := G
  obtain ⟨h1, h2, h3, h4, h5, h6, room, tk, ow, cm⟩ := i
  obtain ⟨f, fd, ps, ds, dvs, g1, g2, g3, g4, g5, g6⟩ := F.ex
  dsimp only at *
  subst h1 h2 h3 h4 h5 h6
  exact ke_make g2 g3 (room.mono hj) hg g1 g4 g5 g6 tk ha hdb he hpl
theorem km0 {i : Z.In G j} (F : CM G x c k n M dds) (hj : k + 1 ≤ j) (hg : Gl Z.X x) (hdb : (x == ("__debug__" : Str)) = false := by decide) : KE Z (.Call (.Name x p) [] [] pos) (sNewI c n M dds sNil) := by
  obtain ⟨X, cA, W⟩ := Z
  obtain ⟨P, w, K, mg, base, cA', hcw⟩ := G
  obtain ⟨h1, h2, h3, h4, h5, h6, room, tk, ow, cm⟩ := i
  obtain ⟨f, fd, ps, ds, dvs, g1, g2, g3, g4, g5, g6⟩ := F.ex
  dsimp only at *
  subst h1 h2 h3 h4 h5 h6
  exact ke_make0 g2 g3 (room.mono hj) hg g1 g4 g5 g6 tk hdb
/-- methods by the classes that have them -/
def tabM (l : List (String × (Nat × FA × List D))) : MT := fun c => l.lookup c
inductive CMeths (G : Gx) (j : Nat) (m : Str) : List (String × (Nat × FA × List D)) → Prop where
  | nil : CMeths G j m []
  | cons {c : String} {k n : Nat} {M : FA} {dds : List D} {l : List (String × (Nat × FA × List D))} : CMeth G m c k n M dds → k ≤ j → CMeths G j m l → CMeths G j m ((c, n, M, dds) :: l)
theorem CMeths.at {m : Str} {l : List (String × (Nat × FA × List D))} (h : CMeths G j m l) {c : String} {n : Nat} {M : FA} {dds : List D} (e : l.lookup c = some (n, M, dds)) : ∃ k, k ≤ j ∧ CMeth G m c k n M dds := by
  induction h with
  | nil => cases e
  | @cons c' k n' M' dds' l h hj _ ih =>
    rw [List.lookup_cons] at e
    cases q : c == c' with
    | true =>
      rw [q] at e
      cases e
      have := eq_of_beq q
      subst this
      exact ⟨k, hj, h⟩
    | false => rw [q] at e; exact ih e
theorem mt_of {i : Z.In G j} {m : Str} {l : List (String × (Nat × FA × List D))} (h : CMeths G j m l) : MethT Z m (tabM l) := fun c n M dds e => by
  obtain ⟨k, hk, hm⟩ := h.at e
  obtain ⟨X, cA, W⟩ := Z
  obtain ⟨P, w, K, mg, base, cA', hcw⟩ := G
  obtain ⟨h1, h2, h3, h4, h5, h6, room, tk, ow, cm⟩ := i
  obtain ⟨f, fd, ps, ds, dvs, g1, g2, g3, g4, g5, g6⟩ := hm.ex
  dsimp only at *
  subst h1 h2 h3 h4 h5 h6
  exact ⟨k, f, fd, ps, dvs, ds, g1, g2, g3, room.mono hk, g4, g5, g6⟩
theorem ks_meth {i : Z.In G j} {mm : String} {l : List (String × (Nat × FA × List D))} {pl : Sem Bool} (ho : KE Z o fo) (h : CMeths G j (Str.ofString mm) l) (ha : KA Z (e :: es) a)
    (hst : starEach (e :: es) Z.X.env = (false, eval e Z.X.env) :: starEach es Z.X.env := by rfl) (hpl : (backTo pos (starEach es Z.X.env)).any (·.1) = false := by rfl)
    (ht : eval (.Call (.Attribute o (Str.ofString mm) apos) (e :: es) [] pos) Z.X.env = (do
      let ov ← eval o Z.X.env; standAt apos.atName
      let (g, first) ← holding [ov] (getMethod ov (Str.ofString mm) pl); callWith pos g first (backTo pos (starEach (e :: es) Z.X.env)) (backToKw pos (keywordEach [] Z.X.env))) := by rfl) :
    KE Z (.Call (.Attribute o (Str.ofString mm) apos) (e :: es) [] pos) (sMeth mm (tabM l) fo a) := ke_meth ho (mt_of (i := i) h) i.tk ha hst hpl ht
theorem ks_meth0 {i : Z.In G j} {mm : String} {l : List (String × (Nat × FA × List D))} {pl : Sem Bool} (ho : KE Z o fo) (h : CMeths G j (Str.ofString mm) l)
    (ht : eval (.Call (.Attribute o (Str.ofString mm) apos) [] [] pos) Z.X.env = (do
      let ov ← eval o Z.X.env; standAt apos.atName
      let (g, first) ← holding [ov] (getMethod ov (Str.ofString mm) pl); callWith pos g first (backTo pos (starEach [] Z.X.env)) (backToKw pos (keywordEach [] Z.X.env))) := by rfl) :
    KE Z (.Call (.Attribute o (Str.ofString mm) apos) [] [] pos) (sMeth mm (tabM l) fo sNil) := ke_meth0 ho (mt_of (i := i) h) i.tk ht
end
/-! ### a def of the text -/
/-- a def (or method) as the top leaves it, with its defaults -/
structure GF (G : Gx) (x qual : Str) (st : Stmt) (f : Addr) (fd : FuncData) (ps : List Str) (ds : List Value) : Prop where
  F : Fun G.K x qual st f fd
  b : Binds G.K fd ps ds
abbrev Gx.kx (G : Gx) (N : List Str) (qual : Str) (sc : Scope) (f : Addr) (cdv : Value) (A : Around) (outer : List Env) (s : Shared) (H : Hp) (E : XK) : Kx :=
  ⟨cxOf (L2.CX G.P G.w) G.P G.w G.K G.mg G.base N qual sc f cdv A outer s H E, G.cA, fun cls d _ H => E cls d H⟩
theorem kx_in {G : Gx} {N : List Str} {qual : Str} {sc : Scope} {f : Addr} {cdv : Value} {A : Around} {outer : List Env} {s : Shared} {H : Hp} {E : XK} {k : Nat} (hr : RoomG k (A.deeper (PyProof.Rows.envOfC qual sc s.heap.objs.size f cdv))) :
    (G.kx N qual sc f cdv A outer s H E).In G k := ⟨rfl, rfl, rfl, rfl, rfl, rfl, hr, takes_of rfl rfl rfl rfl, passes_of rfl, rfl⟩
theorem fn_of' {G : Gx} {x qual : Str} {st : Stmt} {f : Addr} {fd : FuncData} {N ps : List Str} {k : Nat} {g : SS} (F : Fun G.K x qual st f fd) (S : FnScope N ps (defScope st))
    (hbody : ∀ (cdv : Value) (A : Around) (outer : List Env) (s : Shared) (H : Hp) (E : XK), (G.kx N qual (defScope st) f cdv A outer s H E).In G k → KSs (G.kx N qual (defScope st) f cdv A outer s H E) (defBody st) g) :
    FnG G.P G.w G.K G.mg G.base (L2.CX G.P G.w) (k + 1) f fd ps (spOf G.K G.cA ps.length (defM N.length g)) := okM F S fun cdv A outer s H E hr => hbody cdv A outer s H E (kx_in hr)
/-- the end of a law -/
theorem law_sp {K : PySem.W.Frag} {cA : CA} {M : FA} {n : Nat} (h : ∀ ns : List Int, ns.length ≤ n → ∃ h', M [.fls (ns.map D.int)] [] = .ok (.bl true) h') (H : Hp) (a : Addr) (ns : List Int) (hl : ns.length ≤ n) (hO : Only H) (hS : SqL K H a (ns.map V.int)) :
    spOf K cA 1 M [.ref a] H (fun v _ => v = .bl true) fun _ _ _ => False := by
  refine ⟨rfl, fun _ => 0, [], [.fls (ns.map D.int)], ⟨fun m o e => by simp at e, fun m k hm _ _ => absurd hm (Nat.not_lt_zero _)⟩, .cons (.fls (xs := ns.map V.int) ?_ ?_) .nil, ?_⟩
  · rcases hS with (e | ⟨o, e⟩) | q
    · rcases hO a with z | ⟨o, xs, z⟩ <;> rw [z] at e <;> cases e
    · exact .inl ⟨o, e⟩
    · exact .inr q
  · clear hl hS
    induction ns with
    | nil => exact .nil
    | cons _ _ ih => exact .cons .int ih
  · obtain ⟨h', e⟩ := h ns hl
    rw [e]
    exact fun ι' H' _ _ v r => by cases r; rfl
end Kf
end
section
set_option maxHeartbeats 4000000
/-! Kf: more rules: chains, values of and, or, not; pairs stored at once; lists joined; built-ins over new lists. -/
namespace Kf
open PySem PySem.Spec L2
section
variable {Z : Kx}
theorem kv (i : Nat) {x : Str} {pos : Pos} (hN : Z.X.N[i]? = some x := by rfl) (hv : Vis Z.X.env.scope x := by first | exact Or.inl rfl | exact Or.inr (Or.inl rfl) | exact Or.inr (Or.inr rfl)) (hd : (x == ("__debug__" : Str)) = false := by decide)
    (hcd : (x == ("__classdict__" : Str)) = false := by decide) : KE Z (.Name x pos) (sVar i) := ke_var hN hv hd hcd
theorem gn (i : Nat) {x : Str} {pos : Pos} (hN : Z.X.N.Nodup) (hi : Z.X.N[i]? = some x := by rfl) (hx : Loc Z.X.env.scope x := by first | exact Or.inl rfl | exact Or.inr rfl)
    (hf : Z.X.fn x = true ∨ Z.X.env.scope.names.lookup x = some .local := by first | exact .inl rfl | exact .inr rfl) : KG Z (.Name x pos) (gN i) := kg_name hN hi hx hf
theorem gw (i : Nat) {x : Str} {pos : Pos} {vs : List Nat} (hN : Z.X.N.Nodup) (hv : i ∈ vs := by decide) (hi : Z.X.N[i]? = some x := by rfl) (hx : Loc Z.X.env.scope x := by first | exact Or.inl rfl | exact Or.inr rfl)
    (hf : Z.X.fn x = true ∨ Z.X.env.scope.names.lookup x = some .local := by first | exact .inl rfl | exact .inr rfl) : KGw Z (.Name x pos) (gN i) vs := kgw_name hv hN hi hx hf
/-! ### values of tests -/
section
variable {a b c : Expr} {rest : List Expr} {f g k : SE} {pos : Pos}
def sAndV (f g : SE) : SE := fun env h => (f env h).bind fun d h1 => asBl d fun b => if b = true then g env h1 else .ok (.bl false) h1
def sOrV (f g : SE) : SE := fun env h => (f env h).bind fun d h1 => asBl d fun b => if b = true then .ok (.bl true) h1 else g env h1
def sNotV (f : SE) : SE := fun env h => (f env h).bind fun d h1 => asBl d fun b => .ok (.bl (!b)) h1
theorem ke_one {op : BoolOp} (h : KE Z a f) : KE Z (.BoolOp op [a] pos) f := ⟨pe_one h.pe⟩
theorem ke_and (ha : KE Z a f) (hb : KE Z (.BoolOp .And (b :: rest) pos) g) : KE Z (.BoolOp .And (a :: b :: rest) pos) (sAndV f g) :=
  ⟨(pe_and ha.pe hb.pe).weak fun σ H Q ⟨ι, env, h, R, V, p⟩ => ⟨ι, env, h, R, V, (RPost.bind p).mono fun d h1 ι1 H1 S1 R1 p1 v r => by
    obtain ⟨t, e0, p2⟩ := p1.asBl
    subst e0
    cases r
    refine ⟨t, rfl, ?_⟩
    cases t with
    | true => rw [if_pos rfl] at p2 ⊢; exact ⟨ι1, env, h1, R1, V.step S1 R, p2⟩
    | false => rw [if_neg Bool.false_ne_true] at p2 ⊢; exact RPost.ok R1 p2 _ .bl⟩⟩
theorem ke_or (ha : KE Z a f) (hb : KE Z (.BoolOp .Or (b :: rest) pos) g) : KE Z (.BoolOp .Or (a :: b :: rest) pos) (sOrV f g) :=
  ⟨(pe_or ha.pe hb.pe).weak fun σ H Q ⟨ι, env, h, R, V, p⟩ => ⟨ι, env, h, R, V, (RPost.bind p).mono fun d h1 ι1 H1 S1 R1 p1 v r => by
    obtain ⟨t, e0, p2⟩ := p1.asBl
    subst e0
    cases r
    refine ⟨t, rfl, ?_⟩
    cases t with
    | false => rw [if_neg Bool.false_ne_true] at p2 ⊢; exact ⟨ι1, env, h1, R1, V.step S1 R, p2⟩
    | true => rw [if_pos rfl] at p2 ⊢; exact RPost.ok R1 p2 _ .bl⟩⟩
theorem ke_not (ha : KE Z a f) : KE Z (.UnaryOp .Not a pos) (sNotV f) :=
  ⟨(pe_not ha.pe).weak fun σ H Q ⟨ι, env, h, R, V, p⟩ => ⟨ι, env, h, R, V, (RPost.bind p).mono fun d h1 ι1 H1 S1 R1 p1 v r => by
    obtain ⟨t, rfl, p1⟩ := p1.asBl
    cases r
    exact ⟨t, rfl, RPost.ok R1 p1 _ .bl⟩⟩⟩
def sNeg (f : SE) : SE := fun env h => (f env h).bind fun d h1 => asInt d fun i => .ok (.int (-i)) h1
theorem ke_neg (ha : KE Z a f) : KE Z (.UnaryOp .USub a pos) (sNeg f) :=
  ⟨(pe_un un_neg ha.pe).weak fun σ H Q ⟨ι, env, h, R, V, p⟩ => ⟨ι, env, h, R, V, (RPost.bind p).mono fun d h1 ι1 H1 S1 R1 p1 v r => by
    obtain ⟨t, rfl, p1⟩ := p1.asInt
    cases r
    exact ⟨t, rfl, RPost.ok R1 p1 _ .int⟩⟩⟩
def sChain (F F' : F2) (f g k : SE) : SE := fun env h => (f env h).bind fun x h1 => (g env h1).bind fun y h2 => (F x y h2).bind fun t h3 => asBl t fun b => if b = true then (k env h3).bind fun z h4 => F' y z h4 else .ok (.bl false) h3
theorem ke_chain {op op' : CmpOp} {F F' : F2} (ho : OpK Z (compareOp op) F) (ho' : OpK Z (compareOp op') F') (ha : KE Z a f) (hb : KE Z b g) (hc : KE Z c k)
    (hm : lastMarks [op, op'] [b, c] = false := by with_unfolding_all rfl) : KE Z (.Compare a [op, op'] [b, c] pos) (sChain F F' f g k) := by
  obtain ⟨r, hr, kr⟩ := ho
  obtain ⟨q, hq, kq⟩ := ho'
  exact ⟨(pe_chain hr hq ha.pe hb.pe hc.pe hm).weak fun σ H Q ⟨ι, env, h, R, V, p⟩ => ⟨ι, env, h, R, V, (RPost.bind p).mono fun d h1 ι1 H1 S1 R1 p1 v rx =>
    ⟨ι1, env, h1, R1, V.step S1 R, (RPost.bind p1).mono fun e h2 ι2 H2 S2 R2 p2 u ry => kr σ ι2 h2 H2 v u d e _ R2 (rx.step S2 R1) ry ((RPost.bind p2).mono fun t h3 ι3 H3 S3 R3 p3 z rz => by
      obtain ⟨b, e0, p5⟩ := p3.asBl
      subst e0
      cases rz
      refine ⟨b, rfl, ?_⟩
      cases b with
      | true =>
        rw [if_pos rfl] at p5 ⊢
        exact ⟨ι3, env, h3, R3, V.step (S1.trans (S2.trans S3)) R, (RPost.bind p5).mono fun d4 h4 ι4 H4 S4 R4 p4 w rw => kq σ ι4 h4 H4 u w e d4 Q R4 (ry.step (S3.trans S4) R2) rw p4⟩
      | false => rw [if_neg Bool.false_ne_true] at p5 ⊢; exact RPost.ok R3 p5 _ .bl)⟩⟩⟩
end
theorem test_of {f : SE} {t : TE} {σ : L2.St} {H : Hp} {Q : Bool → Hp → Prop} (k : ∀ σ H Q, tD Z f σ H Q → t σ H Q) (q : tDB Z (sTest f) σ H Q) : tTest t σ H Q := by
  obtain ⟨ι, env, h, R, V, p⟩ := q
  exact k σ H _ ⟨ι, env, h, R, V, (RPost.bind p).mono fun d h1 ι1 H1 S1 R1 p1 v r => by
    cases r with
    | bl => exact ⟨_, rfl, RPost.ok R1 p1⟩
    | non => exact p1.elim
    | int => exact p1.elim
    | str => exact p1.elim
    | raw => exact p1.elim
    | ztp _ _ => exact p1.elim
    | tup _ _ => exact p1.elim
    | ref _ => exact p1.elim
    | xc0 => exact p1.elim
    | xc _ _ => exact p1.elim
    | fls _ _ => exact p1.elim⟩
theorem kb_cmp {op : CmpOp} {F : F2} {a b : Expr} {f g : SE} {pos : Pos} (ho : OpK Z (compareOp op) F) (ha : KE Z a f) (hb : KE Z b g) (hm : behindInMarks op b = false := by first | exact nomark _ | rfl) : KB Z (.Compare a [op] [b] pos) (sTest (s2 F f g)) := by
  obtain ⟨r, hr, k⟩ := ho
  exact ⟨(pt_cmpR hr ha.pe hb.pe hm).weak fun σ H Q q => test_of (t2_of k) q⟩
theorem chain_of {op op' : CmpOp} {F F' : F2} {a b c : Expr} {f g k : SE} {pos : Pos} {r r' : R2}
    (kr : ∀ (σ : L2.St) (ι : Nat → Addr) (h : Hd) (H : Hp) (x y : V) (dx dy : D) (Q : VK), HRep Z.X.K Z.cA ι H h → Rep Z.X.K ι h.length H x dx → Rep Z.X.K ι h.length H y dy → RPost Z.X.K Z.cA Z.W σ ι h H (F dx dy h) (fun d h' ι' H' => ∀ v, Rep Z.X.K ι' h'.length H' v d → Q v H') → r x y H Q)
    (kq : ∀ (σ : L2.St) (ι : Nat → Addr) (h : Hd) (H : Hp) (x y : V) (dx dy : D) (Q : VK), HRep Z.X.K Z.cA ι H h → Rep Z.X.K ι h.length H x dx → Rep Z.X.K ι h.length H y dy → RPost Z.X.K Z.cA Z.W σ ι h H (F' dx dy h) (fun d h' ι' H' => ∀ v, Rep Z.X.K ι' h'.length H' v d → Q v H') → r' x y H Q)
    (σ : L2.St) (H : Hp) (Q : VK) (z : tD Z (sChain F F' f g k) σ H Q) : tChain r r' (tD Z f) (tD Z g) (tD Z k) σ H Q := by
  obtain ⟨ι, env, h, R, V, p⟩ := z
  exact ⟨ι, env, h, R, V, (RPost.bind p).mono fun d h1 ι1 H1 S1 R1 p1 v rx =>
    ⟨ι1, env, h1, R1, V.step S1 R, (RPost.bind p1).mono fun e h2 ι2 H2 S2 R2 p2 u ry => kr σ ι2 h2 H2 v u d e _ R2 (rx.step S2 R1) ry ((RPost.bind p2).mono fun t h3 ι3 H3 S3 R3 p3 z rz => by
      obtain ⟨b, e0, p5⟩ := p3.asBl
      subst e0
      cases rz
      refine ⟨b, rfl, ?_⟩
      cases b with
      | true =>
        rw [if_pos rfl] at p5 ⊢
        exact ⟨ι3, env, h3, R3, V.step (S1.trans (S2.trans S3)) R, (RPost.bind p5).mono fun d4 h4 ι4 H4 S4 R4 p4 w rw => kq σ ι4 h4 H4 u w e d4 Q R4 (ry.step (S3.trans S4) R2) rw p4⟩
      | false => rw [if_neg Bool.false_ne_true] at p5 ⊢; exact RPost.ok R3 p5 _ .bl)⟩⟩
theorem kb_chain {op op' : CmpOp} {F F' : F2} {a b c : Expr} {f g k : SE} {pos : Pos} (ho : OpK Z (compareOp op) F) (ho' : OpK Z (compareOp op') F') (ha : KE Z a f) (hb : KE Z b g) (hc : KE Z c k)
    (hm : lastMarks [op, op'] [b, c] = false := by with_unfolding_all rfl) : KB Z (.Compare a [op, op'] [b, c] pos) (sTest (sChain F F' f g k)) := by
  obtain ⟨r, hr, kr⟩ := ho
  obtain ⟨q, hq, kq⟩ := ho'
  exact ⟨(pt_chain hr hq ha.pe hb.pe hc.pe hm).weak fun σ H Q z => test_of (chain_of (op := op) (op' := op') (a := a) (b := b) (c := c) (pos := pos) kr kq) z⟩
/-! ### a, b = x, y -/
def sPar (is : List Nat) (a : SA) : SS := fun env h => (a env h).lift env fun ds h1 => if ds.length = is.length then .ok (.nx ((is.zip ds).foldl (fun e p => e.set p.1 (some p.2)) env)) h1 else .stuck
theorem ks_par2 {i j : Nat} {x y : Str} {a b : Expr} {f : SA} {px py pt pos : Pos} {kt k2 : Nat} {pt2 : Pos} (hc : Z.X.calm = true) (hN : Z.X.N.Nodup) (ha : KA Z [a, b] f) (hij : i ≠ j := by decide) (hi : Z.X.N[i]? = some x := by rfl) (hj : Z.X.N[j]? = some y := by rfl)
    (hx : Z.X.env.scope.names.lookup x = some .local := by rfl) (hy : Z.X.env.scope.names.lookup y = some .local := by rfl)
    (hw : swappedStores [.Tuple [.Name x px, .Name y py] kt pt] (.Tuple [a, b] k2 pt2) Z.X.env = pure (some [x, y]) := by rfl)
    (hs : swapsWithSole [.Tuple [.Name x px, .Name y py] kt pt] (.Tuple [a, b] k2 pt2) pos.line Z.X.env = pure false := by rfl) :
    KS Z (.Assign [.Tuple [.Name x px, .Name y py] kt pt] (.Tuple [a, b] k2 pt2) pos) (sPar [i, j] f) :=
  ⟨(ps_par hc hN hi hj hij hx hy ha.pa hw hs).weak fun Dd σ H ⟨ι, env, h, R, V, p⟩ => ⟨ι, env, h, R, V, (RsPost.of R V p).mono fun ds h1 ι1 H1 S1 R1 p1 vs rs => by
    match ds, rs, p1 with
    | [], _, p1 => exact p1.elim
    | [_], _, p1 => exact p1.elim
    | _ :: _ :: _ :: _, _, p1 => simp at p1; exact p1.elim
    | [d, e], rs, p1 =>
      obtain ⟨v, w, rfl, r1, r2⟩ := wit2 rs
      exact ⟨v, w, rfl, RsPost.fin (fl := .nx ((env.set i (some d)).set j (some e))) R1 p1 _ (((V.step S1 R).set r1).set r2)⟩⟩⟩
theorem ks_par3 {i j l : Nat} {x y z : Str} {a b c : Expr} {f : SA} {px py pz pt pos : Pos} {kt k2 : Nat} {pt2 : Pos} (hc : Z.X.calm = true) (hN : Z.X.N.Nodup) (ha : KA Z [a, b, c] f) (hij : i ≠ j := by decide) (hil : i ≠ l := by decide) (hjl : j ≠ l := by decide)
    (hi : Z.X.N[i]? = some x := by rfl) (hj : Z.X.N[j]? = some y := by rfl) (hl : Z.X.N[l]? = some z := by rfl)
    (hx : Z.X.env.scope.names.lookup x = some .local := by rfl) (hy : Z.X.env.scope.names.lookup y = some .local := by rfl) (hz : Z.X.env.scope.names.lookup z = some .local := by rfl)
    (hw : swappedStores [.Tuple [.Name x px, .Name y py, .Name z pz] kt pt] (.Tuple [a, b, c] k2 pt2) Z.X.env = pure (some [x, y, z]) := by rfl)
    (hs : swapsWithSole [.Tuple [.Name x px, .Name y py, .Name z pz] kt pt] (.Tuple [a, b, c] k2 pt2) pos.line Z.X.env = pure false := by rfl) :
    KS Z (.Assign [.Tuple [.Name x px, .Name y py, .Name z pz] kt pt] (.Tuple [a, b, c] k2 pt2) pos) (sPar [i, j, l] f) :=
  ⟨(ps_par3 hc hN hi hj hl hij hil hjl hx hy hz ha.pa hw hs).weak fun Dd σ H ⟨ι, env, h, R, V, p⟩ => ⟨ι, env, h, R, V, (RsPost.of R V p).mono fun ds h1 ι1 H1 S1 R1 p1 vs rs => by
    match ds, rs, p1 with
    | [], _, p1 => exact p1.elim
    | [_], _, p1 => exact p1.elim
    | [_, _], _, p1 => exact p1.elim
    | _ :: _ :: _ :: _ :: _, _, p1 => simp at p1; exact p1.elim
    | [d, e, u], rs, p1 =>
      cases rs with
      | cons r1 rs =>
        obtain ⟨v, w, rfl, r2, r3⟩ := wit2 rs
        exact ⟨_, v, w, rfl, RsPost.fin (fl := .nx (((env.set i (some d)).set j (some e)).set l (some u))) R1 p1 _ ((((V.step S1 R).set r1).set r2).set r3)⟩⟩⟩
/-! ### name += e -/
def sAug (i : Nat) (F : F2) (f : SE) : SS := fun env h => Res.lift (sVar i env h) env fun x h0 => (f env h0).lift env fun y h1 => (F x y h1).lift env fun z h2 => .ok (.nx (env.set i (some z))) h2
theorem ks_augI {i : Nat} {x : Str} {e : Expr} {f : SE} {pos pos' : Pos} (hN : Z.X.N.Nodup) (he : KE Z e f) (hi : Z.X.N[i]? = some x := by rfl) (hx : Loc Z.X.env.scope x := by first | exact Or.inl rfl | exact Or.inr rfl)
    (hf : Z.X.fn x = true ∨ Z.X.env.scope.names.lookup x = some .local := by first | exact .inl rfl | exact .inr rfl) : KS Z (.AugAssign (.Name x pos') .Add e pos) (sAug i (f2I yes2 fun i j => .int (i + j)) f) :=
  ⟨(ps_aug hN hi hx he.pe ip_add hf).weak fun Dd σ H ⟨ι, env, h, R, V, p⟩ => by
    unfold sAug sVar at p
    cases e : env[i]? with
    | none => rw [e] at p; exact p.elim
    | some o =>
      cases o with
      | none => rw [e] at p; exact p.elim
      | some d =>
        rw [e] at p
        have p : RsPost Z Dd ι h H ((f env h).lift env fun y h1 => (f2I yes2 (fun i j => D.int (i + j)) d y h1).lift env fun z h2 => .ok (.nx (env.set i (some z))) h2) := p
        obtain ⟨v, e1, r⟩ := V.var i d e
        refine ⟨v, e1, ι, env, h, R, V, (RsPost.of R V p).mono fun dy h1 ι1 H1 S1 R1 p1 y ry => ?_⟩
        cases r <;> cases ry <;> first | exact p1.elim | skip
        exact ⟨_, _, rfl, rfl, RsPost.fin R1 p1 _ ((V.step S1 R).set .int)⟩⟩
/-! ### lists joined, many times over -/
theorem alloc_post {σ : L2.St} {ι : Nat → Addr} {h : Hd} {H : Hp} {o : O} {ho : HO} {a : Addr} {Q : VK} (R : HRep Z.X.K Z.cA ι H h) (ha : H a = none) (r : ORep Z.X.K Z.cA ι h.length H a ho o)
    (p : RPost Z.X.K Z.cA Z.W σ ι h H (.ok (.ref h.length) (h ++ [o])) fun d h' ι' H' => ∀ v, Rep Z.X.K ι' h'.length H' v d → Q v H') : Q (.ref a) (upd H a ho) := by
  have e4 : Rep Z.X.K (more ι h.length a) (h ++ [o]).length (upd H a ho) (.ref (more ι h.length a h.length)) (.ref h.length) := .ref (by simp)
  rw [more_at] at e4
  exact p _ _ (Step.alloc R ha _ _) (R.alloc ha r) _ e4
def addL : F2 := fun x y h => asRef x fun m => asRef y fun k => onLst h m fun xs => onLst h k fun ys => guard' (xs.length + ys.length ≤ LIM) (.ok (.ref h.length) (h ++ [.lst (xs ++ ys)]))
theorem ko_addL : OpK Z (binaryOp .Add) addL := ⟨_, op_cat, fun σ ι h H x y dx dy Q R rx ry p => by
  obtain ⟨m, em, q1⟩ := p.asRef
  obtain ⟨k, ek, q2⟩ := q1.asRef
  obtain ⟨xs, e1, q3⟩ := q2.onLst
  obtain ⟨ys, e2, q4⟩ := q3.onLst
  obtain ⟨c, q5⟩ := q4.guard
  subst em ek
  cases rx
  cases ry
  obtain ⟨us, f1, r1, _⟩ := lst_at R e1
  obtain ⟨vs, f2, r2, _⟩ := lst_at R e2
  exact ⟨_, _, us, vs, rfl, rfl, f1, f2, by rw [r1.len, r2.len]; exact lim_le c, fun a ha => alloc_post R ha (.lst (r1.append r2)) q5⟩⟩
def addA : F2 := fun x y h => match x with
  | .ref _ => addL x y h
  | _ => addF x y h
theorem ko_plusA : OpK Z (binaryOp .Add) addA := .alt ko_plus ko_addL fun x y h => by cases x <;> simp [addA]
theorem Reps.rep {K : PySem.W.Frag} {ι : Nat → Addr} {n : Nat} {H : Hp} {vs : List V} {ds : List D} (r : Reps K ι n H vs ds) : ∀ k : Nat, Reps K ι n H (List.replicate k vs).flatten (List.replicate k ds).flatten
  | 0 => .nil
  | k + 1 => by
    rw [List.replicate_succ, List.replicate_succ, List.flatten_cons, List.flatten_cons]
    exact r.append (r.rep k)
def repL : F2 := fun x y h => asRef x fun m => asInt y fun k => onLst h m fun xs => guard' ((-9223372036854775808 ≤ k ∧ k < 9223372036854775808) ∧ xs.length * k.toNat ≤ LIM) (.ok (.ref h.length) (h ++ [.lst (List.replicate k.toNat xs).flatten]))
theorem ko_repL : OpK Z (binaryOp .Mult) repL := ⟨_, op_rep, fun σ ι h H x y dx dy Q R rx ry p => by
  obtain ⟨m, em, q1⟩ := p.asRef
  obtain ⟨k, ek, q2⟩ := q1.asInt
  obtain ⟨xs, e1, q3⟩ := q2.onLst
  obtain ⟨c, q5⟩ := q3.guard
  subst em ek
  cases rx
  cases ry
  obtain ⟨us, f1, r1, _⟩ := lst_at R e1
  have e63 : (2 : Int) ^ 63 = 9223372036854775808 := by decide
  exact ⟨_, k, us, rfl, rfl, f1, by rw [e63]; exact c.1.1, by rw [e63]; exact c.1.2, by rw [r1.len]; exact lim_le c.2, fun a ha => alloc_post R ha (.lst (r1.rep _)) q5⟩⟩
def mulF : F2 := f2I (fun i j => (decide (-(18446744073709551616) < i) && decide (i < 18446744073709551616)) || (decide (-(18446744073709551616) < j) && decide (j < 18446744073709551616))) fun i j => .int (i * j)
def mulA : F2 := fun x y h => match x with
  | .ref _ => repL x y h
  | _ => mulF x y h
theorem ko_times : OpK Z (binaryOp .Mult) mulA := .alt ko_mul ko_repL fun x y h => by cases x <;> simp [mulA, mulF]
/-! ### built-ins over a new list -/
def CallKN (Z : Kx) (f : Value) (F : List D → Hd → Res D) : Prop := ∃ r, CallR Z.X f r ∧ ∀ (σ : L2.St) (ι : Nat → Addr) (h : Hd) (H : Hp) (p : Addr) (xs : List V) (ds : List D) (Q : VK), HRep Z.X.K Z.cA ι H h → H p = some (.lst xs) → Reps Z.X.K ι h.length H xs ds →
  RPost Z.X.K Z.cA Z.W σ ι h H (F ds h) (fun d h' ι' H' => ∀ v, Rep Z.X.K ι' h'.length H' v d → Q v H') → r [.ref p] H Q
section
variable {x : Str} {p pos : Pos} {e : Expr} {a : SA} {F : List D → Hd → Res D} {id T : String}
def sCallN (F : List D → Hd → Res D) (a : SA) : SE := fun env h => (a env h).bind fun ds h1 => F ds h1
theorem ke_callBN (hc : CallKN Z (.builtin id) F) (hg : Gl Z.X x) (hm : Z.X.mg x = none) (hv : bootBuiltins x = some (.builtin id)) (hl : KL Z e a) (hn : x ≠ "__name__" := by decide) (hdb : (x == ("__debug__" : Str)) = false := by decide)
    (he : starEach [e] Z.X.env = (false, eval e Z.X.env) :: starEach [] Z.X.env := by rfl) (hpl : (backTo pos (starEach [] Z.X.env)).any (·.1) = false := by rfl) : KE Z (.Call (.Name x p) [e] [] pos) (sCallN F a) := by
  obtain ⟨r, hr, k⟩ := hc
  exact ⟨(pe_callB hr hg hm hv (pa_cons hl.pe pa_nil he) hn hdb he hpl).weak fun σ H Q ⟨ι, env, h, R, V, p⟩ => ⟨ι, env, h, R, V, (RPost.bind p).mono fun ds h1 ι1 H1 S1 R1 p1 b vs _ e2 _ rs => k σ ι1 h1 H1 b vs ds Q R1 e2 rs p1⟩⟩
theorem ke_callTN (hc : CallKN Z (.type T) F) (hg : Gl Z.X x) (hm : Z.X.mg x = none) (hv : bootBuiltins x = some (.type T)) (hl : KL Z e a) (hn : x ≠ "__name__" := by decide) (hdb : (x == ("__debug__" : Str)) = false := by decide)
    (he : starEach [e] Z.X.env = (false, eval e Z.X.env) :: starEach [] Z.X.env := by rfl) (hpl : (backTo pos (starEach [] Z.X.env)).any (·.1) = false := by rfl) : KE Z (.Call (.Name x p) [e] [] pos) (sCallN F a) := by
  obtain ⟨r, hr, k⟩ := hc
  exact ⟨(pe_callTy hr hg hm hv (pa_cons hl.pe pa_nil he) hn hdb he hpl).weak fun σ H Q ⟨ι, env, h, R, V, p⟩ => ⟨ι, env, h, R, V, (RPost.bind p).mono fun ds h1 ι1 H1 S1 R1 p1 b vs _ e2 _ rs => k σ ι1 h1 H1 b vs ds Q R1 e2 rs p1⟩⟩
end
def tupN : List D → Hd → Res D := fun ds h => .ok (.tup ds) h
theorem cn_tuple : CallKN Z (.type "tuple") tupN := ⟨_, call_tupleP, fun σ ι h H p xs ds Q R e rs q => ⟨p, xs, rfl, .inl ⟨.of e, made_post R rs q⟩⟩⟩
def lenN : List D → Hd → Res D := fun ds h => .ok (.int ds.length) h
theorem cn_len : CallKN Z (.builtin "len") lenN := ⟨_, call_len, fun σ ι h H p xs ds Q R e rs q => ⟨.ref p, xs.length, rfl, .inl ⟨xs, .of e, rfl⟩, by rw [rs.len]; exact RPost.ok R q _ .int⟩⟩
/-- all truth values | whole numbers -/
def blsD : List D → Option (List Bool)
  | [] => some []
  | .bl b :: ds => (blsD ds).map (b :: ·)
  | _ :: _ => none
def intsD : List D → Option (List Int)
  | [] => some []
  | .int b :: ds => (intsD ds).map (b :: ·)
  | _ :: _ => none
theorem bls_rep {K : PySem.W.Frag} {ι : Nat → Addr} {n : Nat} {H : Hp} : ∀ {vs : List V} {ds : List D} {bs : List Bool}, Reps K ι n H vs ds → blsD ds = some bs → vs = bs.map V.bl
  | _, _, _, .nil, e => by cases e; rfl
  | _, _, bs, .cons (d := d) r q, e => by
    cases r <;> simp [blsD] at e
    obtain ⟨cs, e1, e2⟩ := e
    subst e2
    rw [bls_rep q e1]; rfl
theorem ints_rep {K : PySem.W.Frag} {ι : Nat → Addr} {n : Nat} {H : Hp} : ∀ {vs : List V} {ds : List D} {bs : List Int}, Reps K ι n H vs ds → intsD ds = some bs → vs = bs.map V.int
  | _, _, _, .nil, e => by cases e; rfl
  | _, _, bs, .cons (d := d) r q, e => by
    cases r <;> simp [intsD] at e
    obtain ⟨cs, e1, e2⟩ := e
    subst e2
    rw [ints_rep q e1]; rfl
def allN : List D → Hd → Res D := fun ds h => onSome (blsD ds) fun bs => .ok (.bl (bs.all id)) h
def anyN : List D → Hd → Res D := fun ds h => onSome (blsD ds) fun bs => .ok (.bl (bs.any id)) h
def sumN : List D → Hd → Res D := fun ds h => onSome (intsD ds) fun bs => .ok (.int bs.sum) h
theorem cn_all (hc : Z.X.calm = true) : CallKN Z (.builtin "all") allN := ⟨_, cr_all hc, fun σ ι h H p xs ds Q R e rs q => by
  obtain ⟨bs, eb, q⟩ := q.onSome
  have := bls_rep rs eb
  subst this
  exact ⟨p, bs, rfl, .of e, RPost.ok R q _ .bl⟩⟩
theorem cn_any (hc : Z.X.calm = true) : CallKN Z (.builtin "any") anyN := ⟨_, cr_any hc, fun σ ι h H p xs ds Q R e rs q => by
  obtain ⟨bs, eb, q⟩ := q.onSome
  have := bls_rep rs eb
  subst this
  exact ⟨p, bs, rfl, .of e, RPost.ok R q _ .bl⟩⟩
theorem cn_sum (hc : Z.X.calm = true) : CallKN Z (.builtin "sum") sumN := ⟨_, cr_sum hc, fun σ ι h H p xs ds Q R e rs q => by
  obtain ⟨bs, eb, q⟩ := q.onSome
  have := ints_rep rs eb
  subst this
  exact ⟨p, bs, rfl, .of e, RPost.ok R q _ .int⟩⟩
/-- a slice, whatever it is of: of a list of ours a new one -/
def sSlA (f : SE) (l u : SO) : SE := fun env h => (f env h).bind fun d h1 => (l env h1).bind fun lo h2 => (u env h2).bind fun hi h3 => match d with
  | .tup ds => .ok (.tup (cutD ds lo hi)) h3
  | .fls ds => .ok (.ref h3.length) (h3 ++ [.lst (cutD ds lo hi)])
  | .ref m => onLst h3 m fun ds => .ok (.ref h3.length) (h3 ++ [.lst (cutD ds lo hi)])
  | _ => .stuck
theorem ke_sl {e : Expr} {lo hi : Option Expr} {f : SE} {l u : SO} {pos p2 : Pos} (he : KE Z e f) (hl : KO Z lo l) (hu : KO Z hi u) : KE Z (.Subscript e (.Slice lo hi none p2) pos) (sSlA f l u) :=
  ⟨(pe_slice (sl_tupP.or sl_list) he.pe hl.po hu.po).weak fun σ H Q ⟨ι, env, h, R, V, p⟩ => ⟨ι, env, h, R, V, (RPost.bind p).mono fun d h1 ι1 H1 S1 R1 p1 v r =>
    ⟨ι1, env, h1, R1, V.step S1 R, (RPost.bind p1).mono fun o1 h2 ι2 H2 S2 R2 p2 => ⟨ι2, env, h2, R2, (V.step S1 R).step S2 R1, (RPost.bind p2).mono fun o2 h3 ι3 H3 S3 R3 p3 => by
      have r3 := r.step (S2.trans S3) R1
      cases r3 with
      | @tup a xs ds q rs =>
        have p4 : RPost Z.X.K Z.cA Z.W σ ι3 h3 H3 (.ok (.tup (cutD ds o1 o2)) h3) fun d h' ι' H' => ∀ v, Rep Z.X.K ι' h'.length H' v d → Q v H' := p3
        refine .inl ⟨a, xs, rfl, q.sqt, fun hw => ?_, fun _ => made_post R3 (rs.cut o1 o2) p4⟩
        · have e : cutD ds o1 o2 = ds := by
            unfold cutD
            rw [rs.len] at hw
            rw [hw.1, hw.2]
            simp
          rw [e] at p4
          exact RPost.ok R3 p4 _ (.tup q rs)
      | @ref m hlt =>
        have p4 : RPost Z.X.K Z.cA Z.W σ ι3 h3 H3 (onLst h3 m fun ds => .ok (.ref h3.length) (h3 ++ [.lst (cutD ds o1 o2)])) fun d h' ι' H' => ∀ v, Rep Z.X.K ι' h'.length H' v d → Q v H' := p3
        obtain ⟨ds, hm, p4⟩ := p4.onLst
        obtain ⟨xs, e3, rs, _⟩ := lst_at R3 hm
        exact .inr ⟨_, xs, rfl, .of e3, fun b hb => alloc_post R3 hb (.lst (rs.cut o1 o2)) p4⟩
      | ztp _ _ => exact p3.elim
      | non => exact p3.elim
      | bl => exact p3.elim
      | int => exact p3.elim
      | str => exact p3.elim
      | raw => exact p3.elim
      | xc0 => exact p3.elim
      | xc _ _ => exact p3.elim
      | @fls a xs ds q rs =>
        have p4 : RPost Z.X.K Z.cA Z.W σ ι3 h3 H3 (.ok (.ref h3.length) (h3 ++ [.lst (cutD ds o1 o2)])) fun d h' ι' H' => ∀ v, Rep Z.X.K ι' h'.length H' v d → Q v H' := p3
        exact .inr ⟨_, xs, rfl, q.sql, fun b hb => alloc_post R3 hb (.lst (rs.cut o1 o2)) p4⟩⟩⟩⟩⟩
end
abbrev fdivF : F2 := f2I (fun _ j => decide (0 < j) && decide (j < 1073741824)) fun i j => .int (i / j)
abbrev modF : F2 := f2I (fun _ j => decide (0 < j)) fun i j => .int (i % j)
abbrev powF : F2 := f2I (fun i j => decide (0 ≤ j) && decide (j ≤ 1000000) && decide (i.natAbs < 18446744073709551616)) fun i j => .int (i ^ j.toNat)
def FldG (G : Gx) (f : String) (cs : List String) : Prop := ∀ c, c ∈ cs → Cls G.K (G.cA c) ∧ NoAttr G.K (G.cA c) (Str.ofString f)
end Kf
end
section
set_option maxHeartbeats 4000000
/-! Kf: a try with several clauses, each with or without a name. -/
namespace Kf
open PySem PySem.Spec L2 PyProof.Rows
abbrev SuT := Addr → Value → Option Addr → TS
/-- what a clause with a name makes of its suite's reading: the slot is the exception's, and empty behind it -/
def asSu (i : Nat) (t : SuT) : SuT := fun a cls d D σ H =>
  t a cls d ⟨fun σ' H' => D.nx (σ'.set i none) H', D.rt, fun σ' H' => D.bk (σ'.set i none) H', fun σ' H' => D.ct (σ'.set i none) H'⟩ (σ.set i (some (.ref a))) H
/-- a suite is read so, whatever is caught -/
def SuOk (X : Cx) (body : List Stmt) (t : SuT) : Prop :=
  ∀ (a : Addr) (oe : Obj) (cls : Value) (d : Option Addr) (pn : List (Addr × Obj)), Zc cls d oe → (∃ fv, oe.data = .fields fv) → PSs (X.suite a ((a, oe) :: pn)) body (t a cls d)
inductive ClsOk (X : Cx) : List ExceptHandler → List (Value × SuT) → Prop
  | nil : ClsOk X [] []
  | plain {x : Str} {c : Value} {t : SuT} {b : Stmt} {bs : List Stmt} {p1 p2 : Pos} {hds : List ExceptHandler} {l : List (Value × SuT)} (hc : Names X x c) (su : SuOk X (b :: bs) t) (r : ClsOk X hds l) :
      ClsOk X (.ExceptHandler (some (.Name x p1)) none (b :: bs) p2 :: hds) ((c, t) :: l)
  | named {x n : Str} {i : Nat} {c : Value} {t : SuT} {b : Stmt} {bs : List Stmt} {p1 p2 : Pos} {hds : List ExceptHandler} {l : List (Value × SuT)} (hN : X.N.Nodup) (hi : X.N[i]? = some n) (hl : X.env.kindOf n = some .local)
      (hc : Names X x c) (su : SuOk X (b :: bs) t) (r : ClsOk X hds l) : ClsOk X (.ExceptHandler (some (.Name x p1)) (some n) (b :: bs) p2 :: hds) ((c, asSu i t) :: l)
section
variable {X : Cx} {body : List Stmt} {h₀ : ExceptHandler} {hds : List ExceptHandler} {l : List (Value × SuT)} {pos : Pos} {tb : WX → TS} {Wo : WX}
theorem frees {s : Shared} {pins : List (Addr × Obj)} {σ : L2.St} {H : Hp} {a : Addr} {oe : Obj} {i : Nat} {n : Str} {p2 : Pos} {Q : Shared → Prop} (ok : X.Ok) (hN : X.N.Nodup) (hi : X.N[i]? = some n) (hl : X.env.kindOf n = some .local)
    (S : Inv (X.suite a ((a, oe) :: (X.pn ++ pins))) [] σ H s) (hq : ∀ s7, Inv X pins (σ.set i none) H s7 → Q s7) :
    wpAny (model X.prog X.w) X.A (do bindName X.env n .none; unbindBehindTheSuite X.env n p2) (fun _ s7 => Q s7) X.xe s := gone_ok (S.unsuite ok) hN hi hl hq
/-- the clauses are gone through while the exception is held -/
theorem clauses (hs : X.stack = X.env :: X.outer) (hf : X.env.frame = some X.env.locals) (tk : Takes X Wo) {D : Ends} {pins pns : List (Addr × Obj)} {σ : L2.St} {H : Hp} {a : Addr} {B : Heap} {cls : Value} {d : Option Addr} {sI sE : Shared} {hp3 : Heap}
    (ok : X.Ok) (J : Inv X pins σ H sI) (up : sI.heap.UpToSlots hp3) (na : H a = none) (os : sE.os = sI.os) (ag : AllBare sE.gens) (nL : a ≠ X.env.locals) (nF : a ∉ X.fs)
    (fl : HandSPX.FlyingZ B (X.env :: X.outer) a (Zc cls d) hp3) (J3 : Inv X pins σ H { sE with heap := hp3 }) (land : ∀ {h5 : Heap}, HandSPX.FlyingZ B (X.env :: X.outer) a (Zc cls d) h5 → sI.heap.UpToSlots h5 → Inv X pins σ H { sE with heap := h5 })
    (out : ∀ {h5 : Heap}, HandSPX.HeldZ B (X.env :: X.outer) a (Zc cls d) X.env.locals h5 → sI.heap.UpToSlots h5 → Wo cls d σ H → X.xe (.ref a) { sE with heap := h5 }) :
    ∀ {hds : List ExceptHandler} {l : List (Value × SuT)}, ClsOk X hds l → wMany X.K Wo D l cls d σ H → wpAny (model X.prog X.w) X.A (handleBy (.ref a) X.env hds) (SP X pins D) X.xe { sE with heap := hp3 } := by
  obtain ⟨oe3, vs3, he3, hz3, hd3⟩ := fl.there
  have S3 := J3.suite he3 hd3 na nL nF
  have LT : PySem.W.Looks (model X.prog X.w) hp3 (typeOf (.ref a)) cls := fun A Q E s k q => wpAny_typeOf_ref (k _ _ he3) (by rw [hz3.1]; exact q)
  have naming : ∀ {x : Str} {c : Value} {np : Pos} {Q : Value → Shared → Prop} {E : Value → Shared → Prop}, Names X x c → Q c { sE with heap := hp3 } →
      wpAny (model X.prog X.w) (X.A.mark (some (.ref a))) (eval (.Name x np) X.env) Q E { sE with heap := hp3 } := by
    rintro x c np Q E ⟨g1, g2, g3 | ⟨g3, g4, g5⟩⟩ q
    · exact ld_glob (X := X.suite a ((a, oe3) :: (X.pn ++ pins))) S3 g1 g3 q g2
    · exact ld_blt (X := X.suite a ((a, oe3) :: (X.pn ++ pins))) S3 g1 g3 g4 q g5 g2
  intro hds l k
  induction k with
  | nil =>
    intro w
    refine wpAny_handleBy_nil ?_
    obtain ⟨k1, k2, k3, oe, vs, T, oT, ts', he, hz, hd, h1, hr⟩ := id fl
    unfold PySem.passOn
    refine wpAny_bind (wpAny_field he hd h1 ?_)
    rw [if_neg (show ¬ ((Value.ref T == Value.none) = true) by simp)]
    have fin : wpAny (model X.prog X.w) X.A (setFlight (.ref a) X.env.frame) (fun _ s4 => wpAny (model X.prog X.w) X.A (throw (.ref a) : Sem Flow) (SP X pins D) X.xe s4) X.xe { sE with heap := hp3 } := by
      rw [hf]
      exact HandSPX.setFlight_upZ fl fun h5 e5 u5 => wpAny_throw (out e5 (up.trans u5) w)
    first | exact wpAny_bind (wpAny_pure (wpAny_bind fin)) | exact wpAny_bind fin
  | @plain x c t b bs p1 p2 hds2 l2 hc su r ih =>
    rintro ⟨m, hm, yes, no⟩
    refine wpAny_handleBy_cons (codeAny_handlers_test ?_) (by intro q; cases q)
    refine naming hc ((PySem.W.exm_one (M := model X.prog X.w) J3.kIn LT hm).here ?_)
    cases m with
    | false => exact ih (no rfl)
    | true =>
      refine codeAny_handlers_suite (HandSPX.lands_againZ fl fun h5 f5 u5 => ?_)
      obtain ⟨oe5, vs5, he5, hz5, hd5⟩ := f5.there
      have S5 := (land f5 (up.trans u5)).suite he5 hd5 na nL nF
      refine wpAny_mono ((su a oe5 cls d (X.pn ++ pins) hz5 ⟨_, hd5⟩).run [] _ _ H _ S5 (yes rfl a na)) (fun f s6 z => ?_) (fun _ _ z => False.elim z)
      cases f with
      | ret u => obtain ⟨v6, σ6, H6, S6, r6, q6⟩ := z; exact ⟨_, _, _, S6.unsuite ok, r6, q6⟩
      | next => obtain ⟨σ6, H6, S6, q6⟩ := z; exact ⟨_, _, S6.unsuite ok, q6⟩
      | brk => obtain ⟨σ6, H6, S6, q6⟩ := z; exact ⟨_, _, S6.unsuite ok, q6⟩
      | cont => obtain ⟨σ6, H6, S6, q6⟩ := z; exact ⟨_, _, S6.unsuite ok, q6⟩
  | @named x n i c t b bs p1 p2 hds2 l2 hN hi hl hc su r ih =>
    rintro ⟨m, hm, yes, no⟩
    refine wpAny_handleBy_cons (codeAny_handlers_test ?_) (by intro q; cases q)
    refine naming hc ((PySem.W.exm_one (M := model X.prog X.w) J3.kIn LT hm).here ?_)
    cases m with
    | false => exact ih (no rfl)
    | true =>
      refine codeAny_handlers_suite_as (HandSPX.lands_againZ fl fun h5 f5 u5 => ?_)
      obtain ⟨oe5, vs5, he5, hz5, hd5⟩ := f5.there
      have S5 := (land f5 (up.trans u5)).suite he5 hd5 na nL nF
      refine store_ok (X := X.suite a ((a, oe5) :: (X.pn ++ pins))) (v := .ref a) S5 hN hi (.inl hl) rfl (fun s5 S5' => ?_) (.inr hl)
      refine wpAny_mono ((su a oe5 cls d (X.pn ++ pins) hz5 ⟨_, hd5⟩).run [] s5 _ H _ S5' (yes rfl a na)) (fun f s6 z => ?_) (fun _ _ z => False.elim z)
      cases f with
      | ret u => obtain ⟨v6, σ6, H6, S6, r6, q6⟩ := z; exact frees ok hN hi hl S6 fun s7 J7 => ⟨_, _, _, J7, r6, q6⟩
      | next => obtain ⟨σ6, H6, S6, q6⟩ := z; exact frees ok hN hi hl S6 fun s7 J7 => ⟨_, _, J7, q6⟩
      | brk => obtain ⟨σ6, H6, S6, q6⟩ := z; exact frees ok hN hi hl S6 fun s7 J7 => ⟨_, _, J7, q6⟩
      | cont => obtain ⟨σ6, H6, S6, q6⟩ := z; exact frees ok hN hi hl S6 fun s7 J7 => ⟨_, _, J7, q6⟩
theorem ps_try_all (hs : X.stack = X.env :: X.outer) (hf : X.env.frame = some X.env.locals) (tk : Takes X Wo)
    (hb : ∀ (W : WX) (pn : List (Addr × Obj)) (xe : Value → Shared → Prop), Takes (X.tr pn xe) W → PassesOwn (model X.prog X.w) X.A X.env xe → PSs (X.tr pn xe) body (tb W)) (hh : ClsOk X (h₀ :: hds) l) :
    PS X (.Try body (h₀ :: hds) [] [] pos) (fun D σ H => tb (wMany X.K Wo D l) D σ H) := by
  refine ⟨fun pins s σ H D I h => ?_⟩
  have ok := I.ok
  have hfr : X.A.frames = some (X.env :: X.outer) := by rw [ok.frames, hs]
  refine wpAny_Try_except (wpAny_mono ((hb (wMany X.K Wo D l) (X.pn ++ pins) (fun e s₁ => wpAny (model X.prog X.w) X.A (noteFrame e X.env) (fun _ s₂ => wpAny (model X.prog X.w) X.A (setFlight e none)
    (fun _ s₃ => wpAny (model X.prog X.w) X.A (handleBy e X.env (h₀ :: hds)) (SP X pins D) X.xe s₃) X.xe s₂) X.xe s₁) (fun u sE xx => ?_) PassesOwn.looking).run [] s σ H D (I.toTry _) h) (fun f s1 z => ?_) (fun _ _ z => z))
  · obtain ⟨a, B, sI, pins', σ', H', cls, d, rfl, J', nb, up, sky, na, os, ag, w⟩ := xx
    have J : Inv X pins σ' H' sI := J'.ofTry ok
    refine Sky.land Zc.steady hfr hf (by rw [← hs]; exact sky) fun h3 fl up3 => ?_
    obtain ⟨oe3, vs3, he3, hz3, hd3⟩ := fl.there
    have nfr : a ∉ frs (X.env :: X.outer) := fun hm => by
      obtain ⟨_, o', e', hnf⟩ := (fl.2.2.1).mem hm
      rw [he3] at e'
      cases e'
      exact hnf _ hd3
    have nL : a ≠ X.env.locals := fun z => nfr (List.mem_filterMap.mpr ⟨X.env, List.mem_cons_self, by rw [hf, z]⟩)
    have nF : a ∉ X.fs := fun hm => by
      obtain ⟨e, he, q⟩ := List.mem_filterMap.mp hm
      exact nfr (List.mem_filterMap.mpr ⟨e, List.mem_cons_of_mem _ he, q⟩)
    exact clauses hs hf tk (pns := []) ok J (up.trans up3) na os ag nL nF fl (J.landed nb fl.1 (up.trans up3) os ag) (fun f5 u5 => J.landed nb f5.1 u5 os ag)
      (fun e5 u5 w5 => tk _ _ ⟨a, B, sI, pins, σ', H', cls, d, rfl, J, nb, u5, .inr (.inr (by rw [hs]; exact e5)), na, os, ag, w5⟩) hh w
  · cases f with
    | ret u => obtain ⟨v, σ', H', J', r, q⟩ := z; exact ⟨v, σ', H', J'.ofTry ok, r, q⟩
    | next => obtain ⟨σ', H', J', q⟩ := z; exact wpAny_execs_nil ⟨σ', H', J'.ofTry ok, q⟩
    | brk => obtain ⟨σ', H', J', q⟩ := z; exact ⟨σ', H', J'.ofTry ok, q⟩
    | cont => obtain ⟨σ', H', J', q⟩ := z; exact ⟨σ', H', J'.ofTry ok, q⟩
end
end Kf
end
section
set_option maxHeartbeats 4000000
/-! Kf: isinstance; raise; try. -/
namespace Kf
open PySem PySem.Spec L2
/-! ### isinstance with built-in types -/
def tyD (h : Hd) : D → Option String
  | .non => some "NoneType"
  | .bl _ => some "bool"
  | .int _ => some "int"
  | .str _ => some "str"
  | .raw _ => some "str"
  | .tup _ => some "tuple"
  | .fls _ => some "list"
  | .ztp _ => none
  | .ref m => match h[m]? with
    | some (.lst _) => some "list"
    | some (.dict _) => some "dict"
    | some (.lkd _) => some "dict"
    | _ => none
  | .xc _ _ _ _ => none
section
variable {Z : Kx}
/-- a value's type, by what the rules of isinstance ask -/
def TyS (X : Cx) (H : Hp) (x : V) (t : Value) : Prop := ∀ (pins : List (Addr × Obj)) (σ : L2.St) (s : Shared) (u : Value), Inv X pins σ H s → RelV x u → ∃ P : Heap → Prop, PySem.W.KitX X.K u t P ∧ P s.heap ∧ u ≠ .builtin "__main__.__loader__#opaque"
theorem TyS.of {X : Cx} {H : Hp} {x : V} {t : Value} (h : TyX X.K H x t) : TyS X H x t := fun pins σ s u I r => kit_of I r h
theorem TyS.dict {X : Cx} {w : World} {H : Hp} {a : Addr} {ks : List NEnt} (h : Rd H a (.ext (DNphi w a ks))) : TyS X H (.ref a) (.type "dict") := fun pins σ s u I r => by
  cases (show u = Value.ref a from r)
  obtain ⟨⟨z, hs, xs, r, nd, o, ep, ho, hc, _⟩, _, _⟩ := rd_of I.hok h
  exact ⟨_, PySem.W.kitx_dict, ⟨o, ho, hc.1⟩, fun z => nomatch z⟩
def rIsiS (X : Cx) : List V → Hp → VK → Prop := fun xs H Q => ∃ (x c : V) (t u : Value) (b : Bool), xs = [x, c] ∧ ClsV c u ∧ TyS X H x t ∧ PySem.W.kitOne X.K t u = some b ∧ Q (.bl b) H
def rIsiTS (X : Cx) : List V → Hp → VK → Prop := fun xs H Q => ∃ (x : V) (tp : Addr) (cs : List V) (t : Value) (us : List Value) (b : Bool), xs = [x, .ref tp] ∧ H tp = some (.tup cs) ∧ Paired ClsV cs us ∧ TyS X H x t ∧ PySem.W.kitAny X.K t us = some b ∧ Q (.bl b) H
theorem call_isiS {X : Cx} : CallR X (.builtin "isinstance") (rIsiS X) := by
  intro pins s σ H xs us Q I r h
  obtain ⟨x, c, t, u, b, rfl, k, ty, e, q⟩ := h
  obtain ⟨u1, u2, rfl, r1, r2⟩ := vals2 r
  have e2 := k.eq r2
  subst e2
  obtain ⟨P, Z, p, hx⟩ := ty pins σ s u1 I r1
  exact PySem.W.kia_one Z I.kIn p e hx fun tk => ⟨.bl b, H, I.tok tk, rfl, q⟩
theorem call_isiTS {X : Cx} : CallR X (.builtin "isinstance") (rIsiTS X) := by
  intro pins s σ H xs us Q I r h
  obtain ⟨x, tp, cs, t, ws, b, rfl, hT, k, ty, e, q⟩ := h
  obtain ⟨u1, u2, rfl, r1, r2⟩ := vals2 r
  cases (show u2 = Value.ref tp from r2)
  obtain ⟨P, Z, p, hx⟩ := ty pins σ s u1 I r1
  obtain ⟨_, its, rv, o, h1, h2, n, h3⟩ := (show ObjOk X.prog X.w H s.heap tp (.tup cs) from I.hok tp _ hT)
  have e3 := ClsV.all k rv
  subst e3
  obtain ⟨oc, od, dt, sl⟩ := o
  simp only at h2 h3
  subst h2 h3
  exact PySem.W.kia_tup Z I.kIn p h1 e hx fun tk => ⟨.bl b, H, I.tok tk, rfl, q⟩
theorem ty_rep {ι : Nat → Addr} {h : Hd} {H : Hp} {x : V} {d : D} {t : String} (R : HRep Z.X.K Z.cA ι H h) (r : Rep Z.X.K ι h.length H x d) (e : tyD h d = some t) : TyS Z.X H x (.type t) := by
  cases r with
  | non => cases e; exact .of (.base .non)
  | bl => cases e; exact .of (.base (.bl _))
  | int => cases e; exact .of (.base (.int _))
  | str => cases e; exact .of (.base (.str _))
  | raw => cases e; exact .of (.base (.str _))
  | ztp _ _ => cases e
  | tup q _ =>
    cases e
    rcases q.sqt with (q | ⟨o, q⟩) | ⟨o, its, n, q1, q2, _⟩
    · exact .of (.base (.tup q))
    · exact .of (.fTuple q)
    · exact .of (.kTuple q1 q2)
  | fls q _ =>
    cases e
    rcases q with ⟨o, q⟩ | ⟨o, its, n, q1, q2, _⟩
    · exact .of (.base (.frz q))
    · exact .of (.kList q1 q2)
  | ref hlt =>
    rename_i m
    unfold tyD at e
    cases hm : h[m]? with
    | none => simp [hm] at e
    | some o =>
      obtain ⟨ho, e3, ro⟩ := R.obj m _ hm
      cases ro with
      | lst _ => simp [hm] at e; subst e; exact .of (.base (.lst e3))
      | dict _ => simp [hm] at e; subst e; exact .dict (.inl e3)
      | lkd _ => simp [hm] at e; subst e; exact .dict (.inr ⟨_, e3⟩)
      | ins _ => simp [hm] at e
  | xc0 => cases e
  | xc _ _ => cases e
def isiF (T : String) : D → Hd → Res D := fun d h => onSome (tyD h d) fun t => onSome (kitB t T) fun b => .ok (.bl b) h
def sIsi (T : String) (f : SE) : SE := fun env h => (f env h).bind fun d h1 => isiF T d h1
theorem ke_isi {T : String} {x : Str} {e : Expr} {f : SE} {p p2 pos : Pos} (hg : Gl Z.X "isinstance") (hm : Z.X.mg "isinstance" = none) (he : KE Z e f) (hgT : Gl Z.X x) (hmT : Z.X.mg x = none) (hv : bootBuiltins x = some (.type T)) (hn : x ≠ "__name__" := by decide) (hdb : (x == ("__debug__" : Str)) = false := by decide)
    (h1 : starEach [e, .Name x p2] Z.X.env = (false, eval e Z.X.env) :: starEach [.Name x p2] Z.X.env := by rfl) (h2 : starEach [.Name x p2] Z.X.env = (false, eval (.Name x p2) Z.X.env) :: starEach [] Z.X.env := by rfl) (hpl : (backTo pos (starEach [.Name x p2] Z.X.env)).any (·.1) = false := by rfl) :
    KE Z (.Call (.Name "isinstance" p) [e, .Name x p2] [] pos) (sIsi T f) :=
  ⟨(pe_callB call_isiS hg hm (by decide +kernel) (pa_cons he.pe (pa_cons (pe_bltn (v := .ty T) hgT hmT hv rfl hn hdb) pa_nil h2) h1) (by decide) (by decide) h1 hpl).weak fun σ H Q ⟨ι, env, h, R, V, p⟩ => ⟨ι, env, h, R, V, (RPost.bind p).mono fun d h1 ι1 H1 S1 R1 p1 v r => by
    obtain ⟨t, et, p1⟩ := p1.onSome
    obtain ⟨b, eb, p1⟩ := p1.onSome
    exact ⟨v, .ty T, .type t, .type T, b, rfl, .ty T, ty_rep R1 r et, kit_ty eb, RPost.ok R1 p1 _ .bl⟩⟩⟩
end
theorem kB_ii : kitB "int" "int" = some true := by decide +kernel
theorem kB_bi : kitB "bool" "int" = some true := by decide +kernel
theorem kB_ni : kitB "NoneType" "int" = some false := by decide +kernel
theorem kB_si : kitB "str" "int" = some false := by decide +kernel
theorem kB_ti : kitB "tuple" "int" = some false := by decide +kernel
theorem kB_li : kitB "list" "int" = some false := by decide +kernel
theorem kB_ib : kitB "int" "bool" = some false := by decide +kernel
theorem kB_bb : kitB "bool" "bool" = some true := by decide +kernel
theorem kB_nb : kitB "NoneType" "bool" = some false := by decide +kernel
theorem kB_sb : kitB "str" "bool" = some false := by decide +kernel
theorem kB_tb : kitB "tuple" "bool" = some false := by decide +kernel
theorem kB_lb : kitB "list" "bool" = some false := by decide +kernel

/-! ### isinstance with a tuple of built-in types -/
section
variable {Z : Kx}
def kitD (t : String) : List String → Option Bool
  | [] => some false
  | T :: r => match kitB t T with | some true => some true | some false => kitD t r | none => none
def isiTF (Ts : List String) : D → Hd → Res D := fun d h => onSome (tyD h d) fun t => onSome (kitD t Ts) fun b => .ok (.bl b) h
def sIsiT (Ts : List String) (f : SE) : SE := fun env h => (f env h).bind fun d h1 => isiTF Ts d h1
theorem kitD_any {K : PySem.W.Frag} {t : String} : ∀ {Ts : List String} {b : Bool}, kitD t Ts = some b → PySem.W.kitAny K (.type t) (Ts.map Value.type) = some b
  | [], b, e => by cases e; rfl
  | T :: r, b, e => by
    unfold kitD at e
    show PySem.W.kitAny K (.type t) (.type T :: r.map Value.type) = some b
    cases h : kitB t T with
    | none => rw [h] at e; cases e
    | some c =>
      rw [h] at e
      cases c with
      | true => cases e; exact kitAny_cons (kit_ty h) (fun z => by cases z) fun _ => rfl
      | false => exact kitAny_cons (kit_ty h) (fun _ => kitD_any e) fun z => by cases z
theorem kcls_all : ∀ (Ts : List String), Paired ClsV (Ts.map V.ty) (Ts.map Value.type)
  | [] => .nil
  | T :: r => .cons (.ty T) (kcls_all r)
theorem ke_isiT {T1 T2 : String} {x1 x2 : Str} {e : Expr} {f : SE} {j : Nat} {p p1 p2 p3 pos : Pos} (hg : Gl Z.X "isinstance") (hm : Z.X.mg "isinstance" = none) (he : KE Z e f)
    (hg1 : Gl Z.X x1) (hm1 : Z.X.mg x1 = none) (hv1 : bootBuiltins x1 = some (.type T1)) (hg2 : Gl Z.X x2) (hm2 : Z.X.mg x2 = none) (hv2 : bootBuiltins x2 = some (.type T2)) (hn1 : x1 ≠ "__name__" := by decide) (hd1 : (x1 == ("__debug__" : Str)) = false := by decide)
    (hn2 : x2 ≠ "__name__" := by decide) (hd2 : (x2 == ("__debug__" : Str)) = false := by decide)
    (q1 : starEach [.Name x1 p1, .Name x2 p2] Z.X.env = (false, eval (.Name x1 p1) Z.X.env) :: starEach [.Name x2 p2] Z.X.env := by rfl) (q2 : starEach [.Name x2 p2] Z.X.env = (false, eval (.Name x2 p2) Z.X.env) :: starEach [] Z.X.env := by rfl)
    (hT : PE Z.X (.Tuple [.Name x1 p1, .Name x2 p2] j p3) (tTup (tCons (tC (.ty T1)) (tCons (tC (.ty T2)) tNil))))
    (h1 : starEach [e, .Tuple [.Name x1 p1, .Name x2 p2] j p3] Z.X.env = (false, eval e Z.X.env) :: starEach [.Tuple [.Name x1 p1, .Name x2 p2] j p3] Z.X.env := by rfl)
    (h2 : starEach [.Tuple [.Name x1 p1, .Name x2 p2] j p3] Z.X.env = (false, eval (.Tuple [.Name x1 p1, .Name x2 p2] j p3) Z.X.env) :: starEach [] Z.X.env := by rfl)
    (hpl : (backTo pos (starEach [.Tuple [.Name x1 p1, .Name x2 p2] j p3] Z.X.env)).any (·.1) = false := by rfl) :
    KE Z (.Call (.Name "isinstance" p) [e, .Tuple [.Name x1 p1, .Name x2 p2] j p3] [] pos) (sIsiT [T1, T2] f) :=
  ⟨(pe_callB call_isiTS hg hm (by decide +kernel) (pa_cons he.pe (pa_cons hT pa_nil h2) h1) (by decide) (by decide) h1 hpl).weak fun σ H Q ⟨ι, env, h, R, V, p⟩ => ⟨ι, env, h, R, V, (RPost.bind p).mono fun d h1 ι1 H1 S1 R1 p1 v r => by
    obtain ⟨t, et, p1⟩ := p1.onSome
    obtain ⟨b, eb, p1⟩ := p1.onSome
    refine ⟨by show 2 ≤ sizeLine; decide, fun a ha => ?_⟩
    have S2 := Step.aside R1 ha (.tup [.ty T1, .ty T2])
    exact ⟨v, a, [.ty T1, .ty T2], .type t, [.type T1, .type T2], b, rfl, upd_same, kcls_all [T1, T2], ty_rep (R1.aside ha _) (r.step S2 R1) et, kitD_any eb, p1 ι1 _ S2 (R1.aside ha _) _ .bl⟩⟩⟩
end

/-! ### raise -/
/-- what an own exception class's __init__ does: it keeps its arguments -/
def spX (C : Addr) (ns : List String) : Sp := fun vs H Q _ => ∃ (a : Addr) (ys : List V), vs = .ref a :: ys ∧ ys.length = ns.length ∧ H a = some (exo a C none) ∧
  ∀ dx, H dx = none → dx ≠ a → Q .non (upd (upd H dx (exd dx ((ns.map Str.ofString).zip ys).reverse)) a (exo a C (some dx)))
/-- an own exception class, ready to be raised -/
structure CE (G : Gx) (x : Str) (c : String) (k : Nat) (ns : List String) : Prop where
  mg : G.mg x = some (.ref (G.cA c))
  T : OexC G.K (G.cA c)
  ex : ∃ (f : Addr) (fd : FuncData) (ps : List Str), PySem.W.findIn G.K (.ref (G.cA c)) "__init__" = some (some (.ref f)) ∧ PySem.W.typeIn G.K (.ref f) = some (.type "function") ∧
    FnOk G.P G.w G.K G.mg G.base (L2.CX G.P G.w) k f fd ps (spX (G.cA c) ns) ∧ Binds G.K fd ps []
section
variable {Z : Kx} {G : Gx} {j k : Nat} {x : Str} {c : String} {ns : List String} {p pos pos2 : Pos} {e : Expr} {es : List Expr} {fa : SA}
def sRaise (c : String) (ns : List String) (fa : SA) : SS := fun env h => (fa env h).lift env fun ds h1 => if ds.length = ns.length ∧ ds.length ≤ 900 then .ok (.exc c (ns.zip ds).reverse env) h1 else .stuck
theorem FRep.append {K : PySem.W.Frag} {ι : Nat → Addr} {n : Nat} {H : Hp} : ∀ {fs fs' : List (Str × V)} {gs gs' : List (String × D)}, FRep K ι n H fs gs → FRep K ι n H fs' gs' → FRep K ι n H (fs ++ fs') (gs ++ gs')
  | _, _, _, _, .nil, q => q
  | _, _, _, _, .cons r p, q => .cons r (FRep.append p q)
theorem FRep.rev {K : PySem.W.Frag} {ι : Nat → Addr} {n : Nat} {H : Hp} : ∀ {fs : List (Str × V)} {gs : List (String × D)}, FRep K ι n H fs gs → FRep K ι n H fs.reverse gs.reverse
  | _, _, .nil => .nil
  | _, _, .cons r p => by
    rw [List.reverse_cons, List.reverse_cons]
    exact (FRep.rev p).append (.cons r .nil)
theorem frep_zip {K : PySem.W.Frag} {ι : Nat → Addr} {n : Nat} {H : Hp} : ∀ {ns : List String} {vs : List V} {ds : List D}, Reps K ι n H vs ds → FRep K ι n H ((ns.map Str.ofString).zip vs) (ns.zip ds)
  | [], _, _, _ => by simpa using FRep.nil
  | _ :: _, _, _, .nil => by simpa using FRep.nil
  | n :: ns, _, _, .cons r q => by
    simp only [List.map_cons, List.zip_cons_cons]
    exact .cons r (frep_zip q)
theorem kr {i : Z.In G j} (F : CE G x c k ns) (hj : k + 1 ≤ j) (hg : Gl Z.X x) (ha : KA Z (e :: es) fa) (hdb : (x == ("__debug__" : Str)) = false := by decide)
    (he : starEach (e :: es) Z.X.env = (false, eval e Z.X.env) :: starEach es Z.X.env := by rfl) (hpl : (backTo pos (starEach es Z.X.env)).any (·.1) = false := by rfl) : KS Z (.Raise (some (.Call (.Name x p) (e :: es) [] pos)) none pos2) (sRaise c ns fa) := by
  obtain ⟨X, cA, W⟩ := Z
  obtain ⟨P, w, K, mg, base, cA', hcw⟩ := G
  obtain ⟨h1, h2, h3, h4, h5, h6, room, tk, ow, cm⟩ := i
  obtain ⟨g0, T, f, fd, ps, g1, g2, g3, g4⟩ := F
  dsimp only at *
  subst h1 h2 h3 h4 h5 h6
  refine ⟨(ps_raise cm tk (pmk_oex T g1 g2 g3 (room.mono hj).rm g4 .nil (passes_call tk fun _ _ _ _ z => z.elim) hg g0 ha.pa hdb he hpl)).weak fun D σ H ⟨ι, env, h, R, V, p⟩ => ⟨ι, env, h, R, V, (RsPost.of R V p).mono fun ds h1 ι1 H1 S1 R1 p1 vs rs => ?_⟩⟩
  by_cases hl : ds.length = ns.length ∧ ds.length ≤ 900
  · rw [if_pos hl] at p1
    have hv : vs.length = ds.length := rs.len
    refine ⟨by omega, fun a ha => ⟨a, vs, by rw [List.append_nil], by omega, upd_same, fun dx hdx hda => ⟨rfl, dx, ((ns.map Str.ofString).zip vs).reverse, upd_same, ?_, ?_, ?_⟩⟩⟩
    · rw [upd_ne hda, upd_same]
    · rw [upd_ne hda] at hdx; exact hdx
    · rw [upd_ne hda] at hdx
      have e : upd (del (upd (upd (upd H1 a (exo a (cA c) none)) dx (exd dx ((ns.map Str.ofString).zip vs).reverse)) a (exo a (cA c) (some dx))) a) dx (.xd ((ns.map Str.ofString).zip vs).reverse) = upd H1 dx (.xd ((ns.map Str.ofString).zip vs).reverse) := by
        funext b
        by_cases e1 : b = dx
        · subst e1; rw [upd_same, upd_same]
        · rw [upd_ne e1, upd_ne e1]
          by_cases e2 : b = a
          · subst e2; rw [del_same, ha]
          · rw [del_ne e2, upd_ne e2, upd_ne e1, upd_ne e2]
      rw [e]
      have S2 := Step.aside R1 hdx (.xd ((ns.map Str.ofString).zip vs).reverse)
      exact p1 ι1 _ S2 (R1.aside hdx _) σ _ _ ((V.step S1 R).step S2 R1) ⟨rfl, .inr ⟨dx, _, rfl, upd_same, (frep_zip (rs.step S2 R1)).rev⟩⟩
  · rw [if_neg hl] at p1
    exact p1.elim
end
end Kf
end
section
set_option maxHeartbeats 4000000
/-! Kf: try with its clauses; what a suite reads of its exception; an own exception's __init__. -/
namespace Kf
open PySem PySem.Spec L2
section
variable {K : PySem.W.Frag} {ι : Nat → Addr} {n : Nat} {H : Hp}
theorem VRep.wipe1 {σ : St} {env : En} (V : VRep K ι n H σ env) (i : Nat) : VRep K ι n H (σ.set i none) (env.set i none) := by
  refine ⟨by simp [V.len], fun j e he => ?_⟩
  by_cases q : j = i
  · subst q
    have hj : j < env.length := by have := lt_of_get he; simpa using this
    rw [List.getElem?_set_self hj] at he
    cases he
  · rw [List.getElem?_set_ne (Ne.symm q)] at he ⊢
    exact V.var j e he
end
/-- one result for all places that an exception may lie at -/
noncomputable def onAll (g : Nat → Option Nat → Rs) : Rs := open Classical in if h : ∃ r, ∀ a d, g a d = r then h.choose else .stuck
theorem onAll_of {g : Nat → Option Nat → Rs} {r : Rs} (h : ∀ a d, g a d = r) : onAll g = r := by
  have e : ∃ r, ∀ a d, g a d = r := ⟨r, h⟩
  unfold onAll
  rw [dif_pos e]
  exact ((h 0 none).symm.trans (e.choose_spec 0 none)).symm
theorem onAll_at {g : Nat → Option Nat → Rs} (hn : onAll g ≠ .stuck) (a : Nat) (d : Option Nat) : g a d = onAll g := by
  unfold onAll at hn ⊢
  by_cases h : ∃ r, ∀ a d, g a d = r
  · rw [dif_pos h]; exact h.choose_spec a d
  · rw [dif_neg h] at hn; exact absurd rfl hn
/-- behind a suite its exception's name is empty -/
def outN (sl : Option Nat) (r : Rs) : Rs := match sl with
  | none => match r with
    | .ok (.exc _ _ _) _ => .stuck
    | r => r
  | some i => match r with
    | .ok (.nx env) h => .ok (.nx (env.set i none)) h
    | .ok (.brk env) h => .ok (.brk (env.set i none)) h
    | .ok (.ct env) h => .ok (.ct (env.set i none)) h
    | .ok (.ret d) h => .ok (.ret d) h
    | _ => .stuck
def inN (sl : Option Nat) (d : D) (env : En) : En := match sl with | none => env | some i => env.set i (some d)
/-- which classes a clause takes; its name's slot; its suite -/
abbrev Cl := (String → Option Bool) × Option Nat × (String → Nat → Option Nat → SS)
noncomputable def sCls : List Cl → String → List (String × D) → En → Hd → Rs
  | [], c, fs, env, h => .ok (.exc c fs env) h
  | (mt, sl, f) :: r, c, fs, env, h => match mt c with
    | none => .stuck
    | some false => sCls r c fs env h
    | some true => onAll fun a d => outN sl (f c a d (inN sl (.xc c a d fs) env) h)
noncomputable def sTry (f : SS) (l : List Cl) : SS := fun env h => match f env h with
  | .ok (.exc c fs env1) h1 => sCls l c fs env1 h1
  | r => r
abbrev Kx.tr (Z : Kx) (pn : List (Addr × Obj)) (xe : Value → Shared → Prop) (W : WX) : Kx := ⟨Z.X.tr pn xe, Z.cA, W⟩
abbrev Kx.su (Z : Kx) (a : Addr) (oe : Obj) (pn : List (Addr × Obj)) : Kx := ⟨Z.X.suite a ((a, oe) :: pn), Z.cA, fun _ _ _ _ => False⟩
/-- a suite's readings, class by class -/
def KSu (Z : Kx) (body : List Stmt) (mt : String → Option Bool) (f : String → Nat → Option Nat → SS) : Prop :=
  ∀ c, mt c = some true → ∀ (a : Addr) (oe : Obj) (d : Option Addr) (pn : List (Addr × Obj)), Zc (.ref (Z.cA c)) d oe → (∃ fv, oe.data = .fields fv) → KSs (Z.su a oe pn) body (f c a d)
inductive KCl (Z : Kx) : List ExceptHandler → List Cl → Prop
  | nil : KCl Z [] []
  | plain {x : Str} {cv : Value} {mt : String → Option Bool} {f : String → Nat → Option Nat → SS} {b : Stmt} {bs : List Stmt} {p1 p2 : Pos} {hds : List ExceptHandler} {l : List Cl} (hc : Names Z.X x cv)
      (hm : ∀ c r, mt c = some r → PySem.W.exmOne Z.X.K (.ref (Z.cA c)) cv = some r) (su : KSu Z (b :: bs) mt f) (r : KCl Z hds l) : KCl Z (.ExceptHandler (some (.Name x p1)) none (b :: bs) p2 :: hds) ((mt, none, f) :: l)
  | named {x n : Str} {i : Nat} {cv : Value} {mt : String → Option Bool} {f : String → Nat → Option Nat → SS} {b : Stmt} {bs : List Stmt} {p1 p2 : Pos} {hds : List ExceptHandler} {l : List Cl} (hN : Z.X.N.Nodup) (hi : Z.X.N[i]? = some n)
      (hl : Z.X.env.kindOf n = some .local) (hc : Names Z.X x cv) (hm : ∀ c r, mt c = some r → PySem.W.exmOne Z.X.K (.ref (Z.cA c)) cv = some r) (su : KSu Z (b :: bs) mt f) (r : KCl Z hds l) :
      KCl Z (.ExceptHandler (some (.Name x p1)) (some n) (b :: bs) p2 :: hds) ((mt, some i, f) :: l)
section
variable {Z : Kx} {body : List Stmt} {h₀ : ExceptHandler} {hds : List ExceptHandler} {l : List Cl} {pos : Pos} {fb : SS}
/-- the suite's reading in the hand layer -/
def suT (Z : Kx) (mt : String → Option Bool) (f : String → Nat → Option Nat → SS) : SuT := fun a cls d D σ H => ∃ c, mt c = some true ∧ cls = .ref (Z.cA c) ∧ tDS ⟨Z.X, Z.cA, fun _ _ _ _ => False⟩ (f c a d) D σ H
theorem suT_ok {mt : String → Option Bool} {f : String → Nat → Option Nat → SS} {b : List Stmt} (h : KSu Z b mt f) : SuOk Z.X b (suT Z mt f) := fun a oe cls d pn hz hf =>
  ⟨fun pins s σ H D I ⟨c, hc, e, q⟩ => by
    subst e
    exact (h c hc a oe d pn hz hf).pss.run pins s σ H D I q⟩
theorem xc_rep {K : PySem.W.Frag} {cA : CA} {ι : Nat → Addr} {n : Nat} {H : Hp} {c : String} {fs : List (String × D)} {cls : Value} {d : Option Addr} (x : XRep K cA ι n H c fs cls d) (a : Addr) : Rep K ι n H (.ref a) (.xc c a d fs) := by
  rcases x.2 with ⟨e1, e2⟩ | ⟨dd, gs, e1, e2, r⟩
  · subst e1 e2; exact .xc0
  · subst e1; exact .xc e2 r
theorem kcl_cls (k : KCl Z hds l) : ∃ l' : List (Value × SuT), ClsOk Z.X hds l' ∧ ∀ (Dd : Ends) (c : String) (fs : List (String × D)) (env : En) (h : Hd) (σ : St) (H : Hp) (ι : Nat → Addr) (cls : Value) (od : Option Addr),
    HRep Z.X.K Z.cA ι H h → VRep Z.X.K ι h.length H σ env → XRep Z.X.K Z.cA ι h.length H c fs cls od → RsPost Z Dd ι h H (sCls l c fs env h) → wMany Z.X.K Z.W Dd l' cls od σ H := by
  induction k with
  | nil => exact ⟨[], .nil, fun D c fs env h σ H ι cls od R V x p => p ι H .refl R σ cls od V x⟩
  | @plain x cv mt f b bs p1 p2 hds l hc hm su r ih =>
    obtain ⟨l', k, q⟩ := ih
    refine ⟨(cv, suT Z mt f) :: l', .plain hc (suT_ok su) k, fun D c fs env h σ H ι cls od R V x p => ?_⟩
    unfold sCls at p
    cases e : mt c with
    | none => rw [e] at p; exact p.elim
    | some m =>
      rw [e] at p
      refine ⟨m, by rw [x.1]; exact hm c m e, fun z a ha => ?_, fun z => ?_⟩
      · subst z
        have p : RsPost Z D ι h H (onAll fun a d => outN none (f c a d (inN none (.xc c a d fs) env) h)) := p
        have hn : (onAll fun a d => outN none (f c a d (inN none (.xc c a d fs) env) h)) ≠ .stuck := fun z => by rw [z] at p; exact p
        rw [← onAll_at hn a od] at p
        refine ⟨c, e, x.1, ι, env, h, R, V, ?_⟩
        have p : RsPost Z D ι h H (outN none (f c a od env h)) := p
        cases e2 : f c a od env h with
        | stuck => rw [e2] at p; exact p
        | ok fl h2 => rw [e2] at p; cases fl <;> first | exact p | exact p.elim
      · subst z
        exact q D c fs env h σ H ι cls od R V x p
  | @named x n i cv mt f b bs p1 p2 hds l hN hi hl hc hm su r ih =>
    obtain ⟨l', k, q⟩ := ih
    refine ⟨(cv, asSu i (suT Z mt f)) :: l', .named hN hi hl hc (suT_ok su) k, fun D c fs env h σ H ι cls od R V x p => ?_⟩
    unfold sCls at p
    cases e : mt c with
    | none => rw [e] at p; exact p.elim
    | some m =>
      rw [e] at p
      refine ⟨m, by rw [x.1]; exact hm c m e, fun z a ha => ?_, fun z => ?_⟩
      · subst z
        have p : RsPost Z D ι h H (onAll fun a d => outN (some i) (f c a d (inN (some i) (.xc c a d fs) env) h)) := p
        have hn : (onAll fun a d => outN (some i) (f c a d (inN (some i) (.xc c a d fs) env) h)) ≠ .stuck := fun z => by rw [z] at p; exact p
        rw [← onAll_at hn a od] at p
        refine ⟨c, e, x.1, ι, env.set i (some (.xc c a od fs)), h, R, V.set (xc_rep x a), ?_⟩
        have p : RsPost Z D ι h H (outN (some i) (f c a od (env.set i (some (.xc c a od fs))) h)) := p
        cases e2 : f c a od (env.set i (some (.xc c a od fs))) h with
        | stuck => rw [e2] at p; exact p
        | ok fl h2 =>
          rw [e2] at p
          cases fl with
          | nx env2 => exact fun ι' H' S' R' σ' V' => p ι' H' S' R' _ (V'.wipe1 i)
          | brk env2 => exact fun ι' H' S' R' σ' V' => p ι' H' S' R' _ (V'.wipe1 i)
          | ct env2 => exact fun ι' H' S' R' σ' V' => p ι' H' S' R' _ (V'.wipe1 i)
          | ret v => exact p
          | exc _ _ _ => exact p.elim
      · subst z
        exact q D c fs env h σ H ι cls od R V x p
theorem ks_try (hs : Z.X.stack = Z.X.env :: Z.X.outer) (hf : Z.X.env.frame = some Z.X.env.locals) (tk : Takes Z.X Z.W)
    (hb : ∀ (W : WX) (pn : List (Addr × Obj)) (xe : Value → Shared → Prop), Takes (Z.X.tr pn xe) W → PassesOwn (model Z.X.prog Z.X.w) Z.X.A Z.X.env xe → KSs (Z.tr pn xe W) body fb) (hh : KCl Z (h₀ :: hds) l) :
    KS Z (.Try body (h₀ :: hds) [] [] pos) (sTry fb l) := by
  obtain ⟨l', k, q⟩ := kcl_cls hh
  refine ⟨(ps_try_all (tb := fun W => tDS ⟨Z.X, Z.cA, W⟩ fb) hs hf tk (fun W pn xe t o => ⟨fun pins s σ H D I z => (hb W pn xe t o).pss.run pins s σ H D I z⟩) k).weak fun D σ H ⟨ι, env, h, R, V, p⟩ => ⟨ι, env, h, R, V, ?_⟩⟩
  unfold sTry at p
  cases e : fb env h with
  | stuck => rw [e] at p; exact p.elim
  | ok fl h1 =>
    rw [e] at p
    cases fl with
    | nx env2 => exact p
    | brk env2 => exact p
    | ct env2 => exact p
    | ret v => exact p
    | exc c fs env1 => exact fun ι' H' S' R' σ' cls od V' x => q D c fs env1 h1 σ' H' ι' cls od R' V' x (RsPost.step S' p)
/-! ### in a suite -/
def sXf (c : String) (a : Nat) (d : Option Nat) (g : SE) (f : String) : SE := fun env h => (g env h).bind fun x h1 => match x with
  | .xc c' a' d' fs => if c' = c ∧ a' = a ∧ d' = d then onSome (fs.lookup f) fun v => .ok v h1 else .stuck
  | _ => .stuck
theorem ke_xf {a : Addr} {oe : Obj} {d : Option Addr} {pn : List (Addr × Obj)} {e : Expr} {g : SE} {c f : String} (T : XfC Z.X.K (Z.cA c)) (hno : PySem.W.findIn Z.X.K (.ref (Z.cA c)) (Str.ofString f) = some none)
    (hz : Zc (.ref (Z.cA c)) d oe) (hf : ∃ fv, oe.data = .fields fv) (he : KE (Z.su a oe pn) e g) (hb : attributeBase e (Str.ofString f) Z.X.env (eval e Z.X.env) = eval e Z.X.env := by rfl) : KE (Z.su a oe pn) (.Attribute e (Str.ofString f) pos) (sXf c a d g f) :=
  ⟨(pe_xf T hno hz hf he.pe hb).weak fun σ H Q ⟨ι, env, h, R, V, p⟩ => ⟨ι, env, h, R, V, (RPost.bind p).mono fun x h1 ι1 H1 S1 R1 p1 v r => by
    cases r with
    | non => exact p1.elim
    | bl => exact p1.elim
    | int => exact p1.elim
    | str => exact p1.elim
    | raw => exact p1.elim
    | ztp _ _ => exact p1.elim
    | tup _ _ => exact p1.elim
    | fls _ _ => exact p1.elim
    | ref _ => exact p1.elim
    | @xc0 c' a' =>
      have p1 : RPost Z.X.K Z.cA (fun _ _ _ _ => False) σ ι1 h1 H1 (if c' = c ∧ a' = a ∧ none = d then onSome (List.lookup f []) fun v => .ok v h1 else .stuck) _ := p1
      by_cases q : c' = c ∧ a' = a ∧ none = d
      · rw [if_pos q] at p1
        obtain ⟨w, ew, _⟩ := p1.onSome
        cases ew
      · rw [if_neg q] at p1; exact p1.elim
    | @xc c' a' d' gs fs e1 rf =>
      have p2 : RPost Z.X.K Z.cA (fun _ _ _ _ => False) σ ι1 h1 H1 (if c' = c ∧ a' = a ∧ some d' = d then onSome (fs.lookup f) fun v => .ok v h1 else .stuck) _ := p1
      clear p1
      by_cases q : c' = c ∧ a' = a ∧ some d' = d
      · rw [if_pos q] at p2
        obtain ⟨w, ew, p3⟩ := p2.onSome
        obtain ⟨u, eu, ru⟩ := rf.some ew
        exact ⟨by rw [q.2.1], by rw [← q.1], d', gs, u, q.2.2.symm, e1, eu, RPost.ok R1 p3 u ru⟩
      · rw [if_neg q] at p2; exact p2.elim⟩⟩
end
/-- a suite's surroundings stand in those of the law -/
structure Kx.InS (Z : Kx) (G : Gx) : Prop where
  P : Z.X.prog = G.P
  w : Z.X.w = G.w
  K : Z.X.K = G.K
  mg : Z.X.mg = G.mg
  base : Z.X.base = G.base
  cA : Z.cA = G.cA
  hu : Z.X.A.units + 65 < cLine
  gu : Z.X.A.guards = some []
theorem Kx.InS.hu64 {Z : Kx} {G : Gx} (i : Z.InS G) : Z.X.A.units + 64 < cLine := by have := i.hu; omega
theorem Kx.InS.hw {Z : Kx} {G : Gx} (i : Z.InS G) : Z.cA.w = Z.X.w := by rw [i.cA, i.w]; exact G.hcw
theorem Kx.InS.hu10 {Z : Kx} {G : Gx} (i : Z.InS G) : Z.X.A.units + 10 < cLine := by have := i.hu; omega
theorem Kx.InS.hu1 {Z : Kx} {G : Gx} (i : Z.InS G) : Z.X.A.units + 1 < cLine := by have := i.hu; omega
theorem Kx.In.gu {Z : Kx} {G : Gx} {k : Nat} (i : Z.In G k) : Z.X.A.guards = some [] := i.room.gu
theorem Kx.In.su {Z : Kx} {G : Gx} {k : Nat} (i : Z.In G k) (a : Addr) (oe : Obj) (pn : List (Addr × Obj)) : (Z.su a oe pn).InS G := ⟨i.P, i.w, i.K, i.mg, i.base, i.cA, i.hu, i.room.gu⟩
theorem Kx.In.tr {Z : Kx} {G : Gx} {k : Nat} (i : Z.In G k) {pn : List (Addr × Obj)} {xe : Value → Shared → Prop} {W : WX} (tk : Takes (Z.X.tr pn xe) W) (o : PassesOwn (model Z.X.prog Z.X.w) Z.X.A Z.X.env xe) : (Z.tr pn xe W).In G k := ⟨i.P, i.w, i.K, i.mg, i.base, i.cA, i.room, tk, o, i.cm⟩
/-! ### __init__ -/
section
variable {P : Program} {w : World} {K : PySem.W.Frag} {mg : Str → Option Value} {base : Heap} {x qual : Str} {st : Stmt} {f : Addr} {fd : FuncData} {N ps : List Str} {C : Addr}
theorem st_one {ns : List String} {ys : List V} (S : ps.length = ns.length + 1) {vs : List V} {H : Hp} {Q : VK} {E : XK} (h : spX C ns vs H Q E) : vs.length = ps.length := by
  obtain ⟨a, ys, rfl, hl, _⟩ := h
  simp [S, hl]
theorem x_init1 {f1 : String} (T : OexC K C) (F : Fun K x qual st f fd) (S : FnScope N ps (defScope st)) (hN : N.length = 2) (hp : ps.length = 2) (n1 : PySem.W.findIn K (.ref C) (Str.ofString f1) = some none)
    (hd : ∀ (cdv : Value) (A : Around) (outer : List Env) (s : Shared) (H : Hp) (E : XK), PSs (cxOf (L2.CX P w) P w K mg base N qual (defScope st) f cdv A outer s H E) (defBody st) (tOst K (Str.ofString f1) (tVar 0) (tVar 1))) :
    FnOk P w K mg base (L2.CX P w) 1 f fd ps (spX C [f1]) :=
  F.okX (k := 0) S (fun vs H Q E h => st_one (ys := []) (by simpa using hp) h) fun cdv A outer s H vs Q E hr h => by
    refine ⟨_, hd cdv A outer s H E, ?_⟩
    obtain ⟨a, ys, rfl, hl, ha, q⟩ := h
    match ys, hl with
    | [y], _ =>
      have e : L2.start N [V.ref a, y] = [some (.ref a), some y] := by unfold L2.start; rw [hN]; rfl
      rw [e]
      exact ⟨_, rfl, _, rfl, a, C, rfl, T, n1, .inl ⟨ha, fun dx hdx hda => q dx hdx hda⟩⟩
theorem x_init2 {f1 f2 : String} (T : OexC K C) (F : Fun K x qual st f fd) (S : FnScope N ps (defScope st)) (hN : N.length = 3) (hp : ps.length = 3) (n1 : PySem.W.findIn K (.ref C) (Str.ofString f1) = some none) (n2 : PySem.W.findIn K (.ref C) (Str.ofString f2) = some none)
    (hd : ∀ (cdv : Value) (A : Around) (outer : List Env) (s : Shared) (H : Hp) (E : XK), PSs (cxOf (L2.CX P w) P w K mg base N qual (defScope st) f cdv A outer s H E) (defBody st) (tSeq (tOst K (Str.ofString f1) (tVar 0) (tVar 1)) (tOst K (Str.ofString f2) (tVar 0) (tVar 2)))) :
    FnOk P w K mg base (L2.CX P w) 1 f fd ps (spX C [f1, f2]) :=
  F.okX (k := 0) S (fun vs H Q E h => st_one (ys := []) (by simpa using hp) h) fun cdv A outer s H vs Q E hr h => by
    refine ⟨_, hd cdv A outer s H E, ?_⟩
    obtain ⟨a, ys, rfl, hl, ha, q⟩ := h
    match ys, hl with
    | [y, z], _ =>
      have e : L2.start N [V.ref a, y, z] = [some (.ref a), some y, some z] := by unfold L2.start; rw [hN]; rfl
      rw [e]
      refine ⟨_, rfl, _, rfl, a, C, rfl, T, n1, .inl ⟨ha, fun dx hdx hda => ?_⟩⟩
      refine ⟨_, rfl, _, rfl, a, C, rfl, T, n2, .inr ⟨dx, [(Str.ofString f1, y)], upd_same, ?_, (by show 1 ≤ 900; decide), ?_⟩⟩
      · rw [upd_ne hda, upd_same]
      · have e2 : upd (upd (upd H dx (exd dx [(Str.ofString f1, y)])) a (exo a C (some dx))) dx (exd dx ((Str.ofString f2, z) :: [(Str.ofString f1, y)])) = upd (upd H dx (exd dx [(Str.ofString f2, z), (Str.ofString f1, y)])) a (exo a C (some dx)) := by
          funext b
          by_cases e1 : b = dx
          · subst e1; rw [upd_same, upd_ne hda, upd_same]
          · rw [upd_ne e1]
            by_cases e2 : b = a
            · subst e2; rw [upd_same, upd_same]
            · rw [upd_ne e2, upd_ne e2, upd_ne e1, upd_ne e1]
        show Q .non (upd _ dx _)
        rw [e2]
        exact q dx hdx hda
end
end Kf
end
section
set_option maxHeartbeats 4000000
/-! Kf: dicts: get with a default, pop, del. -/
namespace Kf
open PySem PySem.Spec L2
section
variable {Z : Kx} {o e f : Expr} {apos cpos : Pos} {fo fa fb : SE}
/-- a dict of ours at a later time -/
theorem nget_later {ι1 ι2 : Nat → Addr} {H2 : Hp} {h2 : Hd} {r : Nat} {kvs : List (D × D)} {y : V} {dy : D} (hw : Z.cA.w = Z.X.w) (R2 : HRep Z.X.K Z.cA ι2 H2 h2) (en : ι2 r = ι1 r) (ed : dictD h2 r = some kvs) (ry : Rep Z.X.K ι2 h2.length H2 y dy) {k : NestedKey} (ek : keyD dy = some k) :
    ∃ ks, NDr Z.X.K Z.X.w H2 (ι1 r) ks ∧ NV Z.X.K H2 k y ∧ k.depth ≤ 8 ∧ match dget kvs dy with | some d => ∃ v, nAt ks k = some v ∧ Rep Z.X.K ι2 h2.length H2 v d | none => nAt ks k = none := by
  obtain ⟨ks, nd, r⟩ := dictD_rep hw R2 ed
  obtain ⟨e1, e2⟩ := keyD_some ek
  rw [en] at nd
  exact ⟨ks, nd, nv_of ry e1, e2, r.get ek⟩
/-- the dict and its arguments have come -/
def Come1 (Z : Kx) (σ : L2.St) (a : Addr) (r : Nat) (g : D → Hd → Res D) (Q : VK) (y : V) (H2 : Hp) : Prop := ∃ ι2 h2 dy, HRep Z.X.K Z.cA ι2 H2 h2 ∧ ι2 r = a ∧ r < h2.length ∧ Rep Z.X.K ι2 h2.length H2 y dy ∧ RPost Z.X.K Z.cA Z.W σ ι2 h2 H2 (g dy h2) fun d h' ι' H' => ∀ v, Rep Z.X.K ι' h'.length H' v d → Q v H'
def dM1 (g : Nat → D → Hd → Res D) (fo fa : SE) : SE := fun env h => (fo env h).bind fun x h1 => asRef x fun m => onSome (dictD h1 m) fun _ => (fa env h1).bind fun y h2 => g m y h2
theorem m1_post {g : Nat → D → Hd → Res D} {pins : List (Addr × Obj)} {σ : L2.St} {H : Hp} {s : Shared} {Q : VK} {K2 : Value → Value → Shared → Prop} (hw : Z.cA.w = Z.X.w) (ho : KE Z o fo) (he : KE Z e fa) (I : Inv Z.X pins σ H s)
    (q : tD Z (dM1 g fo fa) σ H Q)
    (k : ∀ u iv s2 r a y H2, u = Value.ref a → Inv Z.X pins σ H2 s2 → RelV y iv → Come1 Z σ a r (g r) Q y H2 → K2 u iv s2) :
    wpAny (model Z.X.prog Z.X.w) Z.X.A (eval o Z.X.env) (fun u s1 => (s1.TypeIs u "dict" ∧ ∀ b, u = .ref b → ∃ ob, s1.heap.get? b = some ob ∧ ob.dict = none) ∧ wpAny (model Z.X.prog Z.X.w) Z.X.A (eval e Z.X.env) (fun iv s2 => K2 u iv s2) Z.X.xe s1) Z.X.xe s := by
  obtain ⟨ι, env, h, R, V, q⟩ := q
  refine thn (ho.pe.run pins s σ H (fun v H1 => ∃ ι1 h1 d, HRep Z.X.K Z.cA ι1 H1 h1 ∧ VRep Z.X.K ι1 h1.length H1 σ env ∧ Rep Z.X.K ι1 h1.length H1 v d ∧
      RPost Z.X.K Z.cA Z.W σ ι1 h1 H1 (asRef d fun m => onSome (dictD h1 m) fun _ => (fa env h1).bind fun y h2 => g m y h2) fun d h' ι' H' => ∀ v, Rep Z.X.K ι' h'.length H' v d → Q v H') I
      ⟨ι, env, h, R, V, (RPost.bind q).mono fun d h1 ι1 H1 S1 R1 p1 v r => ⟨ι1, h1, d, R1, V.step S1 R, r, p1⟩⟩) fun u s1 ⟨v, H1, I1, rv, ι1, h1, d, R1, V1, rd, p1⟩ => ?_
  obtain ⟨r, rfl, p1⟩ := p1.asRef
  obtain ⟨kvs, ed, p1⟩ := p1.onSome
  cases rd with
  | ref hlt =>
    obtain rfl : u = Value.ref (ι1 r) := rv
    obtain ⟨ks, nd, _⟩ := dictD_rep hw R1 ed
    refine ⟨nd.atType I1, thn (he.pe.run pins s1 σ H1 (fun y H2 => Come1 Z σ (ι1 r) r (g r) Q y H2) I1
        ⟨ι1, env, h1, R1, V1, (RPost.bind p1).mono fun dy h2 ι2 H2 S2 R2 p2 y ry => ⟨ι2, h2, dy, R2, S2.eq r hlt, Nat.lt_of_lt_of_le hlt S2.len, ry, p2⟩⟩) fun iv s2 ⟨y, H2, I2, ry, c⟩ => k _ _ _ r _ _ _ rfl I2 ry c⟩
/-! ### d.pop(k) -/
def pop1G (m : Nat) (y : D) (h2 : Hd) : Res D := onDict h2 m fun kvs => onSome (keyD y) fun _ => onSome (dget kvs y) fun d => .ok d (h2.set m (.dict (ddrop kvs y)))
theorem take_post {ι2 : Nat → Addr} {h2 : Hd} {H2 : Hp} {r : Nat} {kvs : List (D × D)} {y : V} {dy : D} {k : NestedKey} (hw : Z.cA.w = Z.X.w) (R2 : HRep Z.X.K Z.cA ι2 H2 h2) (hlt : r < h2.length) (ed : h2[r]? = some (.dict kvs)) (ry : Rep Z.X.K ι2 h2.length H2 y dy) (ek : keyD dy = some k) :
    ∃ ks, NDw Z.X.K Z.X.w H2 (ι2 r) ks ∧ NV Z.X.K H2 k y ∧ k.depth ≤ 8 ∧ (match dget kvs dy with | some d => ∃ v, nAt ks k = some v ∧ Rep Z.X.K ι2 h2.length H2 v d | none => nAt ks k = none) ∧
      Step ι2 h2 H2 ι2 (h2.set r (.dict (ddrop kvs dy))) (upd H2 (ι2 r) (.ext (DNphi Z.X.w (ι2 r) (nDrop ks k)))) ∧ HRep Z.X.K Z.cA ι2 (upd H2 (ι2 r) (.ext (DNphi Z.X.w (ι2 r) (nDrop ks k)))) (h2.set r (.dict (ddrop kvs dy))) := by
  obtain ⟨ks, e3, rs⟩ := dict_at R2 ed
  have hf : ∀ x u, H2 (ι2 r) ≠ some (.frz x u) := fun x u z => by rw [e3] at z; cases z
  obtain ⟨e1, e2⟩ := keyD_some ek
  have A := Step.set R2 hlt hf (.ext (DNphi Z.cA.w (ι2 r) (nDrop ks k))) (.dict (ddrop kvs dy))
  have B := R2.set hlt hf (.dict (rs.drop ek))
  rw [hw] at e3 A B
  exact ⟨ks, ⟨e3, rs.keys⟩, nv_of ry e1, e2, rs.get ek, A, B⟩
theorem ke_pop1 (hw : Z.cA.w = Z.X.w) (hu : Z.X.A.units + 10 < cLine) (ho : KE Z o fo) (he : KE Z e fa) (m : M1 Z.X o "pop" apos e cpos) : KE Z (.Call (.Attribute o "pop" apos) [e] [] cpos) (dM1 pop1G fo fa) := by
  refine ⟨⟨fun pins s σ H Q I q => ?_⟩⟩
  refine wpAny_Call_method m.base m.few m.line PySem.F.plainAttrs_dict PySem.F.slot_dict_pop PySem.F.type_dict_pop (wpAny_mono (m1_post (K2 := fun u iv s2 => wpAny (model Z.X.prog Z.X.w) Z.X.A (call (.builtin "dict.pop") [u, iv]) (fun v s' => ∃ x H', Inv Z.X pins σ H' s' ∧ RelV x v ∧ Q x H') Z.X.xe s2) hw ho he I q ?_) (fun u s1 z => ⟨z.1.1, z.1.2, ?_⟩) fun _ _ z => z)
  · rintro u iv s2 r a y H2 rfl I2 ry ⟨ι2, h2, dy, R2, rfl, hlt, ryd, p2⟩
    obtain ⟨kvs, ed, p2⟩ := p2.onDict
    obtain ⟨k, ek, p2⟩ := p2.onSome
    obtain ⟨d, edd, p2⟩ := p2.onSome
    obtain ⟨ks, nd, nv, hd, q2, S3, R3⟩ := take_post hw R2 hlt ed ryd ek
    rw [edd] at q2
    obtain ⟨v, ev, rv⟩ := q2
    obtain ⟨xs, r2, d2, z, hsys, hx⟩ := nd.r.ex I2
    refine pop_ok (.inl rfl) hu (nv_is I2 nv ry) hd hsys d2 hx (fun w hw' h' tk d3 sb => ?_) fun hn => ?_
    · have q := EVs.at r2 k
      rw [ev, hw'] at q
      exact ⟨v, _, d_write' I2 nd.at' sb (Nat.le_trans (nDrop_len ks k) z) hsys (EVs.drop r2 k) d3, q, p2 ι2 _ S3 R3 v (rv.step S3 R2)⟩
    · have q := EVs.at r2 k
      rw [ev, hn] at q
      exact q.elim
  · rw [m.trees]
    exact Calls.callWith_builtin rfl (Calls.evalArgs_plain (Calls.spliced_cons (wpAny_mono z.2 (fun iv s2 z2 => Calls.spliced_nil z2) fun _ _ z => z)))
/-! ### two arguments -/
def Come2 (Z : Kx) (σ : L2.St) (a : Addr) (r : Nat) (g : D → D → Hd → Res D) (Q : VK) (y z : V) (H2 : Hp) : Prop := ∃ ι2 h2 dy dz, HRep Z.X.K Z.cA ι2 H2 h2 ∧ ι2 r = a ∧ r < h2.length ∧ Rep Z.X.K ι2 h2.length H2 y dy ∧ Rep Z.X.K ι2 h2.length H2 z dz ∧ RPost Z.X.K Z.cA Z.W σ ι2 h2 H2 (g dy dz h2) fun d h' ι' H' => ∀ v, Rep Z.X.K ι' h'.length H' v d → Q v H'
def dM2 (g : Nat → D → D → Hd → Res D) (fo fa fb : SE) : SE := fun env h => (fo env h).bind fun x h1 => asRef x fun m => onSome (dictD h1 m) fun _ => (fa env h1).bind fun y h2 => (fb env h2).bind fun z h3 => g m y z h3
theorem m2_post {g : Nat → D → D → Hd → Res D} {pins : List (Addr × Obj)} {σ : L2.St} {H : Hp} {s : Shared} {Q : VK} {K2 : Value → Value → Value → Shared → Prop} (hw : Z.cA.w = Z.X.w) (ho : KE Z o fo) (he : KE Z e fa) (hf : KE Z f fb) (I : Inv Z.X pins σ H s)
    (q : tD Z (dM2 g fo fa fb) σ H Q)
    (k : ∀ u iv jv s2 r a y z H2, u = Value.ref a → Inv Z.X pins σ H2 s2 → RelV y iv → RelV z jv → Come2 Z σ a r (g r) Q y z H2 → K2 u iv jv s2) :
    wpAny (model Z.X.prog Z.X.w) Z.X.A (eval o Z.X.env) (fun u s1 => (s1.TypeIs u "dict" ∧ ∀ b, u = .ref b → ∃ ob, s1.heap.get? b = some ob ∧ ob.dict = none) ∧ wpAny (model Z.X.prog Z.X.w) Z.X.A (eval e Z.X.env) (fun iv s2 =>
      wpAny (model Z.X.prog Z.X.w) Z.X.A (eval f Z.X.env) (fun jv s3 => K2 u iv jv s3) Z.X.xe s2) Z.X.xe s1) Z.X.xe s := by
  obtain ⟨ι, env, h, R, V, q⟩ := q
  refine thn (ho.pe.run pins s σ H (fun v H1 => ∃ ι1 h1 d, HRep Z.X.K Z.cA ι1 H1 h1 ∧ VRep Z.X.K ι1 h1.length H1 σ env ∧ Rep Z.X.K ι1 h1.length H1 v d ∧
      RPost Z.X.K Z.cA Z.W σ ι1 h1 H1 (asRef d fun m => onSome (dictD h1 m) fun _ => (fa env h1).bind fun y h2 => (fb env h2).bind fun z h3 => g m y z h3) fun d h' ι' H' => ∀ v, Rep Z.X.K ι' h'.length H' v d → Q v H') I
      ⟨ι, env, h, R, V, (RPost.bind q).mono fun d h1 ι1 H1 S1 R1 p1 v r => ⟨ι1, h1, d, R1, V.step S1 R, r, p1⟩⟩) fun u s1 ⟨v, H1, I1, rv, ι1, h1, d, R1, V1, rd, p1⟩ => ?_
  obtain ⟨r, rfl, p1⟩ := p1.asRef
  obtain ⟨kvs, ed, p1⟩ := p1.onSome
  cases rd with
  | ref hlt =>
    obtain rfl : u = Value.ref (ι1 r) := rv
    obtain ⟨ks, nd, _⟩ := dictD_rep hw R1 ed
    refine ⟨nd.atType I1, thn (he.pe.run pins s1 σ H1 (fun y H2 => ∃ ι2 h2 dy, HRep Z.X.K Z.cA ι2 H2 h2 ∧ VRep Z.X.K ι2 h2.length H2 σ env ∧ ι2 r = ι1 r ∧ r < h2.length ∧ Rep Z.X.K ι2 h2.length H2 y dy ∧ RPost Z.X.K Z.cA Z.W σ ι2 h2 H2 ((fb env h2).bind fun z h3 => g r dy z h3) fun d h' ι' H' => ∀ v, Rep Z.X.K ι' h'.length H' v d → Q v H') I1
        ⟨ι1, env, h1, R1, V1, (RPost.bind p1).mono fun dy h2 ι2 H2 S2 R2 p2 y ry => ⟨ι2, h2, dy, R2, V1.step S2 R1, S2.eq r hlt, Nat.lt_of_lt_of_le hlt S2.len, ry, p2⟩⟩) fun iv s2 ⟨y, H2, I2, ry, ι2, h2, dy, R2, V2, en, hl2, ryd, p2⟩ => ?_⟩
    exact thn (hf.pe.run pins s2 σ H2 (fun z H3 => Come2 Z σ (ι1 r) r (g r) Q y z H3) I2
        ⟨ι2, env, h2, R2, V2, (RPost.bind p2).mono fun dz h3 ι3 H3 S3 R3 p3 z rz => ⟨ι3, h3, dy, dz, R3, by rw [S3.eq r hl2]; exact en, Nat.lt_of_lt_of_le hl2 S3.len, ryd.step S3 R2, rz, p3⟩⟩) fun jv s3 ⟨z, H3, I3, rz, c⟩ => k _ _ _ _ r _ _ _ _ rfl I3 ry rz c
def get2G (m : Nat) (y z : D) (h2 : Hd) : Res D := onSome (dictD h2 m) fun kvs => onSome (keyD y) fun _ => .ok ((dget kvs y).getD z) h2
theorem ke_get2 (hw : Z.cA.w = Z.X.w) (hu : Z.X.A.units + 10 < cLine) (ho : KE Z o fo) (he : KE Z e fa) (hf : KE Z f fb) (m : M2 Z.X o "get" apos e f cpos) : KE Z (.Call (.Attribute o "get" apos) [e, f] [] cpos) (dM2 get2G fo fa fb) := by
  refine ⟨⟨fun pins s σ H Q I q => ?_⟩⟩
  refine wpAny_Call_method m.base m.few m.line PySem.F.plainAttrs_dict PySem.F.slot_dict_get PySem.F.type_dict_get (wpAny_mono (m2_post (K2 := fun u iv jv s2 => wpAny (model Z.X.prog Z.X.w) Z.X.A (call (.builtin "dict.get") [u, iv, jv]) (fun v s' => ∃ x H', Inv Z.X pins σ H' s' ∧ RelV x v ∧ Q x H') Z.X.xe s2) hw ho he hf I q ?_) (fun u s1 z => ⟨z.1.1, z.1.2, ?_⟩) fun _ _ z => z)
  · rintro u iv jv s2 r a y z H2 rfl I2 ry rz ⟨ι2, h2, dy, dz, R2, rfl, hlt, ryd, rzd, p2⟩
    obtain ⟨kvs, ed, p2⟩ := p2.onSome
    obtain ⟨k, ek, p2⟩ := p2.onSome
    obtain ⟨ks, nd, nv, hd, q2⟩ := nget_later (ι1 := ι2) hw R2 rfl ed ryd ek
    obtain ⟨xs, r2, d2, zz, hsys, hx⟩ := nd.ex I2
    refine get2_ok hu (nv_is I2 nv ry) hd hsys d2 fun tk => ⟨(nAt ks k).getD z, H2, I2.tok _, (EVs.at r2 k).getD rz, ?_⟩
    cases c : dget kvs dy with
    | none =>
      rw [c] at q2 p2
      rw [q2]
      exact RPost.ok R2 p2 _ rzd
    | some d =>
      rw [c] at q2 p2
      obtain ⟨v, ev, rv⟩ := q2
      rw [ev]
      exact RPost.ok R2 p2 _ rv
  · rw [m.trees]
    exact Calls.callWith_builtin rfl (Calls.evalArgs_plain (Calls.spliced_cons (wpAny_mono z.2 (fun iv s2 z2 => Calls.spliced_cons (wpAny_mono z2 (fun jv s3 z3 => Calls.spliced_nil z3) fun _ _ z => z)) fun _ _ z => z)))
def pop2G (m : Nat) (y z : D) (h2 : Hd) : Res D := onDict h2 m fun kvs => onSome (keyD y) fun _ => match dget kvs y with | some d => .ok d (h2.set m (.dict (ddrop kvs y))) | none => .ok z h2
theorem ke_pop2 (hw : Z.cA.w = Z.X.w) (hu : Z.X.A.units + 10 < cLine) (ho : KE Z o fo) (he : KE Z e fa) (hf : KE Z f fb) (m : M2 Z.X o "pop" apos e f cpos) : KE Z (.Call (.Attribute o "pop" apos) [e, f] [] cpos) (dM2 pop2G fo fa fb) := by
  refine ⟨⟨fun pins s σ H Q I q => ?_⟩⟩
  refine wpAny_Call_method m.base m.few m.line PySem.F.plainAttrs_dict PySem.F.slot_dict_pop PySem.F.type_dict_pop (wpAny_mono (m2_post (K2 := fun u iv jv s2 => wpAny (model Z.X.prog Z.X.w) Z.X.A (call (.builtin "dict.pop") [u, iv, jv]) (fun v s' => ∃ x H', Inv Z.X pins σ H' s' ∧ RelV x v ∧ Q x H') Z.X.xe s2) hw ho he hf I q ?_) (fun u s1 z => ⟨z.1.1, z.1.2, ?_⟩) fun _ _ z => z)
  · rintro u iv jv s2 r a y z H2 rfl I2 ry rz ⟨ι2, h2, dy, dz, R2, rfl, hlt, ryd, rzd, p2⟩
    obtain ⟨kvs, ed, p2⟩ := p2.onDict
    obtain ⟨k, ek, p2⟩ := p2.onSome
    obtain ⟨ks, nd, nv, hd, q2, S3, R3⟩ := take_post hw R2 hlt ed ryd ek
    obtain ⟨xs, r2, d2, zz, hsys, hx⟩ := nd.r.ex I2
    have qa := EVs.at r2 k
    have p2 : RPost Z.X.K Z.cA Z.W σ ι2 h2 H2 (match dget kvs dy with | some d => .ok d (h2.set r (.dict (ddrop kvs dy))) | none => .ok dz h2) fun d h' ι' H' => ∀ v, Rep Z.X.K ι' h'.length H' v d → Q v H' := p2
    refine pop_ok (.inr ⟨jv, rfl⟩) hu (nv_is I2 nv ry) hd hsys d2 hx (fun w hw' h' tk d3 sb => ?_) fun hn => ⟨jv, rfl, fun tk => ?_⟩
    · rw [hw'] at qa
      cases c : dget kvs dy with
      | none => rw [c] at q2; rw [q2] at qa; exact qa.elim
      | some d =>
        rw [c] at q2 p2
        obtain ⟨v, ev, rv⟩ := q2
        rw [ev] at qa
        exact ⟨v, _, d_write' I2 nd.at' sb (Nat.le_trans (nDrop_len ks k) zz) hsys (EVs.drop r2 k) d3, qa, p2 ι2 _ S3 R3 v (rv.step S3 R2)⟩
    · rw [hn] at qa
      cases c : dget kvs dy with
      | none =>
        rw [c] at p2
        exact ⟨z, H2, I2.tok _, rz, RPost.ok R2 p2 _ rzd⟩
      | some d =>
        rw [c] at q2
        obtain ⟨v, ev, _⟩ := q2
        rw [ev] at qa
        exact qa.elim
  · rw [m.trees]
    exact Calls.callWith_builtin rfl (Calls.evalArgs_plain (Calls.spliced_cons (wpAny_mono z.2 (fun iv s2 z2 => Calls.spliced_cons (wpAny_mono z2 (fun jv s3 z3 => Calls.spliced_nil z3) fun _ _ z => z)) fun _ _ z => z)))
/-! ### del d[k] -/
def sDel (fo fa : SE) : SS := fun env h => (fo env h).lift env fun x h1 => (fa env h1).lift env fun y h2 => Res.lift (asRef x fun m => onDict h2 m fun kvs => onSome (keyD y) fun _ => onSome (dget kvs y) fun _ => .ok () (h2.set m (.dict (ddrop kvs y)))) env fun _ h3 => .ok (.nx env) h3
theorem ks_del {tpos pos : Pos} (hw : Z.cA.w = Z.X.w) (hu : Z.X.A.units + 10 < cLine) (ho : KE Z o fo) (hi : KE Z e fa) : KS Z (.Delete [.Subscript o e tpos] pos) (sDel fo fa) := by
  refine ⟨⟨fun pins s σ H Dd I ⟨ι, env, h, R, V, q⟩ => ?_⟩⟩
  refine wpAny_Delete (wpAny_deleteEach_cons (wpAny_delete_Subscript (thn (ho.pe.run pins s σ H _ I ⟨ι, env, h, R, V, (RsPost.of R V q).mono fun d h1 ι1 H1 S1 R1 p1 v r =>
      (show (fun v H1 => ∃ ι1 h1 d, HRep Z.X.K Z.cA ι1 H1 h1 ∧ VRep Z.X.K ι1 h1.length H1 σ env ∧ Rep Z.X.K ι1 h1.length H1 v d ∧ RsPost Z Dd ι1 h1 H1 ((fa env h1).lift env fun y h2 => Res.lift (asRef d fun m => onDict h2 m fun kvs => onSome (keyD y) fun _ => onSome (dget kvs y) fun _ => .ok () (h2.set m (.dict (ddrop kvs y)))) env fun _ h3 => .ok (.nx env) h3)) v H1 from
        ⟨ι1, h1, d, R1, V.step S1 R, r, p1⟩)⟩) fun u s1 ⟨v, H1, I1, rv, ι1, h1, d, R1, V1, rd, p1⟩ => ?_)))
  refine thn (hi.pe.run pins s1 σ H1 _ I1 ⟨ι1, env, h1, R1, V1, (RsPost.of R1 V1 p1).mono fun dy h2 ι2 H2 S2 R2 p2 y ry =>
      (show (fun y H2 => ∃ ι2 h2 dy, HRep Z.X.K Z.cA ι2 H2 h2 ∧ VRep Z.X.K ι2 h2.length H2 σ env ∧ Rep Z.X.K ι2 h2.length H2 v d ∧ Rep Z.X.K ι2 h2.length H2 y dy ∧ RsPost Z Dd ι2 h2 H2 (Res.lift (asRef d fun m => onDict h2 m fun kvs => onSome (keyD dy) fun _ => onSome (dget kvs dy) fun _ => .ok () (h2.set m (.dict (ddrop kvs dy)))) env fun _ h3 => .ok (.nx env) h3)) y H2 from
        ⟨ι2, h2, dy, R2, V1.step S2 R1, rd.step S2 R1, ry, p2⟩)⟩) fun iv s2 ⟨y, H2, I2, ry, ι2, h2, dy, R2, V2, rd2, ryd, p2⟩ => ?_
  obtain ⟨r, er, p3⟩ := (RsPost.of R2 V2 p2).asRef
  subst er
  clear p2
  obtain ⟨kvs, ed, p2⟩ := p3.onDict
  obtain ⟨k, ek, p2⟩ := p2.onSome
  obtain ⟨dd, edd, p2⟩ := p2.onSome
  cases rd2 with
  | ref hlt =>
    obtain rfl : u = Value.ref (ι2 r) := rv
    obtain ⟨ks, nd, nv, hd, q2, S3, R3⟩ := take_post hw R2 hlt ed ryd ek
    rw [edd] at q2
    obtain ⟨v, ev, _⟩ := q2
    obtain ⟨xs, r2, d2, zz, hsys, hx⟩ := nd.r.ex I2
    refine delItem_ok hu (nv_is I2 nv ry) hd hsys d2 hx (by rw [← RelO.isSome_eq (EVs.at r2 k), ev]; rfl) fun h' tk d3 sb => wpAny_deleteEach_nil ⟨σ, _, d_write' I2 nd.at' sb (Nat.le_trans (nDrop_len ks k) zz) hsys (EVs.drop r2 k) d3, ?_⟩
    exact RsPost.fin R3 (p2 ι2 _ S3 R3) σ (V2.step S3 R2)
end
end Kf
end
section
set_option maxHeartbeats 4000000
/-! Kf: walks over dicts; a dict is locked while it is walked. -/
namespace Kf
open PySem PySem.Spec L2
/-! ### a locked dict -/
section
variable {X : Cx} {pins : List (Addr × Obj)} {σ : L2.St} {H : Hp} {s : Shared} {d : Addr} {o : Obj} {ks : List NEnt} {es : Array DictEntry} {ep : Nat}
abbrev Lk (w : World) (H : Hp) (d : Addr) (o : Obj) (ks : List NEnt) : Prop := H d = some (.frz o (.ext (DNphi w d ks)))
theorem paired_at {α β : Type} {G : α → β → Prop} : ∀ {l₁ : List α} {l₂ : List β} {i : Nat} {a : α}, Paired G l₁ l₂ → l₁[i]? = some a → ∃ b, l₂[i]? = some b ∧ G a b
  | _, _, _, _, .nil, e => by simp at e
  | _, _, 0, _, .cons r _, e => by simp at e; subst e; exact ⟨_, rfl, r⟩
  | _, _, i + 1, a, .cons _ t, e => by
    obtain ⟨b, h1, h2⟩ := paired_at (i := i) (a := a) t (by simpa using e)
    exact ⟨b, by simpa using h1, h2⟩
/-- what a locked dict's object is -/
theorem lk_ex (I : Inv X pins σ H s) (h : Lk X.w H d o ks) : (d == sysModules) = false ∧ ∃ es ep, o.data = .dict es ep ∧ s.heap.DictRaw d es ep ∧ es.size = ks.length ∧ ∀ i p, ks[i]? = some p → ∃ hi : i < es.size, RelV p.2.1 (es[i]'hi).key ∧ RelV p.2.2 (es[i]'hi).val := by
  obtain ⟨ho, ⟨z, hs, xs, r, nd, o', ep, ho', hc, hd⟩, _, _⟩ := I.hok d _ h
  rw [ho] at ho'
  cases ho'
  refine ⟨hs, _, ep, hd, ⟨o, ho, hc, hd⟩, by simp [Paired.length r], fun i p hp => ?_⟩
  obtain ⟨x, hx, e1, e2, e3⟩ := paired_at r hp
  have hi : i < (xs.map (entX X.w)).toArray.size := by
    have := (List.getElem?_eq_some_iff.mp hx).1
    simpa using this
  have e : (xs.map (entX X.w)).toArray[i] = entX X.w x := by
    obtain ⟨hi', e⟩ := List.getElem?_eq_some_iff.mp hx
    simp [e]
  refine ⟨hi, ?_, ?_⟩
  · rw [e]; exact e2
  · rw [e]; exact e3
theorem lk_es (I : Inv X pins σ H s) (h : Lk X.w H d o ks) (hod : o.data = .dict es ep) : s.heap.DictRaw d es ep ∧ es.size = ks.length ∧ ∀ i p, ks[i]? = some p → ∃ hi : i < es.size, RelV p.2.1 (es[i]'hi).key ∧ RelV p.2.2 (es[i]'hi).val := by
  obtain ⟨_, es', ep', hd, q⟩ := lk_ex I h
  rw [hod] at hd
  cases hd
  exact q
def Itk' (w : World) (d : Addr) (o : Obj) (ks : List NEnt) : It :=
  ⟨fun i H => Lk w H d o ks ∧ i < ks.length, fun i H x H' => H' = H ∧ ∃ p, ks[i]? = some p ∧ x = p.2.1, fun i H => Lk w H d o ks ∧ ks.length ≤ i⟩
def Itv' (w : World) (d : Addr) (o : Obj) (ks : List NEnt) : It :=
  ⟨fun i H => Lk w H d o ks ∧ i < ks.length, fun i H x H' => H' = H ∧ ∃ p, ks[i]? = some p ∧ x = p.2.2, fun i H => Lk w H d o ks ∧ ks.length ≤ i⟩
def Iti' (w : World) (d : Addr) (o : Obj) (ks : List NEnt) : It :=
  ⟨fun i H => Lk w H d o ks ∧ i < ks.length, fun i H x H' => ∃ T p, ks[i]? = some p ∧ x = .ref T ∧ H T = none ∧ H' = upd H T (.tup [p.2.1, p.2.2]), fun i H => Lk w H d o ks ∧ ks.length ≤ i⟩
end
section
variable {P : Program} {w : World} {K : PySem.W.Frag} {tg : Expr} {d : Addr} {o : Obj} {es : Array DictEntry} {ep : Nat} {ks : List NEnt}
theorem turn_keys' (it : Addr) (hod : o.data = .dict es ep) : Turn P w K tg (Itk' w d o ks) [it] it (fun i h => h.IsKeyIter it d i es.size ep) where
  mem := by simp
  obj := fun i h st b hb => by
    have e : b = it := by simpa using hb
    subst e
    obtain ⟨oi, e, c, dd⟩ := st
    exact ⟨oi, e, fun v z => by rw [dd] at z; cases z⟩
  keep := fun i h h' ⟨oi, e, c⟩ k => ⟨oi, k it (by simp) oi e, c⟩
  item := by
    intro X hP hw hK hc i pins s σ H E I hf st ⟨hd, hi⟩
    subst hP hw hK
    obtain ⟨f0, f1, f2, f3, f4, f5⟩ := hf it (by simp)
    obtain ⟨raw, hsz, ent⟩ := lk_es I hd hod
    obtain ⟨p, hp⟩ : ∃ p, ks[i]? = some p := ⟨ks[i], List.getElem?_eq_getElem hi⟩
    obtain ⟨hlt, r1, r2⟩ := ent i p hp
    refine wpAny_pyNext_keys_item_raw st raw hlt fun h' st' sb => ?_
    have I1 : Inv X pins σ H { s with heap := h' } := I.turned (t' := s.toks) (fun b ob hb e => (sb.2 b hb).trans e) f0 f1 f3 f4 f5
    obtain ⟨oi, e, c, dd⟩ := id st'
    exact ⟨_, rfl, go_of (s := { s with heap := h' }) e c dd (by decide) ⟨p.2.1, H, I1, r1, ⟨rfl, p, hp, rfl⟩, st', fun b hb => (hf b hb).1⟩⟩
  done := by
    intro X hP hw hK hc i pins s σ H E I hf st ⟨hd, hi⟩
    subst hP hw hK
    obtain ⟨f0, f1, f2, f3, f4, f5⟩ := hf it (by simp)
    obtain ⟨raw, hsz, ent⟩ := lk_es I hd hod
    exact wpAny_pyNext_keys_end_raw (I.ok.hd hc) st raw (by omega) fun h' eb => ⟨rfl, I.turned (t' := s.toks) (fun b ob hb e => eb b ob hb e) f0 f1 f3 f4 f5⟩
  self := fun A i s Q E st h => by
    refine wpAny_pyIter_slot st.typeIs PySem.F.slot_dict_keyiterator_iter (wpAny_call_entry PySem.F.slot_dict_keyiterator_iter st.typeIs PySem.F.entry_dict_keyiterator_iter ?_ (PySem.F.args_dict_keyiterator_iter_1 _))
    show wpAny _ _ (ret (.ref it)) _ _ s
    exact wpAny_pure ⟨_, rfl, "dict_keyiterator", _, st.typeIs, PySem.F.slot_dict_keyiterator_next.lookup, h⟩
theorem turn_vals' (it : Addr) (hod : o.data = .dict es ep) : Turn P w K tg (Itv' w d o ks) [it] it (fun i h => h.IsValIter it d i es.size ep) where
  mem := by simp
  obj := fun i h st b hb => by
    have e : b = it := by simpa using hb
    subst e
    obtain ⟨oi, e, c, dd⟩ := st
    exact ⟨oi, e, fun v z => by rw [dd] at z; cases z⟩
  keep := fun i h h' ⟨oi, e, c⟩ k => ⟨oi, k it (by simp) oi e, c⟩
  item := by
    intro X hP hw hK hc i pins s σ H E I hf st ⟨hd, hi⟩
    subst hP hw hK
    obtain ⟨f0, f1, f2, f3, f4, f5⟩ := hf it (by simp)
    obtain ⟨raw, hsz, ent⟩ := lk_es I hd hod
    obtain ⟨p, hp⟩ : ∃ p, ks[i]? = some p := ⟨ks[i], List.getElem?_eq_getElem hi⟩
    obtain ⟨hlt, r1, r2⟩ := ent i p hp
    refine wpAny_pyNext_values_item_raw st raw hlt fun h' st' sb => ?_
    have I1 : Inv X pins σ H { s with heap := h' } := I.turned (t' := s.toks) (fun b ob hb e => (sb.2 b hb).trans e) f0 f1 f3 f4 f5
    obtain ⟨oi, e, c, dd⟩ := id st'
    exact ⟨_, rfl, go_of (s := { s with heap := h' }) e c dd (by decide) ⟨p.2.2, H, I1, r2, ⟨rfl, p, hp, rfl⟩, st', fun b hb => (hf b hb).1⟩⟩
  done := by
    intro X hP hw hK hc i pins s σ H E I hf st ⟨hd, hi⟩
    subst hP hw hK
    obtain ⟨f0, f1, f2, f3, f4, f5⟩ := hf it (by simp)
    obtain ⟨raw, hsz, ent⟩ := lk_es I hd hod
    exact wpAny_pyNext_values_end_raw (I.ok.hd hc) st raw (by omega) fun h' eb => ⟨rfl, I.turned (t' := s.toks) (fun b ob hb e => eb b ob hb e) f0 f1 f3 f4 f5⟩
  self := fun A i s Q E st h => wpAny_pyIter_valiter st h
theorem turn_items' {elts : List Expr} {kk : Nat} {tpos : Pos} (it : Addr) (hod : o.data = .dict es ep) :
    Turn P w K (.Tuple elts kk tpos) (Iti' w d o ks) [it] it (fun i h => ∃ ok ov, IsItemIter h it d i es.size ep ok ov) where
  mem := by simp
  obj := fun i h st b hb => by
    have e : b = it := by simpa using hb
    subst e
    obtain ⟨ok, ov, e⟩ := st
    exact ⟨_, e, fun v z => nomatch z⟩
  keep := fun i h h' st k => let ⟨ok, ov, e⟩ := st; ⟨ok, ov, k it (by simp) _ e⟩
  item := by
    intro X hP hw hK hc i pins s σ H E I hf st ⟨hd, hi⟩
    subst hP hw hK
    obtain ⟨raw, hsz, ent⟩ := lk_es I hd hod
    obtain ⟨p, hp⟩ : ∃ p, ks[i]? = some p := ⟨ks[i], List.getElem?_eq_getElem hi⟩
    obtain ⟨hlt, r1, r2⟩ := ent i p hp
    obtain ⟨ok, ov, he⟩ := st
    have hl : it < s.heap.objs.size := Heap.lt_size he
    refine wpAny_pyNext_items_item_raw he raw hlt fun h' ho hT hz hk => ?_
    refine ⟨_, rfl, wpAny_letOwnedTupleGo_items (s := { s with heap := h' }) ho fun h'' he' sb => ?_⟩
    have hT2 : h''.get? s.heap.objs.size = some { cls := .type "tuple", data := .seq #[es[i].key, es[i].val] } := (sb.2 _ (Nat.ne_of_gt hl)).trans hT
    have new : ObjOk X.prog X.w (upd H s.heap.objs.size (.tup [p.2.1, p.2.2])) h'' s.heap.objs.size (.tup [p.2.1, p.2.2]) :=
      ⟨by show 2 ≤ sizeLine; decide, [es[i].key, es[i].val], .cons r1 (.cons r2 .nil), ⟨_, hT2, rfl, _, rfl⟩⟩
    have I1 : Inv X pins σ (upd H s.heap.objs.size (.tup [p.2.1, p.2.2])) { s with heap := h'' } :=
      I.turnedNew (t' := s.toks) (ch := [it]) (fun b ob hb e => (sb.2 b (by simpa using hb)).trans (hk b ob (by simpa using hb) e)) hf (Nat.le_refl _) new
    refine ⟨.ref s.heap.objs.size, _, I1, rfl, ⟨_, p, hp, rfl, I.hok.fresh (Nat.le_refl _), rfl⟩, ⟨es[i].key, es[i].val, he'⟩, fun b hb => ?_⟩
    have e : b = it := by simpa using hb
    rw [e, upd_ne (Nat.ne_of_lt hl)]
    exact (hf it (by simp)).1
  done := by
    intro X hP hw hK hc i pins s σ H E I hf st ⟨hd, hi⟩
    subst hP hw hK
    obtain ⟨f0, f1, f2, f3, f4, f5⟩ := hf it (by simp)
    obtain ⟨raw, hsz, ent⟩ := lk_es I hd hod
    obtain ⟨ok, ov, he⟩ := st
    exact wpAny_pyNext_items_end_raw (I.ok.hd hc) he raw (by omega) fun h' eb => ⟨rfl, I.turned (t' := s.toks) (fun b ob hb e => eb b ob hb e) f0 f1 f3 f4 f5⟩
  self := fun A i s Q E st h => let ⟨_, _, e⟩ := st; PySem.W.kcp_self e h
end
/-! ### the iterators come -/
/-- a dict that is locked now (or was already): what then stands -/
def rLk (K : PySem.W.Frag) (w : World) (mk : Addr → Obj → List NEnt → It) (x : V) (H : Hp) (R : It → Hp → Prop) : Prop :=
  ∃ d, x = .ref d ∧ ((∃ o ks, Lk w H d o ks ∧ R (mk d o ks) H) ∨ ∃ ks, H d = some (.ext (DNphi w d ks)) ∧ ∀ o, R (mk d o ks) (upd H d (.frz o (.ext (DNphi w d ks)))))
section
variable {X : Cx} {tg e : Expr} {td : TE} {apos cpos : Pos}
theorem lk_now {mk : Addr → Obj → List NEnt → It} {pins : List (Addr × Obj)} {σ : L2.St} {H : Hp} {s : Shared} {x : V} {R : It → Hp → Prop} (I : Inv X pins σ H s) (q : rLk X.K X.w mk x H R) : ∃ d o ks H', x = .ref d ∧ Inv X pins σ H' s ∧ Lk X.w H' d o ks ∧ R (mk d o ks) H' := by
  obtain ⟨d, ex, ⟨o, ks, h, q⟩ | ⟨ks, h, q⟩⟩ := q
  · exact ⟨d, o, ks, H, ex, I, h, q⟩
  · obtain ⟨o, I1⟩ := I.lock h True.intro
    exact ⟨d, o, ks, _, ex, I1, upd_same, q o⟩
theorem pi_keys' (he : PE X e td) : PI X tg e (fun σ H R => td σ H fun x H1 => rLk X.K X.w (Itk' X.w) x H1 R) := by
  refine ⟨fun pins s σ H R I h => thn (he.run pins s σ H _ I h) fun u s1 ⟨x, H1, I1, rx, q⟩ => ?_⟩
  obtain ⟨d, o, ks, H2, rfl, I2, lk, q⟩ := lk_now I1 q
  obtain rfl : u = Value.ref d := rx
  obtain ⟨hs, es, ep, hod, raw, hsz, _⟩ := lk_ex I2 lk
  exact wpAny_pyIter_dict_raw hs raw (pi_one (tk := s1.toks) I2 _ (turn_keys' _ hod) ⟨_, Heap.get?_push_size _ rfl, rfl, rfl⟩ q)
theorem raw_push {h : Heap} {d : Addr} {es : Array DictEntry} {ep : Nat} (r : h.DictRaw d es ep) (o : Obj) : (h.push o).DictRaw d es ep := r.at fun _ q => Heap.get?_push_of_some _ q
theorem raw_noDict {h : Heap} {d : Addr} {es : Array DictEntry} {ep : Nat} (r : h.DictRaw d es ep) : ∀ b, Value.ref d = .ref b → ∃ ob, h.get? b = some ob ∧ ob.dict = none := fun b q => by
  cases q
  obtain ⟨o, h1, h2, _⟩ := r
  exact ⟨o, h1, h2.2.1⟩
theorem pi_values' (he : PE X e td) (hbase : attributeBase e "values" X.env (eval e X.env) = eval e X.env := by rfl) (hline : (apos.endLine == cpos.line) = true := by rfl) : PI X tg (.Call (.Attribute e "values" apos) [] [] cpos) (fun σ H R => td σ H fun x H1 => rLk X.K X.w (Itv' X.w) x H1 R) := by
  refine ⟨fun pins s σ H R I h => ?_⟩
  refine wpAny_Call_method (T := "dict") (id := "dict.values") hbase rfl hline PySem.F.plainAttrs_dict PySem.F.slot_dict_values PySem.F.type_dict_values (thn (he.run pins s σ H _ I h) fun u s1 ⟨x, H1, I1, rx, q⟩ => ?_)
  obtain ⟨d, o, ks, H2, rfl, I2, lk, q⟩ := lk_now I1 q
  obtain rfl : u = Value.ref d := rx
  obtain ⟨hs, es, ep, hod, raw, hsz, _⟩ := lk_ex I2 lk
  refine ⟨raw.typeIs, raw_noDict raw, ?_⟩
  have I3 : Inv X pins σ H2 { s1 with heap := s1.heap.push { cls := .type "dict_values", data := .fields #[.ref d] } } := I2.kept (t' := s1.toks) fun b ob q => Heap.get?_push_of_some _ q
  have fin : wpAny (model X.prog X.w) X.A (pyIter (.ref s1.heap.objs.size)) (PIE X pins σ tg R) X.xe { s1 with heap := s1.heap.push { cls := .type "dict_values", data := .fields #[.ref d] } } :=
    wpAny_pyIter_values_raw (d := d) ⟨_, Heap.get?_push_size _ rfl, rfl, rfl⟩ (raw_push raw _) (pi_one (tk := s1.toks) I3 _ (turn_vals' _ hod) ⟨_, Heap.get?_push_size _ rfl, rfl, rfl⟩ q)
  show wpAny _ _ (callWith cpos (.builtin "dict.values") [.ref d] [] []) _ X.xe s1
  exact method_meetsIn PySem.F.slot_dict_values PySem.F.entry_dict_values rfl (PySem.evalArgs_none ⟨rfl, raw.typeIs, PySem.F.args_dict_values_1 _, _, meets_dict_values_raw d hs, ⟨es, ep, raw⟩, fin⟩)
theorem pi_keysM' (he : PE X e td) (hbase : attributeBase e "keys" X.env (eval e X.env) = eval e X.env := by rfl) (hline : (apos.endLine == cpos.line) = true := by rfl) : PI X tg (.Call (.Attribute e "keys" apos) [] [] cpos) (fun σ H R => td σ H fun x H1 => rLk X.K X.w (Itk' X.w) x H1 R) := by
  refine ⟨fun pins s σ H R I h => ?_⟩
  refine wpAny_Call_method (T := "dict") (id := "dict.keys") hbase rfl hline PySem.F.plainAttrs_dict PySem.F.slot_dict_keys PySem.F.type_dict_keys (thn (he.run pins s σ H _ I h) fun u s1 ⟨x, H1, I1, rx, q⟩ => ?_)
  obtain ⟨d, o, ks, H2, rfl, I2, lk, q⟩ := lk_now I1 q
  obtain rfl : u = Value.ref d := rx
  obtain ⟨hs, es, ep, hod, raw, hsz, _⟩ := lk_ex I2 lk
  refine ⟨raw.typeIs, raw_noDict raw, ?_⟩
  have I3 : Inv X pins σ H2 { s1 with heap := s1.heap.push { cls := .type "dict_keys", data := .fields #[.ref d] } } := I2.kept (t' := s1.toks) fun b ob q => Heap.get?_push_of_some _ q
  have fin : wpAny (model X.prog X.w) X.A (pyIter (.ref s1.heap.objs.size)) (PIE X pins σ tg R) X.xe { s1 with heap := s1.heap.push { cls := .type "dict_keys", data := .fields #[.ref d] } } :=
    wpAny_pyIter_keys_raw (d := d) ⟨_, Heap.get?_push_size _ rfl, rfl, rfl⟩ (raw_push raw _) (pi_one (tk := s1.toks) I3 _ (turn_keys' _ hod) ⟨_, Heap.get?_push_size _ rfl, rfl, rfl⟩ q)
  show wpAny _ _ (callWith cpos (.builtin "dict.keys") [.ref d] [] []) _ X.xe s1
  exact method_meetsIn PySem.F.slot_dict_keys PySem.F.entry_dict_keys rfl (PySem.evalArgs_none ⟨rfl, raw.typeIs, PySem.F.args_dict_keys_1 _, _, meets_dict_keys_raw d hs, ⟨es, ep, raw⟩, fin⟩)
theorem pi_items' {elts : List Expr} {kk : Nat} {tpos : Pos} (he : PE X e td) (hbase : attributeBase e "items" X.env (eval e X.env) = eval e X.env := by rfl) (hline : (apos.endLine == cpos.line) = true := by rfl) :
    PI X (.Tuple elts kk tpos) (.Call (.Attribute e "items" apos) [] [] cpos) (fun σ H R => td σ H fun x H1 => rLk X.K X.w (Iti' X.w) x H1 R) := by
  refine ⟨fun pins s σ H R I h => ?_⟩
  refine wpAny_Call_method (T := "dict") (id := "dict.items") hbase rfl hline PySem.F.plainAttrs_dict PySem.F.slot_dict_items PySem.F.type_dict_items (thn (he.run pins s σ H _ I h) fun u s1 ⟨x, H1, I1, rx, q⟩ => ?_)
  obtain ⟨d, o, ks, H2, rfl, I2, lk, q⟩ := lk_now I1 q
  obtain rfl : u = Value.ref d := rx
  obtain ⟨hs, es, ep, hod, raw, hsz, _⟩ := lk_ex I2 lk
  refine ⟨raw.typeIs, raw_noDict raw, ?_⟩
  have I3 : Inv X pins σ H2 { s1 with heap := s1.heap.push { cls := .type "dict_items", data := .fields #[.ref d] } } := I2.kept (t' := s1.toks) fun b ob q => Heap.get?_push_of_some _ q
  have fin : wpAny (model X.prog X.w) X.A (pyIter (.ref s1.heap.objs.size)) (PIE X pins σ (.Tuple elts kk tpos) R) X.xe { s1 with heap := s1.heap.push { cls := .type "dict_items", data := .fields #[.ref d] } } :=
    wpAny_pyIter_items_raw (d := d) ⟨_, Heap.get?_push_size _ rfl, rfl, rfl⟩ (raw_push raw _) (pi_one (tk := s1.toks) I3 _ (turn_items' _ hod) ⟨.none, .none, Heap.get?_push_size _ rfl⟩ q)
  show wpAny _ _ (callWith cpos (.builtin "dict.items") [.ref d] [] []) _ X.xe s1
  exact method_meetsIn PySem.F.slot_dict_items PySem.F.entry_dict_items rfl (PySem.evalArgs_none ⟨rfl, raw.typeIs, PySem.F.args_dict_items_1 _, _, meets_dict_items_raw d hs, ⟨es, ep, raw⟩, fin⟩)
end
end Kf
end
section
set_option maxHeartbeats 4000000
/-! Kf: walks over dicts, read; a statement while which a dict is locked. -/
namespace Kf
open PySem PySem.Spec L2
section
variable {K : PySem.W.Frag} {ι : Nat → Addr} {n : Nat} {H : Hp}
theorem KRep.at' {ks : List NEnt} {ds : List (D × D)} (r : KRep K ι n H ks ds) : ∀ {i : Nat} {p : D × D}, ds[i]? = some p → ∃ q, ks[i]? = some q ∧ Rep K ι n H q.2.1 p.1 ∧ Rep K ι n H q.2.2 p.2 ∧ keyD p.1 = some q.1 := by
  induction r with
  | nil => intro i p h; simp at h
  | cons e ru rv _ ih =>
    intro i p h
    cases i with
    | zero => simp at h; subst h; exact ⟨_, rfl, ru, rv, e⟩
    | succ i => exact ih (i := i) (by simpa using h)
end
section
variable {Z : Kx}
/-- a dict, walked: its pairs, the heap in which it is locked -/
def lkO (h : Hd) (m : Nat) : Option (List (D × D) × Hd) := match h[m]? with
  | some (.dict kvs) => some (kvs, h.set m (.lkd kvs))
  | some (.lkd kvs) => some (kvs, h)
  | _ => none
def walkD (it : List (D × D) → List D) (f : SE) : SI := fun env h => (f env h).bind fun d h1 => asRef d fun m => onSome (lkO h1 m) fun p => .ok (.snap (it p.1)) p.2
def wKeys (kvs : List (D × D)) : List D := kvs.map (·.1)
def wVals (kvs : List (D × D)) : List D := kvs.map (·.2)
def wItems (kvs : List (D × D)) : List D := kvs.map fun p => .ztp [p.1, p.2]
/-- mk hands out the items it -/
def Hands (Z : Kx) (mk : Addr → Obj → List NEnt → It) (it : List (D × D) → List D) : Prop := ∀ (d : Addr) (o : Obj) (ks : List NEnt) (kvs : List (D × D)) (ι : Nat → Addr) (h : Hd) (H : Hp), HRep Z.X.K Z.cA ι H h → Lk Z.X.w H d o ks → KRep Z.X.K ι h.length H ks kvs → ItOk Z (mk d o ks) (.snap (it kvs)) ι h H
theorem hands_keys : Hands Z (Itk' Z.X.w) wKeys := fun d o ks kvs ι h H R lk rk ι2 h2 H2 S R2 i => by
  have lk2 := S.frz _ _ _ lk
  have rk2 := rk.keep (S.tkeep R) S.len S.eq
  refine ⟨fun x hx => ?_, fun hx => ⟨lk2, ?_⟩⟩
  · have hx : (kvs.map (·.1))[i]? = some x := Option.some.inj hx
    rw [List.getElem?_map] at hx
    obtain ⟨p, hp, rfl⟩ := Option.map_eq_some_iff.mp hx
    obtain ⟨q, hq, r1, _⟩ := rk2.at' hp
    refine ⟨⟨lk2, lt_of_get hq⟩, fun y H3 ⟨e1, q', hq', e2⟩ => ?_⟩
    subst e1
    rw [hq] at hq'
    cases hq'
    subst e2
    exact ⟨.refl, R2, r1⟩
  · have hx : (kvs.map (·.1))[i]? = none := Option.some.inj hx
    have := List.getElem?_eq_none_iff.mp hx
    rw [rk2.len]
    simpa using this
theorem hands_vals : Hands Z (Itv' Z.X.w) wVals := fun d o ks kvs ι h H R lk rk ι2 h2 H2 S R2 i => by
  have lk2 := S.frz _ _ _ lk
  have rk2 := rk.keep (S.tkeep R) S.len S.eq
  refine ⟨fun x hx => ?_, fun hx => ⟨lk2, ?_⟩⟩
  · have hx : (kvs.map (·.2))[i]? = some x := Option.some.inj hx
    rw [List.getElem?_map] at hx
    obtain ⟨p, hp, rfl⟩ := Option.map_eq_some_iff.mp hx
    obtain ⟨q, hq, _, r2, _⟩ := rk2.at' hp
    refine ⟨⟨lk2, lt_of_get hq⟩, fun y H3 ⟨e1, q', hq', e2⟩ => ?_⟩
    subst e1
    rw [hq] at hq'
    cases hq'
    subst e2
    exact ⟨.refl, R2, r2⟩
  · have hx : (kvs.map (·.2))[i]? = none := Option.some.inj hx
    have := List.getElem?_eq_none_iff.mp hx
    rw [rk2.len]
    simpa using this
theorem hands_items : Hands Z (Iti' Z.X.w) wItems := fun d o ks kvs ι h H R lk rk ι2 h2 H2 S R2 i => by
  have lk2 := S.frz _ _ _ lk
  have rk2 := rk.keep (S.tkeep R) S.len S.eq
  refine ⟨fun x hx => ?_, fun hx => ⟨lk2, ?_⟩⟩
  · have hx : (kvs.map fun p => D.ztp [p.1, p.2])[i]? = some x := Option.some.inj hx
    rw [List.getElem?_map] at hx
    obtain ⟨p, hp, rfl⟩ := Option.map_eq_some_iff.mp hx
    obtain ⟨q, hq, r1, r2, _⟩ := rk2.at' hp
    refine ⟨⟨lk2, lt_of_get hq⟩, fun y H3 ⟨T, q', hq', e2, hT, e3⟩ => ?_⟩
    rw [hq] at hq'
    cases hq'
    subst e2 e3
    have S3 := Step.aside R2 hT (.tup [q.2.1, q.2.2])
    exact ⟨S3, R2.aside hT _, .ztp (.inl (.inl upd_same)) (.cons (r1.step S3 R2) (.cons (r2.step S3 R2) .nil))⟩
  · have hx : (kvs.map fun p => D.ztp [p.1, p.2])[i]? = none := Option.some.inj hx
    have := List.getElem?_eq_none_iff.mp hx
    rw [rk2.len]
    simpa using this
/-- a walk is read -/
theorem walk_post {mk : Addr → Obj → List NEnt → It} {it : List (D × D) → List D} {σ : L2.St} {ι : Nat → Addr} {h : Hd} {H : Hp} {v : V} {d : D} {Q : It → Hp → Prop} (hw : Z.cA.w = Z.X.w) (hh : Hands Z mk it) (R : HRep Z.X.K Z.cA ι H h) (r : Rep Z.X.K ι h.length H v d)
    (p : RPost Z.X.K Z.cA Z.W σ ι h H (asRef d fun m => onSome (lkO h m) fun p => .ok (.snap (it p.1)) p.2) fun it h' ι' H' => ∀ J, ItOk Z J it ι' h' H' → Q J H') : rLk Z.X.K Z.X.w mk v H Q := by
  obtain ⟨m, rfl, p⟩ := p.asRef
  obtain ⟨q, e, p⟩ := p.onSome
  cases r with
  | ref hlt =>
    unfold lkO at e
    cases hm : h[m]? with
    | none => rw [hm] at e; cases e
    | some o =>
      rw [hm] at e
      cases o with
      | dict kvs =>
        cases e
        obtain ⟨ks, e3, rk⟩ := dict_at R hm
        have hf : ∀ x u, H (ι m) ≠ some (.frz x u) := fun x u z => by rw [e3] at z; cases z
        refine ⟨_, rfl, .inr ⟨ks, by rw [← hw]; exact e3, fun o => ?_⟩⟩
        have S := Step.set R hlt hf (.frz o (.ext (DNphi Z.cA.w (ι m) ks))) (.lkd kvs)
        have R' := R.set hlt hf (.lkd (o := o) rk)
        have rk' := rk.keep (S.tkeep R) S.len S.eq
        rw [hw] at S R' rk'
        exact p ι _ S R' _ (hh _ _ _ _ _ _ _ R' upd_same rk')
      | lkd kvs =>
        cases e
        obtain ⟨ho, e3, ro⟩ := R.obj m _ hm
        cases ro with
        | lkd rk =>
          rw [hw] at e3
          exact ⟨_, rfl, .inl ⟨_, _, e3, RPost.ok R p _ (hh _ _ _ _ _ _ _ R e3 rk)⟩⟩
      | lst _ => cases e
      | ins _ _ => cases e
theorem ki_keys {tg e : Expr} {f : SE} (hw : Z.cA.w = Z.X.w) (he : KE Z e f) : KI Z tg e (walkD wKeys f) :=
  ⟨(pi_keys' he.pe).weak fun σ H Q ⟨ι, env, h, R, V, p⟩ => ⟨ι, env, h, R, V, (RPost.bind p).mono fun d h1 ι1 H1 S1 R1 p1 v r => walk_post hw hands_keys R1 r p1⟩⟩
theorem ki_keysM {tg e : Expr} {apos cpos : Pos} {f : SE} (hw : Z.cA.w = Z.X.w) (he : KE Z e f) (hbase : attributeBase e "keys" Z.X.env (eval e Z.X.env) = eval e Z.X.env := by rfl) (hline : (apos.endLine == cpos.line) = true := by rfl) : KI Z tg (.Call (.Attribute e "keys" apos) [] [] cpos) (walkD wKeys f) :=
  ⟨(pi_keysM' he.pe hbase hline).weak fun σ H Q ⟨ι, env, h, R, V, p⟩ => ⟨ι, env, h, R, V, (RPost.bind p).mono fun d h1 ι1 H1 S1 R1 p1 v r => walk_post hw hands_keys R1 r p1⟩⟩
theorem ki_values {tg e : Expr} {apos cpos : Pos} {f : SE} (hw : Z.cA.w = Z.X.w) (he : KE Z e f) (hbase : attributeBase e "values" Z.X.env (eval e Z.X.env) = eval e Z.X.env := by rfl) (hline : (apos.endLine == cpos.line) = true := by rfl) : KI Z tg (.Call (.Attribute e "values" apos) [] [] cpos) (walkD wVals f) :=
  ⟨(pi_values' he.pe hbase hline).weak fun σ H Q ⟨ι, env, h, R, V, p⟩ => ⟨ι, env, h, R, V, (RPost.bind p).mono fun d h1 ι1 H1 S1 R1 p1 v r => walk_post hw hands_vals R1 r p1⟩⟩
theorem ki_items {elts : List Expr} {kk : Nat} {tpos apos cpos : Pos} {e : Expr} {f : SE} (hw : Z.cA.w = Z.X.w) (he : KE Z e f) (hbase : attributeBase e "items" Z.X.env (eval e Z.X.env) = eval e Z.X.env := by rfl) (hline : (apos.endLine == cpos.line) = true := by rfl) : KI Z (.Tuple elts kk tpos) (.Call (.Attribute e "items" apos) [] [] cpos) (walkD wItems f) :=
  ⟨(pi_items' he.pe hbase hline).weak fun σ H Q ⟨ι, env, h, R, V, p⟩ => ⟨ι, env, h, R, V, (RPost.bind p).mono fun d h1 ι1 H1 S1 R1 p1 v r => walk_post hw hands_items R1 r p1⟩⟩
/-! ### locked through a statement -/
/-- m is a dict again; an exception leaves it locked -/
def unlk (m : Nat) (kvs : List (D × D)) (r : Rs) : Rs := match r with
  | .ok (.exc c fs env) h => .ok (.exc c fs env) h
  | .ok fl h => .ok fl (h.set m (.dict kvs))
  | .stuck => .stuck
def sLock (fo : SE) (s : SS) : SS := fun env h => match fo env h with
  | .ok (.ref m) _ => match h[m]? with
    | some (.dict kvs) => unlk m kvs (s env (h.set m (.lkd kvs)))
    | _ => s env h
  | _ => s env h
section
variable {ι ι' : Nat → Addr} {H H' : Hp} {h h' : Hd} {m : Nat} {ks : List NEnt} {o : Obj} {kvs : List (D × D)} {w : World}
theorem tkeep_unl {K : PySem.W.Frag} {a : Addr} (e : H' a = some (.frz o (.ext (DNphi w a ks)))) : TKeep K H' (upd H' a (.ext (DNphi w a ks))) := by
  have ne : ∀ {b : Addr} {u : HO}, H' b = some u → u ≠ .frz o (.ext (DNphi w a ks)) → b ≠ a := fun {b u} e1 hn z => by rw [z, e] at e1; exact hn (Option.some.inj e1).symm
  refine ⟨fun a ys q => ?_, fun a ys q => ?_, fun a ys q => ?_, fun a gs q => by rw [upd_ne (ne q fun z => by cases z)]; exact q⟩
  · rcases q with (q | ⟨o2, q⟩) | q
    · exact .inl (.inl (by rw [upd_ne (ne q fun z => by cases z)]; exact q))
    · exact .inl (.inr ⟨o2, by rw [upd_ne (ne q fun z => by cases z)]; exact q⟩)
    · exact .inr q
  · rcases q with ⟨o2, q, d⟩ | q
    · exact .inl ⟨o2, by rw [upd_ne (ne q fun z => by cases z)]; exact q, d⟩
    · exact .inr q
  · rcases q with ⟨o2, q⟩ | q
    · exact .inl ⟨o2, by rw [upd_ne (ne q fun z => by cases z)]; exact q⟩
    · exact .inr q
theorem Step.unlock {fr : HO} (hfr : fr = .frz o (.ext (DNphi w (ι m) ks))) (R : HRep Z.X.K Z.cA ι H h) (hlt : m < h.length) (e : H (ι m) = some (.ext (DNphi w (ι m) ks))) {x y : O} (S : Step ι (h.set m x) (upd H (ι m) fr) ι' h' H') (u : HO) : Step ι h H ι' (h'.set m y) (upd H' (ι m) u) where
  eq := fun k hk => S.eq k (by simpa using hk)
  len := by simpa using S.len
  keep := fun a ob ea hn => by
    have hne := hn m hlt
    rw [upd_ne hne]
    exact S.keep a ob (by rw [upd_ne hne]; exact ea) fun k hk => hn k (by simpa using hk)
  fresh := fun k h1 h2 => by
    have := S.fresh k (by simpa using h1) (by simpa using h2)
    by_cases q : ι' k = ι m
    · rw [q, upd_same] at this; cases this
    · rw [upd_ne q] at this; exact this
  there := fun a ob ea => by
    by_cases q : a = ι m
    · exact ⟨u, by rw [q, upd_same]⟩
    · obtain ⟨ob', e'⟩ := S.there a ob (by rw [upd_ne q]; exact ea)
      exact ⟨ob', by rw [upd_ne q]; exact e'⟩
  frz := fun a ob v ea => by
    have q : a ≠ ι m := fun z => by rw [z, e] at ea; cases ea
    rw [upd_ne q]
    exact S.frz a ob v (by rw [upd_ne q]; exact ea)
theorem HRep.unlock (R : HRep Z.X.K Z.cA ι' H' h') (hlt : m < h'.length) (e : H' (ι' m) = some (.frz o (.ext (DNphi Z.cA.w (ι' m) ks)))) (rk : KRep Z.X.K ι' h'.length H' ks kvs) : HRep Z.X.K Z.cA ι' (upd H' (ι' m) (.ext (DNphi Z.cA.w (ι' m) ks))) (h'.set m (.dict kvs)) := by
  have t : TKeep Z.X.K H' (upd H' (ι' m) (.ext (DNphi Z.cA.w (ι' m) ks))) := tkeep_unl e
  refine ⟨fun k o' e' => ?_, fun a b ha hb z => R.inj a b (by simpa using ha) (by simpa using hb) z⟩
  have hk := lt_of_get e'
  by_cases q : k = m
  · subst q
    rw [List.getElem?_set_self hlt] at e'
    cases e'
    exact ⟨_, upd_same, .dict (rk.keep t (by simp) fun _ _ => rfl)⟩
  · rw [List.getElem?_set_ne (Ne.symm q)] at e'
    obtain ⟨ho', e2, r'⟩ := R.obj k o' e'
    have hk' : k < h'.length := by simpa using hk
    exact ⟨ho', by rw [upd_ne fun z => q (R.inj k m hk' hlt z)]; exact e2, r'.keep t (by simp) fun _ _ => rfl⟩
theorem VRep.unlock {σ : L2.St} {env : En} (V : VRep Z.X.K ι' h'.length H' σ env) (e : H' (ι' m) = some (.frz o (.ext (DNphi w (ι' m) ks)))) : VRep Z.X.K ι' (h'.set m (.dict kvs)).length (upd H' (ι' m) (.ext (DNphi w (ι' m) ks))) σ env :=
  ⟨V.len, fun i d ed => by
    obtain ⟨v, e1, r⟩ := V.var i d ed
    exact ⟨v, e1, r.keep (tkeep_unl e) (by simp) fun _ _ => rfl⟩⟩
end
theorem _root_.L2.PS.or' {X : Cx} {st : Stmt} {t t' : TS} (p : PS X st t) (q : PS X st t') : PS X st fun D σ H => t D σ H ∨ t' D σ H := ⟨fun pins s σ H D I z => z.elim (p.run pins s σ H D I) (q.run pins s σ H D I)⟩
theorem ks_lock {st : Stmt} {s : SS} (fo : SE) (hs : KS Z st s) : KS Z st (sLock fo s) := by
  refine ⟨(PS.or' hs.ps (ps_lock hs.ps)).weak fun Dd σ H ⟨ι, env, h, R, V, p⟩ => ?_⟩
  have plain : RsPost Z Dd ι h H (s env h) → tDS Z s Dd σ H := fun p => ⟨ι, env, h, R, V, p⟩
  unfold sLock at p
  cases ef : fo env h with
  | stuck => rw [ef] at p; exact .inl (plain p)
  | exc c fs h1 => rw [ef] at p; exact .inl (plain p)
  | ok d h1 =>
    rw [ef] at p
    cases d with
    | ref m =>
      have p : RsPost Z Dd ι h H (match h[m]? with | some (.dict kvs) => unlk m kvs (s env (h.set m (.lkd kvs))) | _ => s env h) := p
      cases hm : h[m]? with
      | none => rw [hm] at p; exact .inl (plain p)
      | some o =>
        rw [hm] at p
        cases o with
        | lst _ => exact .inl (plain p)
        | lkd _ => exact .inl (plain p)
        | ins _ _ => exact .inl (plain p)
        | dict kvs =>
          have p : RsPost Z Dd ι h H (unlk m kvs (s env (h.set m (.lkd kvs)))) := p
          have hlt := lt_of_get hm
          obtain ⟨ks, e3, rk⟩ := dict_at R hm
          have hf : ∀ x u, H (ι m) ≠ some (.frz x u) := fun x u z => by rw [e3] at z; cases z
          refine .inr ⟨ι m, _, e3, True.intro, fun od => ?_⟩
          have S0 := Step.set R hlt hf (.frz od (.ext (DNphi Z.cA.w (ι m) ks))) (.lkd kvs)
          have R0 := R.set hlt hf (.lkd (o := od) rk)
          refine ⟨ι, env, _, R0, V.step S0 R, ?_⟩
          have done : ∀ {h' : Hd} {ι' : Nat → Addr} {H' : Hp}, Step ι (h.set m (.lkd kvs)) (upd H (ι m) (.frz od (.ext (DNphi Z.cA.w (ι m) ks)))) ι' h' H' → HRep Z.X.K Z.cA ι' H' h' →
              H' (ι m) = some (.frz od (.ext (DNphi Z.cA.w (ι m) ks))) ∧ ι' m = ι m ∧ m < h'.length ∧ Step ι h H ι' (h'.set m (.dict kvs)) (upd H' (ι m) (.ext (DNphi Z.cA.w (ι m) ks))) ∧ HRep Z.X.K Z.cA ι' (upd H' (ι m) (.ext (DNphi Z.cA.w (ι m) ks))) (h'.set m (.dict kvs)) := fun {h' ι' H'} S' R' => by
            have e4 := S'.frz _ _ _ upd_same
            have em := S'.eq m (by simpa using hlt)
            have hl' : m < h'.length := by
              have := S'.len
              simp at this
              omega
            have rk' := rk.keep ((S0.trans S').tkeep R) (S0.trans S').len (S0.trans S').eq
            have B := HRep.unlock (Z := Z) (o := od) R' hl' (by rw [em]; exact e4) rk'
            rw [em] at B
            exact ⟨e4, em, hl', Step.unlock (Z := Z) rfl R hlt e3 S' _, B⟩
          have vr : ∀ {h' : Hd} {ι' : Nat → Addr} {H' : Hp}, Step ι (h.set m (.lkd kvs)) (upd H (ι m) (.frz od (.ext (DNphi Z.cA.w (ι m) ks)))) ι' h' H' → HRep Z.X.K Z.cA ι' H' h' → ∀ {σ' : L2.St} {env' : En}, VRep Z.X.K ι' h'.length H' σ' env' →
              VRep Z.X.K ι' (h'.set m (.dict kvs)).length (upd H' (ι m) (.ext (DNphi Z.cA.w (ι m) ks))) σ' env' := fun {h' ι' H'} S' R' {σ' env'} V' => by
            obtain ⟨e4, em, hl', S2, R2⟩ := done S' R'
            have q := VRep.unlock (Z := Z) (o := od) (m := m) (ks := ks) (w := Z.cA.w) (kvs := kvs) V' (by rw [em]; exact e4)
            rw [em] at q
            exact q
          cases es : s env (h.set m (.lkd kvs)) with
          | stuck => rw [es] at p; exact p.elim
          | ok fl h' =>
            rw [es] at p
            cases fl with
            | nx env' => exact fun ι' H' S' R' σ' V' => ⟨(done S' R').1, p ι' _ (done S' R').2.2.2.1 (done S' R').2.2.2.2 σ' (vr S' R' V')⟩
            | brk env' => exact fun ι' H' S' R' σ' V' => ⟨(done S' R').1, p ι' _ (done S' R').2.2.2.1 (done S' R').2.2.2.2 σ' (vr S' R' V')⟩
            | ct env' => exact fun ι' H' S' R' σ' V' => ⟨(done S' R').1, p ι' _ (done S' R').2.2.2.1 (done S' R').2.2.2.2 σ' (vr S' R' V')⟩
            | ret d => exact fun ι' H' S' R' v rv => ⟨(done S' R').1, p ι' _ (done S' R').2.2.2.1 (done S' R').2.2.2.2 v (rv.keep (ι' := ι') (n' := (h'.set m (.dict kvs)).length) (tkeep_unl (a := ι m) (done S' R').1) (by simp) fun _ _ => rfl)⟩
            | exc c fs env' => exact fun ι' H' S' R' σ' cls od' V' x => (show RsPost Z Dd ι h H (.ok (.exc c fs env') h') from p) ι' H' (S0.trans S') R' σ' cls od' V' x
    | non => exact .inl (plain p)
    | bl _ => exact .inl (plain p)
    | int _ => exact .inl (plain p)
    | str _ => exact .inl (plain p)
    | raw _ => exact .inl (plain p)
    | ztp _ => exact .inl (plain p)
    | tup _ => exact .inl (plain p)
    | fls _ => exact .inl (plain p)
    | xc _ _ _ _ => exact .inl (plain p)
end
end Kf
end
section
set_option maxHeartbeats 4000000
/-! Kf: dict comprehensions. -/
namespace Kf
open PySem PySem.Spec L2 PyProof.Rows
def compD (it : ItD) (g : SG) (t : SB) (fk fv : SE) (env : En) : Nat → Nat → List (D × D) → Hd → Res (List (D × D))
  | 0, _, _, _ => .stuck
  | m + 1, i, acc, h => match nextD it h i with
    | none => .stuck
    | some none => .ok acc h
    | some (some d) => (noX (g d env h)).bind fun env1 h1 => (noX (t env1 h1)).bind fun b h2 =>
      if b = true then (noX (fk env1 h2)).bind fun k h3 => (noX (fv env1 h3)).bind fun v h4 => onSome (keyD k) fun _ => guard' (acc.length < LIM) (compD it g t fk fv env m (i + 1) (dput acc k v) h4)
      else compD it g t fk fv env m (i + 1) acc h2
def sDc (it : SI) (g : SG) (t : SB) (fk fv : SE) (vs : List Nat) : SE := fun env h => (it env h).bind fun j h1 => (compD j g t fk fv (wipeD env vs) (turnsD j h1) 0 [] h1).bind fun kvs h2 => .ok (.ref h2.length) (h2 ++ [.dict kvs])
theorem Res.bind_assoc {α β γ : Type} (r : Res α) (f : α → Hd → Res β) (g : β → Hd → Res γ) : (r.bind f).bind g = r.bind fun a h => (f a h).bind g := by cases r <;> rfl
section
variable {Z : Kx}
/-- a dict that is being made stands aside; one entry more -/
theorem aside_put {pins : List (Addr × Obj)} {σ : L2.St} {X : Cx} {H : Hp} {s : Shared} {E : Value → Shared → Prop} {A : Around} {D : Addr} {ks : List NEnt} {k : NestedKey} {y v : V} {u w : Value} {Q : Unit → Shared → Prop} (hu : A.units + 9 < cLine) (I : Inv X pins σ H s) (nd : NDw X.K X.w H D ks) (nv : NV X.K H k y) (hd : k.depth ≤ 8)
    (hl : ks.length < sizeLine) (ry : RelV y u) (rv : RelV v w) (h : ∀ s', Inv X pins σ (upd H D (.ext (DNphi X.w D (nPut ks k y v)))) s' → Q () s') : wpAny (model X.prog X.w) A (dictSet D u w) Q E s := by
  obtain ⟨xs, r, d, z, hsys, hx⟩ := nd.r.ex I
  exact dictSet_ok hu (nv_is I nv ry) hd d hx fun h' tk hm' hs' => h _ (d_write' I nd.at' hs' (Nat.le_trans (nPut_len ks k y v) hl) hsys (EVs.put r k ry rv) hm')
theorem ke_dc {kx vx tg iter : Expr} {ifs : List Expr} {scope : Scope} {own : List (Str × Nat)} {pos : Pos} {it : SI} {g : SG} {t : SB} {fk fv : SE} (hw : Z.cA.w = Z.X.w) (hu : Z.X.A.units + 10 < cLine) (hc : Z.X.calm = true) (hN : Z.X.N.Nodup) (hi : KI Z tg iter it) (ok : BlkOk Z.X.N Z.X.env.scope scope own)
    (hg : ∀ s H C cl fp, KGw (Z.blk s H scope C cl fp) tg g (own.map (·.2))) (ht : ∀ s H C cl fp, KT (Z.blk s H scope C cl fp) ifs t) (hk : ∀ s H C cl fp, KE (Z.blk s H scope C cl fp) kx fk) (he : ∀ s H C cl fp, KE (Z.blk s H scope C cl fp) vx fv)
    (hs : ∀ x, foldedSetIterable iter Z.X.env x = pure x := by intro _; rfl) : KE Z (.DictComp kx vx [⟨tg, iter, ifs, 0⟩] scope pos) (sDc it g t fk fv (own.map (·.2))) := by
  refine ⟨⟨fun pins s σ H Q I ⟨ι, env, h, R, V, p⟩ => ?_⟩⟩
  rw [arm_eval_DictComp]
  have hfree : ∀ y ∈ scope.names, y.2 = .free → ∃ c, Z.X.env.cells.lookup y.1 = some c := fun y hy e => (ok.free y hy e).elim (fun k => I.ok.has _ (.inl k)) fun k => I.ok.has _ (.inr k)
  refine wpAny_comprehension_free (use := none) rfl hs (closure_ok hfree) ok.kind (fun y hy e => by rw [ok.uniq y hy, e])
    (thn (hi.pi.run pins s σ H (fun J H1 => ∃ ι1 h1 j, HRep Z.X.K Z.cA ι1 H1 h1 ∧ VRep Z.X.K ι1 h1.length H1 σ env ∧ ItOk Z J j ι1 h1 H1 ∧
        RPost Z.X.K Z.cA Z.W σ ι1 h1 H1 ((compD j g t fk fv (wipeD env (own.map (·.2))) (turnsD j h1) 0 [] h1).bind fun kvs h2 => .ok (.ref h2.length) (h2 ++ [.dict kvs])) fun d h' ι' H' => ∀ v, Rep Z.X.K ι' h'.length H' v d → Q v H') I
      ⟨ι, env, h, R, V, (RPost.bind p).mono fun j h1 ι1 H1 S1 R1 p1 J ok => ⟨ι1, h1, j, R1, V.step S1 R, ok, p1⟩⟩) fun xv s1 hx => thn hx fun itv s2 h2 => ?_)
  obtain ⟨io, fp, tn, J, H2, e, I2, T, st2, f2, ι1, h1, j, R1, V1, okJ, p1⟩ := h2
  subst e
  refine wpAny_newObj_type (newEnv_comp ?_)
  -- the new dict stands at A0
  obtain ⟨A0, hD⟩ : ∃ A0, A0 = s2.heap.objs.size := ⟨_, rfl⟩
  have nD : H2 A0 = none := I2.hok.fresh (Nat.le_of_eq hD.symm)
  obtain ⟨s3, es3⟩ : ∃ s3 : Shared, s3 = { s2 with heap := s2.heap.push { cls := .type "dict", data := .dict #[] } } := ⟨_, rfl⟩
  obtain ⟨H3, eH3⟩ : ∃ H3, H3 = upd H2 A0 (.ext (DNphi Z.X.w A0 [])) := ⟨_, rfl⟩
  have I3 : Inv Z.X pins σ H3 s3 := by
    rw [es3, eH3, hD]
    exact I2.laid (t' := s2.toks) (fun b o e => Heap.get?_push_of_some _ e) (Nat.le_refl _) (dn_new s2.heap I2.big)
  have old : ∀ b ∈ fp, b < s2.heap.objs.size := fun b hb => by
    obtain ⟨o, e, _⟩ := T.obj _ _ st2 b hb
    exact Heap.lt_size e
  have f3 : ∀ b ∈ fp, FpOk Z.X pins H3 b ∧ b < s3.heap.objs.size := fun b hb => by
    refine ⟨⟨?_, (f2 b hb).2⟩, ?_⟩
    · rw [eH3, upd_ne (by rw [hD]; exact Nat.ne_of_lt (old b hb))]
      exact (f2 b hb).1
    · rw [es3]
      show b < (s2.heap.push _).objs.size
      rw [Heap.size_push]
      exact Nat.lt_succ_of_lt (old b hb)
  have S12 : Step ι1 h1 H2 ι1 h1 H3 := by rw [eH3]; exact Step.aside R1 nD _
  have R3 : HRep Z.X.K Z.cA ι1 H3 h1 := by rw [eH3]; exact R1.aside nD _
  have start := block_start I3 ok hN f3
  have st3 : tn 0 s3.heap := T.keep _ _ _ st2 fun b _ o e => by rw [es3]; exact Heap.get?_push_of_some _ e
  rw [← es3, ← hD]
  obtain ⟨cl, ecl⟩ : ∃ cl, cl = cellsFrom (s3.heap.objs.size + 1) scope.names (cloFrom Z.X.env.cells scope.names []) := ⟨_, rfl⟩
  rw [← ecl] at start
  obtain ⟨C, eC⟩ : ∃ C, C = s3.heap.objs.size := ⟨_, rfl⟩
  rw [← eC] at start
  have kg := (hg s3 H3 C cl fp).pg
  have kt := (ht s3 H3 C cl fp).pts
  have kk := (hk s3 H3 C cl fp).pe
  have ke := (he s3 H3 C cl fp).pe
  obtain ⟨B, eB⟩ : ∃ B, B = Z.X.blk s3 H3 scope (compEnvC scope cl C Z.X.env) fp := ⟨_, rfl⟩
  show codeAny _ _ (.compStart (.DictComp kx vx [⟨tg, iter, ifs, 0⟩] scope pos) 0 (.ref io) (.ref A0) (compEnvC scope (cellsFrom (s3.heap.objs.size + 1) scope.names (cloFrom Z.X.env.cells scope.names [])) s3.heap.objs.size Z.X.env)) (compPost (model Z.X.prog Z.X.w) Z.X.A Z.X.xe none _ (.ref A0) s3.heap.objs.size) { s3 with heap := pushCells (s3.heap.push { cls := .type "dict", data := .dict #[] }) scope.names }
  rw [← ecl, ← eC]
  obtain ⟨s4, es4⟩ : ∃ s4 : Shared, s4 = { s3 with heap := pushCells (s3.heap.push { cls := .type "dict", data := .dict #[] }) scope.names } := ⟨_, rfl⟩
  rw [← es4] at start ⊢
  have st4 : tn 0 s4.heap := T.keep _ _ _ st3 fun b _ o e => by rw [es4]; exact pushCells_keeps _ _ _ _ (Heap.get?_push_of_some _ e)
  have stat : ∀ {σ' : L2.St} {H' : Hp} {s' : Shared}, Inv (Z.X.blk s3 H3 scope (compEnvC scope cl C Z.X.env) fp) [] σ' H' s' → (∀ b ∈ fp, H' b = none) → ∀ b ∈ fp, FpOk (Z.X.blk s3 H3 scope (compEnvC scope cl C Z.X.env) fp) [] H' b := fun {σ' H' s'} I' hn b hb =>
    ⟨hn b hb, (I'.ok.exf b hb).1, I'.ok.exfs b hb, .inl hb, fun x c e => (I'.ok.exf b hb).2 x c e, fun p hp => absurd (show p ∈ ([] : List (Addr × Obj)) ++ [] from hp) (by simp)⟩
  let vs := own.map (·.2)
  -- what holds ahead of the turn i, n turns being left at most
  let At : Nat → Nat → Hp → Prop := fun i n Hc => ∃ ι' h' acc ks, Step ι1 h1 H2 ι' h' Hc ∧ HRep Z.X.K Z.cA ι' Hc h' ∧ Hc A0 = some (.ext (DNphi Z.X.w A0 ks)) ∧ (∀ m, m < h'.length → A0 ≠ ι' m) ∧ KRep Z.X.K ι' h'.length Hc ks acc ∧ VRep Z.X.K ι' h'.length Hc σ env ∧
    RPost Z.X.K Z.cA Z.W σ ι1 h1 H2 ((compD j g t fk fv (wipeD env vs) n i acc h').bind fun kvs h2 => .ok (.ref h2.length) (h2 ++ [.dict kvs])) fun d h' ι' H' => ∀ v, Rep Z.X.K ι' h'.length H' v d → Q v H'
  have loop : codeAny (model Z.X.prog Z.X.w) Z.X.A (.compLoop (.DictComp kx vx [⟨tg, iter, ifs, 0⟩] scope pos) 0 (.ref io) (.ref A0) (compEnvC scope cl C Z.X.env)) (compPost (model Z.X.prog Z.X.w) Z.X.A Z.X.xe none (fun v s' => ∃ x H', Inv Z.X pins σ H' s' ∧ RelV x v ∧ Q x H') (.ref A0) C) s4 := by
    refine compLoop_anyD (fun n s' => ∃ i H', Inv (Z.X.blk s3 H3 scope (compEnvC scope cl C Z.X.env) fp) [] (wipe σ vs) H' s' ∧ tn i s'.heap ∧ (∀ b ∈ fp, H' b = none) ∧ At i n H') ?_ (turnsD j h1)
      ⟨0, H3, start, st4, fun b hb => (f3 b hb).1.1, ι1, h1, [], [], S12, R3, by rw [eH3, upd_same], fun m hm z => R1.off nD hm z.symm, .nil, V1.step S12 R1, p1⟩
    rintro n s5 ⟨i, H5, I5, st5, n5, ι', h', acc, ks, Sn, R', eD, nDi, rk, V', p'⟩
    have So : Step ι1 h1 H2 ι' h' H5 := Sn
    obtain ⟨k1, k2⟩ := okJ ι' h' H5 So R' i
    cases n with
    | zero => exact p'.elim
    | succ m =>
      unfold compD at p'
      cases en : nextD j h' i with
      | none => rw [en] at p'; exact p'.elim
      | some o =>
        rw [en] at p'
        cases o with
        | none =>
          have p' : RPost Z.X.K Z.cA Z.W σ ι1 h1 H2 (Res.ok (Kf.D.ref h'.length) (h' ++ [O.dict acc])) (fun d h' ι' H' => ∀ v, Rep Z.X.K ι' h'.length H' v d → Q v H') := p'
          refine thnF (T.done (Z.X.blk s3 H3 scope (compEnvC scope cl C Z.X.env) fp) rfl rfl rfl hc i [] s5 _ H5 (fun _ _ => False) I5 (stat I5 n5) st5 (k2 en)) fun r s6 ⟨hr, I6⟩ => ?_
          subst hr
          have I7 : Inv Z.X pins σ H5 s6 := I3.call' (ch := fp) I6.os I6.base I6.hok I6.bare fun b hb => ⟨(f3 b hb).1.2.2.2.1, (f3 b hb).1.2.1, (f3 b hb).1.2.2.2.2.1, (f3 b hb).1.2.2.2.2.2⟩
          have nC : H5 C = none := I6.free
          obtain ⟨mm, hn, _⟩ := I6.loc
          have hn : s6.heap.Ns C mm := hn
          refine ⟨mm, hn, fun h'' sb => ?_⟩
          obtain ⟨g0, g1, g2, g3, g4, g5⟩ := I3.fpOk (b := C) (H' := H5) (by rw [eC]; exact Nat.le_refl _) nC
          refine ⟨.ref A0, H5, I7.turned (t' := s6.toks) (fun b o hb e => (sb.2 b hb).trans e) g0 g1 g3 g4 g5, rfl, ?_⟩
          have rd : ORep Z.X.K Z.cA ι' h'.length H5 A0 (.ext (DNphi Z.X.w A0 ks)) (.dict acc) := by
            have q := ORep.dict (cA := Z.cA) (a := A0) rk
            rw [hw] at q
            exact q
          have e4 : Rep Z.X.K (more ι' h'.length A0) (h' ++ [O.dict acc]).length H5 (.ref (more ι' h'.length A0 h'.length)) (.ref h'.length) := .ref (by simp)
          rw [more_at] at e4
          exact p' _ H5 (So.take nD _) (R'.take eD nDi rd) _ e4
        | some d =>
          obtain ⟨go, yl⟩ := k1 d en
          refine thnF (T.item (Z.X.blk s3 H3 scope (compEnvC scope cl C Z.X.env) fp) rfl rfl rfl hc i [] s5 _ H5 (fun _ _ => False) I5 (stat I5 n5) st5 go) fun r s6 ⟨u, hr, h6⟩ => ?_
          subst hr
          refine thnF h6 fun _ s7 ⟨x, H7, I7, r7, y7, st7, n7⟩ => ?_
          obtain ⟨S7, R7, rx⟩ := yl x H7 y7
          have I7' := I7.pinned (stat I7 n7) (T.obj _ _ st7)
          have keepD : ∀ {ι4 : Nat → Addr} {h4 : Hd} {H4 : Hp}, Step ι' h' H5 ι4 h4 H4 → H4 A0 = some (.ext (DNphi Z.X.w A0 ks)) ∧ (∀ m, m < h4.length → A0 ≠ ι4 m) := fun {ι4 h4 H4} S => ⟨S.keep A0 _ eD nDi, fun m hm z => by
            by_cases c : m < h'.length
            · exact nDi m c (z.trans (S.eq m c))
            · have := S.fresh m (Nat.le_of_not_lt c) hm
              rw [← z, eD] at this; cases this⟩
          -- the next turn
          have fin : ∀ {σ8 : L2.St} {s' : Shared} {H' : Hp}, wipe σ8 vs = wipe σ vs → Inv (Z.X.blk s3 H3 scope (compEnvC scope cl C Z.X.env) fp) ([] ++ pinsAt fp s7.heap) σ8 H' s' → At (i + 1) m H' →
              ∃ m', m' < m + 1 ∧ ∃ i H', Inv (Z.X.blk s3 H3 scope (compEnvC scope cl C Z.X.env) fp) [] (wipe σ vs) H' s' ∧ tn i s'.heap ∧ (∀ b ∈ fp, H' b = none) ∧ At i m' H' := fun {σ8 s' H'} hw8 I' q => by
            have pin' : ∀ b ∈ fp, ∀ o, s7.heap.get? b = some o → s'.heap.get? b = some o ∧ H' b = none := fun b hb o e =>
              let z := I'.pin (b, o) (List.mem_append_right _ (List.mem_append_right _ (mem_pinsAt hb e)))
              ⟨z.1, z.2.1⟩
            refine ⟨m, Nat.lt_succ_self _, i + 1, H', (I'.unpinned (pins := [])).weak (by rw [← hw8, wipe_length]) (fun l v e => ?_), T.keep _ _ _ st7 fun b hb o e => (pin' b hb o e).1, fun b hb => ?_, q⟩
            · rw [← hw8] at e
              exact (wipe_some e).1
            · obtain ⟨o, e, _⟩ := T.obj _ _ st7 b hb
              exact (pin' b hb o e).2
          have p' : RPost Z.X.K Z.cA Z.W σ ι1 h1 H2 (Res.bind ((noX (g d (wipeD env vs) h')).bind fun env1 h1 => (noX (t env1 h1)).bind fun b h2 =>
                if b = true then (noX (fk env1 h2)).bind fun k h3 => (noX (fv env1 h3)).bind fun v h4 => onSome (keyD k) fun _ => guard' (acc.length < LIM) (compD j g t fk fv (wipeD env vs) m (i + 1) (dput acc k v) h4)
                else compD j g t fk fv (wipeD env vs) m (i + 1) acc h2) fun kvs h2 => .ok (.ref h2.length) (h2 ++ [.dict kvs])) fun d h' ι' H' => ∀ v, Rep Z.X.K ι' h'.length H' v d → Q v H' := p'
          rw [Res.bind_assoc] at p'
          have p3 := RPost.bind1 (So.trans S7) p'
          refine thnF (kg.run _ s7 (wipe σ vs) H7 x u _ I7' r7 ⟨ι', wipeD env vs, h', d, R7, (V'.step S7 R').wipe vs, rx, (RPost.noW p3).mono fun env4 h4 ι4 H4 S4 R4 p4 σ4 w4 V4 =>
            (show (fun σ4 H4 => ∃ ι4 h4 env4, wipe σ4 vs = wipe σ vs ∧ Step ι' h' H5 ι4 h4 H4 ∧ HRep Z.X.K Z.cA ι4 H4 h4 ∧ VRep Z.X.K ι4 h4.length H4 σ4 env4 ∧
              RPost Z.X.K Z.cA Z.W σ ι1 h1 H2 (Res.bind ((noX (t env4 h4)).bind fun b h2 =>
                if b = true then (noX (fk env4 h2)).bind fun k h3 => (noX (fv env4 h3)).bind fun v h4 => onSome (keyD k) fun _ => guard' (acc.length < LIM) (compD j g t fk fv (wipeD env vs) m (i + 1) (dput acc k v) h4)
                else compD j g t fk fv (wipeD env vs) m (i + 1) acc h2) fun kvs h2 => .ok (.ref h2.length) (h2 ++ [.dict kvs])) fun d h' ι' H' => ∀ v, Rep Z.X.K ι' h'.length H' v d → Q v H') σ4 H4 from
              ⟨ι4, h4, env4, w4.trans wipe_wipe, S7.trans S4, R4, V4, p4⟩)⟩) fun _ s8 ⟨σ8, H8, I8, ι4, h4, env4, w8, S4, R4, V4, p4⟩ => ?_
          rw [Res.bind_assoc] at p4
          have p5 := RPost.bind1 (So.trans S4) p4
          refine thnF (kt.run _ s8 σ8 H8 _ I8 ⟨ι4, env4, h4, R4, V4, (RPost.noW p5).mono fun b h5 ι5 H5' S5 R5 p5 =>
            (show (fun b H5' => ∃ ι5 h5, Step ι' h' H5 ι5 h5 H5' ∧ HRep Z.X.K Z.cA ι5 H5' h5 ∧ VRep Z.X.K ι5 h5.length H5' σ8 env4 ∧
              RPost Z.X.K Z.cA Z.W σ ι1 h1 H2 (Res.bind (if b = true then (noX (fk env4 h5)).bind fun k h3 => (noX (fv env4 h3)).bind fun v h4 => onSome (keyD k) fun _ => guard' (acc.length < LIM) (compD j g t fk fv (wipeD env vs) m (i + 1) (dput acc k v) h4)
                else compD j g t fk fv (wipeD env vs) m (i + 1) acc h5) fun kvs h2 => .ok (.ref h2.length) (h2 ++ [.dict kvs])) fun d h' ι' H' => ∀ v, Rep Z.X.K ι' h'.length H' v d → Q v H') b H5' from
              ⟨ι5, h5, S4.trans S5, R5, V4.step S5 R4, p5⟩)⟩) fun b s9 ⟨H9, I9, ι5, h5, S5, R5, V5, p6⟩ => ?_
          cases b with
          | false =>
            simp only [Bool.false_eq_true, if_false] at p6 ⊢
            obtain ⟨eD5, nD5⟩ := keepD S5
            exact fin w8 I9 ⟨ι5, h5, acc, ks, Sn.trans S5, R5, eD5, nD5, rk.keep (S5.tkeep R') S5.len S5.eq, V'.step S5 R', p6⟩
          | true =>
            simp only [if_true] at p6 ⊢
            rw [Res.bind_assoc] at p6
            have p7 := RPost.bind1 (So.trans S5) p6
            refine thnF (kk.run _ s9 σ8 H9 _ I9 ⟨ι5, env4, h5, R5, V5, (RPost.noW p7).mono fun kd h6 ι6 H6 S6 R6 p8 kv rkv =>
              (show (fun kv H6 => ∃ ι6 h6 kd, Step ι' h' H5 ι6 h6 H6 ∧ HRep Z.X.K Z.cA ι6 H6 h6 ∧ VRep Z.X.K ι6 h6.length H6 σ8 env4 ∧ Rep Z.X.K ι6 h6.length H6 kv kd ∧
                RPost Z.X.K Z.cA Z.W σ ι1 h1 H2 (Res.bind ((noX (fv env4 h6)).bind fun v h4 => onSome (keyD kd) fun _ => guard' (acc.length < LIM) (compD j g t fk fv (wipeD env vs) m (i + 1) (dput acc kd v) h4)) fun kvs h2 => .ok (.ref h2.length) (h2 ++ [.dict kvs]))
                  fun d h' ι' H' => ∀ v, Rep Z.X.K ι' h'.length H' v d → Q v H') kv H6 from ⟨ι6, h6, kd, S5.trans S6, R6, V5.step S6 R5, rkv, p8⟩)⟩) fun uk s10 ⟨kv, H10, I10, r10, ι6, h6, kd, S6, R6, V6, rkv, p9⟩ => ?_
            rw [Res.bind_assoc] at p9
            have p10 := RPost.bind1 (So.trans S6) p9
            refine thnF (ke.run _ s10 σ8 H10 _ I10 ⟨ι6, env4, h6, R6, V6, (RPost.noW p10).mono fun vd h7 ι7 H7 S7 R7 p11 vv rvv =>
              (show (fun vv H7 => ∃ ι7 h7 vd, Step ι' h' H5 ι7 h7 H7 ∧ HRep Z.X.K Z.cA ι7 H7 h7 ∧ Rep Z.X.K ι7 h7.length H7 kv kd ∧ Rep Z.X.K ι7 h7.length H7 vv vd ∧
                RPost Z.X.K Z.cA Z.W σ ι1 h1 H2 (Res.bind (onSome (keyD kd) fun _ => guard' (acc.length < LIM) (compD j g t fk fv (wipeD env vs) m (i + 1) (dput acc kd vd) h7)) fun kvs h2 => .ok (.ref h2.length) (h2 ++ [.dict kvs]))
                  fun d h' ι' H' => ∀ v, Rep Z.X.K ι' h'.length H' v d → Q v H') vv H7 from ⟨ι7, h7, vd, S6.trans S7, R7, rkv.step S7 R6, rvv, p11⟩)⟩) fun uv s11 ⟨vv, H11, I11, r11, ι7, h7, vd, S7', R7', rkv7, rvv, p12⟩ => ?_
            cases ek : keyD kd with
            | none => rw [ek] at p12; exact p12.elim
            | some k =>
              rw [ek] at p12
              by_cases hl : acc.length < LIM
              · have p12 : RPost Z.X.K Z.cA Z.W σ ι1 h1 H2 (Res.bind (guard' (acc.length < LIM) (compD j g t fk fv (wipeD env vs) m (i + 1) (dput acc kd vd) h7)) fun kvs h2 => .ok (.ref h2.length) (h2 ++ [.dict kvs])) fun d h' ι' H' => ∀ v, Rep Z.X.K ι' h'.length H' v d → Q v H' := p12
                have eg : guard' (acc.length < LIM) (compD j g t fk fv (wipeD env vs) m (i + 1) (dput acc kd vd) h7) = compD j g t fk fv (wipeD env vs) m (i + 1) (dput acc kd vd) h7 := if_pos hl
                rw [eg] at p12
                obtain ⟨eD7, nD7⟩ := keepD S7'
                have rk7 := rk.keep (S7'.tkeep R') S7'.len S7'.eq
                obtain ⟨q1, q2⟩ := keyD_some ek
                refine aside_put (X := Z.X.blk s3 H3 scope (compEnvC scope cl C Z.X.env) fp) (by show Z.X.A.units + 9 < cLine; omega) I11 ⟨eD7, rk7.keys⟩ (nv_of rkv7 q1) q2 (by rw [rk7.len]; exact lim_lt hl) r10 r11 fun s12 I12 => fin w8 I12 ?_
                have t7 : TKeep Z.X.K H11 (upd H11 A0 (.ext (DNphi Z.X.w A0 (nPut ks k kv vv)))) := tkeep_upd eD7 (fun _ z => by cases z) (fun _ _ z => by cases z) _
                have R8 : HRep Z.X.K Z.cA ι7 (upd H11 A0 (.ext (DNphi Z.X.w A0 (nPut ks k kv vv)))) h7 := ⟨fun m o e => by
                  obtain ⟨ho, e3, ro⟩ := R7'.obj m o e
                  exact ⟨ho, by rw [upd_ne (Ne.symm (nD7 m (lt_of_get e)))]; exact e3, ro.keep t7 (Nat.le_refl _) fun _ _ => rfl⟩, R7'.inj⟩
                have V8 := V'.step S7' R'
                refine ⟨ι7, h7, dput acc kd vd, _, ?_, R8, upd_same, nD7, (rk7.put ek rkv7 rvv).keep t7 (Nat.le_refl _) fun _ _ => rfl, ⟨V8.len, fun l dd e => ?_⟩, p12⟩
                · exact (Sn.trans S7').write nD nD7 _
                · obtain ⟨v, e1, r⟩ := V8.var l dd e
                  exact ⟨v, e1, r.keep t7 (Nat.le_refl _) fun _ _ => rfl⟩
              · have eg : guard' (acc.length < LIM) (compD j g t fk fv (wipeD env vs) m (i + 1) (dput acc kd vd) h7) = .stuck := if_neg hl
                have p12 : RPost Z.X.K Z.cA Z.W σ ι1 h1 H2 (Res.bind (guard' (acc.length < LIM) (compD j g t fk fv (wipeD env vs) m (i + 1) (dput acc kd vd) h7)) fun kvs h2 => .ok (.ref h2.length) (h2 ++ [.dict kvs])) fun d h' ι' H' => ∀ v, Rep Z.X.K ι' h'.length H' v d → Q v H' := p12
                rw [eg] at p12
                exact p12.elim
  exact codeAny_compStart_dict loop (T.self Z.X.A 0 _ _ _ st4 loop)
end
end Kf
end
section
set_option maxHeartbeats 4000000
/-! Kf: dict(x) of pairs. -/
namespace Kf
open PySem PySem.Spec L2 PyProof.Rows
theorem vMerge_succ (acc more : List XEnt) (i : Nat) (p : XEnt) (h : more[i]? = some p) : vMerge acc (more.take (i + 1)) = vPut (vMerge acc (more.take i)) p.1 p.2.1 p.2.2 := by
  unfold vMerge
  rw [List.take_add_one, h, List.foldl_append]
  rfl
theorem vPut_len (xs : List XEnt) (k : NestedKey) (u v : Value) : (vPut xs k u v).length ≤ xs.length + 1 := by
  unfold vPut
  split <;> simp
theorem vMerge_len : ∀ (more acc : List XEnt), (vMerge acc more).length ≤ acc.length + more.length
  | [], acc => Nat.le_refl _
  | p :: r, acc => by
    have h1 := vMerge_len r (vPut acc p.1 p.2.1 p.2.2)
    have h2 := vPut_len acc p.1 p.2.1 p.2.2
    show (vMerge (vPut acc p.1 p.2.1 p.2.2) r).length ≤ _
    rw [List.length_cons]; omega
theorem vPut_key {xs : List XEnt} {k : NestedKey} {u v : Value} {x : XEnt} (h : x ∈ vPut xs k u v) : (∃ y ∈ xs, x.1 = y.1 ∧ x.2.1 = y.2.1) ∨ (x.1 = k ∧ x.2.1 = u) := by
  unfold vPut at h
  split at h
  · obtain ⟨y, hy, rfl⟩ := List.mem_map.mp h
    refine .inl ⟨y, hy, ?_⟩
    split <;> exact ⟨rfl, rfl⟩
  · rcases List.mem_append.mp h with h | h
    · exact .inl ⟨x, h, rfl, rfl⟩
    · simp only [List.mem_singleton] at h
      subst h
      exact .inr ⟨rfl, rfl⟩
theorem vMerge_key' : ∀ {more acc : List XEnt} {x : XEnt}, x ∈ vMerge acc more → (∃ y ∈ acc, x.1 = y.1 ∧ x.2.1 = y.2.1) ∨ ∃ y ∈ more, x.1 = y.1 ∧ x.2.1 = y.2.1
  | [], acc, x, h => .inl ⟨x, h, rfl, rfl⟩
  | p :: r, acc, x, h => by
    have h : x ∈ vMerge (vPut acc p.1 p.2.1 p.2.2) r := h
    rcases vMerge_key' h with ⟨y, hy, e1, e2⟩ | ⟨y, hy, e1, e2⟩
    · rcases vPut_key hy with ⟨z, hz, e3, e4⟩ | ⟨e3, e4⟩
      · exact .inl ⟨z, hz, e1.trans e3, e2.trans e4⟩
      · exact .inr ⟨p, List.mem_cons_self, e1.trans e3, e2.trans e4⟩
    · exact .inr ⟨y, List.mem_cons_of_mem _ hy, e1, e2⟩
theorem vMerge_key {more : List XEnt} {x : XEnt} (h : x ∈ vMerge [] more) : ∃ y ∈ more, x.1 = y.1 ∧ x.2.1 = y.2.1 := by
  rcases vMerge_key' h with ⟨y, hy, _⟩ | q
  · cases hy
  · exact q
theorem DAt.mono {w : World} {h h' : Heap} {a : Addr} {xs : List XEnt} (d : DAt w h a xs) (e : ∀ o, h.get? a = some o → h'.get? a = some o) (k : ∀ x ∈ xs, NestedIs h' x.1 x.2.1) : DAt w h' a xs := by
  obtain ⟨o, ep, ho, r⟩ := d.ex
  exact ⟨⟨o, ep, e o ho, r⟩, d.nd, fun x hx => ⟨k x hx, (d.ks x hx).2⟩⟩
section
variable {P : Program} {w : World} {A : Around} {E : Value → Shared → Prop} {s : Shared} {T : String} {a : Addr} {fp : List Addr} {n : Nat} {Rel : Nat → Value → Value → Prop} {OK : Heap → Prop}
theorem key_keep {h h' : Heap} {d : Addr} (hd : ∀ o vs m, h.get? d = some o → o.data ≠ .seq vs m) (e : ∀ b o, b ≠ d → h.get? b = some o → h'.get? b = some o) {k : NestedKey} {u : Value} (x : NestedIs h k u) : NestedIs h' k u :=
  NestedIs.at (fun b ob vs m hb hc => e b ob (fun z => by subst z; exact hd ob vs m hb hc) hb) k u x
theorem dict_pairs_ok {Q : Value → Shared → Prop} (Pa : PairArg P w T a fp [] n Rel OK) (hh : A.handled = none) (hu : A.units + 12 < cLine) (ok : OK s.heap) (more : List XEnt) (hn : more.length = n) (hrel : ∀ i k v, Rel i k v → ∃ nk, more[i]? = some (nk, k, v))
    (hk : ∀ x ∈ more, NestedIs s.heap x.1 x.2.1 ∧ x.1.depth ≤ 8) (hsz : n ≤ sizeLine)
    (h : ∀ h' tk, DAt w h' s.heap.objs.size (vMerge [] more) → (∀ b o, s.heap.get? b = some o → h'.get? b = some o) → Q (.ref s.heap.objs.size) { s with heap := h', toks := tk }) : wpAny (model P w) A (call (.type "dict") [.ref a]) Q E s := by
  refine call_dict_arg Pa ok fun s1 hs1 hdf ok1 => ?_
  subst hs1
  have keyAt : ∀ {h' : Heap}, (∀ b o, b ≠ s.heap.objs.size → s.heap.get? b = some o → h'.get? b = some o) → ∀ x ∈ more, NestedIs h' x.1 x.2.1 := fun {h'} e x hx =>
    key_keep (d := s.heap.objs.size) (fun o vs m ho => absurd (Heap.lt_size ho) (Nat.lt_irrefl _)) e (hk x hx).1
  refine updateFrom_arg (A := A.in1) (Tab := fun i h => DAt w h s.heap.objs.size (vMerge [] (more.take i)) ∧ ∀ b o, b ≠ s.heap.objs.size → s.heap.get? b = some o → h.get? b = some o) Pa .none hh ok1 hdf ⟨DAt.new s.heap, fun b o _ e => Heap.get?_push_of_some _ e⟩ ?_ ?_ ?_ ?_
  · rintro i h' ⟨d, _⟩
    obtain ⟨o, _, ho, _⟩ := d.ex
    exact Heap.lt_size ho
  · rintro i h1 h2 wr' hd hw ⟨d, e⟩ k
    have e2 : ∀ b o, b ≠ s.heap.objs.size → s.heap.get? b = some o → h2.get? b = some o := fun b o hb ho => k b o (fun z => by
      rcases hw b z with q | q
      · cases q
      · have t := Heap.get?_push_of_some { cls := .type "dict", data := .dict #[] } ho
        rw [q] at t
        cases t) (e b o hb ho)
    refine ⟨d.mono (fun o ho => k _ o hd ho) fun x hx => ?_, e2⟩
    obtain ⟨y, hy, e3, e4⟩ := vMerge_key hx
    rw [e3, e4]
    exact keyAt e2 y (List.mem_of_mem_take hy)
  · rintro i key v s' Q' E' hi hr ⟨d, e⟩ _ hQ
    obtain ⟨nk, hm⟩ := hrel i key v hr
    have hx := List.mem_of_getElem? hm
    refine dictSet_ok (by simp only [Around.in1_units]; omega) (keyAt e _ hx) (hk _ hx).2 d (by have := vMerge_len (more.take i) []; rw [List.length_take, List.length_nil] at this; omega) fun h' tk d' sb => hQ h' tk ⟨by rw [vMerge_succ [] more i _ hm]; exact d', fun b o hb ho => sb.extBut b o hb (e b o hb ho)⟩ sb
  · rintro h' tk ⟨d, e⟩ _
    rw [List.take_of_length_le (Nat.le_of_eq hn)] at d
    exact ⟨rfl, h h' tk d fun b o ho => e b o (Nat.ne_of_lt (Heap.lt_size ho)) ho⟩
end
/-! ### dict(x), read -/
def prD : D → Option (D × D)
  | .tup [k, v] => some (k, v)
  | _ => none
def pdictF : FA := fa1 fun d h => onSome (itemsD h d) fun ds => onSome (allS (ds.map prD)) fun ps => guard' (ps.length ≤ LIM ∧ (ps.all fun p => (keyD p.1).isSome) = true) (.ok (.ref h.length) (h ++ [.dict (dmerge [] ps)]))
/-- the pairs at the addresses ts are the entries ks -/
abbrev PrV (K : PySem.W.Frag) (H : Hp) : List V → List NEnt → Prop := Paired fun v e => ∃ t, v = .ref t ∧ SqT K H t [e.2.1, e.2.2]
def rPdict (K : PySem.W.Frag) (w : World) (xs : List V) (H : Hp) (Q : VK) : Prop := ∃ a vs ks, xs = [.ref a] ∧ (SqL K H a vs ∨ PlT K H a vs) ∧ PrV K H vs ks ∧ (∀ e ∈ ks, NV K H e.1 e.2.1 ∧ e.1.depth ≤ 8) ∧ ks.length ≤ sizeLine ∧
  ∀ p, H p = none → Q (.ref p) (upd H p (.ext (DNphi w p (nMerge [] ks))))
theorem prv_of {X : Cx} {pins : List (Addr × Obj)} {σ : L2.St} {H : Hp} {s : Shared} (I : Inv X pins σ H s) : ∀ {vs : List V} {ks : List NEnt}, PrV X.K H vs ks → ∃ (ts : List Addr) (xs : List XEnt), vs = ts.map V.ref ∧ ts.length = xs.length ∧ Paired EV ks xs ∧ ∀ (j : Nat) (t : Addr) (x : XEnt), ts[j]? = some t → xs[j]? = some x → PairAt s.heap t x.2.1 x.2.2
  | _, _, .nil => ⟨[], [], rfl, rfl, .nil, fun j t x e => by simp at e⟩
  | _, _, .cons (a := v) (b := e) ⟨t, ev, q⟩ r => by
    obtain ⟨ts, xs, e1, e2, e3, e4⟩ := prv_of I r
    obtain ⟨its, rv, ⟨o, ho, hc, n, hd⟩, _⟩ := I.tuple q
    obtain ⟨u, w, ei, ru, rw⟩ := vals2 rv
    subst ei ev
    refine ⟨t :: ts, (e.1, u, w) :: xs, by rw [e1]; rfl, by simp [e2], .cons ⟨rfl, ru, rw⟩ e3, fun j t' x h1 h2 => ?_⟩
    cases j with
    | zero =>
      simp at h1 h2
      subst h1 h2
      exact .inl ⟨o, ho, hc, n, hd⟩
    | succ j => exact e4 j t' x (by simpa using h1) (by simpa using h2)
theorem call_pdict {X : Cx} (hu : X.A.units + 12 < cLine) (hcalm : X.calm = true) : CallR X (.type "dict") (rPdict X.K X.w) := by
  intro pins s σ H xs us Q I r ⟨a, vs, ks, ex, hq, hp, hk, hl, q⟩
  subst ex
  obtain ⟨u, eu, rx⟩ := vals1 r
  subst eu
  cases rx
  obtain ⟨ts, ents, ev, hlen, rel, pr⟩ := prv_of I hp
  have el : ents.length = ks.length := (Paired.length rel).symm
  let ps : List (Value × Value) := ents.map fun x => (x.2.1, x.2.2)
  let Ts : Nat → Addr := fun j => ts.getD j 0
  have items : ∀ its : Array Value, Vals vs its.toList → PairItems s.heap its Ts ps := fun its rv => by
    subst ev
    have ei : its.toList = ts.map Value.ref := refs_at rv
    refine ⟨?_, fun j k v hj => ?_⟩
    · have := congrArg List.length ei
      simp at this
      simp [ps, this, hlen]
    · simp only [ps, List.getElem?_map, Option.map_eq_some_iff] at hj
      obtain ⟨x, hx, e⟩ := hj
      cases e
      have hjt : j < ts.length := by rw [hlen]; exact (List.getElem?_eq_some_iff.mp hx).1
      have et : ts[j]? = some ts[j] := List.getElem?_eq_getElem hjt
      refine ⟨?_, ?_⟩
      · rw [← Array.getElem?_toList, ei, List.getElem?_map, et]
        simp [Ts, List.getD, et]
      · have := pr j _ x et hx
        simpa [Ts, List.getD, et] using this
  have hrel : ∀ i k v, PairRel ps i k v → ∃ nk, ents[i]? = some (nk, k, v) := fun i k v h => by
    simp only [PairRel, ps, List.getElem?_map, Option.map_eq_some_iff] at h
    obtain ⟨x, hx, e⟩ := h
    cases e
    exact ⟨x.1, hx⟩
  have keys : ∀ x ∈ ents, NestedIs s.heap x.1 x.2.1 ∧ x.1.depth ≤ 8 := fun x hx => by
    obtain ⟨p, hp, e1, e2, _⟩ := evs_mem rel x hx
    obtain ⟨k1, k2⟩ := hk p hp
    rw [← e1]
    exact ⟨nv_is I k1 e2, k2⟩
  have hsz : ps.length ≤ sizeLine := by simp only [ps, List.length_map, el]; exact hl
  have done : ∀ h' tk, DAt X.w h' s.heap.objs.size (vMerge [] ents) → (∀ b o, s.heap.get? b = some o → h'.get? b = some o) → ∃ x H', Inv X pins σ H' { s with heap := h', toks := tk } ∧ RelV x (.ref s.heap.objs.size) ∧ Q x H' := fun h' tk d e => by
    have z : (nMerge [] ks).length ≤ sizeLine := by have := nMerge_len ks []; rw [List.length_nil] at this; omega
    exact ⟨.ref s.heap.objs.size, _, I.laid (t' := tk) e (Nat.le_refl _) (dn_ok z (beq_eq_false_iff_ne.mpr (Nat.ne_of_gt I.big)) (EVs.merge rel .nil) d), rfl, q _ (I.hok.fresh (Nat.le_refl _))⟩
  rcases hq with hq | hq
  · obtain ⟨its, rv, ⟨o, n, ho, hc, hd, hdat⟩, _⟩ := I.list hq
    exact dict_pairs_ok (PairArg.list a its.toArray Ts ps) (I.ok.hd hcalm) hu ⟨⟨o, n, ho, hc, hd, hdat⟩, items _ (by simpa using rv)⟩ ents (by simp [ps]) hrel keys hsz done
  · rcases hq with ⟨o, e, hdn⟩ | ⟨o, its, n, h1, h2, h3, h4, h5, h6⟩
    · obtain ⟨ho, _, its, rv, ⟨o', ho', hc, n, hdat⟩⟩ := I.hok a _ e
      rw [ho] at ho'
      cases ho'
      exact dict_pairs_ok (PairArg.tuple a its.toArray Ts ps) (I.ok.hd hcalm) hu ⟨⟨o, n, ho, hc, hdn, hdat⟩, items _ (by simpa using rv)⟩ ents (by simp [ps]) hrel keys hsz done
    · exact dict_pairs_ok (PairArg.tuple a its Ts ps) (I.ok.hd hcalm) hu ⟨⟨o, n, I.kIn a o h1, h2, h3, h4⟩, items _ h6⟩ ents (by simp [ps]) hrel keys hsz done
section
variable {Z : Kx}
theorem pairs_rep {K : PySem.W.Frag} {ι : Nat → Addr} {n : Nat} {H : Hp} : ∀ {vs : List V} {ds : List D} {ps : List (D × D)}, Reps K ι n H vs ds → allS (ds.map prD) = some ps → (ps.all fun p => (keyD p.1).isSome) = true → ∃ ks, PrV K H vs ks ∧ KRep K ι n H ks ps
  | _, _, ps, .nil, e, _ => by
    simp [allS] at e
    subst e
    exact ⟨[], .nil, .nil⟩
  | _, _, ps, .cons (d := d) (ds := ds) r rs, e, hk => by
    simp only [List.map_cons] at e
    cases ed : prD d with
    | none => rw [ed] at e; simp [allS] at e
    | some p =>
      rw [ed] at e
      simp only [allS, Option.map_eq_some_iff] at e
      obtain ⟨qs, e1, e2⟩ := e
      subst e2
      simp only [List.all_cons, Bool.and_eq_true] at hk
      obtain ⟨ks, h1, h2⟩ := pairs_rep rs e1 hk.2
      unfold prD at ed
      split at ed
      · rename_i k v
        cases ed
        cases r with
        | tup q r2 =>
          cases r2 with
          | cons rk r3 =>
            cases r3 with
            | cons rv r4 =>
              cases r4
              obtain ⟨nk, ek⟩ := Option.isSome_iff_exists.mp hk.1
              exact ⟨(nk, _, _) :: ks, .cons ⟨_, rfl, q.sqt⟩ h1, .cons ek rk rv h2⟩
      · cases ed
theorem ck_dictP (hw : Z.cA.w = Z.X.w) (hu : Z.X.A.units + 12 < cLine) (hcalm : Z.X.calm = true) : CallK Z (.type "dict") pdictF := ⟨_, call_pdict hu hcalm, fun σ ι h H xs ds Q R rs p => by
  obtain ⟨d, rfl, p⟩ := p.fa1
  obtain ⟨x, rfl, r⟩ := wit rs
  obtain ⟨es, e, p⟩ := p.onSome
  obtain ⟨ps, e2, p⟩ := p.onSome
  obtain ⟨⟨hl, hk⟩, p⟩ := p.guard
  obtain ⟨a, ys, rfl, q, rs⟩ := items_rep R r e
  obtain ⟨ks, h1, h2⟩ := pairs_rep rs e2 hk
  refine ⟨a, ys, ks, rfl, q, h1, h2.keys, by rw [h2.len]; exact lim_le hl, fun pa hp => alloc_post R hp ?_ p⟩
  have t := ORep.dict (cA := Z.cA) (a := pa) (h2.merge .nil)
  rw [hw] at t
  exact t⟩
end
end Kf
end
section
set_option maxHeartbeats 4000000
/-! Kf: max and min of data that are alike. -/
namespace Kf
open PySem PySem.Spec L2 PySem.W
section
variable {prog : Program} {w : World} {A : Around} {E : Value → Shared → Prop} {s : Shared}
theorem best_size {vs : Array Value} {x : PyData} {xs : List PyData} {as : List Addr} (hr : ReadsAll s.heap vs.toList (x :: xs) as) : vs.size = xs.length + 1 := readsAll_len hr
/-- max(l), l a list or a tuple: the item, by its place -/
theorem max_place {l : Addr} {vs : Array Value} {x : PyData} {xs : List PyData} {as : List Addr} {Q : Value → Shared → Prop} (hh : A.handled = none) (hl : s.heap.IsList l vs ∨ s.heap.IsTuple l vs)
    (hr : ReadsAll s.heap vs.toList (x :: xs) as) (ha : AlikeAll (x :: xs)) (hu : A.units + 1 + PyData.depthAll (x :: xs) < cLine)
    (h : ∀ v h' tk, vs[argBest (fun i j => dataLt ((x :: xs).getD j .none) ((x :: xs).getD i .none)) xs.length]? = some v → (∀ b o, s.heap.get? b = some o → h'.get? b = some o) → Q v { s with heap := h', toks := tk }) :
    wpAny (model prog w) A (call (.builtin "max") [.ref l]) Q E s := by
  have sz := best_size hr
  have fit : A.in1.units + PyData.depthAll (x :: xs) < cLine := by show A.units + 1 + _ < _; exact hu
  have last : vs.size - 1 = xs.length := by omega
  rcases hl with hl | hl
  · refine call_max_walkH (iter_listW hh hl fun s₂ e W st hfp hw hk => ⟨_, _, _, _, _, _, _, s.heap, _, rfl, W, st, hfp, by omega, hw, hk, cmpIn_gt (A := A.in1) hr ha fit, fun v s' hP m => ?_⟩)
    obtain ⟨h', tk, e', hk'⟩ := moved_old e rfl m
    rw [e']
    exact h v h' tk (by rw [← last]; exact hP) hk'
  · refine call_max_walkH (iter_tupleW hh hl fun s₂ e W st hfp hw hk => ⟨_, _, _, _, _, _, _, s.heap, _, rfl, W, st, hfp, by omega, hw, hk, cmpIn_gt (A := A.in1) hr ha fit, fun v s' hP m => ?_⟩)
    obtain ⟨h', tk, e', hk'⟩ := moved_old e rfl m
    rw [e']
    exact h v h' tk (by rw [← last]; exact hP) hk'
theorem min_place {l : Addr} {vs : Array Value} {x : PyData} {xs : List PyData} {as : List Addr} {Q : Value → Shared → Prop} (hh : A.handled = none) (hl : s.heap.IsList l vs ∨ s.heap.IsTuple l vs)
    (hr : ReadsAll s.heap vs.toList (x :: xs) as) (ha : AlikeAll (x :: xs)) (hu : A.units + 1 + PyData.depthAll (x :: xs) < cLine)
    (h : ∀ v h' tk, vs[argBest (fun i j => dataLt ((x :: xs).getD i .none) ((x :: xs).getD j .none)) xs.length]? = some v → (∀ b o, s.heap.get? b = some o → h'.get? b = some o) → Q v { s with heap := h', toks := tk }) :
    wpAny (model prog w) A (call (.builtin "min") [.ref l]) Q E s := by
  have sz := best_size hr
  have fit : A.in1.units + PyData.depthAll (x :: xs) < cLine := by show A.units + 1 + _ < _; exact hu
  have last : vs.size - 1 = xs.length := by omega
  rcases hl with hl | hl
  · refine call_min_walkH (iter_listW hh hl fun s₂ e W st hfp hw hk => ⟨_, _, _, _, _, _, _, s.heap, _, rfl, W, st, hfp, by omega, hw, hk, cmpIn_lt (A := A.in1) hr ha fit, fun v s' hP m => ?_⟩)
    obtain ⟨h', tk, e', hk'⟩ := moved_old e rfl m
    rw [e']
    exact h v h' tk (by rw [← last]; exact hP) hk'
  · refine call_min_walkH (iter_tupleW hh hl fun s₂ e W st hfp hw hk => ⟨_, _, _, _, _, _, _, s.heap, _, rfl, W, st, hfp, by omega, hw, hk, cmpIn_lt (A := A.in1) hr ha fit, fun v s' hP m => ?_⟩)
    obtain ⟨h', tk, e', hk'⟩ := moved_old e rfl m
    rw [e']
    exact h v h' tk (by rw [← last]; exact hP) hk'
end
/-! ### the order's reading -/
/-- values with their data -/
def dps (h : Hd) (ds : List D) : Option (List (D × PyData)) := allS (ds.map fun d => (py h 60 d).map fun p => (d, p))
def alikeB (ps : List PyData) : Bool := ps.all fun p => (!isNonP p) && ps.all fun q => alike p q
def bestP (lt : PyData → PyData → Bool) (p : D × PyData) (r : List (D × PyData)) : D × PyData := r.foldl (fun a y => if lt y.2 a.2 then y else a) p
def bestL (lt : PyData → PyData → Bool) : List D → Hd → Res D := fun ds h => onSome (dps h ds) fun ps => match ps with
  | [] => .stuck
  | p :: r => guard' (alikeB ((p :: r).map (·.2)) = true) (.ok (bestP lt p r).1 h)
abbrev maxL : List D → Hd → Res D := bestL fun a b => dataLt b a
abbrev minL : List D → Hd → Res D := bestL dataLt
theorem alikeB_all {ps : List PyData} (h : alikeB ps = true) : AlikeAll ps := by
  simp only [alikeB, List.all_eq_true, Bool.and_eq_true, Bool.not_eq_true'] at h
  exact ⟨fun x hx y hy => (h x hx).2 y hy, fun x hx => isNonP_ne (h x hx).1⟩
theorem getD_map {α β : Type} (f : α → β) (d : α) : ∀ (xs : List α) (i : Nat), (xs.map f).getD i (f d) = f (xs.getD i d)
  | [], _ => rfl
  | x :: xs, 0 => rfl
  | x :: xs, i + 1 => getD_map f d xs i
theorem getD_some {α : Type} (d : α) : ∀ (xs : List α) (i : Nat), i < xs.length → xs[i]? = some (xs.getD i d)
  | [], _, h => absurd h (Nat.not_lt_zero _)
  | x :: xs, 0, _ => rfl
  | x :: xs, i + 1, h => getD_some d xs i (Nat.lt_of_succ_lt_succ h)
theorem best_at (lt : PyData → PyData → Bool) (p : D × PyData) (r : List (D × PyData)) :
    ∃ i, i = argBest (fun i j => lt (((p :: r).map (·.2)).getD i .none) (((p :: r).map (·.2)).getD j .none)) r.length ∧ (p :: r)[i]? = some (bestP lt p r) := by
  have e : (fun i j => lt (((p :: r).map (·.2)).getD i .none) (((p :: r).map (·.2)).getD j .none)) = fun i j => (fun a b : D × PyData => lt a.2 b.2) ((p :: r).getD i (D.non, .none)) ((p :: r).getD j (D.non, .none)) := by
    funext i j
    rw [getD_map (fun q : D × PyData => q.2) (D.non, .none), getD_map (fun q : D × PyData => q.2) (D.non, .none)]
  obtain ⟨h1, h2⟩ := argBest_fold (fun a b : D × PyData => lt a.2 b.2) (D.non, .none) p r r.length (Nat.le_refl _)
  rw [← e, List.take_length] at h2
  rw [← e] at h1
  refine ⟨_, rfl, ?_⟩
  rw [getD_some (D.non, .none) (p :: r) _ (Nat.lt_succ_of_le h1), h2]
  rfl
section
variable {K : PySem.W.Frag} {cA : CA} {ι : Nat → Addr} {h : Hd} {H : Hp}
theorem dps_cons {d : D} {ds : List D} {ps : List (D × PyData)} (e : dps h (d :: ds) = some ps) : ∃ p r, py h 60 d = some p ∧ dps h ds = some r ∧ ps = (d, p) :: r := by
  unfold dps at e ⊢
  rw [List.map_cons] at e
  cases ep : py h 60 d with
  | none => rw [ep] at e; cases e
  | some p =>
    rw [ep] at e
    simp only [Option.map_some, allS, Option.map_eq_some_iff] at e
    obtain ⟨r, e1, e2⟩ := e
    exact ⟨p, r, rfl, e1, e2.symm⟩
theorem dps_rep (R : HRep K cA ι H h) : ∀ {vs : List V} {ds : List D} {ps : List (D × PyData)}, Reps K ι h.length H vs ds → dps h ds = some ps → ps.map (·.1) = ds ∧ DpAll K H vs (ps.map (·.2)) ∧ PyData.depthAll (ps.map (·.2)) ≤ 60
  | _, _, _, .nil, e => by cases e; exact ⟨rfl, .nil, Nat.zero_le _⟩
  | _, _, ps, .cons (d := d) r q, e => by
    obtain ⟨p, ps', ep, e', rfl⟩ := dps_cons e
    obtain ⟨g1, g2, g3⟩ := dps_rep R q e'
    refine ⟨by rw [List.map_cons, g1], .cons (py_dp R ep r) g2, ?_⟩
    have := (py_ok ep).2
    simp only [List.map_cons, PyData.depthAll]
    omega
end
section
variable {X : Cx} {Z : Kx}
/-- max(x), min(x) -/
def rBest (K : PySem.W.Frag) (lt : PyData → PyData → Bool) : List V → Hp → VK → Prop := fun vs H Q => ∃ (a : Addr) (xs : List V) (p : PyData) (r : List PyData), vs = [.ref a] ∧ (SqL K H a xs ∨ SqT K H a xs) ∧ DpAll K H xs (p :: r) ∧ AlikeAll (p :: r) ∧ PyData.depthAll (p :: r) ≤ 60 ∧
  ∀ v, xs[argBest (fun i j => lt ((p :: r).getD i .none) ((p :: r).getD j .none)) r.length]? = some v → Q v H
theorem vals_at : ∀ {xs : List V} {us : List Value} {i : Nat} {u : Value}, Vals xs us → us[i]? = some u → ∃ x, xs[i]? = some x ∧ RelV x u
  | _, _, _, _, .nil, e => by simp at e
  | _, _, 0, _, .cons r _, e => by simp at e; subst e; exact ⟨_, rfl, r⟩
  | _, _, i + 1, _, .cons _ t, e => by
    obtain ⟨x, e1, e2⟩ := vals_at (i := i) t (by simpa using e)
    exact ⟨x, by simpa using e1, e2⟩
theorem cr_maxD (hc : X.calm = true) (hu : X.A.units + 64 < cLine) : CallR X (.builtin "max") (rBest X.K fun a b => dataLt b a) := by
  intro pins s σ H vs us Q I r h
  obtain ⟨a, xs, p, q, rfl, hs, hd, ha, hz, k⟩ := h
  rw [Vals.ref1 r]
  obtain ⟨its, rv, hl⟩ : ∃ its : List Value, Vals xs its ∧ (s.heap.IsList a its.toArray ∨ s.heap.IsTuple a its.toArray) := by
    rcases hs with hs | hs
    · obtain ⟨its, rv, hl, _⟩ := I.list hs
      exact ⟨its, rv, .inl hl.isList⟩
    · obtain ⟨its, rv, hl, _⟩ := I.tuple hs
      exact ⟨its, rv, .inr hl⟩
  obtain ⟨as, hr⟩ := Dp.readsAll I _ _ its hd rv
  refine max_place (I.ok.hd hc) hl hr ha (by omega) fun v h' tk e hk => ?_
  obtain ⟨x, e1, e2⟩ := vals_at rv (by rw [List.getElem?_toArray] at e; exact e)
  exact ⟨x, H, I.kept hk, e2, k x e1⟩
theorem cr_minD (hc : X.calm = true) (hu : X.A.units + 64 < cLine) : CallR X (.builtin "min") (rBest X.K dataLt) := by
  intro pins s σ H vs us Q I r h
  obtain ⟨a, xs, p, q, rfl, hs, hd, ha, hz, k⟩ := h
  rw [Vals.ref1 r]
  obtain ⟨its, rv, hl⟩ : ∃ its : List Value, Vals xs its ∧ (s.heap.IsList a its.toArray ∨ s.heap.IsTuple a its.toArray) := by
    rcases hs with hs | hs
    · obtain ⟨its, rv, hl, _⟩ := I.list hs
      exact ⟨its, rv, .inl hl.isList⟩
    · obtain ⟨its, rv, hl, _⟩ := I.tuple hs
      exact ⟨its, rv, .inr hl⟩
  obtain ⟨as, hr⟩ := Dp.readsAll I _ _ its hd rv
  refine min_place (I.ok.hd hc) hl hr ha (by omega) fun v h' tk e hk => ?_
  obtain ⟨x, e1, e2⟩ := vals_at rv (by rw [List.getElem?_toArray] at e; exact e)
  exact ⟨x, H, I.kept hk, e2, k x e1⟩
theorem best_post {lt : PyData → PyData → Bool} {σ : L2.St} {ι : Nat → Addr} {h : Hd} {H : Hp} {a : Addr} {xs : List V} {ds : List D} {Q : VK} (R : HRep Z.X.K Z.cA ι H h) (hs : SqL Z.X.K H a xs ∨ SqT Z.X.K H a xs) (rs : Reps Z.X.K ι h.length H xs ds)
    (p : RPost Z.X.K Z.cA Z.W σ ι h H (bestL lt ds h) fun d h' ι' H' => ∀ v, Rep Z.X.K ι' h'.length H' v d → Q v H') : rBest Z.X.K lt [.ref a] H Q := by
  obtain ⟨ps, e, p⟩ := p.onSome
  obtain ⟨g1, g2, g3⟩ := dps_rep R rs e
  cases ps with
  | nil => exact p.elim
  | cons p0 r =>
    obtain ⟨c, p⟩ := RPost.guard p
    refine ⟨a, xs, p0.2, r.map (fun q : D × PyData => q.2), rfl, hs, g2, alikeB_all c, g3, fun v ev => ?_⟩
    obtain ⟨i, ei, eb⟩ := best_at lt p0 r
    rw [List.length_map] at ev
    have ev : xs[argBest (fun i j => lt (((p0 :: r).map (·.2)).getD i .none) (((p0 :: r).map (·.2)).getD j .none)) r.length]? = some v := ev
    rw [← ei] at ev
    obtain ⟨d, ed, rd⟩ := rs.get' ev
    have e2 : ds[i]? = some (bestP lt p0 r).1 := by rw [← g1, List.getElem?_map, eb]; rfl
    rw [e2] at ed
    cases ed
    exact RPost.ok R p v rd
def bestF (lt : PyData → PyData → Bool) : FA := fa1 fun d h => onSome (itemsD h d) fun es => bestL lt es h
abbrev maxF : FA := bestF fun a b => dataLt b a
abbrev minF : FA := bestF dataLt
theorem ck_best {lt : PyData → PyData → Bool} {f : Value} (c : CallR Z.X f (rBest Z.X.K lt)) : CallK Z f (bestF lt) := ⟨_, c, fun σ ι h H xs ds Q R rs p => by
  obtain ⟨d, rfl, p⟩ := p.fa1
  obtain ⟨x, rfl, r⟩ := wit rs
  obtain ⟨es, e, p⟩ := p.onSome
  obtain ⟨a, ys, rfl, q, rs⟩ := items_rep R r e
  exact best_post R (q.imp id PlT.sqt) rs p⟩
theorem cn_best {lt : PyData → PyData → Bool} {f : Value} (c : CallR Z.X f (rBest Z.X.K lt)) : CallKN Z f (bestL lt) := ⟨_, c, fun σ ι h H p xs ds Q R e rs q => best_post R (.inl (.of e)) rs q⟩
theorem ck_max (hc : Z.X.calm = true) (hu : Z.X.A.units + 64 < cLine) : CallK Z (.builtin "max") maxF := ck_best (cr_maxD hc hu)
theorem ck_min (hc : Z.X.calm = true) (hu : Z.X.A.units + 64 < cLine) : CallK Z (.builtin "min") minF := ck_best (cr_minD hc hu)
theorem cn_max (hc : Z.X.calm = true) (hu : Z.X.A.units + 64 < cLine) : CallKN Z (.builtin "max") maxL := cn_best (cr_maxD hc hu)
theorem cn_min (hc : Z.X.calm = true) (hu : Z.X.A.units + 64 < cLine) : CallKN Z (.builtin "min") minL := cn_best (cr_minD hc hu)
end
end Kf
end
section
set_option maxHeartbeats 4000000
/-! Kf: a test of what is no truth value: a list, a tuple, a dict, a number, a text, None. -/
namespace Kf
open PySem PySem.Spec L2
def truO (o : Option O) : Option Bool := match o with
  | some (.lst ds) => some (!ds.isEmpty)
  | some (.dict ds) => some (!ds.isEmpty)
  | some (.lkd ds) => some (!ds.isEmpty)
  | _ => none
def truD (h : Hd) : D → Option Bool
  | .bl b => some b
  | .int i => some (i != 0)
  | .non => some false
  | .str s => if s.length ≤ LIM then some ((s.length : Int) != 0) else none
  | .tup ds => some (!ds.isEmpty)
  | .fls ds => some (!ds.isEmpty)
  | .ref m => truO h[m]?
  | _ => none
def sTruth (f : SE) : SB := fun env h => (f env h).bind fun d h1 => onSome (truD h1 d) fun b => .ok b h1
section
variable {X : Cx} {Z : Kx}
def rTru (X : Cx) : V → Hp → (Bool → Hp → Prop) → Prop := fun x H Q => (∃ k, TruV X.K x H k ∧ Q k H) ∨ ∃ a ks, x = .ref a ∧ NDr X.K X.w H a ks ∧ Q (!ks.isEmpty) H
theorem paired_empty {α β : Type} {G : α → β → Prop} {l : List α} {m : List β} (r : Paired G l m) : m.isEmpty = l.isEmpty := by cases r <;> rfl
theorem tru_r : TruR X (rTru X) := by
  intro pins s σ H x v Q I rx h
  rcases h with h | ⟨a, ks, rfl, nd, q⟩
  · exact tru_ok pins s σ H x v Q I rx h
  · cases rx
    obtain ⟨xs, r, d, z, hs, hz⟩ := nd.ex I
    exact truth_ok hz hs d fun tk => ⟨H, I.tok _, by rw [paired_empty r]; exact q⟩
theorem reps_empty {K : PySem.W.Frag} {ι : Nat → Addr} {n : Nat} {H : Hp} {xs : List V} {ds : List D} (r : Reps K ι n H xs ds) : xs.isEmpty = ds.isEmpty := by cases r <;> rfl
theorem kreps_empty {K : PySem.W.Frag} {ι : Nat → Addr} {n : Nat} {H : Hp} {xs : List NEnt} {ds : List (D × D)} (r : KRep K ι n H xs ds) : xs.isEmpty = ds.isEmpty := by cases r <;> rfl
theorem kb_truth {e : Expr} {f : SE} (hw : Z.cA.w = Z.X.w) (p : KE Z e f) (he : ∀ whole, isTrue e Z.X.env whole = (do let v ← whole; standAt e.pos; holding [v] (truthy v)) := by intro _; rfl) : KB Z e (sTruth f) :=
  ⟨(pt_truthR p.pe tru_r he).weak fun σ H Q ⟨ι, env, h, R, V, p⟩ => ⟨ι, env, h, R, V, (RPost.bind p).mono fun d h1 ι1 H1 S1 R1 p1 v r => by
    obtain ⟨b, eb, p1⟩ := p1.onSome
    have q : Q b H1 := RPost.ok R1 p1
    cases r with
    | non => cases eb; exact .inl ⟨false, rfl, q⟩
    | bl => cases eb; exact .inl ⟨_, rfl, q⟩
    | int => cases eb; exact .inl ⟨_, rfl, q⟩
    | str =>
      rename_i s
      have eb : (if s.length ≤ LIM then some ((s.length : Int) != 0) else none) = some b := eb
      split at eb
      · rename_i c
        cases eb
        exact .inl ⟨_, ⟨by rw [ofString_length]; exact lim_le c, by rw [ofString_length]⟩, q⟩
      · cases eb
    | raw => cases eb
    | tup w rs => cases eb; exact .inl ⟨_, .inr (.inl ⟨_, w.sqt, by rw [reps_empty rs]⟩), q⟩
    | ztp w rs => cases eb
    | fls w rs => cases eb; exact .inl ⟨_, .inl ⟨_, w.sql, by rw [reps_empty rs]⟩, q⟩
    | xc0 => cases eb
    | xc _ _ => cases eb
    | ref hlt =>
      rename_i m
      have eb : truO h1[m]? = some b := eb
      cases hm : h1[m]? with
      | none => rw [hm] at eb; cases eb
      | some o =>
        rw [hm] at eb
        cases o with
        | lst ds =>
          cases eb
          obtain ⟨ho, e3, ro⟩ := R1.obj m _ hm
          cases ro with
          | lst rs => exact .inl ⟨_, .inl ⟨_, .of e3, by rw [reps_empty rs]⟩, q⟩
        | dict kvs =>
          cases eb
          obtain ⟨ks, nd, kr⟩ := dictD_rep hw R1 (m := m) (kvs := kvs) (by unfold dictD; rw [hm])
          exact .inr ⟨_, ks, rfl, nd, by rw [kreps_empty kr]; exact q⟩
        | lkd kvs =>
          cases eb
          obtain ⟨ks, nd, kr⟩ := dictD_rep hw R1 (m := m) (kvs := kvs) (by unfold dictD; rw [hm])
          exact .inr ⟨_, ks, rfl, nd, by rw [kreps_empty kr]; exact q⟩
        | ins _ _ => cases eb⟩⟩
end
end Kf
end
section
set_option maxHeartbeats 4000000
/-! Kf: sorted of data that are alike. -/
namespace Kf
open PySem PySem.Spec L2 PySem.W PyProof.Rows
section
variable {prog : Program} {w : World} {A : Around} {E : Value → Shared → Prop} {s : Shared}
/-- x's items, collected, are vs; nothing is lost -/
def Coll (prog : Program) (w : World) (A : Around) (s : Shared) (x : Value) (vs : List Value) : Prop :=
  ∀ (E : Value → Shared → Prop) (Q : List Value → Shared → Prop), (∀ h' tk, (∀ b o, s.heap.get? b = some o → h'.get? b = some o) → Q vs { s with heap := h', toks := tk }) → wpAny (model prog w) A (collect x) Q E s
theorem coll_seq {l : Addr} {vs : List Value} (hl : s.heap.IsList l vs.toArray ∨ s.heap.IsTuple l vs.toArray) (hz : vs.length ≤ sizeLine) : Coll prog w A s (.ref l) vs := fun E Q h => by
  have hz' : vs.toArray.size ≤ sizeLine := by simpa using hz
  rcases hl with ⟨o, ho, hc, n, hd⟩ | ⟨o, ho, hc, n, hd⟩
  · exact wpAny_collect_seq l (.inl rfl) ho hc hd (fun h' k => h h' s.toks k) hz'
  · exact wpAny_collect_seq l (.inr rfl) ho hc hd (fun h' k => h h' s.toks k) hz'
/-- sorted(x): the new list -/
theorem sorted_place {β : Type} {enc : β → PyData} {R : Value → β → Prop} {x : Value} {vs : List Value} {bs : List β} {Q : Value → Shared → Prop} (hcol : Coll prog w A.in1 s x vs) (e : EachIs R vs bs)
    (er : EachIs (fun v b => ∃ as, Reads s.heap v (enc b) as) vs bs) (hal : AllAlike (bs.map enc)) (hs : Sortable (bs.map enc)) (hz : bs.length ≤ sizeLine) (hu : ∀ b, b ∈ bs → A.units + 2 + (enc b).depth < cLine)
    (h : ∀ (out : List Value) (p : Addr) (h1 h' : Heap) (tk ep : Nat), out.length = bs.length → EachIs R out (bs.mergeSort (dataLe false enc)) → (∀ b o, s.heap.get? b = some o → h1.get? b = some o) → (∀ b o, h1.get? b = some o → h'.get? b = some o) → h1.objs.size ≤ p → h'.get? p = some (seqObj "list" (List.toArray out) ep) → Q (.ref p) { s with heap := h', toks := tk }) :
    wpAny (model prog w) A (call (.builtin "sorted") [x]) Q E s := by
  have hv : vs.length ≤ sizeLine := by rw [e.length]; exact hz
  refine Calls.call_function_entry kind_sorted plain_sorted entry_sorted (args_sorted1 x) ?_
  unfold Builtin.«sorted»
  refine wpAny_bind (m := checkCount "sorted" 1 1 _) (wpAny_pure (wpAny_bind (hcol _ _ fun h1 tk k1 => wpAny_bind (wpAny_newList ?_ hv))))
  have atL : (h1.push (seqObj "list" vs.toArray 0)).get? h1.objs.size = some (seqObj "list" vs.toArray 0) := Heap.get?_push_size _ rfl
  have k2 : ∀ b o, s.heap.get? b = some o → b ≠ h1.objs.size ∧ (h1.push (seqObj "list" vs.toArray 0)).get? b = some o := fun b o q => ⟨Nat.ne_of_lt (Heap.lt_size (k1 b o q)), Heap.get?_push_of_some _ (k1 b o q)⟩
  have k3 : ∀ b o, s.heap.get? b = some o → (sortingHeap (h1.push (seqObj "list" vs.toArray 0)) h1.objs.size vs).get? b = some o := fun b o q => sortingHeap_old (k2 b o q).1 (k2 b o q).2
  have er' : EachIs (fun v b => ∃ as, Reads (sortingHeap (h1.push (seqObj "list" vs.toArray 0)) h1.objs.size vs) v (enc b) as) vs bs := er.mono fun _ _ ⟨as, r⟩ => ⟨as, Reads.keeps k3 r⟩
  have S := SortsAt.data (prog := prog) (w := w) (A := A.in1.in1) (s := { s with heap := sortingHeap (h1.push (seqObj "list" vs.toArray 0)) h1.objs.size vs, toks := tk }) (each_map (R := fun v d => ∃ as, Reads (sortingHeap (h1.push (seqObj "list" vs.toArray 0)) h1.objs.size vs) v d as) enc er') hal hs (bound_map hu)
  obtain ⟨ep, hat⟩ := sortedHeap_at (out := (sortVals (dataKind (sortingHeap (h1.push (seqObj "list" vs.toArray 0)) h1.objs.size vs) (bs.map enc)) false vs vs).toArray) atL
  refine wpAny_bind (wpAny_holding (wpAny_call_entry slot_list_sort ⟨_, atL, rfl⟩ entry_list_sort (list_sort_vals (s := { s with heap := h1.push (seqObj "list" vs.toArray 0), toks := tk }) atL S hv ⟨_, rfl, wpAny_pure ⟨_, rfl, ?_⟩⟩) (args_list_sort _)))
  refine h _ _ _ _ tk ep (by rw [sortVals_length false rfl]; exact e.length) (sortVals_data false e er' hal) k1 (fun b o q => ?_) (Nat.le_refl _) hat
  have q2 := Heap.get?_push_of_some (seqObj "list" vs.toArray 0) q
  rw [sortedHeap_old (Nat.ne_of_lt (Heap.lt_size q)) (Heap.lt_size q2)]
  exact q2
end
/-! ### the reading -/
def sortLe (a b : D × PyData) : Bool := !dataLt b.2 a.2
def tup1B : PyData → Bool
  | .tuple (_ :: _) => true
  | _ => false
def othB : PyData → Bool
  | .none => false
  | .tuple _ => false
  | _ => true
def sortableB (ps : List PyData) : Bool := ps.all tup1B || ps.all othB
def sortL : List D → Hd → Res (List D) := fun ds h => onSome (dps h ds) fun ps => guard' (alikeB (ps.map (·.2)) = true ∧ sortableB (ps.map (·.2)) = true) (.ok ((ps.mergeSort sortLe).map (·.1)) h)
theorem sortable_of {ps : List PyData} (h : sortableB ps = true) : Sortable ps := by
  simp only [sortableB, Bool.or_eq_true, List.all_eq_true] at h
  refine h.imp (fun h d hd => ?_) fun h d hd => ?_
  · have := h d hd
    cases d <;> try (cases this; done)
    rename_i xs
    cases xs with
    | nil => cases this
    | cons x r => exact ⟨x, r, rfl⟩
  · have := h d hd
    constructor
    · intro e; subst e; cases this
    · intro xs e; subst e; cases this
section
variable {X : Cx} {Z : Kx}
def rSortG (K : PySem.W.Frag) : List V → Hp → VK → Prop := fun vs H Q => ∃ (a : Addr) (bs : List (V × PyData)), vs = [.ref a] ∧ (SqL K H a (bs.map (·.1)) ∨ SqT K H a (bs.map (·.1))) ∧ (∀ b ∈ bs, Dp K H b.1 b.2) ∧ AllAlike (bs.map (·.2)) ∧ Sortable (bs.map (·.2)) ∧ (∀ b ∈ bs, b.2.depth ≤ 60) ∧
  ∀ p, H p = none → Q (.ref p) (upd H p (.lst ((bs.mergeSort (dataLe false (·.2))).map (·.1))))
theorem each_vals {h : Heap} {P : V × PyData → Value → Prop} : ∀ {bs : List (V × PyData)} {its : List Value}, Vals (bs.map (·.1)) its → (∀ b ∈ bs, ∀ u, RelV b.1 u → P b u) → EachIs (fun u b => P b u) its bs
  | [], _, .nil, _ => .nil
  | b :: bs, _, .cons r t, k => .cons (k b List.mem_cons_self _ r) (each_vals (h := h) t fun b hb => k b (List.mem_cons_of_mem _ hb))
theorem vals_each : ∀ {bs : List (V × PyData)} {its : List Value}, EachIs (fun u b => RelV b.1 u) its bs → Vals (bs.map (·.1)) its
  | _, _, .nil => .nil
  | _, _, .cons r t => .cons r (vals_each t)
theorem cr_sortedG (hu : X.A.units + 64 < cLine) : CallR X (.builtin "sorted") (rSortG X.K) := by
  intro pins s σ H vs us Q I r h
  obtain ⟨a, bs, rfl, hs, hd, hal, hso, hz, k⟩ := h
  rw [Vals.ref1 r]
  obtain ⟨its, rv, hl, hn⟩ : ∃ its : List Value, Vals (bs.map (·.1)) its ∧ (s.heap.IsList a its.toArray ∨ s.heap.IsTuple a its.toArray) ∧ (bs.map (·.1)).length ≤ sizeLine := by
    rcases hs with hs | hs
    · obtain ⟨its, rv, hl, hn⟩ := I.list hs
      exact ⟨its, rv, .inl hl.isList, hn⟩
    · obtain ⟨its, rv, hl, hn⟩ := I.tuple hs
      exact ⟨its, rv, .inr hl, hn⟩
  rw [List.length_map] at hn
  have il : its.length ≤ sizeLine := by rw [← rv.length, List.length_map]; exact hn
  refine sorted_place (enc := fun b : V × PyData => b.2) (R := fun u b => RelV b.1 u) (coll_seq hl il) (each_vals (h := s.heap) rv fun b hb u ru => ru) (each_vals (h := s.heap) (P := fun b u => ∃ as, Reads s.heap u b.2 as) rv fun b hb u ru => Dp.reads I b.2 b.1 u (hd b hb) ru) hal hso hn
    (fun b hb => by have := hz b hb; omega) fun out p h1 h' tk ep ho he hk1 hk hp hat => ?_
  have I1 := I.kept (t' := s.toks) hk1
  refine ⟨.ref p, _, I1.laid (t' := tk) (o := .lst ((bs.mergeSort (dataLe false (·.2))).map (·.1))) hk hp ⟨?_, out, ep, vals_each he, hat⟩, rfl, k p (I1.hok.fresh hp)⟩
  rw [List.length_map, (List.mergeSort_perm _ _).length_eq]
  exact hn
theorem reps_pairs {K : PySem.W.Frag} {ι : Nat → Addr} {n : Nat} {H : Hp} : ∀ {ts : List (V × D × PyData)}, (∀ t ∈ ts, Rep K ι n H t.1 t.2.1) → Reps K ι n H (ts.map (·.1)) (ts.map (·.2.1))
  | [], _ => .nil
  | t :: ts, k => .cons (k t List.mem_cons_self) (reps_pairs fun u hu => k u (List.mem_cons_of_mem _ hu))
theorem dps_pairs {K : PySem.W.Frag} {ι : Nat → Addr} {n : Nat} {H : Hp} {h : Hd} : ∀ {xs : List V} {ds : List D} {ps : List (D × PyData)}, Reps K ι n H xs ds → dps h ds = some ps → ps.length = xs.length ∧ ∀ t ∈ xs.zip ps, Rep K ι n H t.1 t.2.1 ∧ py h 60 t.2.1 = some t.2.2
  | _, _, _, .nil, e => by cases e; exact ⟨rfl, fun t z => by cases z⟩
  | _, _, ps, .cons (d := d) r q, e => by
    obtain ⟨p, ps', ep, e', rfl⟩ := dps_cons e
    obtain ⟨g1, g2⟩ := dps_pairs q e'
    refine ⟨by simp [g1], fun t z => ?_⟩
    rw [List.zip_cons_cons] at z
    rcases List.mem_cons.mp z with rfl | z
    · exact ⟨r, ep⟩
    · exact g2 t z
theorem sort_post {σ : L2.St} {ι : Nat → Addr} {h : Hd} {H : Hp} {a : Addr} {xs : List V} {ds : List D} {Q : VK} (R : HRep Z.X.K Z.cA ι H h) (hs : SqL Z.X.K H a xs ∨ SqT Z.X.K H a xs) (rs : Reps Z.X.K ι h.length H xs ds)
    (p : RPost Z.X.K Z.cA Z.W σ ι h H (sortL ds h) fun ds h' ι' H' => ∀ p vs, H p = none → H' p = some (.lst vs) → (∀ m, m < h'.length → p ≠ ι' m) → Reps Z.X.K ι' h'.length H' vs ds → Q (.ref p) H') : rSortG Z.X.K [.ref a] H Q := by
  obtain ⟨ps, e, p⟩ := p.onSome
  obtain ⟨⟨c1, c2⟩, p⟩ := RPost.guard p
  obtain ⟨g1, g2⟩ := dps_pairs rs e
  obtain ⟨ts, ets⟩ : ∃ ts, ts = xs.zip ps := ⟨_, rfl⟩
  rw [← ets] at g2
  have t1 : ts.map (·.1) = xs := by rw [ets]; exact List.map_fst_zip (by omega)
  have t2 : ts.map (·.2) = ps := by rw [ets]; exact List.map_snd_zip (by omega)
  have b2 : (ts.map fun t => (t.1, t.2.2)).map (fun b : V × PyData => b.2) = ps.map (·.2) := by rw [List.map_map, ← t2, List.map_map]; rfl
  have b1 : (ts.map fun t => (t.1, t.2.2)).map (fun b : V × PyData => b.1) = xs := by rw [List.map_map, ← t1]; rfl
  have al := alikeB_all c1
  refine ⟨a, ts.map fun t => (t.1, t.2.2), rfl, by rw [b1]; exact hs, fun b hb => ?_, by rw [b2]; exact fun d hd d' hd' => al.1 d hd d' hd', by rw [b2]; exact sortable_of c2, fun b hb => ?_, fun q hq => ?_⟩
  · obtain ⟨t, ht, rfl⟩ := List.mem_map.mp hb
    exact py_dp R (g2 t ht).2 (g2 t ht).1
  · obtain ⟨t, ht, rfl⟩ := List.mem_map.mp hb
    exact (py_ok (g2 t ht).2).2
  · have m1 : ((ts.map fun t => (t.1, t.2.2)).mergeSort (dataLe false (fun b : V × PyData => b.2))) = (ts.mergeSort fun a b => !dataLt b.2.2 a.2.2).map fun t => (t.1, t.2.2) := (List.map_mergeSort (r := fun a b : V × D × PyData => !dataLt b.2.2 a.2.2) (s := dataLe false (fun b : V × PyData => b.2)) (f := fun t : V × D × PyData => (t.1, t.2.2)) (l := ts) fun a _ b _ => rfl).symm
    have m2 : ps.mergeSort sortLe = (ts.mergeSort fun a b => !dataLt b.2.2 a.2.2).map (·.2) := by rw [← t2]; exact (List.map_mergeSort (r := fun a b : V × D × PyData => !dataLt b.2.2 a.2.2) (s := sortLe) (f := fun t : V × D × PyData => t.2) (l := ts) fun a _ b _ => rfl).symm
    rw [m2] at p
    rw [m1, List.map_map]
    have S2 := Step.aside R hq (.lst ((ts.mergeSort fun a b => !dataLt b.2.2 a.2.2).map (·.1)))
    have rr : Reps Z.X.K ι h.length H ((ts.mergeSort fun a b => !dataLt b.2.2 a.2.2).map (·.1)) ((ts.mergeSort fun a b => !dataLt b.2.2 a.2.2).map (·.2.1)) := reps_pairs fun t ht => (g2 t ((List.mergeSort_perm _ _).mem_iff.mp ht)).1
    have p : RPost Z.X.K Z.cA Z.W σ ι h H (.ok (((ts.mergeSort fun a b => !dataLt b.2.2 a.2.2).map (·.2)).map (·.1)) h) _ := p
    rw [List.map_map] at p
    exact p ι _ S2 (R.aside hq _) q _ hq upd_same (fun m hm z => R.off hq hm z.symm) (rr.step S2 R)
def sortF : List D → Hd → Res (List D) := fa1 fun d h => onSome (itemsD h d) fun es => sortL es h
theorem ck_sorted (hu : Z.X.A.units + 64 < cLine) : CallKL Z (.builtin "sorted") sortF := ⟨_, cr_sortedG hu, fun σ ι h H xs ds Q R rs p => by
  obtain ⟨d, rfl, p⟩ := p.fa1
  obtain ⟨x, rfl, r⟩ := wit rs
  obtain ⟨es, e, p⟩ := p.onSome
  obtain ⟨a, ys, rfl, q, rs⟩ := items_rep R r e
  exact sort_post R (q.imp id PlT.sqt) rs p⟩
/-- a built-in over a new list makes a new list -/
def CallKLN (Z : Kx) (f : Value) (F : List D → Hd → Res (List D)) : Prop := ∃ r, CallR Z.X f r ∧ ∀ (σ : L2.St) (ι : Nat → Addr) (h : Hd) (H : Hp) (p : Addr) (xs : List V) (ds : List D) (Q : VK), HRep Z.X.K Z.cA ι H h → H p = some (.lst xs) → Reps Z.X.K ι h.length H xs ds →
  RPost Z.X.K Z.cA Z.W σ ι h H (F ds h) (fun ds h' ι' H' => ∀ p vs, H p = none → H' p = some (.lst vs) → (∀ m, m < h'.length → p ≠ ι' m) → Reps Z.X.K ι' h'.length H' vs ds → Q (.ref p) H') → r [.ref p] H Q
theorem cn_sorted (hu : Z.X.A.units + 64 < cLine) : CallKLN Z (.builtin "sorted") sortL := ⟨_, cr_sortedG hu, fun σ ι h H p xs ds Q R e rs q => sort_post R (.inl (.of e)) rs q⟩
section
variable {x : Str} {p pos : Pos} {e : Expr} {es : List Expr} {a : SA} {F : List D → Hd → Res (List D)} {id : String}
theorem kl_callB (hc : CallKL Z (.builtin id) F) (hg : Gl Z.X x) (hm : Z.X.mg x = none) (hv : bootBuiltins x = some (.builtin id)) (ha : KA Z (e :: es) a) (hn : x ≠ "__name__" := by decide) (hdb : (x == ("__debug__" : Str)) = false := by decide)
    (he : starEach (e :: es) Z.X.env = (false, eval e Z.X.env) :: starEach es Z.X.env := by rfl) (hpl : (backTo pos (starEach es Z.X.env)).any (·.1) = false := by rfl) : KL Z (.Call (.Name x p) (e :: es) [] pos) (sCallL F a) := by
  obtain ⟨r, hr, k⟩ := hc
  exact ⟨(pe_callB hr hg hm hv ha.pa hn hdb he hpl).weak fun σ H Q ⟨ι, env, h, R, V, p⟩ => ⟨ι, env, h, R, V, (RPost.bind p).mono fun ds h1 ι1 H1 S1 R1 p1 vs rs => k σ ι1 h1 H1 vs ds Q R1 rs (p1.mono fun ds2 h2 ι2 H2 S2 R2 p2 q ws e1 e2 e3 e4 => p2 q ws (none_of_there S1 e1) e2 e3 e4)⟩⟩
def sCallLN (F : List D → Hd → Res (List D)) (a : SA) : SA := fun env h => (a env h).bind fun ds h1 => F ds h1
theorem kl_callBN (hc : CallKLN Z (.builtin id) F) (hg : Gl Z.X x) (hm : Z.X.mg x = none) (hv : bootBuiltins x = some (.builtin id)) (hl : KL Z e a) (hn : x ≠ "__name__" := by decide) (hdb : (x == ("__debug__" : Str)) = false := by decide)
    (he : starEach [e] Z.X.env = (false, eval e Z.X.env) :: starEach [] Z.X.env := by rfl) (hpl : (backTo pos (starEach [] Z.X.env)).any (·.1) = false := by rfl) : KL Z (.Call (.Name x p) [e] [] pos) (sCallLN F a) := by
  obtain ⟨r, hr, k⟩ := hc
  exact ⟨(pe_callB hr hg hm hv (pa_cons hl.pe pa_nil he) hn hdb he hpl).weak fun σ H Q ⟨ι, env, h, R, V, p⟩ => ⟨ι, env, h, R, V, (RPost.bind p).mono fun ds h1 ι1 H1 S1 R1 p1 b vs hb e2 hoff rs => k σ ι1 h1 H1 b vs ds Q R1 e2 rs (p1.mono fun ds2 h2 ι2 H2 S2 R2 p2 q ws e1 e3 e4 e5 => p2 q ws (none_of_there S1 e1) e3 e4 e5)⟩⟩
end
end
end Kf
end
section
set_option maxHeartbeats 4000000
/-! Kf: zip, reversed, append, a tuple times a number. -/
namespace Kf
open PySem PySem.Spec L2
section
variable {Z : Kx}
/-! ### zip -/
def seqK (h : Hd) : D → Option Bool
  | .tup _ => some true
  | .fls _ => some false
  | .ref m => match h[m]? with | some (.lst _) => some false | _ => none
  | _ => none
theorem seqK_rep {ι : Nat → Addr} {h : Hd} {H : Hp} {v : V} {d : D} {b : Bool} (R : HRep Z.X.K Z.cA ι H h) (r : Rep Z.X.K ι h.length H v d) (e : seqK h d = some b) :
    ∃ a xs ds, v = .ref a ∧ itemsD h d = some ds ∧ Reps Z.X.K ι h.length H xs ds ∧ (b = true → SqT Z.X.K H a xs) ∧ (b = false → SqL Z.X.K H a xs) := by
  cases r with
  | ztp _ _ => cases e
  | tup q rs => cases e; exact ⟨_, _, _, rfl, rfl, rs, fun _ => q.sqt, fun z => (by cases z)⟩
  | fls q rs => cases e; exact ⟨_, _, _, rfl, rfl, rs, fun z => (by cases z), fun _ => q.sql⟩
  | ref hlt =>
    rename_i m
    unfold seqK at e
    cases hm : h[m]? with
    | none => simp [hm] at e
    | some o =>
      obtain ⟨ho, e3, ro⟩ := R.obj m _ hm
      cases ro with
      | lst rs => simp [hm] at e; subst e; exact ⟨_, _, _, rfl, by simp [itemsD, hm], rs, fun z => (by cases z), fun _ => .of e3⟩
      | dict _ => simp [hm] at e
      | lkd _ => simp [hm] at e
      | ins _ => simp [hm] at e
  | _ => cases e
def sZip (f g : SE) : SI := fun env h => (f env h).bind fun x h1 => (g env h1).bind fun y h2 => onSome (seqK h2 x) fun b => onSome (seqK h2 y) fun c => guardI (b = c) (.ok (.zp x y) h2)
where guardI (c : Prop) [Decidable c] (r : Res ItD) : Res ItD := guard' c r
/-- kinds stay -/
theorem seqK_nx {ι ι' : Nat → Addr} {h h' : Hd} {H H' : Hp} {v : V} {d : D} {b : Bool} {ds : List D} (R : HRep Z.X.K Z.cA ι H h) (S : Step ι h H ι' h' H') (R' : HRep Z.X.K Z.cA ι' H' h') (r : Rep Z.X.K ι h.length H v d) (e : seqK h d = some b) (e2 : itemsD h' d = some ds) :
    ∃ a xs, v = .ref a ∧ Reps Z.X.K ι' h'.length H' xs ds ∧ (b = true → SqT Z.X.K H' a xs) ∧ (b = false → SqL Z.X.K H' a xs) := by
  have e3 : seqK h' d = some b := by
    cases d <;> first | (cases e; done) | exact e | skip
    rename_i m
    cases hm : h'[m]? with
    | none => simp [itemsD, hm] at e2
    | some o =>
      cases o <;> simp [itemsD, hm] at e2
      cases hm2 : h[m]? with
      | none => simp [seqK, hm2] at e
      | some o => cases o <;> simp [seqK, hm2] at e <;> simp [seqK, hm, e]
  obtain ⟨a, xs, ds', e4, e5, e6, e7⟩ := seqK_rep R' (r.step S R) e3
  rw [e2] at e5
  cases e5
  exact ⟨a, xs, e4, e6, e7⟩
theorem ki_zip {tg : List Expr} {kk : Nat} {a b : Expr} {f g : SE} {p pos tpos : Pos} (hg : Gl Z.X "zip") (hm : Z.X.mg "zip" = none) (ha : KE Z a f) (hb : KE Z b g) (hs : starEach [a, b] Z.X.env = (false, eval a Z.X.env) :: starEach [b] Z.X.env := by rfl)
    (hs2 : starEach [b] Z.X.env = (false, eval b Z.X.env) :: starEach [] Z.X.env := by rfl) (hpl : (backTo pos (starEach [b] Z.X.env)).any (·.1) = false := by rfl) : KI Z (.Tuple tg kk tpos) (.Call (.Name "zip" p) [a, b] [] pos) (sZip f g) :=
  ⟨(RZ.pi_zipA hg hm (ka_cons ha (ka_cons hb ka_nil hs2) hs).pa hs hpl).weak fun σ H Q ⟨ι, env, h, R, V, p⟩ => ⟨ι, env, h, R, V, by
    have p' : RPost Z.X.K Z.cA Z.W σ ι h H ((f env h).bind fun x h1 => (g env h1).bind fun y h2 => onSome (seqK h2 x) fun b => onSome (seqK h2 y) fun c => guard' (b = c) (.ok (ItD.zp x y) h2)) _ := p
    refine RPost.mono (P := fun ds h1 ι1 H1 => ∃ x y, ds = [x, y] ∧ RPost Z.X.K Z.cA Z.W σ ι1 h1 H1 (onSome (seqK h1 x) fun b => onSome (seqK h1 y) fun c => guard' (b = c) (.ok (ItD.zp x y) h1)) fun it h' ι' H' => ∀ J, ItOk Z J it ι' h' H' → Q J H') ?_ ?_
    · show RPost _ _ _ _ _ _ _ ((f env h).bind _) _
      cases e : f env h with
      | ok d h1 =>
        rw [e] at p'
        have p' : RPost Z.X.K Z.cA Z.W σ ι h H ((g env h1).bind _) _ := p'
        show RPost _ _ _ _ _ _ _ (((g env h1).bind _).bind _) _
        cases e2 : g env h1 with
        | ok d2 h2 => rw [e2] at p'; exact fun ι' H' S R' => ⟨d, d2, rfl, RPost.step S p'⟩
        | exc c fs h1 => rw [e2] at p'; exact p'
        | stuck => rw [e2] at p'; exact p'.elim
      | exc c fs h1 => rw [e] at p'; exact p'
      | stuck => rw [e] at p'; exact p'.elim
    · rintro ds h1 ι1 H1 S1 R1 ⟨x, y, rfl, p1⟩ vs rs
      obtain ⟨bx, kx, p2⟩ := p1.onSome
      obtain ⟨bY, ky, p3⟩ := p2.onSome
      obtain ⟨eb, p4⟩ := p3.guard
      subst eb
      cases rs with
      | cons rx rr =>
        cases rr with
        | cons ry rr =>
          cases rr
          obtain ⟨a, xs, es, e1, e2, e3, e4, e5⟩ := seqK_rep R1 rx kx
          obtain ⟨b, ys, fs, f1, f2, f3, f4, f5⟩ := seqK_rep R1 ry ky
          subst e1 f1
          have base : ∀ J : It, (∀ ι2 h2 H2, Step ι1 h1 H1 ι2 h2 H2 → HRep Z.X.K Z.cA ι2 H2 h2 → ∀ i us ws, itemsD h2 x = some us → itemsD h2 y = some ws →
              (∀ u w, us[i]? = some u → ws[i]? = some w → J.go i H2 ∧ ∀ v H3, J.yld i H2 v H3 → ∃ T p q, v = .ref T ∧ H2 T = none ∧ H3 = upd H2 T (.tup [p, q]) ∧ Rep Z.X.K ι2 h2.length H2 p u ∧ Rep Z.X.K ι2 h2.length H2 q w) ∧
              (us[i]? = none ∨ ws[i]? = none → J.stop i H2)) → ItOk Z J (.zp x y) ι1 h1 H1 := fun J k ι2 h2 H2 S2 R2 i => by
            cases ex : itemsD h2 x with
            | none => exact ⟨fun d e => by simp [nextD, ex] at e, fun e => by simp [nextD, ex] at e⟩
            | some us =>
              cases ey : itemsD h2 y with
              | none => exact ⟨fun d e => by simp [nextD, ex, ey] at e, fun e => by simp [nextD, ex, ey] at e⟩
              | some ws =>
                obtain ⟨k1, k2⟩ := k ι2 h2 H2 S2 R2 i us ws ex ey
                have en : nextD (.zp x y) h2 i = some (match us[i]?, ws[i]? with | some u, some v => some (.ztp [u, v]) | _, _ => none) := by show (match itemsD h2 x, itemsD h2 y with | some xs, some ys => some (match xs[i]?, ys[i]? with | some u, some v => some (D.ztp [u, v]) | _, _ => none) | _, _ => none) = _; rw [ex, ey]
                rw [en]
                cases eu : us[i]? with
                | none => exact ⟨fun d e => by simp at e, fun _ => k2 (.inl eu)⟩
                | some u =>
                  cases ew : ws[i]? with
                  | none => exact ⟨fun d e => by simp at e, fun _ => k2 (.inr ew)⟩
                  | some w =>
                    refine ⟨fun d e => ?_, fun e => by simp at e⟩
                    simp at e
                    subst e
                    obtain ⟨go, yl⟩ := k1 u w eu ew
                    refine ⟨go, fun v H3 yy => ?_⟩
                    obtain ⟨T, p, q, t1, t2, t3, t4, t5⟩ := yl v H3 yy
                    subst t1 t3
                    have S3 := Step.aside R2 t2 (.tup [p, q])
                    exact ⟨S3, R2.aside t2 _, .ztp (.of upd_same) (.cons (t4.step S3 R2) (.cons (t5.step S3 R2) .nil))⟩
          cases bx with
          | true =>
            refine ⟨a, b, xs, ys, rfl, .inr ⟨e4 rfl, f4 rfl, RPost.ok R1 p4 _ (base _ fun ι2 h2 H2 S2 R2 i us ws g1 g2 => ?_)⟩⟩
            obtain ⟨a', xs2, c1, c2, c3, _⟩ := seqK_nx R1 S2 R2 rx kx g1
            obtain ⟨b', ys2, d1, d2, d3, _⟩ := seqK_nx R1 S2 R2 ry ky g2
            cases c1; cases d1
            refine ⟨fun u w gu gw => ?_, fun z => ⟨xs2, ys2, c3 rfl, d3 rfl, ?_⟩⟩
            · obtain ⟨p, hp, rp⟩ := c2.get gu
              obtain ⟨q, hq, rq⟩ := d2.get gw
              refine ⟨⟨xs2, ys2, p, q, c3 rfl, d3 rfl, hp, hq⟩, fun v H3 ⟨T, x', y', t1, t2, t3, t4, t5⟩ => ⟨T, x', y', t1, t2, t3, ?_, ?_⟩⟩
              · have := t4 _ (c3 rfl); rw [hp] at this; cases this; exact rp
              · have := t5 _ (d3 rfl); rw [hq] at this; cases this; exact rq
            · rcases z with z | z
              · exact .inl (by rw [c2.len]; exact List.getElem?_eq_none_iff.mp z)
              · exact .inr (by rw [d2.len]; exact List.getElem?_eq_none_iff.mp z)
          | false =>
            refine ⟨a, b, xs, ys, rfl, .inl ⟨e5 rfl, f5 rfl, RPost.ok R1 p4 _ (base _ fun ι2 h2 H2 S2 R2 i us ws g1 g2 => ?_)⟩⟩
            obtain ⟨a', xs2, c1, c2, _, c3⟩ := seqK_nx R1 S2 R2 rx kx g1
            obtain ⟨b', ys2, d1, d2, _, d3⟩ := seqK_nx R1 S2 R2 ry ky g2
            cases c1; cases d1
            refine ⟨fun u w gu gw => ?_, fun z => ⟨xs2, ys2, c3 rfl, d3 rfl, ?_⟩⟩
            · obtain ⟨p, hp, rp⟩ := c2.get gu
              obtain ⟨q, hq, rq⟩ := d2.get gw
              refine ⟨⟨xs2, ys2, p, q, c3 rfl, d3 rfl, hp, hq⟩, fun v H3 ⟨T, x', y', t1, t2, t3, t4, t5⟩ => ⟨T, x', y', t1, t2, t3, ?_, ?_⟩⟩
              · have := t4 _ (c3 rfl); rw [hp] at this; cases this; exact rp
              · have := t5 _ (d3 rfl); rw [hq] at this; cases this; exact rq
            · rcases z with z | z
              · exact .inl (by rw [c2.len]; exact List.getElem?_eq_none_iff.mp z)
              · exact .inr (by rw [d2.len]; exact List.getElem?_eq_none_iff.mp z)⟩⟩
/-! ### reversed, of what nobody changes -/
def sRev (f : SE) : SI := fun env h => (f env h).bind fun x h1 => match x with
  | .tup ds => .ok (.snap ds.reverse) h1
  | _ => .stuck
theorem ki_rev {tg e : Expr} {f : SE} {p pos : Pos} (hg : Gl Z.X "reversed") (hm : Z.X.mg "reversed" = none) (he : KE Z e f) (hs : starEach [e] Z.X.env = (false, eval e Z.X.env) :: starEach [] Z.X.env := by rfl) : KI Z tg (.Call (.Name "reversed" p) [e] [] pos) (sRev f) :=
  ⟨(RT.pi_revA hg hm he.pe hs).weak fun σ H Q ⟨ι, env, h, R, V, p⟩ => ⟨ι, env, h, R, V, (RPost.bind p).mono fun x h1 ι1 H1 S1 R1 p1 v r => by
    cases r with
    | @tup a xs ds q rs =>
      refine ⟨a, xs, rfl, .inr ⟨q.sqt, RPost.ok R1 p1 _ fun ι2 h2 H2 S2 R2 i => ?_⟩⟩
      have q2 := (S2.tkeep R1).tup _ _ q.sqt
      have rs2 := rs.step S2 R1
      have hl := rs2.len
      have key : ∀ j, j < ds.length → ds.reverse[j]? = ds[xs.length - 1 - j]? := fun j hj => by rw [List.getElem?_reverse hj, hl]
      refine ⟨fun d hd => ?_, fun hd => ?_⟩
      · have hd := Option.some.inj hd
        have hi : i < ds.length := by have := lt_of_get hd; simpa using this
        rw [key i hi] at hd
        obtain ⟨w, hw, rw'⟩ := rs2.get hd
        refine ⟨⟨by omega, xs, w, q2, hw⟩, fun x' H3 ⟨z1, z2⟩ => ?_⟩
        subst z1
        have hx := z2 xs q2
        rw [hw] at hx; cases hx
        exact ⟨.refl, R2, rw'⟩
      · have hd := Option.some.inj hd
        have : ds.reverse.length ≤ i := List.getElem?_eq_none_iff.mp hd
        show xs.length ≤ i
        simp at this; omega
    | _ => exact p1.elim⟩⟩
/-! ### append -/
def sAppend (f g : SE) : SE := fun env h => (f env h).bind fun x h1 => asRef x fun m => onLst h1 m fun _ => (g env h1).bind fun d h2 => onLst h2 m fun ds => guard' (ds.length < LIM) (.ok .non (h2.set m (.lst (ds ++ [d]))))
end
end Kf
end
section
set_option maxHeartbeats 4000000
/-! Kf: a tuple times a number; append. -/
namespace PySem
open PySem.Spec PyProof.Rows
theorem tuple_once (l : Addr) (items : Array Value) (n : Nat) (dd : Option Addr) (sl : Array (Option Value)) (u : Tok) (hne : items.isEmpty = false) :
    Meets (Builtin.«tuple.__mul__» ⟨[.ref l, .int 1 u], []⟩) (fun _ R s => s.heap.get? l = some { cls := .type "tuple", dict := dd, data := .seq items n, slots := sl } ∧ R (.ok (.ret (.ref l))) s) :=
  .of_wp fun prog w A R s h => by
    obtain ⟨hp, g, d, tk, os⟩ := s
    obtain ⟨hl, h⟩ := h
    have f1 := AutoSeq1.idx_int
    have c0 : (decide ((1 : Int) < -(2 ^ 63)) || decide ((1 : Int) ≥ 2 ^ 63)) = false := by decide
    have c1 : (items.isEmpty || (1 : Int) == 1) = true := by rw [hne]; rfl
    wp_walk using wpAny_loadPart' hl
    repeat (first
      | (refine wpAny_ite_false (decide_eq_false (by rw [c0]; exact Bool.false_ne_true)) ?_; wp_walk using wpAny_loadPart' hl)
      | (refine wpAny_ite_true (decide_eq_true c1) ?_; wp_walk using wpAny_loadPart' hl))
    exact ⟨_, rfl, h⟩
end PySem
namespace Kf
open PySem PySem.Spec L2 PyProof.Rows
theorem op_once {X : Cx} : OpR X (binaryOp .Mult) (fun x y H Q => ∃ l xs, x = .ref l ∧ y = .int 1 ∧ SqT X.K H l xs ∧ xs ≠ [] ∧ Q (.ref l) H) := by
  rintro pins s σ H x y v u Q I rx ry ⟨l, xs, rfl, rfl, hT, hne, q⟩
  cases rx
  obtain ⟨t, rfl⟩ := ry
  obtain ⟨its, r, ⟨⟨cls, dd, data, sl⟩, ho, hc, n, hd⟩, hs⟩ := I.tuple hT
  have e1 : cls = .type "tuple" := hc
  have e2 : data = .seq its.toArray n := hd
  subst e1 e2
  have hi : its.toArray.isEmpty = false := by
    cases r with
    | nil => exact absurd rfl hne
    | cons _ _ => rfl
  exact wpAny_binaryOp_repeat_ref (T := "tuple") (U := "int") (by decide) ⟨_, ho, rfl⟩ (fun s' => typeIs_int s' 1 t) noFill_tuple_mul PySem.F.fills_int_mul PySem.F.slot_int_rmul repeat_tuple PySem.F.slot_int_index.lookup
    (call_meets PySem.F.slot_int_rmul (typeIs_int s 1 t) PySem.F.entry_int_rmul (PySem.F.args_int_rmul_2 _ _) (int_rmul_tuple 1 t l its.toArray n dd sl) ⟨ho, rfl, ⟨_, ho, rfl⟩,
      call_meets PySem.F.slot_tuple_mul ⟨_, ho, rfl⟩ PySem.F.entry_tuple_mul (PySem.F.args_tuple_mul_2 _ _) (tuple_once l its.toArray n dd sl t hi) ⟨ho, .ref l, H, I, rfl, q⟩⟩)
section
variable {Z : Kx}
def repT : F2 := fun x y h => asTup x fun xs => asInt y fun k => guard' (xs ≠ [] ∧ 1 ≤ k ∧ k ≤ 1000 ∧ xs.length ≤ 1000) (.ok (.tup (List.replicate k.toNat xs).flatten) h)
theorem ko_repT : OpK Z (binaryOp .Mult) repT := by
  refine ⟨fun x y H Q => (∃ l xs, x = .ref l ∧ y = .int 1 ∧ SqT Z.X.K H l xs ∧ xs ≠ [] ∧ Q (.ref l) H) ∨ rRepP Z.X.K x y H Q, fun pins s σ H x y v u Q I rx ry z => z.elim (op_once pins s σ H x y v u Q I rx ry) (op_repP pins s σ H x y v u Q I rx ry), fun σ ι h H x y dx dy Q R rx ry p => ?_⟩
  obtain ⟨ds, e1, p1⟩ := p.asTup
  obtain ⟨k, e2, p2⟩ := p1.asInt
  obtain ⟨⟨c1, c2, c3, c4⟩, p3⟩ := p2.guard
  subst e1 e2
  cases ry
  cases rx with
  | @tup a xs ds q rs =>
    have hne : xs ≠ [] := fun z => by subst z; cases rs; exact c1 rfl
    by_cases hk : k = 1
    · subst hk
      have e : (List.replicate (1 : Int).toNat ds).flatten = ds := by simp
      rw [e] at p3
      exact .inl ⟨a, xs, rfl, rfl, q.sqt, hne, RPost.ok R p3 _ (.tup q rs)⟩
    · exact .inr ⟨a, k, xs, rfl, rfl, q.sqt, hne, by omega, c3, by rw [rs.len]; exact c4, made_post R (rs.rep _) p3⟩
def mulB : F2 := fun x y h => match x with
  | .tup _ => repT x y h
  | _ => mulA x y h
theorem ko_timesB : OpK Z (binaryOp .Mult) mulB := .alt ko_times ko_repT fun x y h => by cases x <;> simp [mulB]
/-! ### append -/
theorem ke_append {o e : Expr} {f g : SE} {p pos : Pos} (ho : KE Z o f) (he : KE Z e g) (hbase : attributeBase o "append" Z.X.env (eval o Z.X.env) = eval o Z.X.env := by rfl)
    (hfew : ((backTo pos (starEach [e] Z.X.env)).all (fun x => !x.1) && (backToKw pos (keywordEach [] Z.X.env)).all (fun x => x.1.isSome) && decide ([e].length + ([] : List Keyword).length + (if ([] : List Keyword).isEmpty then 0 else 1) < 30)) = true := by rfl)
    (hline : (p.endLine == pos.line) = true := by rfl) (hs : starEach [e] Z.X.env = (false, eval e Z.X.env) :: starEach [] Z.X.env := by rfl) (hpl : (backTo pos (starEach [] Z.X.env)).any (·.1) = false := by rfl) :
    KE Z (.Call (.Attribute o "append" p) [e] [] pos) (sAppend f g) :=
  ⟨(pe_bm PySem.F.plainAttrs_list PySem.F.slot_list_append PySem.F.type_list_append mt_append ho.pe (pa_cons he.pe pa_nil hs) hbase hfew hline hs hpl).weak fun σ H Q ⟨ι, env, h, R, V, p⟩ => ⟨ι, env, h, R, V, (RPost.bind p).mono fun x h1 ι1 H1 S1 R1 p1 v r => by
    obtain ⟨m, e1, p2⟩ := p1.asRef
    obtain ⟨ds, e2, p3⟩ := p2.onLst
    subst e1
    cases r with
    | ref hlt =>
      obtain ⟨xs, e3, _, _⟩ := lst_at R1 e2
      refine ⟨.inl ⟨rfl, xs, .of e3⟩, ι1, env, h1, R1, V.step S1 R, (RPost.bind p3).mono fun d h2 ι2 H2 S2 R2 p4 w rw' => ?_⟩
      obtain ⟨es, e4, p5⟩ := p4.onLst
      obtain ⟨hl, p6⟩ := p5.guard
      have hm2 : m < h2.length := Nat.lt_of_lt_of_le hlt S2.len
      obtain ⟨ys, e5, rs2, hf⟩ := lst_at R2 e4
      refine ⟨ι1 m, ys, w, rfl, by first | rfl | simp, by rw [← S2.eq m hlt]; exact e5, by rw [rs2.len, sizeLine_eq]; exact hl, ?_⟩
      rw [← S2.eq m hlt]
      exact p6 ι2 _ (Step.set R2 hm2 hf (.lst (ys ++ [w])) (.lst (es ++ [d]))) (R2.set hm2 hf (.lst (rs2.append (.cons rw' .nil)))) _ .non⟩⟩
end
end Kf
namespace Kf
open PySem PySem.Spec L2
/-- a class that a clause names -/
structure CH (G : Gx) (x : Str) (cv : Value) (mt : List (String × Bool)) : Prop where
  nm : (x == ("__debug__" : Str)) = false ∧ (G.mg x = some cv ∨ (G.mg x = none ∧ bootBuiltins x = some cv ∧ x ≠ "__name__"))
  ex : ∀ c r, mt.lookup c = some r → PySem.W.exmOne G.K (.ref (G.cA c)) cv = some r
/-- a field of an own exception class -/
structure XFG (G : Gx) (c f : String) : Prop where
  T : XfC G.K (G.cA c)
  no : PySem.W.findIn G.K (.ref (G.cA c)) (Str.ofString f) = some none
section
variable {Z : Kx} {G : Gx} {j : Nat} {x : Str} {cv : Value} {mt : List (String × Bool)}
theorem CH.names (h : CH G x cv mt) (i : Z.In G j) (hg : Gl Z.X x) : Names Z.X x cv := ⟨hg, h.nm.1, by rw [i.mg]; exact h.nm.2⟩
theorem CH.exm (h : CH G x cv mt) (i : Z.In G j) : ∀ c r, mt.lookup c = some r → PySem.W.exmOne Z.X.K (.ref (Z.cA c)) cv = some r := by
  rw [i.K, i.cA]; exact h.ex
theorem one_true {c0 : String} : ∀ {l : List (String × Bool)}, (l.all fun p => !p.2 || p.1 == c0) = true → ∀ c, l.lookup c = some true → c = c0
  | [], _, c, e => by cases e
  | (a, b) :: l, h, c, e => by
    simp only [List.all_cons, Bool.and_eq_true] at h
    rw [List.lookup_cons] at e
    cases q : c == a with
    | true =>
      rw [q] at e
      cases e
      have h1 : a = c0 := by simpa using h.1
      rw [eq_of_beq q, h1]
    | false => rw [q] at e; exact one_true h.2 c e
theorem ksu_one {body : List Stmt} {mt : String → Option Bool} {f : String → Nat → Option Nat → SS} {c0 : String} (h1 : ∀ c, mt c = some true → c = c0)
    (h : ∀ (a : Addr) (oe : Obj) (d : Option Addr) (pn : List (Addr × Obj)), Zc (.ref (Z.cA c0)) d oe → (∃ fv, oe.data = .fields fv) → KSs (Z.su a oe pn) body (f c0 a d)) : KSu Z body mt f := fun c hc a oe d pn hz hf => by
  cases h1 c hc
  exact h a oe d pn hz hf
end
end Kf
namespace Kf
open PySem PySem.Spec L2
section
variable {Z : Kx}
theorem reps_rg {K : PySem.W.Frag} {ι : Nat → Addr} {n : Nat} {H : Hp} (b : Int) : Reps K ι n H (rgV 0 b) (rangeL 0 b.toNat) := by
  unfold rgV rangeL
  rw [Int.sub_zero]
  generalize List.range b.toNat = l
  induction l with
  | nil => exact .nil
  | cons _ _ ih => exact .cons .int ih
/-- list(range(n)) -/
def sLstRg (f : SE) : SA := fun env h => (f env h).bind fun d h1 => asInt d fun b => guard' (-16777216 ≤ b ∧ b ≤ 16777216) (.ok (rangeL 0 b.toNat) h1)
theorem kl_listRg {a : Expr} {f : SE} {p p2 pos pos2 : Pos} (hc : Z.X.calm = true) (hl : Gl Z.X "list") (hlm : Z.X.mg "list" = none) (hg : Gl Z.X "range") (hm : Z.X.mg "range" = none) (ha : KE Z a f)
    (n1 : starEach [a] Z.X.env = (false, eval a Z.X.env) :: starEach [] Z.X.env := by rfl)
    (n2 : starEach [.Call (.Name "range" p2) [a] [] pos2] Z.X.env = (false, eval (.Call (.Name "range" p2) [a] [] pos2) Z.X.env) :: starEach [] Z.X.env := by rfl) : KL Z (.Call (.Name "list" p) [.Call (.Name "range" p2) [a] [] pos2] [] pos) (sLstRg f) :=
  ⟨(pe_listRg hc hl hlm (prg_1 hg hm ha.pe n1) n2).weak fun σ H Q ⟨ι, env, h, R, V, p⟩ => ⟨ι, env, h, R, V, (RPost.bind p).mono fun d h1 ι1 H1 S1 R1 p1 v r => by
    obtain ⟨b, e1, p2⟩ := p1.asInt
    obtain ⟨c, p3⟩ := p2.guard
    subst e1
    cases r
    refine ⟨b, rfl, ⟨by decide, by decide, by omega, by omega, by omega⟩, fun q hq => ?_⟩
    have S2 := Step.aside R1 hq (.lst (rgV 0 b))
    have hH : H q = none := none_of_there' S1 hq
    exact p3 ι1 _ S2 (R1.aside hq _) q _ hH upd_same (fun m hm z => R1.off hq hm z.symm) (reps_rg b)⟩⟩
end
end Kf
end
section
set_option maxHeartbeats 4000000
/-! Kf: repr of data. -/
namespace Kf
open PySem PySem.Spec L2 PyProof.Rows
theorem cr_repr {X : Cx} (hg : X.A.guards = some []) (hu : X.A.units + 65 < cLine) : CallR X (.builtin "repr") fun xs H Q => ∃ v p, xs = [v] ∧ Dp X.K H v p ∧ p.canLay0 = true ∧ p.depth ≤ 60 ∧ p.showable = true ∧ p.shown.length ≤ sizeLine ∧ Q (.str p.shown) H := by
  rintro pins s σ H xs us Q I r ⟨v, p, rfl, dp, cl, dpt, sh, sz, q⟩
  cases r with
  | cons rv rn =>
    rename_i u us'
    cases rn
    obtain ⟨as, rd⟩ := Dp.reads I p v u dp rv
    have deep : ∀ a, u = .ref a → wpAny (model X.prog X.w) X.A (call (.builtin "repr") [u]) (EP X pins σ Q) X.xe s := fun a e => by
      subst e
      exact repr_of_reads' rd sh (PyData.noDict_hsm (PyData.hasDict_of_canLay p cl)) hg (by omega) (fun b o z => z) (fun h' t tk k => ⟨.str p.shown, H, I.kept k, ⟨_, rfl⟩, q⟩) sz
    cases p with
    | none => cases rd; exact PySem.P.repr_of_none ⟨.str _, H, I.tok _, ⟨_, rfl⟩, by simpa only [PyData.shown] using q⟩
    | bool b => cases rd; exact PySem.P.repr_of_bool ⟨.str _, H, I.tok _, ⟨_, rfl⟩, by simpa only [PyData.shown] using q⟩
    | int i => cases rd; exact PySem.P.repr_of_int (by simpa [PyData.showable] using sh) ⟨.str _, H, I.tok _, ⟨_, rfl⟩, by simpa only [PyData.shown] using q⟩
    | str x => cases rd; exact PySem.P.repr_of_str ⟨.str _, H, I.tok _, ⟨_, rfl⟩, by simpa only [PyData.shown] using q⟩ (by simpa only [PyData.shown] using sz)
    | list xs => cases rd; exact deep _ rfl
    | tuple xs => cases rd; exact deep _ rfl
    | dict kvs => exact absurd cl (by simp [PyData.canLay0])
def reprF : FA := fa1 fun d h => onSome (py h 60 d) fun p => guard' (p.showable = true ∧ p.shown.length ≤ LIM) (.ok (.raw p.shown) h)
section
variable {Z : Kx}
theorem ck_repr (hg : Z.X.A.guards = some []) (hu : Z.X.A.units + 65 < cLine) : CallK Z (.builtin "repr") reprF := ⟨_, cr_repr hg hu, fun σ ι h H xs ds Q R rs p => by
  obtain ⟨d, rfl, p⟩ := p.fa1
  obtain ⟨x, rfl, r⟩ := wit rs
  obtain ⟨q, e, p⟩ := p.onSome
  obtain ⟨c, p⟩ := p.guard
  obtain ⟨c1, c2⟩ := py_ok e
  exact ⟨x, q, rfl, py_dp R e r, c1, c2, c.1, lim_le c.2, RPost.ok R p _ .raw⟩⟩
end
end Kf
end
section
set_option maxHeartbeats 4000000
/-! Kf: min and max of two numbers; a list's index. -/
namespace Kf
open PySem PySem.Spec L2 PyProof.Rows
def min2F : FA := fa2 fun d e h => asInt d fun i => asInt e fun j => .ok (.int (if j < i then j else i)) h
def max2F : FA := fa2 fun d e h => asInt d fun i => asInt e fun j => .ok (.int (if j > i then j else i)) h
section
variable {Z : Kx}
theorem fa2_ints {K : PySem.W.Frag} {ι : Nat → Addr} {n : Nat} {H : Hp} {xs : List V} {i j : Int} (rs : Reps K ι n H xs [.int i, .int j]) : xs = [.int i, .int j] := by
  cases rs with
  | cons r rs => cases r; cases rs with
    | cons r rs => cases r; cases rs; rfl
theorem ck_min2 (hc : Z.X.calm = true) : CallK Z (.builtin "min") min2F := ⟨_, call_min2 hc, fun σ ι h H xs ds Q R rs p => by
  obtain ⟨d, e, rfl, p⟩ := p.fa2
  obtain ⟨i, rfl, p⟩ := p.asInt
  obtain ⟨j, rfl, p⟩ := p.asInt
  exact ⟨i, j, fa2_ints rs, RPost.ok R p _ .int⟩⟩
theorem ck_max2 (hc : Z.X.calm = true) : CallK Z (.builtin "max") max2F := ⟨_, call_max2 hc, fun σ ι h H xs ds Q R rs p => by
  obtain ⟨d, e, rfl, p⟩ := p.fa2
  obtain ⟨i, rfl, p⟩ := p.asInt
  obtain ⟨j, rfl, p⟩ := p.asInt
  exact ⟨i, j, fa2_ints rs, RPost.ok R p _ .int⟩⟩
def idxP : List PyData → PyData → Option Nat
  | [], _ => none
  | z :: r, q => if PyData.eqv z q = true then some 0 else (idxP r q).map (· + 1)
theorem idxP_at : ∀ {ps : List PyData} {q : PyData} {j : Nat}, idxP ps q = some j → (∃ z, ps[j]? = some z ∧ PyData.eqv z q = true) ∧ ∀ (m : Nat) (z : PyData), m < j → ps[m]? = some z → PyData.eqv z q = false
  | [], _, _, e => by cases e
  | z :: r, q, j, e => by
    unfold idxP at e
    cases c : PyData.eqv z q with
    | true =>
      rw [c, if_pos rfl] at e
      cases e
      exact ⟨⟨z, rfl, c⟩, fun m z' hm => absurd hm (Nat.not_lt_zero _)⟩
    | false =>
      rw [c, if_neg Bool.false_ne_true] at e
      obtain ⟨k, e1, e2⟩ := Option.map_eq_some_iff.mp e
      subst e2
      obtain ⟨⟨w, e3, e4⟩, no⟩ := idxP_at e1
      refine ⟨⟨w, by simpa using e3, e4⟩, fun m z' hm hz => ?_⟩
      cases m with
      | zero => cases hz; exact c
      | succ m => exact no m z' (by omega) (by simpa using hz)
def sIndex (f g : SE) : SE := fun env h => (f env h).bind fun x h1 => asRef x fun m => onLst h1 m fun _ => (g env h1).bind fun d h2 => onSome (py h2 60 (.ref m)) fun p => onSome (itemsP p) fun ps => onSome (py h2 60 d) fun q => onSome (idxP ps q) fun j => .ok (.int (j : Nat)) h2
theorem ke_index (hu : Z.X.A.units + 65 < cLine) {o e : Expr} {f g : SE} {p pos : Pos} (ho : KE Z o f) (he : KE Z e g) (hbase : attributeBase o "index" Z.X.env (eval o Z.X.env) = eval o Z.X.env := by rfl)
    (hfew : ((backTo pos (starEach [e] Z.X.env)).all (fun x => !x.1) && (backToKw pos (keywordEach [] Z.X.env)).all (fun x => x.1.isSome) && decide ([e].length + ([] : List Keyword).length + (if ([] : List Keyword).isEmpty then 0 else 1) < 30)) = true := by rfl)
    (hline : (p.endLine == pos.line) = true := by rfl) (hs : starEach [e] Z.X.env = (false, eval e Z.X.env) :: starEach [] Z.X.env := by rfl) (hpl : (backTo pos (starEach [] Z.X.env)).any (·.1) = false := by rfl) :
    KE Z (.Call (.Attribute o "index" p) [e] [] pos) (sIndex f g) :=
  ⟨(pe_bm PySem.F.plainAttrs_list PySem.F.slot_list_index PySem.F.type_list_index (mt_indexD hu) ho.pe (pa_cons he.pe pa_nil hs) hbase hfew hline hs hpl).weak fun σ H Q ⟨ι, env, h, R, V, p⟩ => ⟨ι, env, h, R, V, (RPost.bind p).mono fun x h1 ι1 H1 S1 R1 p1 v r => by
    obtain ⟨m, e1, p2⟩ := p1.asRef
    obtain ⟨ds, e2, p3⟩ := p2.onLst
    subst e1
    cases r with
    | ref hlt =>
      obtain ⟨xs, e3, _, _⟩ := lst_at R1 e2
      refine ⟨.inl ⟨rfl, xs, .of e3⟩, ι1, env, h1, R1, V.step S1 R, (RPost.bind p3).mono fun d h2 ι2 H2 S2 R2 p4 w rw' => ?_⟩
      obtain ⟨p, ep, p5⟩ := p4.onSome
      obtain ⟨ps, eps, p6⟩ := p5.onSome
      obtain ⟨q, eq, p7⟩ := p6.onSome
      obtain ⟨j, ej, p8⟩ := p7.onSome
      obtain ⟨⟨z, ez1, ez2⟩, no⟩ := idxP_at ej
      have hp : p = .list ps := by
        unfold py at ep
        cases q1 : h2[m]? with
        | none => simp [q1] at ep
        | some o =>
          cases o <;> simp [q1] at ep
          obtain ⟨ys, _, rfl⟩ := ep
          cases eps; rfl
      subst hp
      obtain ⟨c1, c2⟩ := py_ok ep
      obtain ⟨c3, c4⟩ := py_ok eq
      have rr : Rep Z.X.K ι2 h2.length H2 (.ref (ι1 m)) (.ref m) := by
        rw [← S2.eq m hlt]; exact .ref (Nat.lt_of_lt_of_le hlt S2.len)
      refine ⟨ι1 m, w, q, ps, j, z, rfl, by first | rfl | simp, py_dp R2 ep rr, py_dp R2 eq rw', ?_, ?_, ez1, ez2, no, RPost.ok R2 p8 _ .int⟩
      · unfold SeqAt.shaped; rw [c1, decide_eq_true (by omega)]; rfl
      · unfold SeqAt.shaped; rw [c3, decide_eq_true (by omega)]; rfl⟩⟩
end
end Kf
end
section
set_option maxHeartbeats 4000000
/-! Kf: what simp may use to run a reading. -/
namespace Kf
open PySem PySem.Spec L2
theorem LIM_eq : LIM = 16777216 := rfl
theorem guard_true {β : Type} (c : Prop) [Decidable c] (r : Res β) (hc : c) : guard' c r = r := if_pos hc
/-- only what is at the head is looked at -/
theorem bind_congr {α β : Type} {r r' : Res α} {f : α → Hd → Res β} (e : r = r') : r.bind f = r'.bind f := by rw [e]
theorem lift_congr {α : Type} {r r' : Res α} {env : En} {f : α → Hd → Rs} (e : r = r') : r.lift env f = r'.lift env f := by rw [e]
def iteR {α : Type} (b : Bool) (x y : α) : α := if b = true then x else y
@[simp] theorem iteR_true {α : Type} (x y : α) : iteR true x y = x := id rfl
@[simp] theorem iteR_false {α : Type} (x y : α) : iteR false x y = y := id rfl
theorem iteR_congr {α : Type} {b b' : Bool} {x y : α} (e : b = b') : iteR b x y = iteR b' x y := by rw [e]
theorem guard_congr {β : Type} {c c' : Prop} [Decidable c] [Decidable c'] {r : Res β} (e : c = c') : guard' c r = guard' c' r := by subst e; unfold guard'; congr
def andThen (r : Rs) (g : SS) : Rs := match r with | .ok (.nx env1) h1 => g env1 h1 | r => r
theorem andThen_congr {r r' : Rs} {g : SS} (e : r = r') : andThen r g = andThen r' g := by rw [e]
@[simp] theorem andThen_nx (env : En) (h : Hd) (g : SS) : andThen (.ok (.nx env) h) g = g env h := id rfl
@[simp] theorem andThen_ret (d : D) (h : Hd) (g : SS) : andThen (.ok (.ret d) h) g = .ok (.ret d) h := id rfl
@[simp] theorem andThen_brk (env : En) (h : Hd) (g : SS) : andThen (.ok (.brk env) h) g = .ok (.brk env) h := id rfl
@[simp] theorem andThen_ct (env : En) (h : Hd) (g : SS) : andThen (.ok (.ct env) h) g = .ok (.ct env) h := id rfl
@[simp] theorem andThen_exc (c fs) (env : En) (h : Hd) (g : SS) : andThen (.ok (.exc c fs env) h) g = .ok (.exc c fs env) h := id rfl
def finR (r : Rs) : Res D := match r with
  | .ok (.nx _) h' => .ok .non h'
  | .ok (.ret d) h' => .ok d h'
  | .ok (.exc c fs _) h' => .exc c fs h'
  | _ => .stuck
@[simp] theorem finR_nx (env : En) (h : Hd) : finR (.ok (.nx env) h) = .ok .non h := id rfl
@[simp] theorem finR_ret (d : D) (h : Hd) : finR (.ok (.ret d) h) = .ok d h := id rfl
@[simp] theorem finR_exc (c fs) (env : En) (h : Hd) : finR (.ok (.exc c fs env) h) = .exc c fs h := id rfl
theorem defM_ev (n : Nat) (f : SS) (ds : List D) (h : Hd) : defM n f ds h = finR (f (startD n ds) h) := rfl
def onVar (o : Option (Option D)) (h : Hd) : Res D := match o with | some (some d) => .ok d h | _ => .stuck
@[simp] theorem onVar_some (d : D) (h : Hd) : onVar (some (some d)) h = .ok d h := id rfl
def nth : En → Nat → Option (Option D)
  | [], _ => none
  | a :: _, 0 => some a
  | _ :: l, n + 1 => nth l n
@[simp] theorem nth_zero (a : Option D) (l : En) : nth (a :: l) 0 = some a := id rfl
@[simp] theorem nth_succ (a : Option D) (l : En) (n : Nat) : nth (a :: l) (n + 1) = nth l n := id rfl
theorem nth_get : ∀ (env : En) (i : Nat), env[i]? = nth env i
  | [], _ => rfl
  | _ :: _, 0 => rfl
  | _ :: l, n + 1 => by rw [List.getElem?_cons_succ, nth_get l n]; rfl
@[simp] theorem ev_var (i : Nat) (env : En) (h : Hd) : sVar i env h = onVar (nth env i) h := by rw [← nth_get]; rfl
@[simp] theorem ev_c (d : D) (env : En) (h : Hd) : sC d env h = .ok d h := id rfl
@[simp] theorem ev_nil (env : En) (h : Hd) : sNil env h = .ok [] h := id rfl
@[simp] theorem ev_cons (f : SE) (g : SA) (env : En) (h : Hd) : sCons f g env h = (f env h).bind fun d h1 => (g env h1).bind fun ds h2 => .ok (d :: ds) h2 := id rfl
@[simp] theorem ev_2 (F : F2) (f g : SE) (env : En) (h : Hd) : s2 F f g env h = (f env h).bind fun x h1 => (g env h1).bind fun y h2 => F x y h2 := id rfl
@[simp] theorem ev_tup (f : SA) (env : En) (h : Hd) : sTup f env h = (f env h).bind fun ds h1 => guard' (ds.length ≤ LIM) (.ok (.tup ds) h1) := id rfl
@[simp] theorem ev_lst (f : SA) (env : En) (h : Hd) : sLst f env h = (f env h).bind fun ds h1 => guard' (ds.length ≤ LIM) (.ok ds h1) := id rfl
@[simp] theorem ev_new (f : SA) (env : En) (h : Hd) : sNew f env h = (f env h).bind fun ds h1 => .ok (.ref h1.length) (h1 ++ [.lst ds]) := id rfl
@[simp] theorem ev_test (f : SE) (env : En) (h : Hd) : sTest f env h = (f env h).bind fun d h1 => asBl d fun b => .ok b h1 := id rfl
@[simp] theorem ev_and (f g : SB) (env : En) (h : Hd) : sAnd f g env h = (f env h).bind fun b h1 => iteR b (g env h1) (.ok false h1) := id rfl
@[simp] theorem ev_or (f g : SB) (env : En) (h : Hd) : sOr f g env h = (f env h).bind fun b h1 => iteR b (.ok true h1) (g env h1) := id rfl
@[simp] theorem ev_not (f : SB) (env : En) (h : Hd) : sNot f env h = (f env h).bind fun b h1 => .ok (!b) h1 := id rfl
@[simp] theorem ev_ife (c : SB) (f g : SE) (env : En) (h : Hd) : sIfE c f g env h = (c env h).bind fun b h1 => iteR b (f env h1) (g env h1) := id rfl
@[simp] theorem ev_andV (f g : SE) (env : En) (h : Hd) : sAndV f g env h = (f env h).bind fun d h1 => asBl d fun b => iteR b (g env h1) (.ok (.bl false) h1) := id rfl
@[simp] theorem ev_orV (f g : SE) (env : En) (h : Hd) : sOrV f g env h = (f env h).bind fun d h1 => asBl d fun b => iteR b (.ok (.bl true) h1) (g env h1) := id rfl
@[simp] theorem ev_notV (f : SE) (env : En) (h : Hd) : sNotV f env h = (f env h).bind fun d h1 => asBl d fun b => .ok (.bl (!b)) h1 := id rfl
@[simp] theorem ev_next (env : En) (h : Hd) : sNext env h = .ok (.nx env) h := id rfl
@[simp] theorem ev_seq (f g : SS) (env : En) (h : Hd) : sSeq f g env h = andThen (f env h) g := id rfl
@[simp] theorem ev_ret (f : SE) (env : En) (h : Hd) : sRet f env h = (f env h).lift env fun d h1 => .ok (.ret d) h1 := id rfl
@[simp] theorem ev_retN (env : En) (h : Hd) : sRetN env h = .ok (.ret .non) h := id rfl
@[simp] theorem ev_brk (env : En) (h : Hd) : sBrk env h = .ok (.brk env) h := id rfl
@[simp] theorem ev_ct (env : En) (h : Hd) : sCt env h = .ok (.ct env) h := id rfl
@[simp] theorem ev_drop (f : SE) (env : En) (h : Hd) : sDrop f env h = (f env h).lift env fun _ h1 => .ok (.nx env) h1 := id rfl
@[simp] theorem ev_if (c : SB) (f g : SS) (env : En) (h : Hd) : sIf c f g env h = (c env h).lift env fun b h1 => iteR b (f env h1) (g env h1) := id rfl
@[simp] theorem ev_gN (i : Nat) (d : D) (env : En) (h : Hd) : gN i d env h = .ok (env.set i (some d)) h := id rfl
@[simp] theorem ev_gsub (fo fi : SE) (F : F3) (d : D) (env : En) (h : Hd) : gSub' fo fi F d env h = (fo env h).bind fun o h1 => (fi env h1).bind fun i h2 => (F o i d h2).bind fun _ h3 => .ok env h3 := id rfl
@[simp] theorem ev_gnil (env : En) (h : Hd) : gNil' [] env h = .ok env h := id rfl
@[simp] theorem ev_gcons (g : SG) (k : SGs) (d : D) (ds : List D) (env : En) (h : Hd) : gCons' g k (d :: ds) env h = (noX (g d env h)).bind fun env1 h1 => noX (k ds env1 h1) := id rfl
@[simp] theorem ev_gtp (n : Nat) (k : SGs) (ds : List D) (env : En) (h : Hd) : gTp n k (.tup ds) env h = guard' (ds.length = n) (k ds env h) := id rfl
@[simp] theorem ev_gtpf (n : Nat) (k : SGs) (ds : List D) (env : En) (h : Hd) : gTp n k (.fls ds) env h = guard' (ds.length = n) (k ds env h) := id rfl
@[simp] theorem ev_nox {α : Type} (a : α) (h : Hd) : noX (.ok a h) = .ok a h := id rfl
@[simp] theorem ev_asg (f : SE) (g : SG) (env : En) (h : Hd) : sAsg f g env h = (f env h).lift env fun d h1 => (noX (g d env h1)).lift env fun env' h2 => .ok (.nx env') h2 := id rfl
@[simp] theorem ev_call (F : FA) (a : SA) (env : En) (h : Hd) : sCall F a env h = (a env h).bind fun ds h1 => F ds h1 := id rfl
@[simp] theorem ev_callL (F : List D → Hd → Res (List D)) (a : SA) (env : En) (h : Hd) : sCallL F a env h = (a env h).bind fun ds h1 => F ds h1 := id rfl
@[simp] theorem ev_callN (F : List D → Hd → Res D) (a : SA) (env : En) (h : Hd) : sCallN F a env h = (a env h).bind fun ds h1 => F ds h1 := id rfl
@[simp] theorem ev_fn (n : Nat) (M : FA) (dds : List D) (a : SA) (env : En) (h : Hd) : sFn n M dds a env h = (a env h).bind fun ds h1 => guard' (ds.length + dds.length = n) (M (ds ++ dds) h1) := id rfl
@[simp] theorem ev_for (it : SI) (g : SG) (b : SS) (env : En) (h : Hd) : sFor it g b env h = (it env h).lift env fun j h1 => loopI j g b (turnsD j h1) 0 env h1 := id rfl
@[simp] theorem ev_val (f : SE) (env : En) (h : Hd) : sVal f env h = (f env h).bind fun d h1 => onSome (itOf d h1) fun it => .ok it h1 := by
  unfold sVal
  congr
  funext d h1
  cases itOf d h1 <;> rfl
@[simp] theorem ev_snap (f : SA) (env : En) (h : Hd) : sSnap f env h = (f env h).bind fun ds h1 => .ok (.snap ds) h1 := id rfl
@[simp] theorem ev_lc (it : SI) (g : SG) (t : SB) (f : SE) (vs : List Nat) (env : En) (h : Hd) : sLc it g t f vs env h = (it env h).bind fun j h1 => compI j g t f (wipeD env vs) (turnsD j h1) 0 0 h1 := id rfl
@[simp] theorem ev_yes (env : En) (h : Hd) : sYes env h = .ok true h := id rfl
@[simp] theorem ev_dict0 (env : En) (h : Hd) : sDict0 env h = .ok (.ref h.length) (h ++ [.dict []]) := id rfl
@[simp] theorem ev_dict (r : List (SE × SE)) (env : En) (h : Hd) : sDict r env h = (sPairs r env h).bind fun ds h1 => guard' (ds.length ≤ 15 ∧ (ds.all fun p => (keyD p.1).isSome) = true) (.ok (.ref h1.length) (h1 ++ [.dict (dmerge [] ds)])) := id rfl
@[simp] theorem ev_pairs0 (env : En) (h : Hd) : sPairs [] env h = .ok [] h := id rfl
@[simp] theorem ev_pairs (f g : SE) (r : List (SE × SE)) (env : En) (h : Hd) : sPairs ((f, g) :: r) env h = (f env h).bind fun k h1 => (g env h1).bind fun v h2 => (sPairs r env h2).bind fun ps h3 => .ok ((k, v) :: ps) h3 := id rfl
@[simp] theorem ev_par (is : List Nat) (a : SA) (env : En) (h : Hd) : sPar is a env h = (a env h).lift env fun ds h1 => if ds.length = is.length then .ok (.nx ((is.zip ds).foldl (fun e p => e.set p.1 (some p.2)) env)) h1 else .stuck := id rfl
@[simp] theorem ev_neg (f : SE) (env : En) (h : Hd) : sNeg f env h = (f env h).bind fun d h1 => asInt d fun i => .ok (.int (-i)) h1 := id rfl
/-! ### operators -/
theorem f2I_int (C : Int → Int → Bool) (g : Int → Int → D) (i j : Int) (h : Hd) : f2I C g (.int i) (.int j) h = guard' (C i j = true) (.ok (g i j) h) := rfl
@[simp] theorem addA_int (i j : Int) (h : Hd) : addA (.int i) (.int j) h = .ok (.int (i + j)) h := id rfl
@[simp] theorem addA_str (s t : String) (h : Hd) : addA (.str s) (.str t) h = guard' (s.length + t.length ≤ LIM) (.ok (.str (s ++ t)) h) := id rfl
@[simp] theorem addA_tup (s t : List D) (h : Hd) : addA (.tup s) (.tup t) h = guard' (s.length + t.length ≤ LIM) (.ok (.tup (s ++ t)) h) := id rfl
@[simp] theorem mulB_int (i j : Int) (h : Hd) (c : (-(18446744073709551616) < i ∧ i < 18446744073709551616) ∨ (-(18446744073709551616) < j ∧ j < 18446744073709551616)) : mulB (.int i) (.int j) h = .ok (.int (i * j)) h := by
  show (if ((decide (-(18446744073709551616) < i) && decide (i < 18446744073709551616)) || (decide (-(18446744073709551616) < j) && decide (j < 18446744073709551616))) = true then _ else _) = _
  rw [if_pos]
  simpa using c
@[simp] theorem modF_int (i j : Int) (h : Hd) (c : 0 < j) : modF (.int i) (.int j) h = .ok (.int (i % j)) h := by
  show (if decide (0 < j) = true then _ else _) = _
  rw [if_pos (by simpa using c)]
@[simp] theorem fdivF_int (i j : Int) (h : Hd) (c : 0 < j ∧ j < 1073741824) : fdivF (.int i) (.int j) h = .ok (.int (i / j)) h := by
  show (if (decide (0 < j) && decide (j < 1073741824)) = true then _ else _) = _
  rw [if_pos (by simpa using c)]
@[simp] theorem powF_int (i j : Int) (h : Hd) (c : 0 ≤ j ∧ j ≤ 1000000 ∧ i.natAbs < 18446744073709551616) : powF (.int i) (.int j) h = .ok (.int (i ^ j.toNat)) h := by
  show (if (decide (0 ≤ j) && decide (j ≤ 1000000) && decide (i.natAbs < 18446744073709551616)) = true then _ else _) = _
  rw [if_pos (by simpa [and_assoc] using c)]
@[simp] theorem subF_int (i j : Int) (h : Hd) : f2I yes2 (fun i j => .int (i - j)) (.int i) (.int j) h = .ok (.int (i - j)) h := id rfl
theorem beq_dec (i j : Int) : (i == j) = decide (i = j) := by
  by_cases e : i = j
  · subst e; simp
  · rw [decide_eq_false e, beq_eq_false_iff_ne.mpr e]
@[simp] theorem eqF_int (i j : Int) (h : Hd) : eqF (.int i) (.int j) h = .ok (.bl (decide (i = j))) h := by
  rw [← beq_dec]; rfl
@[simp] theorem neF_int (i j : Int) (h : Hd) : neF (.int i) (.int j) h = .ok (.bl (!decide (i = j))) h := by
  rw [← beq_dec]; rfl
theorem cmp_int {r : PyData → PyData → Bool} {b : Bool} (i j : Int) (h : Hd) (e : r (.int i) (.int j) = b) : f2P (cmpG r) (.int i) (.int j) h = .ok (.bl b) h := by
  subst e; rfl
@[simp] theorem ltF_int (i j : Int) (h : Hd) : ltF (.int i) (.int j) h = .ok (.bl (decide (i < j))) h := cmp_int i j h (PySem.W.dataLt_int i j)
@[simp] theorem gtF_int (i j : Int) (h : Hd) : gtF (.int i) (.int j) h = .ok (.bl (decide (j < i))) h := cmp_int i j h (PySem.W.dataLt_int j i)
@[simp] theorem leF_int (i j : Int) (h : Hd) : leF (.int i) (.int j) h = .ok (.bl (!decide (j < i))) h := cmp_int i j h (by rw [PySem.W.dataLt_int])
@[simp] theorem geF_int (i j : Int) (h : Hd) : geF (.int i) (.int j) h = .ok (.bl (!decide (i < j))) h := cmp_int i j h (by rw [PySem.W.dataLt_int])
@[simp] theorem isF_ev (x : D) (h : Hd) : isF x .non h = .ok (.bl (isNonD x)) h := id rfl
@[simp] theorem notF_ev (x : D) (h : Hd) : notF x .non h = .ok (.bl (!isNonD x)) h := id rfl
@[simp] theorem intF_int (i : Int) (h : Hd) : intF [.int i] h = .ok (.int i) h := id rfl
/-! ### places -/
def lk (h : Hd) (m : Nat) : Option O := h[m]?
theorem lk_def (h : Hd) (m : Nat) : h[m]? = lk h m := rfl
@[simp] theorem lk_set (h : Hd) (p q : Nat) (u : O) : lk (h.set p u) q = if p = q then (if p < h.length then some u else none) else lk h q := by
  unfold lk
  rw [List.getElem?_set]
@[simp] theorem lk_app (h : Hd) (q : Nat) (u : O) : lk (h ++ [u]) q = if q < h.length then lk h q else if q = h.length then some u else none := by
  unfold lk
  by_cases e : q < h.length
  · rw [if_pos e, List.getElem?_append_left e]
  · rw [if_neg e, List.getElem?_append_right (by omega)]
    by_cases e2 : q = h.length
    · subst e2; simp
    · rw [if_neg e2]; exact List.getElem?_eq_none (by simp; omega)
theorem lk_lt {h : Hd} {m : Nat} {o : O} (e : lk h m = some o) : m < h.length := lt_of_get e
def gO (o : Option O) (y : D) (h : Hd) : Res D := match o with
  | some (.lst ds) => asInt y fun i => onSome (atI ds i) fun d => .ok d h
  | some (.dict kvs) => onSome (keyD y) fun _ => onSome (dget kvs y) fun d => .ok d h
  | some (.lkd kvs) => onSome (keyD y) fun _ => onSome (dget kvs y) fun d => .ok d h
  | _ => .stuck
@[simp] theorem getF_ref (m : Nat) (y : D) (h : Hd) : getF (.ref m) y h = gO (lk h m) y h := by
  unfold getF lk
  cases e : h[m]? with
  | none => simp [gO, e, dixF, dictD]; rfl
  | some o => cases o <;> simp [gO, e, dixF, dictD, ixF, itemsD] <;> rfl
@[simp] theorem getF_tup (ds : List D) (i : Int) (h : Hd) : getF (.tup ds) (.int i) h = onSome (atI ds i) fun d => .ok d h := id rfl
@[simp] theorem gO_lst (ds : List D) (i : Int) (h : Hd) : gO (some (.lst ds)) (.int i) h = onSome (atI ds i) fun d => .ok d h := id rfl
@[simp] theorem gO_dict (kvs : List (D × D)) (s : String) (h : Hd) : gO (some (.dict kvs)) (.str s) h = onSome (dget kvs (.str s)) fun d => .ok d h := id rfl
def stO (o : Option O) (m : Nat) (i v : D) (h : Hd) : Res Unit := match o with
  | some (.lst ds) => asInt i fun k => onSome (ixN ds.length k) fun j => .ok () (h.set m (.lst (ds.set j v)))
  | some (.dict kvs) => onSome (keyD i) fun _ => guard' (kvs.length < LIM) (.ok () (h.set m (.dict (dput kvs i v))))
  | _ => .stuck
@[simp] theorem setF_ref (m : Nat) (i v : D) (h : Hd) : setF (.ref m) i v h = stO (lk h m) m i v h := by
  unfold setF lk
  cases e : h[m]? with
  | none => simp [stO, setD, onDict, e]
  | some o => cases o <;> simp [stO, e, setL, setD, onDict, onLst, asRef]
@[simp] theorem stO_lst (ds : List D) (m : Nat) (k : Int) (v : D) (h : Hd) : stO (some (.lst ds)) m (.int k) v h = onSome (ixN ds.length k) fun j => .ok () (h.set m (.lst (ds.set j v))) := id rfl
@[simp] theorem stO_dict (kvs : List (D × D)) (m : Nat) (s : String) (v : D) (h : Hd) : stO (some (.dict kvs)) m (.str s) v h = guard' (kvs.length < LIM) (.ok () (h.set m (.dict (dput kvs (.str s) v)))) := id rfl
def lnO (o : Option O) (h : Hd) : Res D := match o with
  | some (.lst ds) => .ok (.int ds.length) h
  | some (.dict ds) => .ok (.int ds.length) h
  | some (.lkd ds) => .ok (.int ds.length) h
  | _ => .stuck
@[simp] theorem lenA_ref (m : Nat) (h : Hd) : lenA [.ref m] h = lnO (lk h m) h := by
  unfold lenA lk
  cases e : h[m]? with
  | none => simp [lnO, e, lenF, itemsD, onSome]
  | some o => cases o <;> simp [lnO, e, lenF, dlenF, itemsD, onSome, dictD]
@[simp] theorem lnO_lst (ds : List D) (h : Hd) : lnO (some (.lst ds)) h = .ok (.int ds.length) h := id rfl
@[simp] theorem lenA_tup (ds : List D) (h : Hd) : lenA [.tup ds] h = .ok (.int ds.length) h := id rfl
@[simp] theorem lenA_fls (ds : List D) (h : Hd) : lenA [.fls ds] h = .ok (.int ds.length) h := id rfl
def klO {β : Type} (o : Option O) (k : List D → Res β) : Res β := match o with | some (.lst ds) => k ds | _ => .stuck
@[simp] theorem onLst_ev {β : Type} (h : Hd) (m : Nat) (k : List D → Res β) : onLst h m k = klO (lk h m) k := id rfl
@[simp] theorem klO_lst {β : Type} (ds : List D) (k : List D → Res β) : klO (some (.lst ds)) k = k ds := id rfl
@[simp] theorem ev_gtpl (n : Nat) (k : SGs) (m : Nat) (env : En) (h : Hd) : gTp n k (.ref m) env h = klO (lk h m) fun ds => guard' (ds.length = n) (k ds env h) := id rfl
def kiO {β : Type} (o : Option O) (k : String → List (String × D) → Res β) : Res β := match o with | some (.ins c fs) => k c fs | _ => .stuck
@[simp] theorem onIns_ev {β : Type} (h : Hd) (m : Nat) (k : String → List (String × D) → Res β) : onIns h m k = kiO (lk h m) k := id rfl
@[simp] theorem kiO_ins {β : Type} (c : String) (fs : List (String × D)) (k : String → List (String × D) → Res β) : kiO (some (.ins c fs)) k = k c fs := id rfl
@[simp] theorem dget_cons (k' v : D) (r : List (D × D)) (k : D) : dget ((k', v) :: r) k = if keyEq k' k then some v else dget r k := id rfl
@[simp] theorem dget_nil (k : D) : dget [] k = none := id rfl
@[simp] theorem keyEq_str (s t : String) : keyEq (.str s) (.str t) = (s == t) := by
  show decide (Str.ofString s = Str.ofString t) = _
  by_cases e : s = t
  · subst e; simp
  · have h : ¬ Str.ofString s = Str.ofString t := fun z => e (ofString_inj z)
    simp [e, h]
@[simp] theorem keyEq_int (s t : Int) : keyEq (.int s) (.int t) = (s == t) := by
  show decide (s = t) = _
  exact (beq_dec s t).symm
@[simp] theorem keyEq_is (i : Int) (t : String) : keyEq (.int i) (.str t) = false := id rfl
@[simp] theorem keyEq_si (i : Int) (t : String) : keyEq (.str t) (.int i) = false := id rfl
@[simp] theorem keyEq_nn : keyEq .non .non = true := id rfl
@[simp] theorem keyEq_ni (i : Int) : keyEq .non (.int i) = false := id rfl
@[simp] theorem keyEq_ns (i : String) : keyEq .non (.str i) = false := id rfl
@[simp] theorem keyEq_in (i : Int) : keyEq (.int i) .non = false := id rfl
@[simp] theorem keyEq_sn (i : String) : keyEq (.str i) .non = false := id rfl
/-- the same place by place -/
def keyEqs : List D → List D → Bool
  | [], [] => true
  | a :: as, b :: bs => keyEq a b && keyEqs as bs
  | _, _ => false
theorem keyEqs_of : ∀ (xs ys : List D), keyEqs xs ys = (match keyNs xs, keyNs ys with | some a, some b => NestedKey.beqAll a b | _, _ => false)
  | [], [] => rfl
  | [], y :: ys => by
    show false = _
    cases h : keyNs (y :: ys) with
    | none => rfl
    | some k =>
      unfold keyNs at h
      cases h1 : keyN y with
      | none => rw [h1] at h; cases h
      | some a =>
        cases h2 : keyNs ys with
        | none => rw [h1, h2] at h; cases h
        | some b => rw [h1, h2] at h; cases h; rfl
  | x :: xs, [] => by
    show false = _
    cases h : keyNs (x :: xs) with
    | none => rfl
    | some k =>
      unfold keyNs at h
      cases h1 : keyN x with
      | none => rw [h1] at h; cases h
      | some a =>
        cases h2 : keyNs xs with
        | none => rw [h1, h2] at h; cases h
        | some b => rw [h1, h2] at h; cases h; rfl
  | x :: xs, y :: ys => by
    show (keyEq x y && keyEqs xs ys) = _
    rw [keyEqs_of xs ys]
    have e1 : ∀ (d : D) (ds : List D), keyNs (d :: ds) = (match keyN d, keyNs ds with | some k, some ks => some (k :: ks) | _, _ => none) := fun d ds => by rw [keyNs] <;> cases keyN d <;> cases keyNs ds <;> rfl
    rw [e1, e1]
    unfold keyEq
    generalize keyN x = a
    generalize keyN y = b
    generalize keyNs xs = c
    generalize keyNs ys = d
    cases a <;> cases b <;> cases c <;> cases d <;> simp [NestedKey.beqAll]
theorem keyEq_tt (xs ys : List D) : keyEq (.tup xs) (.tup ys) = keyEqs xs ys := by
  rw [keyEqs_of]
  have e1 : ∀ (ds : List D), keyN (.tup ds) = (match keyNs ds with | some ks => some (.tup ks) | none => none) := fun ds => by rw [keyN] <;> cases keyNs ds <;> rfl
  unfold keyEq
  rw [e1, e1]
  generalize keyNs xs = c
  generalize keyNs ys = d
  cases c <;> cases d <;> simp [NestedKey.beq]
@[simp] theorem keyEq_tn (xs : List D) : keyEq (.tup xs) .non = false := by
  have e1 : ∀ (ds : List D), keyN (.tup ds) = (match keyNs ds with | some ks => some (.tup ks) | none => none) := fun ds => by rw [keyN] <;> cases keyNs ds <;> rfl
  unfold keyEq
  rw [e1]
  cases keyNs xs <;> rfl
@[simp] theorem keyEq_nt (xs : List D) : keyEq .non (.tup xs) = false := by
  unfold keyEq
  cases h : keyN (.tup xs) with
  | none => rfl
  | some k =>
    unfold keyN at h
    cases h2 : keyNs xs with
    | none => rw [h2] at h; cases h
    | some ks => rw [h2] at h; cases h; rfl
@[simp] theorem keyD_str (s : String) : (keyD (.str s)).isSome = true := id rfl
@[simp] theorem guard_T {β : Type} (r : Res β) : guard' True r = r := id rfl
@[simp] theorem guard_T2 {β : Type} [Decidable True] (r : Res β) : guard' True r = r := if_pos trivial
/-! ### more words -/
@[simp] theorem ev_fld (o : SE) (f : String) (cs : List String) (env : En) (h : Hd) : sFld o f cs env h = (o env h).bind fun d h1 => asRef d fun r => onIns h1 r fun c fs => guard' (c ∈ cs) (onSome (fs.lookup f) fun v => .ok v h1) := id rfl
@[simp] theorem ev_setF (o : SE) (f : String) (cs : List String) (e : SE) (env : En) (h : Hd) : sSetF o f cs e env h = (e env h).lift env fun d h1 => (o env h1).lift env fun od h2 =>
  Res.lift (asRef od fun r => onIns h2 r fun c fs => guard' (c ∈ cs ∧ fs.length < 1000) (.ok () (h2.set r (.ins c (putD f d fs))))) env fun _ h3 => .ok (.nx env) h3 := rfl
@[simp] theorem ev_meth (mm : String) (T : MT) (o : SE) (a : SA) (env : En) (h : Hd) : sMeth mm T o a env h = (o env h).bind fun d h1 => asRef d fun r => onIns h1 r fun c fs => onSome (T c) fun t => guard' (fs.lookup mm = none) ((a env h1).bind fun ds h2 => guard' (ds.length + 1 + t.2.2.length = t.1) (t.2.1 (d :: ds ++ t.2.2) h2)) := id rfl
def onNon (v : D) (r : Res D) : Res D := match v with | .non => r | _ => .stuck
@[simp] theorem onNon_non (r : Res D) : onNon .non r = r := id rfl
@[simp] theorem ev_newI (c : String) (n : Nat) (M : FA) (dds : List D) (a : SA) (env : En) (h : Hd) : sNewI c n M dds a env h = (a env h).bind fun ds h1 => guard' (ds.length + 1 + dds.length = n) ((M (.ref h1.length :: (ds ++ dds)) (h1 ++ [.ins c []])).bind fun v h2 => onNon v (.ok (.ref h1.length) h2)) := by
  unfold sNewI
  congr
@[simp] theorem ev_isi (T : String) (f : SE) (env : En) (h : Hd) : sIsi T f env h = (f env h).bind fun d h1 => isiF T d h1 := id rfl
@[simp] theorem ev_isiT (T : List String) (f : SE) (env : En) (h : Hd) : sIsiT T f env h = (f env h).bind fun d h1 => isiTF T d h1 := id rfl
@[simp] theorem ev_raise (c : String) (ns : List String) (fa : SA) (env : En) (h : Hd) : sRaise c ns fa env h = (fa env h).lift env fun ds h1 => if ds.length = ns.length ∧ ds.length ≤ 900 then .ok (.exc c (ns.zip ds).reverse env) h1 else .stuck := id rfl
@[simp] theorem ev_append (f g : SE) (env : En) (h : Hd) : sAppend f g env h = (f env h).bind fun x h1 => asRef x fun m => onLst h1 m fun _ => (g env h1).bind fun d h2 => onLst h2 m fun ds => guard' (ds.length < LIM) (.ok .non (h2.set m (.lst (ds ++ [d])))) := id rfl
@[simp] theorem ev_lstRg (f : SE) (env : En) (h : Hd) : sLstRg f env h = (f env h).bind fun d h1 => asInt d fun b => guard' (-16777216 ≤ b ∧ b ≤ 16777216) (.ok (rangeL 0 b.toNat) h1) := id rfl
@[simp] theorem ev_chain (F F' : F2) (f g k : SE) (env : En) (h : Hd) : sChain F F' f g k env h = (f env h).bind fun x h1 => (g env h1).bind fun y h2 => (F x y h2).bind fun t h3 => asBl t fun b => iteR b ((k env h3).bind fun z h4 => F' y z h4) (.ok (.bl false) h3) := id rfl
def rg1 (d : D) (h : Hd) : Res ItD := asInt d fun j => guard' (-BIG ≤ j ∧ j < BIG) (.ok (.snap (rangeL 0 j.toNat)) h)
@[simp] theorem ev_range1 (f : SE) (env : En) (h : Hd) : sRange1 f env h = (f env h).bind fun d h1 => rg1 d h1 := by
  unfold sRange1
  congr
theorem big_a : -BIG ≤ 0 := by decide +kernel
theorem big_b : (1000000 : Int) ≤ BIG := by decide +kernel
@[simp] theorem rg1_int (j : Int) (h : Hd) (c : 0 ≤ j ∧ j < 1000000) : rg1 (.int j) h = .ok (.snap (rangeL 0 j.toNat)) h :=
  guard_true _ _ ⟨Int.le_trans big_a c.1, Int.lt_of_lt_of_le c.2 big_b⟩
@[simp] theorem loop_snap0 (g : SG) (b : SS) (ds : List D) (h1 : Hd) (env : En) (h : Hd) : loopI (.snap ds) g b (turnsD (.snap ds) h1) 0 env h = loopItems g b ds env h := loop_snap g b ds ds.length 0 env h rfl
@[simp] theorem comp_snap0 (g : SG) (t : SB) (f : SE) (ds : List D) (h1 : Hd) (env : En) (h : Hd) : compI (.snap ds) g t f env (turnsD (.snap ds) h1) 0 0 h = compItems g t f env ds 0 h := comp_snap g t f env ds ds.length 0 0 h rfl
/-! ### what comes out -/
def Tr {α : Type} (r : Res α) (Q : α → Hd → Prop) : Prop := match r with | .ok a h => Q a h | _ => False
@[simp] theorem Tr_ok {α : Type} (a : α) (h : Hd) (Q : α → Hd → Prop) : Tr (.ok a h) Q = Q a h := id rfl
theorem Tr.get {α : Type} {r : Res α} {Q : α → Hd → Prop} (t : Tr r Q) : ∃ a h, r = .ok a h ∧ Q a h := by
  cases r with
  | ok a h => exact ⟨a, h, rfl, t⟩
  | exc _ _ _ => exact t.elim
  | stuck => exact t.elim
end Kf
end
section
set_option maxHeartbeats 4000000
/-! Kf: defs with defaults. -/
namespace Kf
open PySem PySem.Spec L2
/-- a def as the top leaves it, whatever its defaults are -/
structure FunN (K : PySem.W.Frag) (x qual : Str) (st : Stmt) (f : Addr) (fd : FuncData) : Prop where
  ex : ∃ (oc : Value) (od : Option Addr) (dV kV doc pm : Value) (an : Option Addr) (cdv ct : Value) (osl : Array (Option Value)),
    fd = PySem.W.fnOf x qual (defArgs st) (defBody st) (defScope st) dV kV doc pm an cdv ct ∧ K.lookup f = some ⟨oc, od, .func fd, osl⟩ ∧ PySem.W.codeIn K cdv qual = true
theorem fn_ofD' {G : Gx} {x qual : Str} {st : Stmt} {f : Addr} {fd : FuncData} {N ps : List Str} {k : Nat} {g : SS} (F : FunN G.K x qual st f fd) (S : FnScope N ps (defScope st))
    (hbody : ∀ (cdv : Value) (A : Around) (outer : List Env) (s : Shared) (H : Hp) (E : XK), (G.kx N qual (defScope st) f cdv A outer s H E).In G k → KSs (G.kx N qual (defScope st) f cdv A outer s H E) (defBody st) g) :
    FnG G.P G.w G.K G.mg G.base (L2.CX G.P G.w) (k + 1) f fd ps (spOf G.K G.cA ps.length (defM N.length g)) := by
  obtain ⟨oc, od, dV, kV, doc, pm, an, cdv, ct, osl, rfl, lk, hcd⟩ := F.ex
  refine fnG_of lk hcd S (fun vs H Q E h => h.1) fun A outer s H vs Q E hr ⟨hl, ι, h, ds, R, rs, q⟩ => ?_
  refine ⟨_, (hbody cdv A outer s H E (kx_in hr)).pss, ι, _, h, R, vrep_start (N := N) rs, ?_⟩
  unfold defM at q
  cases e : g (startD N.length ds) h with
  | stuck => rw [e] at q; exact q.elim
  | ok fl h' =>
    rw [e] at q
    cases fl with
    | nx env => exact fun ι' H' S' R' σ' V' => q ι' H' S' R' _ .non
    | ret d => exact q
    | brk env => exact q.elim
    | ct env => exact q.elim
    | exc c fs env => exact fun ι' H' S' R' σ' cls od V' x => q ι' H' cls od S' R' x
end Kf
end
section
set_option maxHeartbeats 4000000
/-! Kf: enumerate of a list, reversed of a list, range with a step. -/
namespace Kf
open PySem PySem.Spec L2
section
variable {Z : Kx}
/-- one argument, then a walk -/
theorem one_arg {t : Expr} {e : Expr} {f : SE} {k : D → Hd → Res ItD} {σ : L2.St} {H : Hp} {ι : Nat → Addr} {h : Hd} {env : En} {Q : ItD → Hd → (Nat → Addr) → Hp → Prop} (p : RPost Z.X.K Z.cA Z.W σ ι h H ((f env h).bind k) Q) :
    RPost Z.X.K Z.cA Z.W σ ι h H (sCons f sNil env h) fun ds h1 ι1 H1 => ∃ d, ds = [d] ∧ RPost Z.X.K Z.cA Z.W σ ι1 h1 H1 (k d h1) Q := by
  have p' := RPost.bind p
  show RPost _ _ _ _ _ _ _ ((f env h).bind fun d h1 => .ok [d] h1) _
  cases e : f env h with
  | ok d h1 => rw [e] at p'; exact fun ι' H' S R' => ⟨d, rfl, p' ι' H' S R'⟩
  | exc c fs h1 => rw [e] at p'; exact p'
  | stuck => rw [e] at p'; exact p'.elim
/-! ### enumerate -/
def sEnum (f : SE) : SI := fun env h => (f env h).bind fun x h1 => onSome (seqK h1 x) fun b => guard' (b = false) (.ok (.en x) h1)
theorem ki_enum {elts : List Expr} {kk : Nat} {e : Expr} {f : SE} {p pos tpos : Pos} (hg : Gl Z.X "enumerate") (hm : Z.X.mg "enumerate" = none) (ha : KE Z e f) (hs : starEach [e] Z.X.env = [(false, eval e Z.X.env)] := by rfl) : KI Z (.Tuple elts kk tpos) (.Call (.Name "enumerate" p) [e] [] pos) (sEnum f) :=
  ⟨(pi_enum hg hm (ka_cons ha ka_nil hs).pa hs).weak fun σ H Q ⟨ι, env, h, R, V, p⟩ => ⟨ι, env, h, R, V, (one_arg (t := e) (e := e) p).mono fun ds h1 ι1 H1 S1 R1 ⟨d, ed, p1⟩ vs rs => by
    subst ed
    obtain ⟨b, kb, p1⟩ := p1.onSome
    obtain ⟨eb, p1⟩ := RPost.guard p1
    subst eb
    cases rs with
    | cons r rr =>
      cases rr
      obtain ⟨a, xs, es, e1, e2, e3, e4, e5⟩ := seqK_rep R1 r kb
      subst e1
      refine ⟨a, xs, rfl, e5 rfl, RPost.ok R1 p1 _ fun ι2 h2 H2 S2 R2 i => ?_⟩
      cases ex : itemsD h2 d with
      | none => exact ⟨fun d e => by simp [nextD, ex] at e, fun e => by simp [nextD, ex] at e⟩
      | some us =>
        obtain ⟨a', xs2, c1, c2, _, c3⟩ := seqK_nx R1 S2 R2 r kb ex
        cases c1
        have en : nextD (.en d) h2 i = some (match us[i]? with | some u => some (.ztp [.int (i : Nat), u]) | none => none) := by
          show (match itemsD h2 d with | some xs => some (match xs[i]? with | some u => some (D.ztp [.int (i : Nat), u]) | none => none) | none => none) = _
          rw [ex]
        rw [en]
        cases eu : us[i]? with
        | none => exact ⟨fun d e => by simp at e, fun _ => ⟨xs2, c3 rfl, by rw [c2.len]; exact List.getElem?_eq_none_iff.mp eu⟩⟩
        | some u =>
          refine ⟨fun d' e => ?_, fun e => by simp at e⟩
          simp at e
          subst e
          obtain ⟨q, hq, rq⟩ := c2.get eu
          refine ⟨⟨xs2, q, c3 rfl, hq⟩, fun v H3 ⟨T, x', t1, t2, t3, t4⟩ => ?_⟩
          have := t4 _ (c3 rfl)
          rw [hq] at this
          cases this
          subst t1 t3
          have S3 := Step.aside R2 t2 (.tup [.int (i : Nat), q])
          exact ⟨S3, R2.aside t2 _, .ztp (.of upd_same) (.cons .int (.cons (rq.step S3 R2) .nil))⟩⟩⟩
/-! ### reversed, whatever it is of -/
def sRevA (f : SE) : SI := fun env h => (f env h).bind fun x h1 => onSome (seqK h1 x) fun b => onSome (itemsD h1 x) fun ds => if b = true then .ok (.snap ds.reverse) h1 else .ok (.rv x ds.length) h1
theorem ki_revA {tg e : Expr} {f : SE} {p pos : Pos} (hg : Gl Z.X "reversed") (hm : Z.X.mg "reversed" = none) (he : KE Z e f) (hs : starEach [e] Z.X.env = (false, eval e Z.X.env) :: starEach [] Z.X.env := by rfl) : KI Z tg (.Call (.Name "reversed" p) [e] [] pos) (sRevA f) :=
  ⟨(RT.pi_revA hg hm he.pe hs).weak fun σ H Q ⟨ι, env, h, R, V, p⟩ => ⟨ι, env, h, R, V, (RPost.bind p).mono fun x h1 ι1 H1 S1 R1 p1 v r => by
    obtain ⟨b, kb, p1⟩ := p1.onSome
    obtain ⟨ds, ei, p1⟩ := p1.onSome
    obtain ⟨a, xs, es, e1, e2, e3, e4, e5⟩ := seqK_rep R1 r kb
    rw [ei] at e2
    cases e2
    subst e1
    cases b with
    | true =>
      have p1 : RPost Z.X.K Z.cA Z.W σ ι1 h1 H1 (.ok (ItD.snap ds.reverse) h1) _ := p1
      refine ⟨a, xs, rfl, .inr ⟨e4 rfl, RPost.ok R1 p1 _ fun ι2 h2 H2 S2 R2 i => ?_⟩⟩
      have q2 := (S2.tkeep R1).tup _ _ (e4 rfl)
      have rs2 := e3.step S2 R1
      have hl := rs2.len
      have key : ∀ j, j < ds.length → ds.reverse[j]? = ds[xs.length - 1 - j]? := fun j hj => by rw [List.getElem?_reverse hj, hl]
      refine ⟨fun d hd => ?_, fun hd => ?_⟩
      · have hd := Option.some.inj hd
        have hi : i < ds.length := by have := lt_of_get hd; simpa using this
        rw [key i hi] at hd
        obtain ⟨w, hw, rw'⟩ := rs2.get hd
        refine ⟨⟨by omega, xs, w, q2, hw⟩, fun x' H3 ⟨z1, z2⟩ => ?_⟩
        subst z1
        have hx := z2 xs q2
        rw [hw] at hx; cases hx
        exact ⟨.refl, R2, rw'⟩
      · have hd := Option.some.inj hd
        have : ds.reverse.length ≤ i := List.getElem?_eq_none_iff.mp hd
        show xs.length ≤ i
        simp at this; omega
    | false =>
      have p1 : RPost Z.X.K Z.cA Z.W σ ι1 h1 H1 (.ok (ItD.rv x ds.length) h1) _ := p1
      have lx := e3.len
      refine ⟨a, xs, rfl, .inl ⟨e5 rfl, RPost.ok R1 p1 _ fun ι2 h2 H2 S2 R2 i => ?_⟩⟩
      have en : nextD (.rv x ds.length) h2 i = (match itemsD h2 x with | some xs => if xs.length = ds.length then some xs.reverse[i]? else none | none => none) := rfl
      rw [en]
      cases ex : itemsD h2 x with
      | none => exact ⟨fun d e => (by cases e), fun e => (by cases e)⟩
      | some us =>
        obtain ⟨a', xs2, c1, c2, _, c3⟩ := seqK_nx R1 S2 R2 r kb ex
        cases c1
        have hl := c2.len
        by_cases c : us.length = ds.length
        · dsimp only
          rw [if_pos c]
          have key : ∀ j, j < us.length → us.reverse[j]? = us[xs.length - 1 - j]? := fun j hj => by rw [List.getElem?_reverse hj, c, ← lx]
          refine ⟨fun d hd => ?_, fun hd => ?_⟩
          · have hd := Option.some.inj hd
            have hi : i < us.length := by have := lt_of_get hd; simpa using this
            rw [key i hi] at hd
            obtain ⟨w, hw, rw'⟩ := c2.get hd
            refine ⟨⟨by omega, xs2, w, c3 rfl, hw⟩, fun x' H3 ⟨z1, z2⟩ => ?_⟩
            subst z1
            have hx := z2 xs2 (c3 rfl)
            rw [hw] at hx; cases hx
            exact ⟨.refl, R2, rw'⟩
          · have hd := Option.some.inj hd
            have : us.reverse.length ≤ i := List.getElem?_eq_none_iff.mp hd
            show xs.length ≤ i
            simp at this; omega
        · dsimp only
          rw [if_neg c]
          exact ⟨fun d e => (by cases e), fun e => (by cases e)⟩⟩⟩
/-! ### range with a step -/
def rangeC (lo c : Int) (n : Nat) : List D := (List.range n).map fun (i : Nat) => D.int (lo + (i : Nat) * c)
def rg3 (d e k : D) (h : Hd) : Res ItD := asInt d fun i => asInt e fun j => asInt k fun c => guard' (c ≠ 0 ∧ c.natAbs < 1073741824 ∧ Builtin.Range.small i j c = true ∧ 0 ≤ Builtin.Range.rangeSize i j c) (.ok (.snap (rangeC i c (Builtin.Range.rangeSize i j c).toNat)) h)
def sRange3 (f g k : SE) : SI := fun env h => (sCons f (sCons g (sCons k sNil)) env h).bind fun ds h1 => match ds with | [d, e, u] => rg3 d e u h1 | _ => .stuck
theorem snap_rangeC {lo c : Int} {n : Nat} {ι : Nat → Addr} {h : Hd} {H : Hp} : ItOk Z (Itc lo c n) (.snap (rangeC lo c n)) ι h H := fun ι2 h2 H2 S2 R2 i => by
  refine ⟨fun d hd => ?_, fun hd => ?_⟩
  · have hd := Option.some.inj hd
    have hi : i < n := by have := lt_of_get hd; simpa [rangeC] using this
    refine ⟨hi, fun x H3 ⟨z1, z2⟩ => ?_⟩
    subst z1; subst z2
    simp [rangeC, hi] at hd
    subst hd
    exact ⟨.refl, R2, .int⟩
  · have hd := Option.some.inj hd
    have := List.getElem?_eq_none_iff.mp hd
    show n ≤ i
    simpa [rangeC] using this
theorem ki_range3 {tg a b c : Expr} {f g k : SE} {p pos : Pos} (hg : Gl Z.X "range") (hm : Z.X.mg "range" = none) (ha : KE Z a f) (hb : KE Z b g) (hc : KE Z c k)
    (hs : starEach [a, b, c] Z.X.env = (false, eval a Z.X.env) :: starEach [b, c] Z.X.env := by rfl) (hs2 : starEach [b, c] Z.X.env = (false, eval b Z.X.env) :: starEach [c] Z.X.env := by rfl) (hs3 : starEach [c] Z.X.env = (false, eval c Z.X.env) :: starEach [] Z.X.env := by rfl)
    (hpl : (backTo pos (starEach [b, c] Z.X.env)).any (·.1) = false := by rfl) : KI Z tg (.Call (.Name "range" p) [a, b, c] [] pos) (sRange3 f g k) :=
  ⟨(pi_range3 hg hm (ka_cons ha (ka_cons hb (ka_cons hc ka_nil hs3) hs2) hs).pa hs hpl).weak fun σ H Q ⟨ι, env, h, R, V, p⟩ => ⟨ι, env, h, R, V, (RPost.bind p).mono fun ds h1 ι1 H1 S1 R1 p1 vs rs => by
    match ds, rs, p1 with
    | [d, e, u], .cons r1 (.cons r2 (.cons r3 .nil)), p1 =>
      have p1 : RPost Z.X.K Z.cA Z.W σ ι1 h1 H1 (rg3 d e u h1) fun it h' ι' H' => ∀ J, ItOk Z J it ι' h' H' → Q J H' := p1
      unfold rg3 at p1
      obtain ⟨i, ei, p2⟩ := p1.asInt
      obtain ⟨j, ej, p3⟩ := p2.asInt
      obtain ⟨c, ec, p4⟩ := p3.asInt
      obtain ⟨q, p5⟩ := p4.guard
      subst ei ej ec
      cases r1
      cases r2
      cases r3
      exact ⟨i, j, c, _, rfl, ⟨q.1, q.2.1, q.2.2.1, (Int.toNat_of_nonneg q.2.2.2).symm⟩, RPost.ok R1 p5 _ snap_rangeC⟩
    | [], _, p1 => exact p1.elim
    | [_], _, p1 => exact p1.elim
    | [_, _], _, p1 => exact p1.elim
    | _ :: _ :: _ :: _ :: _, _, p1 => exact p1.elim⟩⟩
end
end Kf
end
section
set_option maxHeartbeats 4000000
/-! Kf: len(set(x)), x a list of whole numbers. -/
namespace Kf
open PySem PySem.Spec L2
/-- each once, in the order in which they are met first -/
def dedupI (ns : List Int) : List Int := ns.foldl PyProof.Rows.step_dedup []
theorem range_getD (ns : List Int) : (List.range ns.length).map (fun i => ns.getD i 0) = ns := by
  apply List.ext_getElem
  · simp
  · intro i h1 h2
    simp at h1 ⊢
    rw [List.getElem?_eq_getElem h1]
    rfl
theorem firstMet_all (ns : List Int) : PyProof.Rows.firstMet (fun i => ns.getD i 0) ns.length = dedupI ns := by
  unfold PyProof.Rows.firstMet dedupI
  rw [range_getD]
theorem dedupI_len (ns : List Int) : (dedupI ns).length ≤ ns.length := by
  rw [← firstMet_all]
  exact PyProof.Rows.firstMet_length_le _ _
section
variable {X : Cx} {Z : Kx}
def tSetLen (K : PySem.W.Frag) (ta : TE) : TE := fun σ H Q => ta σ H fun x H1 => ∃ (l : Addr) (ns : List Int), x = .ref l ∧ SqL K H1 l (ns.map V.int) ∧ ns.length ≤ 4000 ∧ Q (.int ((dedupI ns).length : Nat)) H1
theorem pe_setLen {a : Expr} {ta : TE} {p p2 q pos : Pos} (hc : X.calm = true) (hg : Gl X "len") (hm : X.mg "len" = none) (hg2 : Gl X "set") (hm2 : X.mg "set" = none) (ha : PE X a ta)
    (na : starEach [a] X.env = (false, eval a X.env) :: starEach [] X.env := by rfl) : PE X (.Call (.Name "len" p) [.Call (.Name "set" p2) [a] [] q] [] pos) (tSetLen X.K ta) := by
  refine ⟨fun pins s σ H Q I h => PyProof.Rows.Call_ (ld_blt I hg hm boot_len (PyProof.Rows.callWith_builtin1 (PyProof.Rows.args_cons (PyProof.Rows.Call_ (ld_blt I hg2 hm2 PyProof.Rows.boot_set (PyProof.Rows.callWith_type1 (PyProof.Rows.args_cons (thn (ha.run pins s σ H _ I h) fun v s1 ⟨x, H1, I1, r1, q1⟩ => PyProof.Rows.args_nil ?_) na) na rfl))) rfl) rfl rfl))⟩
  obtain ⟨l, ns, rfl, hq, hl, k⟩ := q1
  cases r1
  obtain ⟨its, r, pl, _⟩ := I1.list hq
  have sz : its.toArray.size = ns.length := by rw [List.size_toArray, ← r.length, List.length_map]
  refine call_set_list (ns := ns) (I1.ok.hd hc) pl.isList (by simpa using r.ints) (by rw [sz]; unfold scanBound; omega) fun h' tk hS hk => PyProof.Rows.args_nil ?_
  rw [sz, firstMet_all] at hS
  obtain ⟨o, es, ep, t, ho, hex, hd, _, _, _, hf, hn⟩ := hS
  have dl := dedupI_len ns
  exact call_len_set ho hex hd hf (by rw [hn]; omega) ⟨.int (dedupI ns).length, H1, (I1.kept fun b o e => hk b o (Heap.lt_size e) e).tok _, ⟨_, by rw [hn]⟩, k⟩
def setLenF (x : D) (h : Hd) : Res D := onSome (seqK h x) fun b => onSome (itemsD h x) fun ds => onSome (intsD ds) fun ns => guard' (b = false ∧ ns.length ≤ 4000) (.ok (.int (dedupI ns).length) h)
def sSetLen (f : SE) : SE := fun env h => (f env h).bind setLenF
theorem ke_setLen {a : Expr} {f : SE} {p p2 q pos : Pos} (hc : Z.X.calm = true) (hg : Gl Z.X "len") (hm : Z.X.mg "len" = none) (hg2 : Gl Z.X "set") (hm2 : Z.X.mg "set" = none) (ha : KE Z a f)
    (na : starEach [a] Z.X.env = (false, eval a Z.X.env) :: starEach [] Z.X.env := by rfl) : KE Z (.Call (.Name "len" p) [.Call (.Name "set" p2) [a] [] q] [] pos) (sSetLen f) :=
  ⟨(pe_setLen hc hg hm hg2 hm2 ha.pe na).weak fun σ H Q ⟨ι, env, h, R, V, p⟩ => ⟨ι, env, h, R, V, (RPost.bind p).mono fun x h1 ι1 H1 S1 R1 p1 v r => by
    obtain ⟨b, kb, p2⟩ := p1.onSome
    obtain ⟨ds, ei, p3⟩ := p2.onSome
    obtain ⟨ns, en, p4⟩ := p3.onSome
    obtain ⟨⟨cb, cl⟩, p5⟩ := p4.guard
    subst cb
    obtain ⟨a, xs, es, e1, e2, e3, e4, e5⟩ := seqK_rep R1 r kb
    rw [ei] at e2
    cases e2
    subst e1
    have := ints_rep e3 en
    subst this
    exact ⟨a, ns, rfl, e5 rfl, cl, RPost.ok R1 p5 _ .int⟩⟩⟩
end
end Kf
end
section
set_option maxHeartbeats 4000000
/-! Kf: repr of a dict of plain things; repr of anything that is covered. -/
namespace Kf
open PySem PySem.Spec L2 PyProof.Rows
def AtV : V → PyData → Prop
  | .bl b, .bool c => b = c
  | .int i, .int j => i = j
  | .str x, .str y => x = y
  | _, _ => False
theorem AtV.reads {h : Heap} {v : V} {p : PyData} {u : Value} (a : AtV v p) (r : RelV v u) : Reads h u p [] := by
  cases v <;> cases p <;> first | exact a.elim | skip
  · cases a; cases r; exact .bool _
  · cases a; obtain ⟨t, rfl⟩ := r; exact .int _ _
  · cases a; obtain ⟨t, rfl⟩ := r; exact .str _ _
theorem at_keys {h : Heap} : ∀ {ks : List NEnt} {xs : List XEnt} {ps : List (PyData × PyData)}, Paired EV ks xs → Paired (fun (e : NEnt) (p : PyData × PyData) => AtV e.2.1 p.1 ∧ AtV e.2.2 p.2) ks ps → ReadsAll h (xs.map (·.2.1)) (ps.map (·.1)) [] ∧ ReadsAll h (xs.map (·.2.2)) (ps.map (·.2)) []
  | _, _, _, .nil, .nil => ⟨.nil, .nil⟩
  | _, _, _, .cons e r, .cons a q => by
    obtain ⟨h1, h2⟩ := at_keys (h := h) r q
    exact ⟨.cons (as := []) (bs := []) (a.1.reads e.2.1) h1, .cons (as := []) (bs := []) (a.2.reads e.2.2) h2⟩
def rReprD (X : Cx) : List V → Hp → VK → Prop := fun xs H Q => ∃ (a : Addr) (ks : List NEnt) (ps : List (PyData × PyData)), xs = [.ref a] ∧ NDr X.K X.w H a ks ∧ Paired (fun (e : NEnt) (p : PyData × PyData) => AtV e.2.1 p.1 ∧ AtV e.2.2 p.2) ks ps ∧
  (PyData.dict ps).showable = true ∧ (PyData.dict ps).shown.length ≤ sizeLine ∧ (PyData.dict ps).depth ≤ 60 ∧ Q (.str (PyData.dict ps).shown) H
theorem cr_reprD {X : Cx} (hg : X.A.guards = some []) (hu : X.A.units + 65 < cLine) : CallR X (.builtin "repr") (rReprD X) := by
  rintro pins s σ H xs us Q I r ⟨a, ks, ps, rfl, nd, pr, sh, sz, dp, q⟩
  rw [Vals.ref1 r]
  obtain ⟨es, e1, d, z, hsys, hz⟩ := nd.ex I
  obtain ⟨o, ep, ho, hc, hdat⟩ := d.ex
  obtain ⟨r1, r2⟩ := at_keys (h := s.heap) e1 pr
  have rd : Reads s.heap (.ref a) (.dict ps) (a :: [] ++ []) := by
    refine .dict ho hc.1 hdat ?_ ?_
    · simpa [List.map_map, Function.comp_def, entX] using r1
    · simpa [List.map_map, Function.comp_def, entX] using r2
  refine repr_of_reads' rd sh (fun _ hm => ?_) hg (by omega) (fun b o z => z) (fun h' t tk k => ⟨.str _, H, I.kept k, ⟨_, rfl⟩, q⟩) sz
  have : sysModules = a := by simpa using hm
  rw [this] at hsys
  simp at hsys
def atD : D → Option PyData
  | .bl b => some (.bool b)
  | .int i => some (.int i)
  | .str s => some (.str (Str.ofString s))
  | _ => none
def atPr (p : D × D) : Option (PyData × PyData) := match atD p.1, atD p.2 with | some a, some b => some (a, b) | _, _ => none
theorem at_rep {K : PySem.W.Frag} {ι : Nat → Addr} {n : Nat} {H : Hp} {v : V} {d : D} {p : PyData} (r : Rep K ι n H v d) (e : atD d = some p) : AtV v p := by
  cases d <;> first | (cases e; done) | skip
  all_goals (cases e; cases r; rfl)
theorem at_reps {K : PySem.W.Frag} {ι : Nat → Addr} {n : Nat} {H : Hp} : ∀ {ks : List NEnt} {kvs : List (D × D)} {ps : List (PyData × PyData)}, KRep K ι n H ks kvs → allS (kvs.map atPr) = some ps → Paired (fun (e : NEnt) (p : PyData × PyData) => AtV e.2.1 p.1 ∧ AtV e.2.2 p.2) ks ps
  | _, _, _, .nil, e => by cases e; exact .nil
  | _, _, _, .cons (kd := kd) (d := d) k1 r1 r2 r3, e => by
    rw [List.map_cons] at e
    cases e1 : atD kd with
    | none => have : atPr (kd, d) = none := by simp [atPr, e1]
              rw [this] at e; cases e
    | some a =>
      cases e2 : atD d with
      | none => have : atPr (kd, d) = none := by simp [atPr, e1, e2]
                rw [this] at e; cases e
      | some b =>
        have : atPr (kd, d) = some (a, b) := by simp [atPr, e1, e2]
        rw [this] at e
        simp only [allS, Option.map_eq_some_iff] at e
        obtain ⟨zs, e3, e4⟩ := e
        subst e4
        exact .cons ⟨at_rep r1 e1, at_rep r2 e2⟩ (at_reps r3 e3)
def reprDF (d : D) (h : Hd) : Res D := asRef d fun m => onSome (dictD h m) fun kvs => onSome (allS (kvs.map atPr)) fun ps => guard' ((PyData.dict ps).showable = true ∧ (PyData.dict ps).shown.length ≤ LIM ∧ (PyData.dict ps).depth ≤ 60) (.ok (.raw (PyData.dict ps).shown) h)
def reprA : FA := fa1 fun d h => match d with
  | .ref m => match h[m]? with
    | some (.lst _) => reprF [.ref m] h
    | _ => reprDF (.ref m) h
  | d => reprF [d] h
section
variable {Z : Kx}
theorem ck_or {f : Value} {F G FG : FA} (a : CallK Z f F) (b : CallK Z f G) (k : ∀ ds h, FG ds h = F ds h ∨ FG ds h = G ds h) : CallK Z f FG := by
  obtain ⟨r1, c1, k1⟩ := a
  obtain ⟨r2, c2, k2⟩ := b
  refine ⟨fun xs H Q => r1 xs H Q ∨ r2 xs H Q, fun pins s σ H xs us Q I r h => h.elim (c1 pins s σ H xs us Q I r) (c2 pins s σ H xs us Q I r), fun σ ι h H xs ds Q R rs p => ?_⟩
  rcases k ds h with e | e
  · rw [e] at p; exact .inl (k1 σ ι h H xs ds Q R rs p)
  · rw [e] at p; exact .inr (k2 σ ι h H xs ds Q R rs p)
theorem ck_reprD (hw : Z.cA.w = Z.X.w) (hg : Z.X.A.guards = some []) (hu : Z.X.A.units + 65 < cLine) : CallK Z (.builtin "repr") (fa1 reprDF) := ⟨_, cr_reprD hg hu, fun σ ι h H xs ds Q R rs p => by
  obtain ⟨d, rfl, p1⟩ := p.fa1
  obtain ⟨x, rfl, r⟩ := wit rs
  obtain ⟨m, rfl, p2⟩ := p1.asRef
  obtain ⟨kvs, ed, p3⟩ := p2.onSome
  obtain ⟨ps, ep, p4⟩ := p3.onSome
  obtain ⟨c, p5⟩ := p4.guard
  obtain ⟨ks, nd, kr⟩ := dictD_rep hw R ed
  cases r
  exact ⟨_, ks, ps, rfl, nd, at_reps kr ep, c.1, lim_le c.2.1, c.2.2, RPost.ok R p5 _ .raw⟩⟩
theorem ck_reprA (hw : Z.cA.w = Z.X.w) (hg : Z.X.A.guards = some []) (hu : Z.X.A.units + 65 < cLine) : CallK Z (.builtin "repr") reprA := ck_or (ck_repr hg hu) (ck_reprD hw hg hu) fun ds h => by
  match ds with
  | [] => exact .inl rfl
  | [d] =>
    cases d with
    | ref m =>
      show (match h[m]? with | some (.lst _) => reprF [.ref m] h | _ => reprDF (.ref m) h) = _ ∨ (match h[m]? with | some (.lst _) => reprF [.ref m] h | _ => reprDF (.ref m) h) = _
      cases h[m]? with
      | none => exact .inr rfl
      | some o => cases o <;> first | exact .inl rfl | exact .inr rfl
    | _ => exact .inl rfl
  | _ :: _ :: _ => exact .inl rfl
end
end Kf
end
section
end
set_option maxHeartbeats 8000000
noncomputable section
namespace Kq
open PySem PySem.Spec L2 Kf
def topS (i : Nat) : Stmt := PySem.Challenge.pw_keptfiles_k30_code_refused.main.body.getD i (.Pass ⟨0, 0, 0, 0⟩)
/-! ### _law_pen -/
abbrev st_law_pen : Stmt := topS 24
theorem sc_law_pen : FnScope ["_law_script", "_law_fold", "_law_cell"] ["_law_script"] (defScope st_law_pen) := ⟨rfl, rfl, rfl, by decide +kernel, rfl, by decide +kernel, by decide +kernel⟩
def s_law_pen : SS :=
    (sSeq (sAsg (sC (.int 0)) (gN 1))
    (sSeq (sFor (sVal (sVar 0)) (gN 2) (sAsg (s2 modF (sCall intF (sCons (s2 addA (s2 mulB (sVar 1) (sC (.int 41))) (sVar 2)) sNil)) (sC (.int 1000000007))) (gN 1)))
    (sRet (sDict [((sC (.str "cells")), (sNew (sCallL listF (sCons (sVar 0) sNil)))), ((sC (.str "at")), (sC (.int 0))), ((sC (.str "digits")), (sC (.int 0))), ((sC (.str "count")), (sC (.int 0))), ((sC (.str "fold")), (sVar 1))]))))
def M_law_pen : FA := defM 3 s_law_pen
theorem ok_law_pen {G : Gx} {f : Addr} {fd : FuncData} (F : Fun G.K "_law_pen" "_law_pen" st_law_pen f fd) (b_int : G.mg "int" = none) (b_list : G.mg "list" = none) :
    FnG G.P G.w G.K G.mg G.base (L2.CX G.P G.w) 1 f fd ["_law_script"] (spOf G.K G.cA 1 M_law_pen) := fn_of' (k := 0) F sc_law_pen fun cdv A outer s H E i =>
    (kss_cons (ks_asg ke_int (gn 1 sc_law_pen.nd))
    (kss_cons (ks_for i.ow i.cm (ki_val (kv 0)) (gn 2 sc_law_pen.nd) (kss_one (ks_asg (ke_op ko_mod (ke_callTy ck_int (by rfl) b_int (by decide +kernel) (ka_cons (ke_op ko_plusA (ke_op ko_timesB (kv 1) ke_int) (kv 2)) ka_nil)) ke_int) (gn 1 sc_law_pen.nd))))
    (kss_one (ks_ret (ke_dict i.hw i.hu10 (kps_cons ke_str (ke_new (kl_callTy ck_list (by rfl) b_list (by decide +kernel) (ka_cons (kv 0) ka_nil))) (kps_cons ke_str ke_int (kps_cons ke_str ke_int (kps_cons ke_str ke_int (kps_cons ke_str (kv 1) kps_nil))))))))))
/-! ### is_whole -/
abbrev st_is_whole : Stmt := topS 3
theorem sc_is_whole : FnScope ["value"] ["value"] (defScope st_is_whole) := ⟨rfl, rfl, rfl, by decide +kernel, rfl, by decide +kernel, by decide +kernel⟩
def s_is_whole : SS :=
    (sRet (sAndV (sIsi "int" (sVar 0)) (sNotV (sIsi "bool" (sVar 0)))))
def M_is_whole : FA := defM 1 s_is_whole
theorem ok_is_whole {G : Gx} {f : Addr} {fd : FuncData} (F : Fun G.K "is_whole" "is_whole" st_is_whole f fd) (b_bool : G.mg "bool" = none) (b_int : G.mg "int" = none) (b_isinstance : G.mg "isinstance" = none) :
    FnG G.P G.w G.K G.mg G.base (L2.CX G.P G.w) 1 f fd ["value"] (spOf G.K G.cA 1 M_is_whole) := fn_of' (k := 0) F sc_is_whole fun cdv A outer s H E i =>
    (kss_one (ks_ret (ke_and (ke_isi (by rfl) b_isinstance (kv 0) (by rfl) b_int (by decide +kernel)) (ke_one (ke_not (ke_isi (by rfl) b_isinstance (kv 0) (by rfl) b_bool (by decide +kernel)))))))
/-! ### is_between -/
abbrev st_is_between : Stmt := topS 5
theorem sc_is_between : FnScope ["value", "low", "high"] ["value", "low", "high"] (defScope st_is_between) := ⟨rfl, rfl, rfl, by decide +kernel, rfl, by decide +kernel, by decide +kernel⟩
def s_is_between : SS :=
    (sRet (sAndV (sFn 1 M_is_whole [] (sCons (sVar 0) sNil)) (sChain leF leF (sVar 1) (sVar 0) (sVar 2))))
def M_is_between : FA := defM 3 s_is_between
theorem ok_is_between {G : Gx} {f : Addr} {fd : FuncData} (F : Fun G.K "is_between" "is_between" st_is_between f fd) (c_is_whole_0 : CF G "is_whole" 1 1 M_is_whole []) :
    FnG G.P G.w G.K G.mg G.base (L2.CX G.P G.w) 2 f fd ["value", "low", "high"] (spOf G.K G.cA 3 M_is_between) := fn_of' (k := 1) F sc_is_between fun cdv A outer s H E i =>
    (kss_one (ks_ret (ke_and (kc (i := i) c_is_whole_0 (by decide) (by rfl) (ka_cons (kv 0) ka_nil)) (ke_one (ke_chain (ko_leD i.hu64) (ko_leD i.hu64) (kv 1) (kv 0) (kv 2))))))
/-! ### is_prime -/
abbrev st_is_prime : Stmt := topS 7
theorem sc_is_prime : FnScope ["number", "divisor"] ["number"] (defScope st_is_prime) := ⟨rfl, rfl, rfl, by decide +kernel, rfl, by decide +kernel, by decide +kernel⟩
def s_is_prime : SS :=
    (sSeq (sAsg (sC (.int 2)) (gN 1))
    (sSeq (sWhile 64 (sTest (s2 leF (s2 mulB (sVar 1) (sVar 1)) (sVar 0))) (sSeq (sIf (sTest (s2 eqF (s2 modF (sVar 0) (sVar 1)) (sC (.int 0))))
    (sRet (sC (.bl false)))
    sNext)
    (sAug 1 (f2I yes2 fun i j => .int (i + j)) (sC (.int 1)))))
    (sRet (sC (.bl true)))))
def M_is_prime : FA := defM 2 s_is_prime
theorem ok_is_prime {G : Gx} {f : Addr} {fd : FuncData} (F : Fun G.K "is_prime" "is_prime" st_is_prime f fd)  :
    FnG G.P G.w G.K G.mg G.base (L2.CX G.P G.w) 1 f fd ["number"] (spOf G.K G.cA 1 M_is_prime) := fn_of' (k := 0) F sc_is_prime fun cdv A outer s H E i =>
    (kss_cons (ks_asg ke_int (gn 1 sc_is_prime.nd))
    (kss_cons (ks_while 64 i.ow (kb_cmp (ko_leD i.hu64) (ke_op ko_timesB (kv 1) (kv 1)) (kv 0)) (kss_cons (ks_if (kb_cmp (ko_eq i.hu64) (ke_op ko_mod (kv 0) (kv 1)) ke_int) (kss_one (ks_ret ke_bl)) kss_nil)
    (kss_one (ks_augI (i := 1) sc_is_prime.nd ke_int))))
    (kss_one (ks_ret ke_bl))))
/-! ### Settings.__init__ -/
abbrev st_Settings_init : Stmt := inClass (topS 8) 0
theorem sc_Settings_init : FnScope ["self", "servers", "shelves", "k", "e", "f", "prime", "size", "width"] ["self", "servers", "shelves", "k", "e", "f", "prime", "size", "width"] (defScope st_Settings_init) := ⟨rfl, rfl, rfl, by decide +kernel, rfl, by decide +kernel, by decide +kernel⟩
def s_Settings_init : SS :=
    (sSeq (sIf (sOr (sTest (s2 (memF true) (sVar 1) (sTup (sCons (sC (.int 1)) (sCons (sC (.int 3)) (sCons (sC (.int 5)) (sCons (sC (.int 7)) sNil))))))) (sNot (sTest (sFn 1 M_is_whole [] (sCons (sVar 1) sNil)))))
    (sRaise "BadNumber" ["what", "number"] (sCons (sC (.str "servers")) (sCons (sVar 1) sNil)))
    sNext)
    (sSeq (sIf (sNot (sTest (sFn 3 M_is_between [] (sCons (sVar 2) (sCons (sC (.int 1)) (sCons (sC (.int 8)) sNil))))))
    (sRaise "BadNumber" ["what", "number"] (sCons (sC (.str "shelves")) (sCons (sVar 2) sNil)))
    sNext)
    (sSeq (sIf (sNot (sTest (sFn 3 M_is_between [] (sCons (sVar 3) (sCons (sC (.int 1)) (sCons (sC (.int 4)) sNil))))))
    (sRaise "BadNumber" ["what", "number"] (sCons (sC (.str "k")) (sCons (sVar 3) sNil)))
    sNext)
    (sSeq (sIf (sNot (sTest (sFn 3 M_is_between [] (sCons (sVar 4) (sCons (sC (.int 0)) (sCons (sC (.int 2)) sNil))))))
    (sRaise "BadNumber" ["what", "number"] (sCons (sC (.str "e")) (sCons (sVar 4) sNil)))
    sNext)
    (sSeq (sIf (sOr (sNot (sTest (sFn 3 M_is_between [] (sCons (sVar 5) (sCons (sC (.int 0)) (sCons (sC (.int 3)) sNil)))))) (sTest (s2 gtF (s2 addA (s2 addA (sVar 3) (s2 mulB (sC (.int 2)) (sVar 4))) (sVar 5)) (sVar 2))))
    (sRaise "BadNumber" ["what", "number"] (sCons (sC (.str "f")) (sCons (sVar 5) sNil)))
    sNext)
    (sSeq (sIf (sOr (sNot (sTest (sFn 3 M_is_between [] (sCons (sVar 6) (sCons (s2 addA (sVar 2) (sC (.int 1))) (sCons (s2 powF (sC (.int 10)) (sC (.int 6))) sNil)))))) (sNot (sTest (sFn 1 M_is_prime [] (sCons (sVar 6) sNil)))))
    (sRaise "BadNumber" ["what", "number"] (sCons (sC (.str "prime")) (sCons (sVar 6) sNil)))
    sNext)
    (sSeq (sIf (sNot (sTest (sFn 3 M_is_between [] (sCons (sVar 7) (sCons (sC (.int 9)) (sCons (sC (.int 4000)) sNil))))))
    (sRaise "BadNumber" ["what", "number"] (sCons (sC (.str "size")) (sCons (sVar 7) sNil)))
    sNext)
    (sSeq (sIf (sNot (sTest (sFn 3 M_is_between [] (sCons (sVar 8) (sCons (sC (.int 1)) (sCons (sC (.int 16)) sNil))))))
    (sRaise "BadNumber" ["what", "number"] (sCons (sC (.str "width")) (sCons (sVar 8) sNil)))
    sNext)
    (sSeq (sSetF (sVar 0) "servers" ["Settings"] (sVar 1))
    (sSeq (sSetF (sVar 0) "shelves" ["Settings"] (sVar 2))
    (sSeq (sSetF (sVar 0) "k" ["Settings"] (sVar 3))
    (sSeq (sSetF (sVar 0) "e" ["Settings"] (sVar 4))
    (sSeq (sSetF (sVar 0) "f" ["Settings"] (sVar 5))
    (sSeq (sSetF (sVar 0) "prime" ["Settings"] (sVar 6))
    (sSeq (sSetF (sVar 0) "size" ["Settings"] (sVar 7))
    (sSeq (sSetF (sVar 0) "width" ["Settings"] (sVar 8))
    (sSetF (sVar 0) "need" ["Settings"] (s2 addA (s2 addA (sVar 3) (s2 mulB (sC (.int 2)) (sVar 4))) (sVar 5)))))))))))))))))))
def M_Settings_init : FA := defM 9 s_Settings_init
theorem ok_Settings_init {G : Gx} {f : Addr} {fd : FuncData} (F : Fun G.K "__init__" "Settings.__init__" st_Settings_init f fd) (fl_e : FldG G "e" ["Settings"]) (fl_f : FldG G "f" ["Settings"]) (fl_k : FldG G "k" ["Settings"]) (fl_need : FldG G "need" ["Settings"]) (fl_prime : FldG G "prime" ["Settings"]) (fl_servers : FldG G "servers" ["Settings"]) (fl_shelves : FldG G "shelves" ["Settings"]) (fl_size : FldG G "size" ["Settings"]) (fl_width : FldG G "width" ["Settings"]) (x_BadNumber : CE G "BadNumber" "BadNumber" 1 ["what", "number"]) (c_is_whole_0 : CF G "is_whole" 1 1 M_is_whole []) (c_is_between_0 : CF G "is_between" 2 3 M_is_between []) (c_is_prime_0 : CF G "is_prime" 1 1 M_is_prime []) :
    FnG G.P G.w G.K G.mg G.base (L2.CX G.P G.w) 3 f fd ["self", "servers", "shelves", "k", "e", "f", "prime", "size", "width"] (spOf G.K G.cA 9 M_Settings_init) := fn_of' (k := 2) F sc_Settings_init fun cdv A outer s H E i =>
    (kss_cons (ks_if (kb_w (kw_or (kb_cmp (ko_notmem i.hw i.hu) (kv 1) (ke_tup (ka_cons ke_int (ka_cons ke_int (ka_cons ke_int (ka_cons ke_int ka_nil)))))) (kw_or1 (kb_not (kb_val (kc (i := i) c_is_whole_0 (by decide) (by rfl) (ka_cons (kv 1) ka_nil))))))) (kss_one (kr (i := i) x_BadNumber (by decide) (by rfl) (ka_cons ke_str (ka_cons (kv 1) ka_nil)))) kss_nil)
    (kss_cons (ks_if (kb_not (kb_val (kc (i := i) c_is_between_0 (by decide) (by rfl) (ka_cons (kv 2) (ka_cons ke_int (ka_cons ke_int ka_nil)))))) (kss_one (kr (i := i) x_BadNumber (by decide) (by rfl) (ka_cons ke_str (ka_cons (kv 2) ka_nil)))) kss_nil)
    (kss_cons (ks_if (kb_not (kb_val (kc (i := i) c_is_between_0 (by decide) (by rfl) (ka_cons (kv 3) (ka_cons ke_int (ka_cons ke_int ka_nil)))))) (kss_one (kr (i := i) x_BadNumber (by decide) (by rfl) (ka_cons ke_str (ka_cons (kv 3) ka_nil)))) kss_nil)
    (kss_cons (ks_if (kb_not (kb_val (kc (i := i) c_is_between_0 (by decide) (by rfl) (ka_cons (kv 4) (ka_cons ke_int (ka_cons ke_int ka_nil)))))) (kss_one (kr (i := i) x_BadNumber (by decide) (by rfl) (ka_cons ke_str (ka_cons (kv 4) ka_nil)))) kss_nil)
    (kss_cons (ks_if (kb_w (kw_or (kb_not (kb_val (kc (i := i) c_is_between_0 (by decide) (by rfl) (ka_cons (kv 5) (ka_cons ke_int (ka_cons ke_int ka_nil)))))) (kw_or1 (kb_cmp (ko_gtD i.hu64) (ke_op ko_plusA (ke_op ko_plusA (kv 3) (ke_op ko_timesB ke_int (kv 4))) (kv 5)) (kv 2))))) (kss_one (kr (i := i) x_BadNumber (by decide) (by rfl) (ka_cons ke_str (ka_cons (kv 5) ka_nil)))) kss_nil)
    (kss_cons (ks_if (kb_w (kw_or (kb_not (kb_val (kc (i := i) c_is_between_0 (by decide) (by rfl) (ka_cons (kv 6) (ka_cons (ke_op ko_plusA (kv 2) ke_int) (ka_cons (ke_op ko_pow ke_int ke_int) ka_nil)))))) (kw_or1 (kb_not (kb_val (kc (i := i) c_is_prime_0 (by decide) (by rfl) (ka_cons (kv 6) ka_nil))))))) (kss_one (kr (i := i) x_BadNumber (by decide) (by rfl) (ka_cons ke_str (ka_cons (kv 6) ka_nil)))) kss_nil)
    (kss_cons (ks_if (kb_not (kb_val (kc (i := i) c_is_between_0 (by decide) (by rfl) (ka_cons (kv 7) (ka_cons ke_int (ka_cons ke_int ka_nil)))))) (kss_one (kr (i := i) x_BadNumber (by decide) (by rfl) (ka_cons ke_str (ka_cons (kv 7) ka_nil)))) kss_nil)
    (kss_cons (ks_if (kb_not (kb_val (kc (i := i) c_is_between_0 (by decide) (by rfl) (ka_cons (kv 8) (ka_cons ke_int (ka_cons ke_int ka_nil)))))) (kss_one (kr (i := i) x_BadNumber (by decide) (by rfl) (ka_cons ke_str (ka_cons (kv 8) ka_nil)))) kss_nil)
    (kss_cons (ks_fld (f := "servers") (kv 0) (kv 1) fl_servers)
    (kss_cons (ks_fld (f := "shelves") (kv 0) (kv 2) fl_shelves)
    (kss_cons (ks_fld (f := "k") (kv 0) (kv 3) fl_k)
    (kss_cons (ks_fld (f := "e") (kv 0) (kv 4) fl_e)
    (kss_cons (ks_fld (f := "f") (kv 0) (kv 5) fl_f)
    (kss_cons (ks_fld (f := "prime") (kv 0) (kv 6) fl_prime)
    (kss_cons (ks_fld (f := "size") (kv 0) (kv 7) fl_size)
    (kss_cons (ks_fld (f := "width") (kv 0) (kv 8) fl_width)
    (kss_one (ks_fld (f := "need") (kv 0) (ke_op ko_plusA (ke_op ko_plusA (kv 3) (ke_op ko_timesB ke_int (kv 4))) (kv 5)) fl_need))))))))))))))))))
/-! ### _law_draw -/
abbrev st_law_draw : Stmt := topS 25
theorem sc_law_draw : FnScope ["_law_pen_here", "_law_many", "_law_cell", "_law_digit", "_law_blend"] ["_law_pen_here", "_law_many"] (defScope st_law_draw) := ⟨rfl, rfl, rfl, by decide +kernel, rfl, by decide +kernel, by decide +kernel⟩
def s_law_draw : SS :=
    (sSeq (sAsg (s2 addA (s2 getF (sVar 0) (sC (.str "count"))) (sC (.int 1))) (gSub' (sVar 0) (sC (.str "count")) setF))
    (sSeq (sIf (sAnd (sTest (s2 eqF (s2 getF (sVar 0) (sC (.str "digits"))) (sC (.int 0)))) (sTest (s2 ltF (s2 getF (sVar 0) (sC (.str "at"))) (sCall lenA (sCons (s2 getF (sVar 0) (sC (.str "cells"))) sNil)))))
    (sSeq (sAsg (s2 getF (s2 getF (sVar 0) (sC (.str "cells"))) (s2 getF (sVar 0) (sC (.str "at")))) (gN 2))
    (sSeq (sAsg (s2 addA (s2 getF (sVar 0) (sC (.str "at"))) (sC (.int 1))) (gSub' (sVar 0) (sC (.str "at")) setF))
    (sIf (sTest (s2 geF (sVar 2) (s2 powF (sC (.int 10)) (sC (.int 18)))))
    (sAsg (s2 (f2I yes2 fun i j => .int (i - j)) (sVar 2) (s2 powF (sC (.int 10)) (sC (.int 18)))) (gSub' (sVar 0) (sC (.str "digits")) setF))
    (sAsg (s2 modF (sCall intF (sCons (s2 addA (s2 mulB (s2 getF (sVar 0) (sC (.str "fold"))) (sC (.int 69069))) (sVar 2)) sNil)) (sC (.int 2147483587))) (gSub' (sVar 0) (sC (.str "fold")) setF)))))
    sNext)
    (sSeq (sIf (sTest (s2 gtF (s2 getF (sVar 0) (sC (.str "digits"))) (sC (.int 0))))
    (sSeq (sAsg (s2 modF (sCall intF (sCons (s2 getF (sVar 0) (sC (.str "digits"))) sNil)) (sVar 1)) (gN 3))
    (sSeq (sAsg (s2 fdivF (s2 getF (sVar 0) (sC (.str "digits"))) (sVar 1)) (gSub' (sVar 0) (sC (.str "digits")) setF))
    (sRet (sVar 3))))
    sNext)
    (sSeq (sAsg (s2 addA (s2 addA (s2 getF (sVar 0) (sC (.str "fold"))) (s2 mulB (s2 getF (sVar 0) (sC (.str "count"))) (sC (.int 7907)))) (sC (.int 37))) (gN 4))
    (sRet (s2 modF (s2 fdivF (sCall intF (sCons (s2 modF (s2 powF (sVar 4) (sC (.int 17))) (sC (.int 2305843009213693951))) sNil)) (sC (.int 128))) (sVar 1)))))))
def M_law_draw : FA := defM 5 s_law_draw
theorem ok_law_draw {G : Gx} {f : Addr} {fd : FuncData} (F : Fun G.K "_law_draw" "_law_draw" st_law_draw f fd) (b_int : G.mg "int" = none) (b_len : G.mg "len" = none) :
    FnG G.P G.w G.K G.mg G.base (L2.CX G.P G.w) 1 f fd ["_law_pen_here", "_law_many"] (spOf G.K G.cA 2 M_law_draw) := fn_of' (k := 0) F sc_law_draw fun cdv A outer s H E i =>
    (kss_cons (ks_asg (ke_op ko_plusA (ke_ix (ik_get i.hw i.hu10) (kv 0) ke_str) ke_int) (kg_sub (st_set i.hw i.hu10) (kv 0) ke_str))
    (kss_cons (ks_if (kb_w (kw_and (kb_cmp (ko_eq i.hu64) (ke_ix (ik_get i.hw i.hu10) (kv 0) ke_str) ke_int) (kw_and1 (kb_cmp (ko_ltD i.hu64) (ke_ix (ik_get i.hw i.hu10) (kv 0) ke_str) (ke_callB (ck_lenA i.hw) (by rfl) b_len (by decide +kernel) (ka_cons (ke_ix (ik_get i.hw i.hu10) (kv 0) ke_str) ka_nil)))))) (kss_cons (ks_asg (ke_ix (ik_get i.hw i.hu10) (ke_ix (ik_get i.hw i.hu10) (kv 0) ke_str) (ke_ix (ik_get i.hw i.hu10) (kv 0) ke_str)) (gn 2 sc_law_draw.nd))
    (kss_cons (ks_asg (ke_op ko_plusA (ke_ix (ik_get i.hw i.hu10) (kv 0) ke_str) ke_int) (kg_sub (st_set i.hw i.hu10) (kv 0) ke_str))
    (kss_one (ks_if (kb_cmp (ko_geD i.hu64) (kv 2) (ke_op ko_pow ke_int ke_int)) (kss_one (ks_asg (ke_op ko_sub (kv 2) (ke_op ko_pow ke_int ke_int)) (kg_sub (st_set i.hw i.hu10) (kv 0) ke_str))) (kss_one (ks_asg (ke_op ko_mod (ke_callTy ck_int (by rfl) b_int (by decide +kernel) (ka_cons (ke_op ko_plusA (ke_op ko_timesB (ke_ix (ik_get i.hw i.hu10) (kv 0) ke_str) ke_int) (kv 2)) ka_nil)) ke_int) (kg_sub (st_set i.hw i.hu10) (kv 0) ke_str))))))) kss_nil)
    (kss_cons (ks_if (kb_cmp (ko_gtD i.hu64) (ke_ix (ik_get i.hw i.hu10) (kv 0) ke_str) ke_int) (kss_cons (ks_asg (ke_op ko_mod (ke_callTy ck_int (by rfl) b_int (by decide +kernel) (ka_cons (ke_ix (ik_get i.hw i.hu10) (kv 0) ke_str) ka_nil)) (kv 1)) (gn 3 sc_law_draw.nd))
    (kss_cons (ks_asg (ke_op ko_fdiv (ke_ix (ik_get i.hw i.hu10) (kv 0) ke_str) (kv 1)) (kg_sub (st_set i.hw i.hu10) (kv 0) ke_str))
    (kss_one (ks_ret (kv 3))))) kss_nil)
    (kss_cons (ks_asg (ke_op ko_plusA (ke_op ko_plusA (ke_ix (ik_get i.hw i.hu10) (kv 0) ke_str) (ke_op ko_timesB (ke_ix (ik_get i.hw i.hu10) (kv 0) ke_str) ke_int)) ke_int) (gn 4 sc_law_draw.nd))
    (kss_one (ks_ret (ke_op ko_mod (ke_op ko_fdiv (ke_callTy ck_int (by rfl) b_int (by decide +kernel) (ka_cons (ke_op ko_mod (ke_op ko_pow (kv 4) ke_int) ke_int) ka_nil)) ke_int) (kv 1))))))))
/-! ### _law_pick -/
abbrev st_law_pick : Stmt := topS 26
theorem sc_law_pick : FnScope ["_law_pen_here", "_law_some"] ["_law_pen_here", "_law_some"] (defScope st_law_pick) := ⟨rfl, rfl, rfl, by decide +kernel, rfl, by decide +kernel, by decide +kernel⟩
def s_law_pick : SS :=
    (sRet (s2 getF (sVar 1) (sFn 2 M_law_draw [] (sCons (sVar 0) (sCons (sCall lenA (sCons (sVar 1) sNil)) sNil)))))
def M_law_pick : FA := defM 2 s_law_pick
theorem ok_law_pick {G : Gx} {f : Addr} {fd : FuncData} (F : Fun G.K "_law_pick" "_law_pick" st_law_pick f fd) (b_len : G.mg "len" = none) (c_law_draw_0 : CF G "_law_draw" 1 2 M_law_draw []) :
    FnG G.P G.w G.K G.mg G.base (L2.CX G.P G.w) 2 f fd ["_law_pen_here", "_law_some"] (spOf G.K G.cA 2 M_law_pick) := fn_of' (k := 1) F sc_law_pick fun cdv A outer s H E i =>
    (kss_one (ks_ret (ke_ix (ik_get i.hw i.hu10) (kv 1) (kc (i := i) c_law_draw_0 (by decide) (by rfl) (ka_cons (kv 0) (ka_cons (ke_callB (ck_lenA i.hw) (by rfl) b_len (by decide +kernel) (ka_cons (kv 1) ka_nil)) ka_nil))))))
/-! ### is_list -/
abbrev st_is_list : Stmt := topS 6
theorem sc_is_list : FnScope ["value"] ["value"] (defScope st_is_list) := ⟨rfl, rfl, rfl, by decide +kernel, rfl, by decide +kernel, by decide +kernel⟩
def s_is_list : SS :=
    (sRet (sIsiT ["list", "tuple"] (sVar 0)))
def M_is_list : FA := defM 1 s_is_list
theorem ok_is_list {G : Gx} {f : Addr} {fd : FuncData} (F : Fun G.K "is_list" "is_list" st_is_list f fd) (b_isinstance : G.mg "isinstance" = none) (b_list : G.mg "list" = none) (b_tuple : G.mg "tuple" = none) :
    FnG G.P G.w G.K G.mg G.base (L2.CX G.P G.w) 1 f fd ["value"] (spOf G.K G.cA 1 M_is_list) := fn_of' (k := 0) F sc_is_list fun cdv A outer s H E i =>
    (kss_one (ks_ret (ke_isiT (by rfl) b_isinstance (kv 0) (by rfl) b_list (by decide +kernel) (by rfl) b_tuple (by decide +kernel) (hT := pe_tup (pa_cons (pe_bltn (by rfl) b_list (by decide +kernel) rfl) (pa_cons (pe_bltn (by rfl) b_tuple (by decide +kernel) rfl) pa_nil))))))
/-! ### told_letters -/
abbrev st_told_letters : Stmt := topS 10
theorem sc_told_letters : FnScope ["letters", "settings", "letter"] ["letters", "settings"] (defScope st_told_letters) := ⟨rfl, rfl, rfl, by decide +kernel, rfl, by decide +kernel, by decide +kernel⟩
def s_told_letters : SS :=
    (sSeq (sIf (sOr (sNot (sTest (sFn 1 M_is_list [] (sCons (sVar 0) sNil)))) (sNot (sTest (sCallN allN (sLc (sVal (sVar 0)) (gN 2) sYes (sFn 3 M_is_between [] (sCons (sVar 2) (sCons (sC (.int 0)) (sCons (s2 (f2I yes2 fun i j => .int (i - j)) (sFld (sVar 1) "prime" ["Settings"]) (sC (.int 1))) sNil)))) [2])))))
    (sRaise "BadNumber" ["what", "number"] (sCons (sC (.str "letters")) (sCons (sVar 0) sNil)))
    sNext)
    (sRet (sCall tupF (sCons (sVar 0) sNil))))
def M_told_letters : FA := defM 3 s_told_letters
theorem ok_told_letters {G : Gx} {f : Addr} {fd : FuncData} (F : Fun G.K "told_letters" "told_letters" st_told_letters f fd) (b_all : G.mg "all" = none) (b_tuple : G.mg "tuple" = none) (fl_prime : FldG G "prime" ["Settings"]) (x_BadNumber : CE G "BadNumber" "BadNumber" 1 ["what", "number"]) (c_is_list_0 : CF G "is_list" 1 1 M_is_list []) (c_is_between_0 : CF G "is_between" 2 3 M_is_between []) :
    FnG G.P G.w G.K G.mg G.base (L2.CX G.P G.w) 3 f fd ["letters", "settings"] (spOf G.K G.cA 2 M_told_letters) := fn_of' (k := 2) F sc_told_letters fun cdv A outer s H E i =>
    (kss_cons (ks_if (kb_w (kw_or (kb_not (kb_val (kc (i := i) c_is_list_0 (by decide) (by rfl) (ka_cons (kv 0) ka_nil)))) (kw_or1 (kb_not (kb_val (ke_callBN (cn_all i.cm) (by rfl) b_all (by decide +kernel) (kl_lc i.cm sc_told_letters.nd (ki_val (kv 0)) (blkOk_by (own := [("letter", 2)]) (N := ["letters", "settings", "letter"]) (sc := defScope st_told_letters) (by decide +kernel)) (fun s H C cl fp => (gw 2 sc_told_letters.nd)) (fun s H C cl fp => kt_nil) (fun s H C cl fp => (kc (i := (i.blk s H _ C cl fp)) c_is_between_0 (by decide) (by rfl) (ka_cons (kv 2) (ka_cons ke_int (ka_cons (ke_op ko_sub (ke_fld (f := "prime") (kv 1) fl_prime) ke_int) ka_nil)))))))))))) (kss_one (kr (i := i) x_BadNumber (by decide) (by rfl) (ka_cons ke_str (ka_cons (kv 0) ka_nil)))) kss_nil)
    (kss_one (ks_ret (ke_callTy ck_tuple (by rfl) b_tuple (by decide +kernel) (ka_cons (kv 0) ka_nil)))))
/-! ### value_at -/
abbrev st_value_at : Stmt := topS 12
theorem sc_value_at : FnScope ["group", "x", "prime", "found", "letter"] ["group", "x", "prime"] (defScope st_value_at) := ⟨rfl, rfl, rfl, by decide +kernel, rfl, by decide +kernel, by decide +kernel⟩
def s_value_at : SS :=
    (sSeq (sAsg (sC (.int 0)) (gN 3))
    (sSeq (sFor (sRevA (sVar 0)) (gN 4) (sAsg (s2 modF (s2 addA (s2 mulB (sVar 3) (sVar 1)) (sVar 4)) (sVar 2)) (gN 3)))
    (sRet (sVar 3))))
def M_value_at : FA := defM 5 s_value_at
theorem ok_value_at {G : Gx} {f : Addr} {fd : FuncData} (F : Fun G.K "value_at" "value_at" st_value_at f fd) (b_reversed : G.mg "reversed" = none) :
    FnG G.P G.w G.K G.mg G.base (L2.CX G.P G.w) 1 f fd ["group", "x", "prime"] (spOf G.K G.cA 3 M_value_at) := fn_of' (k := 0) F sc_value_at fun cdv A outer s H E i =>
    (kss_cons (ks_asg ke_int (gn 3 sc_value_at.nd))
    (kss_cons (ks_for i.ow i.cm (ki_revA (by rfl) b_reversed (kv 0)) (gn 4 sc_value_at.nd) (kss_one (ks_asg (ke_op ko_mod (ke_op ko_plusA (ke_op ko_timesB (kv 3) (kv 1)) (kv 4)) (kv 2)) (gn 3 sc_value_at.nd))))
    (kss_one (ks_ret (kv 3)))))
/-! ### groups_of -/
abbrev st_groups_of : Stmt := topS 11
theorem sc_groups_of : FnScope ["letters", "k", "found", "start", "group"] ["letters", "k"] (defScope st_groups_of) := ⟨rfl, rfl, rfl, by decide +kernel, rfl, by decide +kernel, by decide +kernel⟩
def s_groups_of : SS :=
    (sSeq (sAsg (sNew (sLst sNil)) (gN 2))
    (sSeq (sFor (sRange3 (sC (.int 0)) (sCall lenA (sCons (sVar 0) sNil)) (sVar 1)) (gN 3) (sSeq (sAsg (sNew (sCallL listF (sCons (sSlA (sVar 0) (sPart (sVar 3)) (sPart (s2 addA (sVar 3) (sVar 1)))) sNil))) (gN 4))
    (sDrop (sAppend (sVar 2) (s2 addA (sVar 4) (s2 mulB (sNew (sLst (sCons (sC (.int 0)) sNil))) (s2 (f2I yes2 fun i j => .int (i - j)) (sVar 1) (sCall lenA (sCons (sVar 4) sNil)))))))))
    (sRet (sVar 2))))
def M_groups_of : FA := defM 5 s_groups_of
theorem ok_groups_of {G : Gx} {f : Addr} {fd : FuncData} (F : Fun G.K "groups_of" "groups_of" st_groups_of f fd) (b_len : G.mg "len" = none) (b_list : G.mg "list" = none) (b_range : G.mg "range" = none) :
    FnG G.P G.w G.K G.mg G.base (L2.CX G.P G.w) 1 f fd ["letters", "k"] (spOf G.K G.cA 2 M_groups_of) := fn_of' (k := 0) F sc_groups_of fun cdv A outer s H E i =>
    (kss_cons (ks_asg (ke_new (kl_lst ka_nil)) (gn 2 sc_groups_of.nd))
    (kss_cons (ks_for i.ow i.cm (ki_range3 (by rfl) b_range ke_int (ke_callB (ck_lenA i.hw) (by rfl) b_len (by decide +kernel) (ka_cons (kv 0) ka_nil)) (kv 1)) (gn 3 sc_groups_of.nd) (kss_cons (ks_asg (ke_new (kl_callTy ck_list (by rfl) b_list (by decide +kernel) (ka_cons (ke_sl (kv 0) (ko_some (kv 3)) (ko_some (ke_op ko_plusA (kv 3) (kv 1)))) ka_nil))) (gn 4 sc_groups_of.nd))
    (kss_one (ks_expr (ke_append (kv 2) (ke_op ko_plusA (kv 4) (ke_op ko_timesB (ke_new (kl_lst (ka_cons ke_int ka_nil))) (ke_op ko_sub (kv 1) (ke_callB (ck_lenA i.hw) (by rfl) b_len (by decide +kernel) (ka_cons (kv 4) ka_nil))))))))))
    (kss_one (ks_ret (kv 2)))))
/-! ### piece_at -/
abbrev st_piece_at : Stmt := topS 13
theorem sc_piece_at : FnScope ["letters", "number", "settings", "group"] ["letters", "number", "settings"] (defScope st_piece_at) := ⟨rfl, rfl, rfl, by decide +kernel, rfl, by decide +kernel, by decide +kernel⟩
def s_piece_at : SS :=
    (sRet (sCallN tupN (sLc (sVal (sFn 2 M_groups_of [] (sCons (sVar 0) (sCons (sFld (sVar 2) "k" ["Settings"]) sNil)))) (gN 3) sYes (sFn 3 M_value_at [] (sCons (sVar 3) (sCons (sVar 1) (sCons (sFld (sVar 2) "prime" ["Settings"]) sNil)))) [3])))
def M_piece_at : FA := defM 4 s_piece_at
theorem ok_piece_at {G : Gx} {f : Addr} {fd : FuncData} (F : Fun G.K "piece_at" "piece_at" st_piece_at f fd) (b_tuple : G.mg "tuple" = none) (fl_k : FldG G "k" ["Settings"]) (fl_prime : FldG G "prime" ["Settings"]) (c_groups_of_0 : CF G "groups_of" 1 2 M_groups_of []) (c_value_at_0 : CF G "value_at" 1 3 M_value_at []) :
    FnG G.P G.w G.K G.mg G.base (L2.CX G.P G.w) 2 f fd ["letters", "number", "settings"] (spOf G.K G.cA 3 M_piece_at) := fn_of' (k := 1) F sc_piece_at fun cdv A outer s H E i =>
    (kss_one (ks_ret (ke_callTN cn_tuple (by rfl) b_tuple (by decide +kernel) (kl_lc i.cm sc_piece_at.nd (ki_val (kc (i := i) c_groups_of_0 (by decide) (by rfl) (ka_cons (kv 0) (ka_cons (ke_fld (f := "k") (kv 2) fl_k) ka_nil)))) (blkOk_by (own := [("group", 3)]) (N := ["letters", "number", "settings", "group"]) (sc := defScope st_piece_at) (by decide +kernel)) (fun s H C cl fp => (gw 3 sc_piece_at.nd)) (fun s H C cl fp => kt_nil) (fun s H C cl fp => (kc (i := (i.blk s H _ C cl fp)) c_value_at_0 (by decide) (by rfl) (ka_cons (kv 3) (ka_cons (kv 1) (ka_cons (ke_fld (f := "prime") (kv 2) fl_prime) ka_nil)))))))))
/-! ### piece_of -/
abbrev st_piece_of : Stmt := topS 14
theorem sc_piece_of : FnScope ["letters", "number", "settings"] ["letters", "number", "settings"] (defScope st_piece_of) := ⟨rfl, rfl, rfl, by decide +kernel, rfl, by decide +kernel, by decide +kernel⟩
def s_piece_of : SS :=
    (sSeq (sAsg (sFn 2 M_told_letters [] (sCons (sVar 0) (sCons (sVar 2) sNil))) (gN 0))
    (sSeq (sIf (sNot (sTest (sFn 3 M_is_between [] (sCons (sVar 1) (sCons (sC (.int 1)) (sCons (sFld (sVar 2) "shelves" ["Settings"]) sNil))))))
    (sRaise "BadNumber" ["what", "number"] (sCons (sC (.str "number")) (sCons (sVar 1) sNil)))
    sNext)
    (sRet (sFn 3 M_piece_at [] (sCons (sVar 0) (sCons (sVar 1) (sCons (sVar 2) sNil)))))))
def M_piece_of : FA := defM 3 s_piece_of
theorem ok_piece_of {G : Gx} {f : Addr} {fd : FuncData} (F : Fun G.K "piece_of" "piece_of" st_piece_of f fd) (fl_shelves : FldG G "shelves" ["Settings"]) (x_BadNumber : CE G "BadNumber" "BadNumber" 1 ["what", "number"]) (c_told_letters_0 : CF G "told_letters" 3 2 M_told_letters []) (c_is_between_0 : CF G "is_between" 2 3 M_is_between []) (c_piece_at_0 : CF G "piece_at" 2 3 M_piece_at []) :
    FnG G.P G.w G.K G.mg G.base (L2.CX G.P G.w) 4 f fd ["letters", "number", "settings"] (spOf G.K G.cA 3 M_piece_of) := fn_of' (k := 3) F sc_piece_of fun cdv A outer s H E i =>
    (kss_cons (ks_asg (kc (i := i) c_told_letters_0 (by decide) (by rfl) (ka_cons (kv 0) (ka_cons (kv 2) ka_nil))) (gn 0 sc_piece_of.nd))
    (kss_cons (ks_if (kb_not (kb_val (kc (i := i) c_is_between_0 (by decide) (by rfl) (ka_cons (kv 1) (ka_cons ke_int (ka_cons (ke_fld (f := "shelves") (kv 2) fl_shelves) ka_nil)))))) (kss_one (kr (i := i) x_BadNumber (by decide) (by rfl) (ka_cons ke_str (ka_cons (kv 1) ka_nil)))) kss_nil)
    (kss_one (ks_ret (kc (i := i) c_piece_at_0 (by decide) (by rfl) (ka_cons (kv 0) (ka_cons (kv 1) (ka_cons (kv 2) ka_nil))))))))
/-! ### pieces_of -/
abbrev st_pieces_of : Stmt := topS 15
theorem sc_pieces_of : FnScope ["letters", "settings", "number"] ["letters", "settings"] (defScope st_pieces_of) := ⟨rfl, rfl, rfl, by decide +kernel, rfl, by decide +kernel, by decide +kernel⟩
def s_pieces_of : SS :=
    (sSeq (sAsg (sFn 2 M_told_letters [] (sCons (sVar 0) (sCons (sVar 1) sNil))) (gN 0))
    (sRet (sCallN tupN (sLc (sRange2 (sC (.int 1)) (s2 addA (sFld (sVar 1) "shelves" ["Settings"]) (sC (.int 1)))) (gN 2) sYes (sFn 3 M_piece_at [] (sCons (sVar 0) (sCons (sVar 2) (sCons (sVar 1) sNil)))) [2]))))
def M_pieces_of : FA := defM 3 s_pieces_of
theorem ok_pieces_of {G : Gx} {f : Addr} {fd : FuncData} (F : Fun G.K "pieces_of" "pieces_of" st_pieces_of f fd) (b_range : G.mg "range" = none) (b_tuple : G.mg "tuple" = none) (fl_shelves : FldG G "shelves" ["Settings"]) (c_told_letters_0 : CF G "told_letters" 3 2 M_told_letters []) (c_piece_at_0 : CF G "piece_at" 2 3 M_piece_at []) :
    FnG G.P G.w G.K G.mg G.base (L2.CX G.P G.w) 4 f fd ["letters", "settings"] (spOf G.K G.cA 2 M_pieces_of) := fn_of' (k := 3) F sc_pieces_of fun cdv A outer s H E i =>
    (kss_cons (ks_asg (kc (i := i) c_told_letters_0 (by decide) (by rfl) (ka_cons (kv 0) (ka_cons (kv 1) ka_nil))) (gn 0 sc_pieces_of.nd))
    (kss_one (ks_ret (ke_callTN cn_tuple (by rfl) b_tuple (by decide +kernel) (kl_lc i.cm sc_pieces_of.nd (ki_range2 (by rfl) b_range ke_int (ke_op ko_plusA (ke_fld (f := "shelves") (kv 1) fl_shelves) ke_int)) (blkOk_by (own := [("number", 2)]) (N := ["letters", "settings", "number"]) (sc := defScope st_pieces_of) (by decide +kernel)) (fun s H C cl fp => (gw 2 sc_pieces_of.nd)) (fun s H C cl fp => kt_nil) (fun s H C cl fp => (kc (i := (i.blk s H _ C cl fp)) c_piece_at_0 (by decide) (by rfl) (ka_cons (kv 0) (ka_cons (kv 2) (ka_cons (kv 1) ka_nil))))))))))
/-! ### inverse -/
abbrev st_inverse : Stmt := topS 16
theorem sc_inverse : FnScope ["number", "prime", "found", "left"] ["number", "prime"] (defScope st_inverse) := ⟨rfl, rfl, rfl, by decide +kernel, rfl, by decide +kernel, by decide +kernel⟩
def s_inverse : SS :=
    (sSeq (sPar [2, 3] (sCons (sC (.int 1)) (sCons (s2 (f2I yes2 fun i j => .int (i - j)) (sVar 1) (sC (.int 2))) sNil)))
    (sSeq (sWhile 64 (sTest (s2 gtF (sVar 3) (sC (.int 0)))) (sSeq (sIf (sTest (s2 eqF (s2 modF (sVar 3) (sC (.int 2))) (sC (.int 1))))
    (sAsg (s2 modF (s2 mulB (sVar 2) (sVar 0)) (sVar 1)) (gN 2))
    sNext)
    (sSeq (sAsg (s2 modF (s2 mulB (sVar 0) (sVar 0)) (sVar 1)) (gN 0))
    (sAsg (s2 fdivF (sVar 3) (sC (.int 2))) (gN 3)))))
    (sRet (sVar 2))))
def M_inverse : FA := defM 4 s_inverse
theorem ok_inverse {G : Gx} {f : Addr} {fd : FuncData} (F : Fun G.K "inverse" "inverse" st_inverse f fd)  :
    FnG G.P G.w G.K G.mg G.base (L2.CX G.P G.w) 1 f fd ["number", "prime"] (spOf G.K G.cA 2 M_inverse) := fn_of' (k := 0) F sc_inverse fun cdv A outer s H E i =>
    (kss_cons (ks_par2 (i := 2) (j := 3) i.cm sc_inverse.nd (ka_cons ke_int (ka_cons (ke_op ko_sub (kv 1) ke_int) ka_nil)))
    (kss_cons (ks_while 64 i.ow (kb_cmp (ko_gtD i.hu64) (kv 3) ke_int) (kss_cons (ks_if (kb_cmp (ko_eq i.hu64) (ke_op ko_mod (kv 3) ke_int) ke_int) (kss_one (ks_asg (ke_op ko_mod (ke_op ko_timesB (kv 2) (kv 0)) (kv 1)) (gn 2 sc_inverse.nd))) kss_nil)
    (kss_cons (ks_asg (ke_op ko_mod (ke_op ko_timesB (kv 0) (kv 0)) (kv 1)) (gn 0 sc_inverse.nd))
    (kss_one (ks_asg (ke_op ko_fdiv (kv 3) ke_int) (gn 3 sc_inverse.nd))))))
    (kss_one (ks_ret (kv 2)))))
/-! ### basis_at -/
abbrev st_basis_at : Stmt := topS 17
theorem sc_basis_at : FnScope ["numbers", "number", "prime", "row", "below", "other", "longer", "k", "letter", "by"] ["numbers", "number", "prime"] (defScope st_basis_at) := ⟨rfl, rfl, rfl, by decide +kernel, rfl, by decide +kernel, by decide +kernel⟩
def s_basis_at : SS :=
    (sSeq (sPar [3, 4] (sCons (sNew (sLst (sCons (sC (.int 1)) sNil))) (sCons (sC (.int 1)) sNil)))
    (sSeq (sFor (sVal (sVar 0)) (gN 5) (sIf (sTest (s2 neF (sVar 5) (sVar 1)))
    (sSeq (sAsg (s2 addA (sNew (sLst (sCons (sC (.int 0)) sNil))) (sVar 3)) (gN 6))
    (sSeq (sFor (sEnum (sVar 3)) (gTp 2 (gCons' (gN 7) (gCons' (gN 8) gNil'))) (sAsg (s2 modF (s2 (f2I yes2 fun i j => .int (i - j)) (s2 getF (sVar 6) (sVar 7)) (s2 mulB (sVar 5) (sVar 8))) (sVar 2)) (gSub' (sVar 6) (sVar 7) setF)))
    (sPar [3, 4] (sCons (sVar 6) (sCons (s2 modF (s2 mulB (sVar 4) (s2 (f2I yes2 fun i j => .int (i - j)) (sVar 1) (sVar 5))) (sVar 2)) sNil)))))
    sNext))
    (sSeq (sAsg (sFn 2 M_inverse [] (sCons (sVar 4) (sCons (sVar 2) sNil))) (gN 9))
    (sRet (sNew (sLc (sVal (sVar 3)) (gN 8) sYes (s2 modF (s2 mulB (sVar 8) (sVar 9)) (sVar 2)) [8]))))))
def M_basis_at : FA := defM 10 s_basis_at
theorem ok_basis_at {G : Gx} {f : Addr} {fd : FuncData} (F : Fun G.K "basis_at" "basis_at" st_basis_at f fd) (b_enumerate : G.mg "enumerate" = none) (c_inverse_0 : CF G "inverse" 1 2 M_inverse []) :
    FnG G.P G.w G.K G.mg G.base (L2.CX G.P G.w) 2 f fd ["numbers", "number", "prime"] (spOf G.K G.cA 3 M_basis_at) := fn_of' (k := 1) F sc_basis_at fun cdv A outer s H E i =>
    (kss_cons (ks_par2 (i := 3) (j := 4) i.cm sc_basis_at.nd (ka_cons (ke_new (kl_lst (ka_cons ke_int ka_nil))) (ka_cons ke_int ka_nil)))
    (kss_cons (ks_for i.ow i.cm (ki_val (kv 0)) (gn 5 sc_basis_at.nd) (kss_one (ks_if (kb_cmp (ko_ne i.hu64) (kv 5) (kv 1)) (kss_cons (ks_asg (ke_op ko_plusA (ke_new (kl_lst (ka_cons ke_int ka_nil))) (kv 3)) (gn 6 sc_basis_at.nd))
    (kss_cons (ks_for i.ow i.cm (ki_enum (by rfl) b_enumerate (kv 3)) (kg_tup i.cm (kgs_cons (gn 7 sc_basis_at.nd) (kgs_cons (gn 8 sc_basis_at.nd) kgs_nil))) (kss_one (ks_asg (ke_op ko_mod (ke_op ko_sub (ke_ix (ik_get i.hw i.hu10) (kv 6) (kv 7)) (ke_op ko_timesB (kv 5) (kv 8))) (kv 2)) (kg_sub (st_set i.hw i.hu10) (kv 6) (kv 7)))))
    (kss_one (ks_par2 (i := 3) (j := 4) i.cm sc_basis_at.nd (ka_cons (kv 6) (ka_cons (ke_op ko_mod (ke_op ko_timesB (kv 4) (ke_op ko_sub (kv 1) (kv 5))) (kv 2)) ka_nil)))))) kss_nil)))
    (kss_cons (ks_asg (kc (i := i) c_inverse_0 (by decide) (by rfl) (ka_cons (kv 4) (ka_cons (kv 2) ka_nil))) (gn 9 sc_basis_at.nd))
    (kss_one (ks_ret (ke_new (kl_lc i.cm sc_basis_at.nd (ki_val (kv 3)) (blkOk_by (own := [("letter", 8)]) (N := ["numbers", "number", "prime", "row", "below", "other", "longer", "k", "letter", "by"]) (sc := defScope st_basis_at) (by decide +kernel)) (fun s H C cl fp => (gw 8 sc_basis_at.nd)) (fun s H C cl fp => kt_nil) (fun s H C cl fp => (ke_op ko_mod (ke_op ko_timesB (kv 8) (kv 9)) (kv 2))))))))))
/-! ### letters_at -/
abbrev st_letters_at : Stmt := topS 20
theorem sc_letters_at : FnScope ["pieces", "count", "settings", "few", "numbers", "rows", "found", "place", "j", "number", "piece", "row"] ["pieces", "count", "settings"] (defScope st_letters_at) := ⟨rfl, rfl, rfl, by decide +kernel, rfl, by decide +kernel, by decide +kernel⟩
def s_letters_at : SS :=
    (sSeq (sAsg (sSlA (sVar 0) sNoPart (sPart (sFld (sVar 2) "k" ["Settings"]))) (gN 3))
    (sSeq (sAsg (sNew (sLc (sVal (sVar 3)) (gTp 2 (gCons' (gN 9) (gCons' (gN 10) gNil'))) sYes (sVar 9) [9, 10])) (gN 4))
    (sSeq (sAsg (sNew (sLc (sVal (sVar 4)) (gN 9) sYes (sFn 3 M_basis_at [] (sCons (sVar 4) (sCons (sVar 9) (sCons (sFld (sVar 2) "prime" ["Settings"]) sNil)))) [9])) (gN 5))
    (sSeq (sAsg (sNew (sLst sNil)) (gN 6))
    (sSeq (sFor (sRange1 (sCall lenA (sCons (s2 getF (s2 getF (sVar 3) (sC (.int 0))) (sC (.int 1))) sNil))) (gN 7) (sFor (sRange1 (sFld (sVar 2) "k" ["Settings"])) (gN 8) (sDrop (sAppend (sVar 6) (s2 modF (sCallN sumN (sLc (sZip (sVar 5) (sVar 3)) (gTp 2 (gCons' (gN 11) (gCons' (gTp 2 (gCons' (gN 9) (gCons' (gN 10) gNil'))) gNil'))) sYes (s2 mulB (s2 getF (sVar 11) (sVar 8)) (s2 getF (sVar 10) (sVar 7))) [11, 9, 10])) (sFld (sVar 2) "prime" ["Settings"]))))))
    (sRet (sCall tupF (sCons (sSlA (sVar 6) sNoPart (sPart (sVar 1))) sNil))))))))
def M_letters_at : FA := defM 12 s_letters_at
theorem ok_letters_at {G : Gx} {f : Addr} {fd : FuncData} (F : Fun G.K "letters_at" "letters_at" st_letters_at f fd) (b_len : G.mg "len" = none) (b_range : G.mg "range" = none) (b_sum : G.mg "sum" = none) (b_tuple : G.mg "tuple" = none) (b_zip : G.mg "zip" = none) (fl_k : FldG G "k" ["Settings"]) (fl_prime : FldG G "prime" ["Settings"]) (c_basis_at_0 : CF G "basis_at" 2 3 M_basis_at []) :
    FnG G.P G.w G.K G.mg G.base (L2.CX G.P G.w) 3 f fd ["pieces", "count", "settings"] (spOf G.K G.cA 3 M_letters_at) := fn_of' (k := 2) F sc_letters_at fun cdv A outer s H E i =>
    (kss_cons (ks_asg (ke_sl (kv 0) ko_none (ko_some (ke_fld (f := "k") (kv 2) fl_k))) (gn 3 sc_letters_at.nd))
    (kss_cons (ks_asg (ke_new (kl_lc i.cm sc_letters_at.nd (ki_val (kv 3)) (blkOk_by (own := [("number", 9), ("piece", 10)]) (N := ["pieces", "count", "settings", "few", "numbers", "rows", "found", "place", "j", "number", "piece", "row"]) (sc := defScope st_letters_at) (by decide +kernel)) (fun s H C cl fp => (kgw_tup (i.blk s H _ C cl fp).cm (kgws_cons (gw 9 sc_letters_at.nd) (kgws_cons (gw 10 sc_letters_at.nd) kgws_nil)))) (fun s H C cl fp => kt_nil) (fun s H C cl fp => (kv 9)))) (gn 4 sc_letters_at.nd))
    (kss_cons (ks_setLc i.cm sc_letters_at.nd rfl rfl (sw_true rfl rfl rfl (by decide +kernel)) (ki_val (kv 4)) (blkOk_by (own := [("number", 9)]) (N := ["pieces", "count", "settings", "few", "numbers", "rows", "found", "place", "j", "number", "piece", "row"]) (sc := defScope st_letters_at) (by decide +kernel)) (fun s H C cl fp => (gw 9 sc_letters_at.nd)) (fun s H C cl fp => kt_nil) (fun s H C cl fp => (kc (i := (i.blk s H _ C cl fp)) c_basis_at_0 (by decide) (by rfl) (ka_cons (kv 4) (ka_cons (kv 9) (ka_cons (ke_fld (f := "prime") (kv 2) fl_prime) ka_nil))))))
    (kss_cons (ks_asg (ke_new (kl_lst ka_nil)) (gn 6 sc_letters_at.nd))
    (kss_cons (ks_for i.ow i.cm (ki_range1 (by rfl) b_range (ke_callB (ck_lenA i.hw) (by rfl) b_len (by decide +kernel) (ka_cons (ke_ix (ik_get i.hw i.hu10) (ke_ix (ik_get i.hw i.hu10) (kv 3) ke_int) ke_int) ka_nil))) (gn 7 sc_letters_at.nd) (kss_one (ks_for i.ow i.cm (ki_range1 (by rfl) b_range (ke_fld (f := "k") (kv 2) fl_k)) (gn 8 sc_letters_at.nd) (kss_one (ks_expr (ke_append (kv 6) (ke_op ko_mod (ke_callBN (cn_sum i.cm) (by rfl) b_sum (by decide +kernel) (kl_lc i.cm sc_letters_at.nd (ki_zip (by rfl) b_zip (kv 5) (kv 3)) (blkOk_by (own := [("row", 11), ("number", 9), ("piece", 10)]) (N := ["pieces", "count", "settings", "few", "numbers", "rows", "found", "place", "j", "number", "piece", "row"]) (sc := defScope st_letters_at) (by decide +kernel)) (fun s H C cl fp => (kgw_tup (i.blk s H _ C cl fp).cm (kgws_cons (gw 11 sc_letters_at.nd) (kgws_cons (kgw_tup (i.blk s H _ C cl fp).cm (kgws_cons (gw 9 sc_letters_at.nd) (kgws_cons (gw 10 sc_letters_at.nd) kgws_nil))) kgws_nil)))) (fun s H C cl fp => kt_nil) (fun s H C cl fp => (ke_op ko_timesB (ke_ix (ik_get (i.blk s H _ C cl fp).hw (i.blk s H _ C cl fp).hu10) (kv 11) (kv 8)) (ke_ix (ik_get (i.blk s H _ C cl fp).hw (i.blk s H _ C cl fp).hu10) (kv 10) (kv 7)))))) (ke_fld (f := "prime") (kv 2) fl_prime))))))))
    (kss_one (ks_ret (ke_callTy ck_tuple (by rfl) b_tuple (by decide +kernel) (ka_cons (ke_sl (kv 6) ko_none (ko_some (kv 1))) ka_nil)))))))))
/-! ### is_count -/
abbrev st_is_count : Stmt := topS 4
theorem sc_is_count : FnScope ["value"] ["value"] (defScope st_is_count) := ⟨rfl, rfl, rfl, by decide +kernel, rfl, by decide +kernel, by decide +kernel⟩
def s_is_count : SS :=
    (sRet (sAndV (sFn 1 M_is_whole [] (sCons (sVar 0) sNil)) (s2 geF (sVar 0) (sC (.int 0)))))
def M_is_count : FA := defM 1 s_is_count
theorem ok_is_count {G : Gx} {f : Addr} {fd : FuncData} (F : Fun G.K "is_count" "is_count" st_is_count f fd) (c_is_whole_0 : CF G "is_whole" 1 1 M_is_whole []) :
    FnG G.P G.w G.K G.mg G.base (L2.CX G.P G.w) 2 f fd ["value"] (spOf G.K G.cA 1 M_is_count) := fn_of' (k := 1) F sc_is_count fun cdv A outer s H E i =>
    (kss_one (ks_ret (ke_and (kc (i := i) c_is_whole_0 (by decide) (by rfl) (ka_cons (kv 0) ka_nil)) (ke_one (ke_cmp (ko_geD i.hu64) (kv 0) ke_int)))))
/-! ### is_pair -/
abbrev st_is_pair : Stmt := topS 19
theorem sc_is_pair : FnScope ["pair", "length", "settings", "value"] ["pair", "length", "settings"] (defScope st_is_pair) := ⟨rfl, rfl, rfl, by decide +kernel, rfl, by decide +kernel, by decide +kernel⟩
def s_is_pair : SS :=
    (sSeq (sIf (sOr (sNot (sTest (sIsi "tuple" (sVar 0)))) (sOr (sTest (s2 neF (sCall lenA (sCons (sVar 0) sNil)) (sC (.int 2)))) (sNot (sTest (sFn 3 M_is_between [] (sCons (s2 getF (sVar 0) (sC (.int 0))) (sCons (sC (.int 1)) (sCons (sFld (sVar 2) "shelves" ["Settings"]) sNil))))))))
    (sRet (sC (.bl false)))
    sNext)
    (sSeq (sIf (sOr (sNot (sTest (sIsi "tuple" (s2 getF (sVar 0) (sC (.int 1)))))) (sTest (s2 neF (sCall lenA (sCons (s2 getF (sVar 0) (sC (.int 1))) sNil)) (sVar 1))))
    (sRet (sC (.bl false)))
    sNext)
    (sRet (sCallN allN (sLc (sVal (s2 getF (sVar 0) (sC (.int 1)))) (gN 3) sYes (sFn 3 M_is_between [] (sCons (sVar 3) (sCons (sC (.int 0)) (sCons (s2 (f2I yes2 fun i j => .int (i - j)) (sFld (sVar 2) "prime" ["Settings"]) (sC (.int 1))) sNil)))) [3])))))
def M_is_pair : FA := defM 4 s_is_pair
theorem ok_is_pair {G : Gx} {f : Addr} {fd : FuncData} (F : Fun G.K "is_pair" "is_pair" st_is_pair f fd) (b_all : G.mg "all" = none) (b_isinstance : G.mg "isinstance" = none) (b_len : G.mg "len" = none) (b_tuple : G.mg "tuple" = none) (fl_prime : FldG G "prime" ["Settings"]) (fl_shelves : FldG G "shelves" ["Settings"]) (c_is_between_0 : CF G "is_between" 2 3 M_is_between []) :
    FnG G.P G.w G.K G.mg G.base (L2.CX G.P G.w) 3 f fd ["pair", "length", "settings"] (spOf G.K G.cA 3 M_is_pair) := fn_of' (k := 2) F sc_is_pair fun cdv A outer s H E i =>
    (kss_cons (ks_if (kb_w (kw_or (kb_not (kb_val (ke_isi (by rfl) b_isinstance (kv 0) (by rfl) b_tuple (by decide +kernel)))) (kw_or (kb_cmp (ko_ne i.hu64) (ke_callB (ck_lenA i.hw) (by rfl) b_len (by decide +kernel) (ka_cons (kv 0) ka_nil)) ke_int) (kw_or1 (kb_not (kb_val (kc (i := i) c_is_between_0 (by decide) (by rfl) (ka_cons (ke_ix (ik_get i.hw i.hu10) (kv 0) ke_int) (ka_cons ke_int (ka_cons (ke_fld (f := "shelves") (kv 2) fl_shelves) ka_nil)))))))))) (kss_one (ks_ret ke_bl)) kss_nil)
    (kss_cons (ks_if (kb_w (kw_or (kb_not (kb_val (ke_isi (by rfl) b_isinstance (ke_ix (ik_get i.hw i.hu10) (kv 0) ke_int) (by rfl) b_tuple (by decide +kernel)))) (kw_or1 (kb_cmp (ko_ne i.hu64) (ke_callB (ck_lenA i.hw) (by rfl) b_len (by decide +kernel) (ka_cons (ke_ix (ik_get i.hw i.hu10) (kv 0) ke_int) ka_nil)) (kv 1))))) (kss_one (ks_ret ke_bl)) kss_nil)
    (kss_one (ks_ret (ke_callBN (cn_all i.cm) (by rfl) b_all (by decide +kernel) (kl_lc i.cm sc_is_pair.nd (ki_val (ke_ix (ik_get i.hw i.hu10) (kv 0) ke_int)) (blkOk_by (own := [("value", 3)]) (N := ["pair", "length", "settings", "value"]) (sc := defScope st_is_pair) (by decide +kernel)) (fun s H C cl fp => (gw 3 sc_is_pair.nd)) (fun s H C cl fp => kt_nil) (fun s H C cl fp => (kc (i := (i.blk s H _ C cl fp)) c_is_between_0 (by decide) (by rfl) (ka_cons (kv 3) (ka_cons ke_int (ka_cons (ke_op ko_sub (ke_fld (f := "prime") (kv 2) fl_prime) ke_int) ka_nil)))))))))))
/-! ### told_pieces -/
abbrev st_told_pieces : Stmt := topS 18
theorem sc_told_pieces : FnScope ["pieces", "count", "settings", "length", "pair", "numbers"] ["pieces", "count", "settings"] (defScope st_told_pieces) := ⟨rfl, rfl, rfl, by decide +kernel, rfl, by decide +kernel, by decide +kernel⟩
def s_told_pieces : SS :=
    (sSeq (sIf (sNot (sTest (sFn 1 M_is_count [] (sCons (sVar 1) sNil))))
    (sRaise "BadNumber" ["what", "number"] (sCons (sC (.str "count")) (sCons (sVar 1) sNil)))
    sNext)
    (sSeq (sAsg (s2 fdivF (s2 (f2I yes2 fun i j => .int (i - j)) (s2 addA (sVar 1) (sFld (sVar 2) "k" ["Settings"])) (sC (.int 1))) (sFld (sVar 2) "k" ["Settings"])) (gN 3))
    (sSeq (sIf (sOr (sNot (sTest (sFn 1 M_is_list [] (sCons (sVar 0) sNil)))) (sTest (s2 ltF (sCall lenA (sCons (sVar 0) sNil)) (sFld (sVar 2) "k" ["Settings"]))))
    (sRaise "BadNumber" ["what", "number"] (sCons (sC (.str "pieces")) (sCons (sVar 0) sNil)))
    sNext)
    (sSeq (sFor (sVal (sVar 0)) (gN 4) (sIf (sNot (sTest (sFn 3 M_is_pair [] (sCons (sVar 4) (sCons (sVar 3) (sCons (sVar 2) sNil))))))
    (sRaise "BadNumber" ["what", "number"] (sCons (sC (.str "pieces")) (sCons (sVar 0) sNil)))
    sNext))
    (sSeq (sAsg (sNew (sCallLN sortL (sLc (sVal (sVar 0)) (gN 4) sYes (s2 getF (sVar 4) (sC (.int 0))) [4]))) (gN 5))
    (sSeq (sIf (sTest (s2 neF (sSetLen (sVar 5)) (sCall lenA (sCons (sVar 5) sNil))))
    (sRaise "BadNumber" ["what", "number"] (sCons (sC (.str "pieces")) (sCons (sVar 0) sNil)))
    sNext)
    (sRet (sNew (sCallL sortF (sCons (sVar 0) sNil))))))))))
def M_told_pieces : FA := defM 6 s_told_pieces
theorem ok_told_pieces {G : Gx} {f : Addr} {fd : FuncData} (F : Fun G.K "told_pieces" "told_pieces" st_told_pieces f fd) (b_len : G.mg "len" = none) (b_set : G.mg "set" = none) (b_sorted : G.mg "sorted" = none) (fl_k : FldG G "k" ["Settings"]) (x_BadNumber : CE G "BadNumber" "BadNumber" 1 ["what", "number"]) (c_is_count_0 : CF G "is_count" 2 1 M_is_count []) (c_is_list_0 : CF G "is_list" 1 1 M_is_list []) (c_is_pair_0 : CF G "is_pair" 3 3 M_is_pair []) :
    FnG G.P G.w G.K G.mg G.base (L2.CX G.P G.w) 4 f fd ["pieces", "count", "settings"] (spOf G.K G.cA 3 M_told_pieces) := fn_of' (k := 3) F sc_told_pieces fun cdv A outer s H E i =>
    (kss_cons (ks_if (kb_not (kb_val (kc (i := i) c_is_count_0 (by decide) (by rfl) (ka_cons (kv 1) ka_nil)))) (kss_one (kr (i := i) x_BadNumber (by decide) (by rfl) (ka_cons ke_str (ka_cons (kv 1) ka_nil)))) kss_nil)
    (kss_cons (ks_asg (ke_op ko_fdiv (ke_op ko_sub (ke_op ko_plusA (kv 1) (ke_fld (f := "k") (kv 2) fl_k)) ke_int) (ke_fld (f := "k") (kv 2) fl_k)) (gn 3 sc_told_pieces.nd))
    (kss_cons (ks_if (kb_w (kw_or (kb_not (kb_val (kc (i := i) c_is_list_0 (by decide) (by rfl) (ka_cons (kv 0) ka_nil)))) (kw_or1 (kb_cmp (ko_ltD i.hu64) (ke_callB (ck_lenA i.hw) (by rfl) b_len (by decide +kernel) (ka_cons (kv 0) ka_nil)) (ke_fld (f := "k") (kv 2) fl_k))))) (kss_one (kr (i := i) x_BadNumber (by decide) (by rfl) (ka_cons ke_str (ka_cons (kv 0) ka_nil)))) kss_nil)
    (kss_cons (ks_for i.ow i.cm (ki_val (kv 0)) (gn 4 sc_told_pieces.nd) (kss_one (ks_if (kb_not (kb_val (kc (i := i) c_is_pair_0 (by decide) (by rfl) (ka_cons (kv 4) (ka_cons (kv 3) (ka_cons (kv 2) ka_nil)))))) (kss_one (kr (i := i) x_BadNumber (by decide) (by rfl) (ka_cons ke_str (ka_cons (kv 0) ka_nil)))) kss_nil)))
    (kss_cons (ks_asg (ke_new (kl_callBN (cn_sorted i.hu64) (by rfl) b_sorted (by decide +kernel) (kl_lc i.cm sc_told_pieces.nd (ki_val (kv 0)) (blkOk_by (own := [("pair", 4)]) (N := ["pieces", "count", "settings", "length", "pair", "numbers"]) (sc := defScope st_told_pieces) (by decide +kernel)) (fun s H C cl fp => (gw 4 sc_told_pieces.nd)) (fun s H C cl fp => kt_nil) (fun s H C cl fp => (ke_ix (ik_get (i.blk s H _ C cl fp).hw (i.blk s H _ C cl fp).hu10) (kv 4) ke_int))))) (gn 5 sc_told_pieces.nd))
    (kss_cons (ks_if (kb_cmp (ko_ne i.hu64) (ke_setLen i.cm (by rfl) b_len (by rfl) b_set (kv 5)) (ke_callB (ck_lenA i.hw) (by rfl) b_len (by decide +kernel) (ka_cons (kv 5) ka_nil))) (kss_one (kr (i := i) x_BadNumber (by decide) (by rfl) (ka_cons ke_str (ka_cons (kv 0) ka_nil)))) kss_nil)
    (kss_one (ks_ret (ke_new (kl_callB (ck_sorted i.hu64) (by rfl) b_sorted (by decide +kernel) (ka_cons (kv 0) ka_nil)))))))))))
/-! ### letters_of -/
abbrev st_letters_of : Stmt := topS 21
theorem sc_letters_of : FnScope ["pieces", "count", "settings"] ["pieces", "count", "settings"] (defScope st_letters_of) := ⟨rfl, rfl, rfl, by decide +kernel, rfl, by decide +kernel, by decide +kernel⟩
def s_letters_of : SS :=
    (sRet (sFn 3 M_letters_at [] (sCons (sFn 3 M_told_pieces [] (sCons (sVar 0) (sCons (sVar 1) (sCons (sVar 2) sNil)))) (sCons (sVar 1) (sCons (sVar 2) sNil)))))
def M_letters_of : FA := defM 3 s_letters_of
theorem ok_letters_of {G : Gx} {f : Addr} {fd : FuncData} (F : Fun G.K "letters_of" "letters_of" st_letters_of f fd) (c_letters_at_0 : CF G "letters_at" 3 3 M_letters_at []) (c_told_pieces_0 : CF G "told_pieces" 4 3 M_told_pieces []) :
    FnG G.P G.w G.K G.mg G.base (L2.CX G.P G.w) 5 f fd ["pieces", "count", "settings"] (spOf G.K G.cA 3 M_letters_of) := fn_of' (k := 4) F sc_letters_of fun cdv A outer s H E i =>
    (kss_one (ks_ret (kc (i := i) c_letters_at_0 (by decide) (by rfl) (ka_cons (kc (i := i) c_told_pieces_0 (by decide) (by rfl) (ka_cons (kv 0) (ka_cons (kv 1) (ka_cons (kv 2) ka_nil)))) (ka_cons (kv 1) (ka_cons (kv 2) ka_nil))))))
/-! ### agree_on -/
abbrev st_agree_on : Stmt := topS 22
theorem sc_agree_on : FnScope ["pieces", "count", "settings", "pairs", "letters", "number", "piece"] ["pieces", "count", "settings"] (defScope st_agree_on) := ⟨rfl, rfl, rfl, by decide +kernel, rfl, by decide +kernel, by decide +kernel⟩
def s_agree_on : SS :=
    (sSeq (sAsg (sFn 3 M_told_pieces [] (sCons (sVar 0) (sCons (sVar 1) (sCons (sVar 2) sNil)))) (gN 3))
    (sSeq (sAsg (sFn 3 M_letters_at [] (sCons (sVar 3) (sCons (sVar 1) (sCons (sVar 2) sNil)))) (gN 4))
    (sRet (sCallN allN (sLc (sVal (sVar 3)) (gTp 2 (gCons' (gN 5) (gCons' (gN 6) gNil'))) sYes (s2 eqF (sFn 3 M_piece_at [] (sCons (sVar 4) (sCons (sVar 5) (sCons (sVar 2) sNil)))) (sVar 6)) [5, 6])))))
def M_agree_on : FA := defM 7 s_agree_on
theorem ok_agree_on {G : Gx} {f : Addr} {fd : FuncData} (F : Fun G.K "agree_on" "agree_on" st_agree_on f fd) (b_all : G.mg "all" = none) (c_told_pieces_0 : CF G "told_pieces" 4 3 M_told_pieces []) (c_letters_at_0 : CF G "letters_at" 3 3 M_letters_at []) (c_piece_at_0 : CF G "piece_at" 2 3 M_piece_at []) :
    FnG G.P G.w G.K G.mg G.base (L2.CX G.P G.w) 5 f fd ["pieces", "count", "settings"] (spOf G.K G.cA 3 M_agree_on) := fn_of' (k := 4) F sc_agree_on fun cdv A outer s H E i =>
    (kss_cons (ks_asg (kc (i := i) c_told_pieces_0 (by decide) (by rfl) (ka_cons (kv 0) (ka_cons (kv 1) (ka_cons (kv 2) ka_nil)))) (gn 3 sc_agree_on.nd))
    (kss_cons (ks_asg (kc (i := i) c_letters_at_0 (by decide) (by rfl) (ka_cons (kv 3) (ka_cons (kv 1) (ka_cons (kv 2) ka_nil)))) (gn 4 sc_agree_on.nd))
    (kss_one (ks_ret (ke_callBN (cn_all i.cm) (by rfl) b_all (by decide +kernel) (kl_lc i.cm sc_agree_on.nd (ki_val (kv 3)) (blkOk_by (own := [("number", 5), ("piece", 6)]) (N := ["pieces", "count", "settings", "pairs", "letters", "number", "piece"]) (sc := defScope st_agree_on) (by decide +kernel)) (fun s H C cl fp => (kgw_tup (i.blk s H _ C cl fp).cm (kgws_cons (gw 5 sc_agree_on.nd) (kgws_cons (gw 6 sc_agree_on.nd) kgws_nil)))) (fun s H C cl fp => kt_nil) (fun s H C cl fp => (ke_cmp (ko_eq (i.blk s H _ C cl fp).hu64) (kc (i := (i.blk s H _ C cl fp)) c_piece_at_0 (by decide) (by rfl) (ka_cons (kv 4) (ka_cons (kv 5) (ka_cons (kv 2) ka_nil)))) (kv 6)))))))))
/-! ### _law_told -/
abbrev st_law_told : Stmt := topS 27
theorem sc_law_told : FnScope ["_law_kind", "_law_first", "_law_second", "_law_settings", "e"] ["_law_kind", "_law_first", "_law_second", "_law_settings"] (defScope st_law_told) := ⟨rfl, rfl, rfl, by decide +kernel, rfl, by decide +kernel, by decide +kernel⟩
def s_law_told : SS :=
    (sSeq (sTry (sIf (sTest (s2 eqF (sVar 0) (sC (.int 0))))
    (sDrop (sFn 3 M_piece_of [] (sCons (sVar 1) (sCons (sVar 2) (sCons (sVar 3) sNil)))))
    (sIf (sTest (s2 eqF (sVar 0) (sC (.int 1))))
    (sDrop (sFn 2 M_pieces_of [] (sCons (sVar 1) (sCons (sVar 3) sNil))))
    (sIf (sTest (s2 eqF (sVar 0) (sC (.int 2))))
    (sDrop (sFn 3 M_letters_of [] (sCons (sVar 1) (sCons (sVar 2) (sCons (sVar 3) sNil)))))
    (sDrop (sFn 3 M_agree_on [] (sCons (sVar 1) (sCons (sVar 2) (sCons (sVar 3) sNil)))))))) [((fun c => List.lookup c [("BadNumber", true)]), (some 4), fun _ a d => (sRet (sTup (sCons (sXf "BadNumber" a d (sVar 4) "what") (sCons (sCall reprA (sCons (sXf "BadNumber" a d (sVar 4) "number") sNil)) sNil)))))])
    (sRet (sC .non)))
def M_law_told : FA := defM 5 s_law_told
theorem ok_law_told {G : Gx} {f : Addr} {fd : FuncData} (F : Fun G.K "_law_told" "_law_told" st_law_told f fd) (b_repr : G.mg "repr" = none) (h_BadNumber : CH G "BadNumber" (.ref (G.cA "BadNumber")) [("BadNumber", true)]) (xf_BadNumber_number : XFG G "BadNumber" "number") (xf_BadNumber_what : XFG G "BadNumber" "what") (c_piece_of_0 : CF G "piece_of" 4 3 M_piece_of []) (c_pieces_of_0 : CF G "pieces_of" 4 2 M_pieces_of []) (c_letters_of_0 : CF G "letters_of" 5 3 M_letters_of []) (c_agree_on_0 : CF G "agree_on" 5 3 M_agree_on []) :
    FnG G.P G.w G.K G.mg G.base (L2.CX G.P G.w) 6 f fd ["_law_kind", "_law_first", "_law_second", "_law_settings"] (spOf G.K G.cA 4 M_law_told) := fn_of' (k := 5) F sc_law_told fun cdv A outer s H E i =>
    (kss_cons (ks_try rfl rfl i.tk (fun W pn xe tk o => (kss_one (ks_if (kb_cmp (ko_eq (i.tr tk o).hu64) (kv 0) ke_int) (kss_one (ks_expr (kc (i := (i.tr tk o)) c_piece_of_0 (by decide) (by rfl) (ka_cons (kv 1) (ka_cons (kv 2) (ka_cons (kv 3) ka_nil)))))) (kss_one (ks_if (kb_cmp (ko_eq (i.tr tk o).hu64) (kv 0) ke_int) (kss_one (ks_expr (kc (i := (i.tr tk o)) c_pieces_of_0 (by decide) (by rfl) (ka_cons (kv 1) (ka_cons (kv 3) ka_nil))))) (kss_one (ks_if (kb_cmp (ko_eq (i.tr tk o).hu64) (kv 0) ke_int) (kss_one (ks_expr (kc (i := (i.tr tk o)) c_letters_of_0 (by decide) (by rfl) (ka_cons (kv 1) (ka_cons (kv 2) (ka_cons (kv 3) ka_nil)))))) (kss_one (ks_expr (kc (i := (i.tr tk o)) c_agree_on_0 (by decide) (by rfl) (ka_cons (kv 1) (ka_cons (kv 2) (ka_cons (kv 3) ka_nil))))))))))))) (.named (i := 4) sc_law_told.nd rfl rfl (h_BadNumber.names i (by rfl)) (h_BadNumber.exm i) (ksu_one (one_true (c0 := "BadNumber") (by decide)) fun a oe d pn hz hf => (kss_one (ks_ret (ke_tup (ka_cons (ke_xf xf_BadNumber_what.1 xf_BadNumber_what.2 hz hf (kv 4)) (ka_cons (ke_callB (ck_reprA (i.su a oe pn).hw (i.su a oe pn).gu (i.su a oe pn).hu) (by rfl) b_repr (by decide +kernel) (ka_cons (ke_xf xf_BadNumber_number.1 xf_BadNumber_number.2 hz hf (kv 4)) ka_nil)) ka_nil)))))) .nil))
    (kss_one (ks_ret ke_non)))
/-! ### law -/
abbrev st_law : Stmt := topS 28
theorem sc_law : FnScope ["_law_script", "_law_pen_here", "_law_settings", "_law_bad", "_law_number", "_law_kind", "_law_right", "_law_wrong", "_law_pairs", "_law_count"] ["_law_script"] (defScope st_law) := ⟨rfl, rfl, rfl, by decide +kernel, rfl, by decide +kernel, by decide +kernel⟩
def s_law : SS :=
    (sSeq (sAsg (sFn 1 M_law_pen [] (sCons (sVar 0) sNil)) (gN 1))
    (sSeq (sAsg (sNewI "Settings" 9 M_Settings_init [] (sCons (sC (.int 1)) (sCons (sC (.int 4)) (sCons (sC (.int 2)) (sCons (sC (.int 0)) (sCons (sC (.int 1)) (sCons (sC (.int 101)) (sCons (sC (.int 40)) (sCons (sC (.int 2)) sNil))))))))) (gN 2))
    (sSeq (sAsg (sFn 2 M_law_pick [] (sCons (sVar 1) (sCons (sNew (sLst (sCons (sC .non) (sCons (sC (.int 5)) (sCons (sC (.str "12")) (sCons (sTup (sCons (sC (.int 1)) (sCons (sC (.int 101)) sNil))) (sCons (sNew (sLst (sCons (sC (.int 3)) (sCons (sNeg (sC (.int 1))) sNil)))) (sCons (sTup (sCons (sC (.bl true)) sNil)) (sCons (sTup (sCons (sTup (sCons (sC (.int 1)) sNil)) sNil)) (sCons (sNew (sLst (sCons (sC (.int 1)) (sCons (sC (.str "2")) sNil)))) (sCons (sDict [((sC (.str "a")), (sC (.int 1)))]) sNil))))))))))) sNil))) (gN 3))
    (sSeq (sAsg (sFn 2 M_law_pick [] (sCons (sVar 1) (sCons (sNew (sLst (sCons (sC (.int 0)) (sCons (sC (.int 5)) (sCons (sNeg (sC (.int 1))) (sCons (sC .non) (sCons (sC (.bl true)) (sCons (sC (.str "1")) (sCons (sTup (sCons (sC (.int 1)) sNil)) sNil))))))))) sNil))) (gN 4))
    (sSeq (sFor (sSnap (sLst (sCons (sC (.int 0)) (sCons (sC (.int 1)) sNil)))) (gN 5) (sIf (sTest (s2 neF (sFn 4 M_law_told [] (sCons (sVar 5) (sCons (sVar 3) (sCons (sVar 4) (sCons (sVar 2) sNil))))) (sTup (sCons (sC (.str "letters")) (sCons (sCall reprA (sCons (sVar 3) sNil)) sNil)))))
    (sRet (sC (.bl false)))
    sNext))
    (sSeq (sIf (sTest (s2 neF (sFn 4 M_law_told [] (sCons (sC (.int 0)) (sCons (sNew (sLst (sCons (sC (.int 100)) (sCons (sC (.int 0)) sNil)))) (sCons (sVar 4) (sCons (sVar 2) sNil))))) (sTup (sCons (sC (.str "number")) (sCons (sCall reprA (sCons (sVar 4) sNil)) sNil)))))
    (sRet (sC (.bl false)))
    sNext)
    (sSeq (sAsg (sNew (sLst (sCons (sTup (sCons (sC (.int 1)) (sCons (sTup (sCons (sC (.int 5)) (sCons (sC (.int 6)) sNil))) sNil))) (sCons (sTup (sCons (sC (.int 3)) (sCons (sTup (sCons (sC (.int 7)) (sCons (sC (.int 8)) sNil))) sNil))) sNil)))) (gN 6))
    (sSeq (sAsg (sNew (sLst (sCons (sNew (sLst sNil)) (sCons (sSlA (sVar 6) sNoPart (sPart (sC (.int 1)))) (sCons (s2 addA (sSlA (sVar 6) sNoPart (sPart (sC (.int 1)))) (sSlA (sVar 6) sNoPart (sPart (sC (.int 1))))) (sCons (s2 addA (sNew (sLst (sCons (sTup (sCons (sC (.int 0)) (sCons (sTup (sCons (sC (.int 5)) (sCons (sC (.int 6)) sNil))) sNil))) sNil))) (sSlA (sVar 6) (sPart (sC (.int 1))) sNoPart)) (sCons (s2 addA (sNew (sLst (sCons (sTup (sCons (sC (.int 5)) (sCons (sTup (sCons (sC (.int 5)) (sCons (sC (.int 6)) sNil))) sNil))) sNil))) (sVar 6)) sNil))))))) (gN 7))
    (sSeq (sDrop (sAppend (sVar 7) (s2 addA (sVar 6) (sNew (sLst (sCons (sTup (sCons (sC (.int 2)) (sCons (sTup (sCons (sC (.int 1)) sNil)) sNil))) sNil))))))
    (sSeq (sAsg (s2 addA (sVar 7) (sNew (sLst (sCons (s2 addA (sVar 6) (sNew (sLst (sCons (sTup (sCons (sC (.int 2)) (sCons (sTup (sCons (sC (.int 1)) (sCons (sC (.int 2)) (sCons (sC (.int 3)) sNil)))) sNil))) sNil)))) (sCons (s2 addA (sVar 6) (sNew (sLst (sCons (sTup (sCons (sC (.int 2)) (sCons (sNew (sLst (sCons (sC (.int 1)) (sCons (sC (.int 2)) sNil)))) sNil))) sNil)))) (sCons (s2 addA (sVar 6) (sNew (sLst (sCons (sTup (sCons (sC (.int 2)) (sCons (sTup (sCons (sC (.int 1)) (sCons (sC (.int 101)) sNil))) sNil))) sNil)))) (sCons (s2 addA (sVar 6) (sNew (sLst (sCons (sTup (sCons (sC (.bl true)) (sCons (sTup (sCons (sC (.int 1)) (sCons (sC (.int 2)) sNil))) sNil))) sNil)))) sNil))))))) (gN 7))
    (sSeq (sAsg (s2 addA (sVar 7) (sNew (sLst (sCons (s2 addA (sVar 6) (sNew (sLst (sCons (sC .non) sNil)))) (sCons (s2 addA (sVar 6) (sNew (sLst (sCons (sTup (sCons (sC (.int 2)) sNil)) sNil)))) (sCons (sC .non) (sCons (sC (.str "ab")) (sCons (s2 addA (sVar 6) (sNew (sLst (sCons (sTup (sCons (sC (.int 2)) (sCons (sTup (sCons (sC (.int 1)) (sCons (sNeg (sC (.int 1))) sNil))) sNil))) sNil)))) (sCons (s2 addA (sVar 6) (sNew (sLst (sCons (sTup (sCons (sC (.int 2)) (sCons (sTup (sCons (sC (.str "1")) (sCons (sC (.int 2)) sNil))) sNil))) sNil)))) sNil))))))))) (gN 7))
    (sSeq (sAsg (s2 getF (sVar 7) (sFn 2 M_law_draw [] (sCons (sVar 1) (sCons (sCall lenA (sCons (sVar 7) sNil)) sNil)))) (gN 8))
    (sSeq (sAsg (sFn 2 M_law_pick [] (sCons (sVar 1) (sCons (sNew (sLst (sCons (sC .non) (sCons (sNeg (sC (.int 1))) (sCons (sC (.bl true)) (sCons (sC (.str "3")) (sCons (sTup (sCons (sC (.int 3)) sNil)) sNil))))))) sNil))) (gN 9))
    (sSeq (sFor (sSnap (sLst (sCons (sC (.int 2)) (sCons (sC (.int 3)) sNil)))) (gN 5) (sSeq (sIf (sTest (s2 neF (sFn 4 M_law_told [] (sCons (sVar 5) (sCons (sVar 8) (sCons (sVar 9) (sCons (sVar 2) sNil))))) (sTup (sCons (sC (.str "count")) (sCons (sCall reprA (sCons (sVar 9) sNil)) sNil)))))
    (sRet (sC (.bl false)))
    sNext)
    (sSeq (sIf (sTest (s2 neF (sFn 4 M_law_told [] (sCons (sVar 5) (sCons (sVar 8) (sCons (sFn 2 M_law_pick [] (sCons (sVar 1) (sCons (sNew (sLst (sCons (sC (.int 3)) (sCons (sC (.int 4)) sNil)))) sNil))) (sCons (sVar 2) sNil))))) (sTup (sCons (sC (.str "pieces")) (sCons (sCall reprA (sCons (sVar 8) sNil)) sNil)))))
    (sRet (sC (.bl false)))
    sNext)
    (sSeq (sIf (sTest (s2 notF (sFn 4 M_law_told [] (sCons (sVar 5) (sCons (sVar 6) (sCons (sFn 2 M_law_pick [] (sCons (sVar 1) (sCons (sNew (sLst (sCons (sC (.int 3)) (sCons (sC (.int 4)) sNil)))) sNil))) (sCons (sVar 2) sNil))))) (sC .non)))
    (sRet (sC (.bl false)))
    sNext)
    (sIf (sTest (s2 neF (sFn 4 M_law_told [] (sCons (sVar 5) (sCons (sVar 6) (sCons (sFn 2 M_law_pick [] (sCons (sVar 1) (sCons (sNew (sLst (sCons (sC (.int 0)) (sCons (sC (.int 2)) (sCons (sC (.int 5)) sNil))))) sNil))) (sCons (sVar 2) sNil))))) (sTup (sCons (sC (.str "pieces")) (sCons (sCall reprA (sCons (sVar 6) sNil)) sNil)))))
    (sRet (sC (.bl false)))
    sNext)))))
    (sSeq (sIf (sOr (sTest (sFn 3 M_agree_on [] (sCons (sVar 6) (sCons (sC (.int 3)) (sCons (sVar 2) sNil))))) (sOr (sNot (sTest (sFn 3 M_agree_on [] (sCons (sVar 6) (sCons (sC (.int 4)) (sCons (sVar 2) sNil)))))) (sTest (s2 neF (sFn 3 M_letters_of [] (sCons (sVar 6) (sCons (sC (.int 3)) (sCons (sVar 2) sNil)))) (sTup (sCons (sC (.int 4)) (sCons (sC (.int 1)) (sCons (sC (.int 5)) sNil))))))))
    (sRet (sC (.bl false)))
    sNext)
    (sRet (sAndV (s2 eqF (sFn 3 M_letters_of [] (sCons (sNew (sLst (sCons (sTup (sCons (sC (.int 1)) (sCons (sTup sNil) sNil))) (sCons (sTup (sCons (sC (.int 2)) (sCons (sTup sNil) sNil))) sNil)))) (sCons (sC (.int 0)) (sCons (sVar 2) sNil)))) (sTup sNil)) (sFn 3 M_agree_on [] (sCons (sTup (sCons (sTup (sCons (sC (.int 4)) (sCons (sTup sNil) sNil))) (sCons (sTup (sCons (sC (.int 2)) (sCons (sTup sNil) sNil))) (sCons (sTup (sCons (sC (.int 1)) (sCons (sTup sNil) sNil))) sNil)))) (sCons (sC (.int 0)) (sCons (sVar 2) sNil)))))))))))))))))))))
def M_law : FA := defM 10 s_law
theorem ok_law {G : Gx} {f : Addr} {fd : FuncData} (F : Fun G.K "law" "law" st_law f fd) (b_len : G.mg "len" = none) (b_repr : G.mg "repr" = none) (c_law_pen_0 : CF G "_law_pen" 1 1 M_law_pen []) (c_Settings_init_0 : CM G "Settings" "Settings" 3 9 M_Settings_init []) (c_law_pick_0 : CF G "_law_pick" 2 2 M_law_pick []) (c_law_told_0 : CF G "_law_told" 6 4 M_law_told []) (c_law_draw_0 : CF G "_law_draw" 1 2 M_law_draw []) (c_agree_on_0 : CF G "agree_on" 5 3 M_agree_on []) (c_letters_of_0 : CF G "letters_of" 5 3 M_letters_of []) :
    FnG G.P G.w G.K G.mg G.base (L2.CX G.P G.w) 7 f fd ["_law_script"] (spOf G.K G.cA 1 M_law) := fn_of' (k := 6) F sc_law fun cdv A outer s H E i =>
    (kss_cons (ks_asg (kc (i := i) c_law_pen_0 (by decide) (by rfl) (ka_cons (kv 0) ka_nil)) (gn 1 sc_law.nd))
    (kss_cons (ks_asg (km (i := i) c_Settings_init_0 (by decide) (by rfl) (ka_cons ke_int (ka_cons ke_int (ka_cons ke_int (ka_cons ke_int (ka_cons ke_int (ka_cons ke_int (ka_cons ke_int (ka_cons ke_int ka_nil))))))))) (gn 2 sc_law.nd))
    (kss_cons (ks_asg (kc (i := i) c_law_pick_0 (by decide) (by rfl) (ka_cons (kv 1) (ka_cons (ke_new (kl_lst (ka_cons ke_non (ka_cons ke_int (ka_cons ke_str (ka_cons (ke_tup (ka_cons ke_int (ka_cons ke_int ka_nil))) (ka_cons (ke_new (kl_lst (ka_cons ke_int (ka_cons (ke_neg ke_int) ka_nil)))) (ka_cons (ke_tup (ka_cons ke_bl ka_nil)) (ka_cons (ke_tup (ka_cons (ke_tup (ka_cons ke_int ka_nil)) ka_nil)) (ka_cons (ke_new (kl_lst (ka_cons ke_int (ka_cons ke_str ka_nil)))) (ka_cons (ke_dict i.hw i.hu10 (kps_cons ke_str ke_int kps_nil)) ka_nil))))))))))) ka_nil))) (gn 3 sc_law.nd))
    (kss_cons (ks_asg (kc (i := i) c_law_pick_0 (by decide) (by rfl) (ka_cons (kv 1) (ka_cons (ke_new (kl_lst (ka_cons ke_int (ka_cons ke_int (ka_cons (ke_neg ke_int) (ka_cons ke_non (ka_cons ke_bl (ka_cons ke_str (ka_cons (ke_tup (ka_cons ke_int ka_nil)) ka_nil))))))))) ka_nil))) (gn 4 sc_law.nd))
    (kss_cons (ks_for i.ow i.cm (ki_new (kl_lst (ka_cons ke_int (ka_cons ke_int ka_nil)))) (gn 5 sc_law.nd) (kss_one (ks_if (kb_cmp (ko_ne i.hu64) (kc (i := i) c_law_told_0 (by decide) (by rfl) (ka_cons (kv 5) (ka_cons (kv 3) (ka_cons (kv 4) (ka_cons (kv 2) ka_nil))))) (ke_tup (ka_cons ke_str (ka_cons (ke_callB (ck_reprA i.hw i.gu i.hu) (by rfl) b_repr (by decide +kernel) (ka_cons (kv 3) ka_nil)) ka_nil)))) (kss_one (ks_ret ke_bl)) kss_nil)))
    (kss_cons (ks_if (kb_cmp (ko_ne i.hu64) (kc (i := i) c_law_told_0 (by decide) (by rfl) (ka_cons ke_int (ka_cons (ke_new (kl_lst (ka_cons ke_int (ka_cons ke_int ka_nil)))) (ka_cons (kv 4) (ka_cons (kv 2) ka_nil))))) (ke_tup (ka_cons ke_str (ka_cons (ke_callB (ck_reprA i.hw i.gu i.hu) (by rfl) b_repr (by decide +kernel) (ka_cons (kv 4) ka_nil)) ka_nil)))) (kss_one (ks_ret ke_bl)) kss_nil)
    (kss_cons (ks_asg (ke_new (kl_lst (ka_cons (ke_tup (ka_cons ke_int (ka_cons (ke_tup (ka_cons ke_int (ka_cons ke_int ka_nil))) ka_nil))) (ka_cons (ke_tup (ka_cons ke_int (ka_cons (ke_tup (ka_cons ke_int (ka_cons ke_int ka_nil))) ka_nil))) ka_nil)))) (gn 6 sc_law.nd))
    (kss_cons (ks_asg (ke_new (kl_lst (ka_cons (ke_new (kl_lst ka_nil)) (ka_cons (ke_sl (kv 6) ko_none (ko_some ke_int)) (ka_cons (ke_op ko_plusA (ke_sl (kv 6) ko_none (ko_some ke_int)) (ke_sl (kv 6) ko_none (ko_some ke_int))) (ka_cons (ke_op ko_plusA (ke_new (kl_lst (ka_cons (ke_tup (ka_cons ke_int (ka_cons (ke_tup (ka_cons ke_int (ka_cons ke_int ka_nil))) ka_nil))) ka_nil))) (ke_sl (kv 6) (ko_some ke_int) ko_none)) (ka_cons (ke_op ko_plusA (ke_new (kl_lst (ka_cons (ke_tup (ka_cons ke_int (ka_cons (ke_tup (ka_cons ke_int (ka_cons ke_int ka_nil))) ka_nil))) ka_nil))) (kv 6)) ka_nil))))))) (gn 7 sc_law.nd))
    (kss_cons (ks_expr (ke_append (kv 7) (ke_op ko_plusA (kv 6) (ke_new (kl_lst (ka_cons (ke_tup (ka_cons ke_int (ka_cons (ke_tup (ka_cons ke_int ka_nil)) ka_nil))) ka_nil))))))
    (kss_cons (ks_asg (ke_op ko_plusA (kv 7) (ke_new (kl_lst (ka_cons (ke_op ko_plusA (kv 6) (ke_new (kl_lst (ka_cons (ke_tup (ka_cons ke_int (ka_cons (ke_tup (ka_cons ke_int (ka_cons ke_int (ka_cons ke_int ka_nil)))) ka_nil))) ka_nil)))) (ka_cons (ke_op ko_plusA (kv 6) (ke_new (kl_lst (ka_cons (ke_tup (ka_cons ke_int (ka_cons (ke_new (kl_lst (ka_cons ke_int (ka_cons ke_int ka_nil)))) ka_nil))) ka_nil)))) (ka_cons (ke_op ko_plusA (kv 6) (ke_new (kl_lst (ka_cons (ke_tup (ka_cons ke_int (ka_cons (ke_tup (ka_cons ke_int (ka_cons ke_int ka_nil))) ka_nil))) ka_nil)))) (ka_cons (ke_op ko_plusA (kv 6) (ke_new (kl_lst (ka_cons (ke_tup (ka_cons ke_bl (ka_cons (ke_tup (ka_cons ke_int (ka_cons ke_int ka_nil))) ka_nil))) ka_nil)))) ka_nil))))))) (gn 7 sc_law.nd))
    (kss_cons (ks_asg (ke_op ko_plusA (kv 7) (ke_new (kl_lst (ka_cons (ke_op ko_plusA (kv 6) (ke_new (kl_lst (ka_cons ke_non ka_nil)))) (ka_cons (ke_op ko_plusA (kv 6) (ke_new (kl_lst (ka_cons (ke_tup (ka_cons ke_int ka_nil)) ka_nil)))) (ka_cons ke_non (ka_cons ke_str (ka_cons (ke_op ko_plusA (kv 6) (ke_new (kl_lst (ka_cons (ke_tup (ka_cons ke_int (ka_cons (ke_tup (ka_cons ke_int (ka_cons (ke_neg ke_int) ka_nil))) ka_nil))) ka_nil)))) (ka_cons (ke_op ko_plusA (kv 6) (ke_new (kl_lst (ka_cons (ke_tup (ka_cons ke_int (ka_cons (ke_tup (ka_cons ke_str (ka_cons ke_int ka_nil))) ka_nil))) ka_nil)))) ka_nil))))))))) (gn 7 sc_law.nd))
    (kss_cons (ks_asg (ke_ix (ik_get i.hw i.hu10) (kv 7) (kc (i := i) c_law_draw_0 (by decide) (by rfl) (ka_cons (kv 1) (ka_cons (ke_callB (ck_lenA i.hw) (by rfl) b_len (by decide +kernel) (ka_cons (kv 7) ka_nil)) ka_nil)))) (gn 8 sc_law.nd))
    (kss_cons (ks_asg (kc (i := i) c_law_pick_0 (by decide) (by rfl) (ka_cons (kv 1) (ka_cons (ke_new (kl_lst (ka_cons ke_non (ka_cons (ke_neg ke_int) (ka_cons ke_bl (ka_cons ke_str (ka_cons (ke_tup (ka_cons ke_int ka_nil)) ka_nil))))))) ka_nil))) (gn 9 sc_law.nd))
    (kss_cons (ks_for i.ow i.cm (ki_new (kl_lst (ka_cons ke_int (ka_cons ke_int ka_nil)))) (gn 5 sc_law.nd) (kss_cons (ks_if (kb_cmp (ko_ne i.hu64) (kc (i := i) c_law_told_0 (by decide) (by rfl) (ka_cons (kv 5) (ka_cons (kv 8) (ka_cons (kv 9) (ka_cons (kv 2) ka_nil))))) (ke_tup (ka_cons ke_str (ka_cons (ke_callB (ck_reprA i.hw i.gu i.hu) (by rfl) b_repr (by decide +kernel) (ka_cons (kv 9) ka_nil)) ka_nil)))) (kss_one (ks_ret ke_bl)) kss_nil)
    (kss_cons (ks_if (kb_cmp (ko_ne i.hu64) (kc (i := i) c_law_told_0 (by decide) (by rfl) (ka_cons (kv 5) (ka_cons (kv 8) (ka_cons (kc (i := i) c_law_pick_0 (by decide) (by rfl) (ka_cons (kv 1) (ka_cons (ke_new (kl_lst (ka_cons ke_int (ka_cons ke_int ka_nil)))) ka_nil))) (ka_cons (kv 2) ka_nil))))) (ke_tup (ka_cons ke_str (ka_cons (ke_callB (ck_reprA i.hw i.gu i.hu) (by rfl) b_repr (by decide +kernel) (ka_cons (kv 8) ka_nil)) ka_nil)))) (kss_one (ks_ret ke_bl)) kss_nil)
    (kss_cons (ks_if (kb_cmp ko_isnot (kc (i := i) c_law_told_0 (by decide) (by rfl) (ka_cons (kv 5) (ka_cons (kv 6) (ka_cons (kc (i := i) c_law_pick_0 (by decide) (by rfl) (ka_cons (kv 1) (ka_cons (ke_new (kl_lst (ka_cons ke_int (ka_cons ke_int ka_nil)))) ka_nil))) (ka_cons (kv 2) ka_nil))))) ke_non) (kss_one (ks_ret ke_bl)) kss_nil)
    (kss_one (ks_if (kb_cmp (ko_ne i.hu64) (kc (i := i) c_law_told_0 (by decide) (by rfl) (ka_cons (kv 5) (ka_cons (kv 6) (ka_cons (kc (i := i) c_law_pick_0 (by decide) (by rfl) (ka_cons (kv 1) (ka_cons (ke_new (kl_lst (ka_cons ke_int (ka_cons ke_int (ka_cons ke_int ka_nil))))) ka_nil))) (ka_cons (kv 2) ka_nil))))) (ke_tup (ka_cons ke_str (ka_cons (ke_callB (ck_reprA i.hw i.gu i.hu) (by rfl) b_repr (by decide +kernel) (ka_cons (kv 6) ka_nil)) ka_nil)))) (kss_one (ks_ret ke_bl)) kss_nil))))))
    (kss_cons (ks_if (kb_w (kw_or (kb_val (kc (i := i) c_agree_on_0 (by decide) (by rfl) (ka_cons (kv 6) (ka_cons ke_int (ka_cons (kv 2) ka_nil))))) (kw_or (kb_not (kb_val (kc (i := i) c_agree_on_0 (by decide) (by rfl) (ka_cons (kv 6) (ka_cons ke_int (ka_cons (kv 2) ka_nil)))))) (kw_or1 (kb_cmp (ko_ne i.hu64) (kc (i := i) c_letters_of_0 (by decide) (by rfl) (ka_cons (kv 6) (ka_cons ke_int (ka_cons (kv 2) ka_nil)))) (ke_tup (ka_cons ke_int (ka_cons ke_int (ka_cons ke_int ka_nil))))))))) (kss_one (ks_ret ke_bl)) kss_nil)
    (kss_one (ks_ret (ke_and (ke_cmp (ko_eq i.hu64) (kc (i := i) c_letters_of_0 (by decide) (by rfl) (ka_cons (ke_new (kl_lst (ka_cons (ke_tup (ka_cons ke_int (ka_cons (ke_tup ka_nil) ka_nil))) (ka_cons (ke_tup (ka_cons ke_int (ka_cons (ke_tup ka_nil) ka_nil))) ka_nil)))) (ka_cons ke_int (ka_cons (kv 2) ka_nil)))) (ke_tup ka_nil)) (ke_one (kc (i := i) c_agree_on_0 (by decide) (by rfl) (ka_cons (ke_tup (ka_cons (ke_tup (ka_cons ke_int (ka_cons (ke_tup ka_nil) ka_nil))) (ka_cons (ke_tup (ka_cons ke_int (ka_cons (ke_tup ka_nil) ka_nil))) (ka_cons (ke_tup (ka_cons ke_int (ka_cons (ke_tup ka_nil) ka_nil))) ka_nil)))) (ka_cons ke_int (ka_cons (kv 2) ka_nil)))))))))))))))))))))))
end Kq
end
set_option maxHeartbeats 8000000
noncomputable section
namespace Kq
open PySem PySem.Spec L2 Kf
/-- a pen at p: its cells at c -/
def penO (c : Nat) (at' dg ct fo : Int) : O := .dict [(.str "cells", .ref c), (.str "at", .int at'), (.str "digits", .int dg), (.str "count", .int ct), (.str "fold", .int fo)]
structure IsPen (h : Hd) (p c n : Nat) : Prop where
  ex : ∃ (cells : List Int) (at' dg ct fo : Int), lk h p = some (penO c at' dg ct fo) ∧ lk h c = some (.lst (cells.map D.int)) ∧ c ≠ p ∧ 0 ≤ at' ∧ at' ≤ cells.length ∧ 0 ≤ dg ∧ 0 ≤ ct ∧ ct ≤ n ∧ 0 ≤ fo ∧ fo < 2147483648
theorem atI_map {cells : List Int} {i : Int} (h0 : 0 ≤ i) (h1 : i < cells.length) : atI (cells.map D.int) i = some (.int (cells[i.toNat]'(by omega))) := by
  unfold atI ixN
  rw [if_pos h0, if_pos (by simpa using h1)]
  simp
def drawC : SS :=
    (sSeq (sIf (sTest (s2 gtF (s2 getF (sVar 0) (sC (.str "digits"))) (sC (.int 0))))
    (sSeq (sAsg (s2 modF (sCall intF (sCons (s2 getF (sVar 0) (sC (.str "digits"))) sNil)) (sVar 1)) (gN 3))
    (sSeq (sAsg (s2 fdivF (s2 getF (sVar 0) (sC (.str "digits"))) (sVar 1)) (gSub' (sVar 0) (sC (.str "digits")) setF))
    (sRet (sVar 3))))
    sNext)
    (sSeq (sAsg (s2 addA (s2 addA (s2 getF (sVar 0) (sC (.str "fold"))) (s2 mulB (s2 getF (sVar 0) (sC (.str "count"))) (sC (.int 7907)))) (sC (.int 37))) (gN 4))
    (sRet (s2 modF (s2 fdivF (sCall intF (sCons (s2 modF (s2 powF (sVar 4) (sC (.int 17))) (sC (.int 2305843009213693951))) sNil)) (sC (.int 128))) (sVar 1)))))
def s_law_drawA : SS := (sAsg (s2 addA (s2 getF (sVar 0) (sC (.str "count"))) (sC (.int 1))) (gSub' (sVar 0) (sC (.str "count")) setF))
def s_law_drawB : SS := (sIf (sAnd (sTest (s2 eqF (s2 getF (sVar 0) (sC (.str "digits"))) (sC (.int 0)))) (sTest (s2 ltF (s2 getF (sVar 0) (sC (.str "at"))) (sCall lenA (sCons (s2 getF (sVar 0) (sC (.str "cells"))) sNil)))))
    (sSeq (sAsg (s2 getF (s2 getF (sVar 0) (sC (.str "cells"))) (s2 getF (sVar 0) (sC (.str "at")))) (gN 2))
    (sSeq (sAsg (s2 addA (s2 getF (sVar 0) (sC (.str "at"))) (sC (.int 1))) (gSub' (sVar 0) (sC (.str "at")) setF))
    (sIf (sTest (s2 geF (sVar 2) (s2 powF (sC (.int 10)) (sC (.int 18)))))
    (sAsg (s2 (f2I yes2 fun i j => .int (i - j)) (sVar 2) (s2 powF (sC (.int 10)) (sC (.int 18)))) (gSub' (sVar 0) (sC (.str "digits")) setF))
    (sAsg (s2 modF (sCall intF (sCons (s2 addA (s2 mulB (s2 getF (sVar 0) (sC (.str "fold"))) (sC (.int 69069))) (sVar 2)) sNil)) (sC (.int 2147483587))) (gSub' (sVar 0) (sC (.str "fold")) setF)))))
    sNext)
theorem draw_tr {h : Hd} {p c n : Nat} (P : IsPen h p c n) (hn : n < 1000000000) {many : Int} (h0 : 0 < many) (h1 : many < 1073741824) {Q : D → Hd → Prop}
    (kQ : ∀ (r : Int) (o : O), 0 ≤ r → r < many → IsPen (h.set p o) p c (n + 1) → Q (.int r) (h.set p o)) : Tr (M_law_draw [.ref p, .int many] h) Q := by
  obtain ⟨cells, at', dg, ct, fo, e1, e2, hc, a0, a1, d0, c0, c1, f0, f1⟩ := P.ex
  unfold penO at e1
  have hp := lk_lt e1
  have hcp : ¬ p = c := fun z => hc z.symm
  have pen : ∀ (at2 dg2 fo2 : Int), 0 ≤ at2 → at2 ≤ cells.length → 0 ≤ dg2 → 0 ≤ fo2 → fo2 < 2147483648 → IsPen (h.set p (penO c at2 dg2 (ct + 1) fo2)) p c (n + 1) := fun at2 dg2 fo2 q3 q4 q5 q6 q7 =>
    ⟨cells, at2, dg2, ct + 1, fo2, by simp [hp], by simp [hcp, e2], hc, q3, q4, q5, by omega, by omega, q6, q7⟩
  have m0 : ∀ x : Int, 0 ≤ x % many := fun x => Int.emod_nonneg _ (by omega)
  have m1 : ∀ x : Int, x % many < many := fun x => Int.emod_lt_of_pos _ h0
  have key : ∀ (at2 dg2 fo2 : Int) (u : Option D), 0 ≤ at2 → at2 ≤ cells.length → 0 ≤ dg2 → 0 ≤ fo2 → fo2 < 2147483648 → Tr (finR (drawC [some (.ref p), some (.int many), u, none, none] (h.set p (penO c at2 dg2 (ct + 1) fo2))))
      Q := by
    intro at2 dg2 fo2 u q3 q4 q5 q6 q7
    have := pen at2 dg2 fo2 q3 q4 q5 q6 q7
    have := pen at2 (dg2 / many) fo2 q3 q4 (Int.ediv_nonneg q5 (by omega)) q6 q7
    unfold penO at *
    by_cases hd : 0 < dg2
    · simp (disch := omega) [drawC, hp, hd, LIM_eq, dput, dhas]
      exact kQ _ _ (m0 _) (m1 _) (by assumption)
    · simp (disch := omega) [drawC, hp, hd, LIM_eq, dput, dhas]
      exact kQ _ _ (m0 _) (m1 _) (by assumption)
  have enter : ∀ Q, (Tr (finR (andThen (s_law_drawA [some (.ref p), some (.int many), none, none, none] h) (sSeq s_law_drawB drawC))) Q) → Tr (M_law_draw [.ref p, .int many] h) Q := fun Q z => z
  apply enter
  have eA : s_law_drawA [some (.ref p), some (.int many), none, none, none] h = .ok (.nx [some (.ref p), some (.int many), none, none, none]) (h.set p (penO c at' dg (ct + 1) fo)) := by
    unfold penO
    simp (disch := omega) [s_law_drawA, e1, hp, LIM_eq, dput, dhas]
  rw [eA, andThen_nx, ev_seq]
  by_cases hd : dg = 0
  · by_cases ha : at' < cells.length
    · have ea := atI_map a0 ha
      generalize cells[at'.toNat]'(by omega) = cell at ea
      by_cases hb : cell < 1000000000000000000
      · have := key (at' + 1) 0 ((fo * 69069 + cell) % 2147483587) (some (.int cell)) (by omega) (by omega) (by omega) (by omega) (by omega)
        unfold penO at *
        simp (disch := omega) [s_law_drawB, hp, LIM_eq, dput, dhas, hd, ha, ea, hb, hcp, e2]
        exact this
      · have := key (at' + 1) (cell - 1000000000000000000) fo (some (.int cell)) (by omega) (by omega) (by omega) (by omega) (by omega)
        unfold penO at *
        simp (disch := omega) [s_law_drawB, hp, LIM_eq, dput, dhas, hd, ha, ea, hb, hcp, e2]
        exact this
    · have := key at' 0 fo none (by omega) (by omega) (by omega) (by omega) (by omega)
      unfold penO at *
      simp (disch := omega) [s_law_drawB, hp, LIM_eq, dput, dhas, hd, ha, hcp, e2]
      exact this
  · have := key at' dg fo none (by omega) (by omega) (by omega) (by omega) (by omega)
    unfold penO at *
    simp (disch := omega) [s_law_drawB, hp, LIM_eq, dput, dhas, hd, hcp, e2]
    exact this
theorem draw_ex {h : Hd} {p c n : Nat} (P : IsPen h p c n) (hn : n < 1000000000) {many : Int} (h0 : 0 < many) (h1 : many < 1073741824) :
    ∃ (r : Int) (o : O), M_law_draw [.ref p, .int many] h = .ok (.int r) (h.set p o) ∧ 0 ≤ r ∧ r < many ∧ IsPen (h.set p o) p c (n + 1) := by
  obtain ⟨a, h', e, r, o, e1, e2, q⟩ := (draw_tr P hn h0 h1 (Q := fun d h' => ∃ (r : Int) (o : O), d = .int r ∧ h' = h.set p o ∧ 0 ≤ r ∧ r < many ∧ IsPen (h.set p o) p c (n + 1)) fun r o a b q => ⟨r, o, rfl, rfl, a, b, q⟩).get
  subst e1 e2
  exact ⟨r, o, e, q⟩
theorem IsPen.lt {h : Hd} {p c n : Nat} (P : IsPen h p c n) : p < h.length := by
  obtain ⟨cells, at', dg, ct, fo, e1, _⟩ := P.ex
  exact lk_lt e1
theorem IsPen.ltc {h : Hd} {p c n : Nat} (P : IsPen h p c n) : c < h.length := by
  obtain ⟨cells, at', dg, ct, fo, _, e1, _⟩ := P.ex
  exact lk_lt e1
theorem IsPen.ne {h : Hd} {p c n : Nat} (P : IsPen h p c n) : c ≠ p := by
  obtain ⟨cells, at', dg, ct, fo, _, _, e1, _⟩ := P.ex
  exact e1
theorem IsPen.mono {h h' : Hd} {p c n n' : Nat} (P : IsPen h p c n) (hn : n ≤ n') (e1 : lk h' p = lk h p) (e2 : lk h' c = lk h c) : IsPen h' p c n' := by
  obtain ⟨cells, at', dg, ct, fo, q1, q2, q3, q4, q5, q6, q7, q8, q9⟩ := P.ex
  exact ⟨cells, at', dg, ct, fo, by rw [e1, q1], by rw [e2, q2], q3, q4, q5, q6, q7, by omega, q9⟩
/-- what stays: all but the places T -/
structure Fr (T : List Nat) (h h' : Hd) : Prop where
  len : h.length ≤ h'.length
  at_ : ∀ m, m < h.length → m ∉ T → lk h' m = lk h m
theorem Fr.refl {T : List Nat} {h : Hd} : Fr T h h := ⟨Nat.le_refl _, fun _ _ _ => rfl⟩
theorem Fr.trans {T : List Nat} {h h' h'' : Hd} (a : Fr T h h') (b : Fr T h' h'') : Fr T h h'' := ⟨Nat.le_trans a.len b.len, fun m hm hT => (b.at_ m (Nat.lt_of_lt_of_le hm a.len) hT).trans (a.at_ m hm hT)⟩
theorem Fr.sub {T T' : List Nat} {h h' : Hd} (a : Fr T h h') (s : ∀ m, m ∈ T → m ∈ T') : Fr T' h h' := ⟨a.len, fun m hm hT => a.at_ m hm fun z => hT (s m z)⟩
theorem Fr.get {T : List Nat} {h h' : Hd} {m : Nat} {o : O} (a : Fr T h h') (e : lk h m = some o) (hT : m ∉ T) : lk h' m = some o := (a.at_ m (lk_lt e) hT).trans e
theorem Fr.set {T : List Nat} {h : Hd} {p : Nat} {o : O} (hp : p ∈ T) : Fr T h (h.set p o) := ⟨by simp, fun m _ hT => by
  rw [lk_set, if_neg]
  intro z; subst z; exact hT hp⟩
theorem Fr.app {T : List Nat} {h : Hd} {o : O} : Fr T h (h ++ [o]) := ⟨by simp, fun m hm _ => by rw [lk_app, if_pos hm]⟩
theorem Fr.pen {h h' : Hd} {T : List Nat} {p c n : Nat} (a : Fr T h h') (P : IsPen h p c n) (h1 : p ∉ T) (h2 : c ∉ T) : IsPen h' p c n := P.mono (Nat.le_refl _) (a.at_ p P.lt h1) (a.at_ c P.ltc h2)
/-! ### flat data -/
def Dk (k : Nat) (d : D) : Prop := ∃ q, ∀ h n, k ≤ n → py h n d = some q
theorem Dk.up {k j : Nat} {d : D} (h : Dk k d) (e : k ≤ j) : Dk j d := by
  obtain ⟨q, z⟩ := h
  exact ⟨q, fun h n hn => z h n (by omega)⟩
theorem dk_int {i : Int} : Dk 1 (.int i) := ⟨.int i, fun h n hn => by cases n with | zero => omega | succ n => rfl⟩
theorem dk_str {i : String} : Dk 1 (.str i) := ⟨.str (Str.ofString i), fun h n hn => by cases n with | zero => omega | succ n => rfl⟩
theorem dk_bl {i : Bool} : Dk 1 (.bl i) := ⟨.bool i, fun h n hn => by cases n with | zero => omega | succ n => rfl⟩
theorem dk_non : Dk 1 .non := ⟨.none, fun h n hn => by cases n with | zero => omega | succ n => rfl⟩
theorem dk_all {k : Nat} : ∀ {ds : List D}, (∀ d ∈ ds, Dk k d) → ∃ qs, ∀ h n, k ≤ n → allS (ds.map (py h n)) = some qs
  | [], _ => ⟨[], fun _ _ _ => rfl⟩
  | d :: ds, z => by
    obtain ⟨q, e⟩ := z d List.mem_cons_self
    obtain ⟨qs, es⟩ := dk_all fun x hx => z x (List.mem_cons_of_mem _ hx)
    refine ⟨q :: qs, fun h n hn => ?_⟩
    rw [List.map_cons, e h n hn]
    show (allS (ds.map (py h n))).map (q :: ·) = _
    rw [es h n hn]; rfl
theorem dk_tup {k : Nat} {ds : List D} (z : ∀ d ∈ ds, Dk k d) : Dk (k + 1) (.tup ds) := by
  obtain ⟨qs, e⟩ := dk_all z
  refine ⟨.tuple qs, fun h n hn => ?_⟩
  obtain ⟨m, rfl⟩ : ∃ m, n = m + 1 := ⟨n - 1, by omega⟩
  show (allS (ds.map (py h m))).map PyData.tuple = _
  rw [e h m (by omega)]; rfl
/-- a value of the menus: flat data, or a list of such -/
inductive Val (h : Hd) : D → Prop where
  | flat {d : D} : Dk 10 d → Val h d
  | lst {m : Nat} {ds : List D} : lk h m = some (.lst ds) → (∀ d ∈ ds, Dk 10 d) → Val h (.ref m)
theorem Val.fr {h h' : Hd} {T : List Nat} {d : D} (v : Val h d) (f : Fr T h h') (hT : ∀ m, d = .ref m → m ∉ T) : Val h' d := by
  cases v with
  | flat k => exact .flat k
  | @lst m ds e k => exact .lst (f.get e (hT m rfl)) k
/-! ### a pick -/
theorem atI_mem {ds : List D} {i : Int} (h0 : 0 ≤ i) (h1 : i < ds.length) : ∃ d, atI ds i = some d ∧ d ∈ ds := by
  unfold atI ixN
  rw [if_pos h0, if_pos (by simpa using h1)]
  have : i.toNat < ds.length := by omega
  exact ⟨ds[i.toNat], by simp [this], List.getElem_mem _⟩
theorem pick_ex {h : Hd} {p c n m : Nat} (P : IsPen h p c n) (hn : n < 1000000000) {ds : List D} (e : lk h m = some (.lst ds)) (hm : m ≠ p) (h0 : 0 < ds.length) (h1 : ds.length < 1000000) :
    ∃ (d : D) (o : O), M_law_pick [.ref p, .ref m] h = .ok d (h.set p o) ∧ d ∈ ds ∧ IsPen (h.set p o) p c (n + 1) := by
  obtain ⟨r, o, e1, r0, r1, P1⟩ := draw_ex P hn (many := (ds.length : Int)) (by omega) (by omega)
  obtain ⟨d, ed, hd⟩ := atI_mem r0 r1
  refine ⟨d, o, ?_, hd, P1⟩
  have hpm : ¬ p = m := fun z => hm z.symm
  simp [M_law_pick, defM_ev, s_law_pick, startD, e, e1, hpm, ed, guard_true]
end Kq
end
set_option maxHeartbeats 8000000
noncomputable section
namespace Kq
open PySem PySem.Spec L2 Kf
@[simp] theorem itOf_tup (ds : List D) (h : Hd) : itOf (.tup ds) h = some (.snap ds) := id rfl
@[simp] theorem itOf_fls (ds : List D) (h : Hd) : itOf (.fls ds) h = some (.snap ds) := id rfl
def ivO (o : Option O) (m : Nat) : Option ItD := match o with | some (.lst _) => some (.live m) | _ => none
@[simp] theorem itOf_ref (m : Nat) (h : Hd) : itOf (.ref m) h = ivO (lk h m) m := id rfl
@[simp] theorem ivO_lst (m : Nat) (ds : List D) : ivO (some (.lst ds)) m = some (.live m) := id rfl
@[simp] theorem loopItems_nil (g : SG) (b : SS) (env : En) (h : Hd) : loopItems g b [] env h = .ok (.nx env) h := id rfl
/-- a turn's end -/
def turnE (r : Rs) (k : En → Hd → Rs) : Rs := match r with
  | .ok (.nx env2) h2 => k env2 h2
  | .ok (.ct env2) h2 => k env2 h2
  | .ok (.brk env2) h2 => .ok (.nx env2) h2
  | r => r
@[simp] theorem turnE_nx (env : En) (h : Hd) (k : En → Hd → Rs) : turnE (.ok (.nx env) h) k = k env h := id rfl
@[simp] theorem turnE_ret (d : D) (h : Hd) (k : En → Hd → Rs) : turnE (.ok (.ret d) h) k = .ok (.ret d) h := id rfl
theorem loopItems_cons (g : SG) (b : SS) (d : D) (ds : List D) (env : En) (h : Hd) : loopItems g b (d :: ds) env h = (noX (g d env h)).lift env fun env1 h1 => turnE (b env1 h1) fun env2 h2 => loopItems g b ds env2 h2 := by
  conv => lhs; unfold loopItems
  congr
@[simp] theorem listF_fls (ds : List D) (h : Hd) : listF [.fls ds] h = .ok ds h := id rfl
@[simp] theorem listF_tup (ds : List D) (h : Hd) : listF [.tup ds] h = .ok ds h := id rfl
def itemsO (o : Option O) : Option (List D) := match o with | some (.lst ds) => some ds | _ => none
@[simp] theorem itemsO_lst (ds : List D) : itemsO (some (.lst ds)) = some ds := id rfl
@[simp] theorem listF_ref (m : Nat) (h : Hd) : listF [.ref m] h = onSome (itemsO (lk h m)) fun es => .ok es h := id rfl
@[simp] theorem tupF_ref (m : Nat) (h : Hd) : tupF [.ref m] h = onSome (itemsO (lk h m)) fun es => .ok (.tup es) h := id rfl
/-! ### the pen -/
def penB : SS := (sAsg (s2 modF (sCall intF (sCons (s2 addA (s2 mulB (sVar 1) (sC (.int 41))) (sVar 2)) sNil)) (sC (.int 1000000007))) (gN 1))
theorem pen_loop (a : Option D) (h : Hd) : ∀ (ns : List Int) (f : Int) (x : Option D), 0 ≤ f → f < 1000000007 → ∃ (f' : Int) (x' : Option D), 0 ≤ f' ∧ f' < 1000000007 ∧
    loopItems (gN 2) penB (ns.map D.int) [a, some (.int f), x] h = .ok (.nx [a, some (.int f'), x']) h
  | [], f, x, q1, q2 => ⟨f, x, q1, q2, rfl⟩
  | i :: ns, f, x, q1, q2 => by
    obtain ⟨f', x', r1, r2, r3⟩ := pen_loop a h ns ((f * 41 + i) % 1000000007) (some (.int i)) (by omega) (by omega)
    refine ⟨f', x', r1, r2, ?_⟩
    rw [List.map_cons, loopItems_cons]
    simp (disch := omega) [penB]
    exact r3
theorem pen_ex (ns : List Int) : ∃ h', M_law_pen [.fls (ns.map D.int)] [] = .ok (.ref 1) h' ∧ IsPen h' 1 0 0 ∧ h'.length = 2 := by
  obtain ⟨f, x, q1, q2, q3⟩ := pen_loop (some (.fls (ns.map D.int))) [] ns 0 none (by omega) (by omega)
  have e : M_law_pen [.fls (ns.map D.int)] [] = .ok (.ref 1) [.lst (ns.map D.int), penO 0 0 0 0 f] := by
    unfold penB at q3
    simp [M_law_pen, defM_ev, s_law_pen, startD, q3, guard_true, dmerge, dput, dhas, penO]
  exact ⟨_, e, ⟨ns, 0, 0, 0, f, rfl, rfl, by decide, by omega, by omega, by omega, by omega, by omega, q1, by omega⟩, rfl⟩
theorem comp_pure {it : ItD} {g : SG} {t : SB} {f : SE} {env : En} {h : Hd} {β : D → Bool} {φ : D → D} : ∀ (ds : List D) (m i n : Nat), (∀ j, nextD it h (i + j) = some ds[j]?) → ds.length < m → n + ds.length ≤ LIM →
    (∀ d ∈ ds, ∃ env1, g d env h = .ok env1 h ∧ t env1 h = .ok (β d) h ∧ (β d = true → f env1 h = .ok (φ d) h)) → compI it g t f env m i n h = .ok ((ds.filter β).map φ) h
  | [], m, i, n, hn, hm, _, _ => by
    obtain ⟨m, rfl⟩ : ∃ k, m = k + 1 := ⟨m - 1, by simp at hm; omega⟩
    unfold compI
    rw [show nextD it h i = some none by simpa using hn 0]
    rfl
  | d :: ds, m, i, n, hn, hm, hl, hp => by
    obtain ⟨m, rfl⟩ : ∃ k, m = k + 1 := ⟨m - 1, by simp at hm; omega⟩
    have hm' : ds.length < m := by simp at hm; omega
    have hl' : n + ds.length + 1 ≤ LIM := by simp at hl; omega
    have hn' : ∀ j, nextD it h (i + 1 + j) = some ds[j]? := fun j => by
      have := hn (j + 1)
      rw [show i + 1 + j = i + (j + 1) by omega]
      simpa using this
    have ih := fun n (q : n + ds.length ≤ LIM) => comp_pure ds m (i + 1) n hn' hm' q fun x hx => hp x (List.mem_cons_of_mem _ hx)
    obtain ⟨env1, e1, e2, e3⟩ := hp d List.mem_cons_self
    unfold compI
    rw [show nextD it h i = some (some d) by simpa using hn 0]
    dsimp only
    rw [e1, ev_nox, Res.bind_ok, e2, ev_nox, Res.bind_ok]
    cases hb : β d with
    | true =>
      rw [if_pos rfl, e3 hb, ev_nox, Res.bind_ok, if_pos (by omega), ih (n + 1) (by omega)]
      simp [List.filter_cons, hb]
    | false =>
      rw [if_neg (by simp), ih n (by omega)]
      simp [List.filter_cons, hb]
theorem comp_snapP {g : SG} {t : SB} {f : SE} {env : En} {h : Hd} {h1 : Hd} {β : D → Bool} {φ : D → D} (ds : List D) (hl : ds.length ≤ LIM)
    (hp : ∀ d ∈ ds, ∃ env1, g d env h = .ok env1 h ∧ t env1 h = .ok (β d) h ∧ (β d = true → f env1 h = .ok (φ d) h)) : compI (.snap ds) g t f env (turnsD (.snap ds) h1) 0 0 h = .ok ((ds.filter β).map φ) h :=
  comp_pure ds _ 0 0 (fun j => by rw [Nat.zero_add]; rfl) (Nat.lt_succ_self _) (by omega) hp
theorem comp_liveP {g : SG} {t : SB} {f : SE} {env : En} {h : Hd} {m : Nat} {β : D → Bool} {φ : D → D} (ds : List D) (e : lk h m = some (.lst ds)) (hl : ds.length ≤ LIM)
    (hp : ∀ d ∈ ds, ∃ env1, g d env h = .ok env1 h ∧ t env1 h = .ok (β d) h ∧ (β d = true → f env1 h = .ok (φ d) h)) : compI (.live m) g t f env (turnsD (.live m) h) 0 0 h = .ok ((ds.filter β).map φ) h := by
  have e' : h[m]? = some (.lst ds) := e
  refine comp_pure ds _ 0 0 (fun j => ?_) ?_ (by omega) hp
  · rw [Nat.zero_add]; simp [nextD, e']
  · simp [turnsD, e']
theorem rangeL_mem {n : Nat} {d : D} (h : d ∈ rangeL 0 n) : ∃ k : Nat, k < n ∧ d = .int k := by
  unfold rangeL at h
  simp at h
  obtain ⟨k, hk, rfl⟩ := h
  exact ⟨k, hk, by simp⟩
theorem rangeL_len (n : Nat) : (rangeL 0 n).length = n := by simp [rangeL]
theorem rangeL_dk {n : Nat} : ∀ d ∈ rangeL 0 n, Dk 1 d := fun d hd => by
  obtain ⟨k, _, rfl⟩ := rangeL_mem hd
  exact dk_int
/-- many draws -/
theorem comp_draws {p c : Nat} {a : En} {many : Int} (h0 : 0 < many) (h1 : many < 1073741824) (f : SE) (hf : ∀ env1 h, (∃ x, env1 = some (.ref p) :: x) → f env1 h = M_law_draw [.ref p, .int many] h) (i : Nat) (hi : 0 < i) : ∀ (ds : List D) (n k : Nat) (h : Hd), IsPen h p c n → n + ds.length < 1000000 → k + ds.length ≤ LIM →
    ∃ (o : O) (out : List Int), compItems (gN i) sYes f (some (.ref p) :: a) ds k h = .ok (out.map D.int) (h.set p o) ∧ out.length = ds.length ∧ IsPen (h.set p o) p c (n + ds.length)
  | [], n, k, h, P, _, _ => by
    obtain ⟨cells, at', dg, ct, fo, q1, _⟩ := P.ex
    refine ⟨penO c at' dg ct fo, [], ?_, rfl, ?_⟩
    · have : h.set p (penO c at' dg ct fo) = h := by
        apply List.ext_getElem?
        intro j
        have := lk_set h p j (penO c at' dg ct fo)
        unfold lk at this q1
        rw [this]
        by_cases e : p = j
        · subst e; rw [if_pos rfl, if_pos P.lt, q1]
        · rw [if_neg e]
      rw [this]; rfl
    · refine P.mono (by simp) ?_ ?_
      · rw [lk_set, if_pos rfl, if_pos P.lt, q1]
      · rw [lk_set, if_neg (fun z => P.ne z.symm)]
  | d :: ds, n, k, h, P, hn, hk => by
    simp only [List.length_cons] at hn hk
    obtain ⟨r, o, e1, r0, r1, P1⟩ := draw_ex P (by omega) h0 h1
    obtain ⟨o2, out, e2, e3, e4⟩ := comp_draws h0 h1 f hf i hi ds (n + 1) (k + 1) _ P1 (by omega) (by omega)
    refine ⟨o2, r :: out, ?_, by simp [e3], ?_⟩
    · unfold compItems
      have hg : (some (D.ref p) :: a).set i (some d) = some (.ref p) :: a.set (i - 1) (some d) := by
        obtain ⟨j, rfl⟩ : ∃ j, i = j + 1 := ⟨i - 1, by omega⟩
        rfl
      rw [ev_gN, ev_nox, Res.bind_ok, ev_yes, ev_nox, Res.bind_ok, if_pos rfl, hf _ _ ⟨_, hg⟩, e1, ev_nox, Res.bind_ok, if_pos (by omega), e2, Res.bind_ok, List.set_set]
      rfl
    · rw [List.set_set] at e4
      have : n + 1 + ds.length = n + (d :: ds).length := by simp; omega
      rw [← this]; exact e4
@[simp] theorem compItems_nil (g : SG) (t : SB) (f : SE) (env : En) (n : Nat) (h : Hd) : compItems g t f env [] n h = .ok [] h := id rfl
theorem comp_itemsP {g : SG} {t : SB} {f : SE} {env : En} {h : Hd} {β : D → Bool} {φ : D → D} (ds : List D) (hl : ds.length ≤ LIM)
    (hp : ∀ d ∈ ds, ∃ env1, g d env h = .ok env1 h ∧ t env1 h = .ok (β d) h ∧ (β d = true → f env1 h = .ok (φ d) h)) : compItems g t f env ds 0 h = .ok ((ds.filter β).map φ) h := by
  rw [← comp_snapP (h1 := h) ds hl hp, comp_snap0]
@[simp] theorem wipeD_one (env : En) (v : Nat) : wipeD env [v] = env.set v none := id rfl
@[simp] theorem wipeD_two (env : En) (v w : Nat) : wipeD env [v, w] = (env.set w none).set v none := id rfl
theorem lk_append (h l : Hd) (q : Nat) : lk (h ++ l) q = if q < h.length then lk h q else l[q - h.length]? := by
  unfold lk
  by_cases e : q < h.length
  · rw [if_pos e, List.getElem?_append_left e]
  · rw [if_neg e, List.getElem?_append_right (by omega)]
theorem drawF {h : Hd} {p c n : Nat} (P : IsPen h p c n) (hn : n < 1000000000) {many : Int} (h0 : 0 < many) (h1 : many < 1073741824) :
    ∃ (r : Int) (h' : Hd), M_law_draw [.ref p, .int many] h = .ok (.int r) h' ∧ 0 ≤ r ∧ r < many ∧ IsPen h' p c (n + 1) ∧ Fr [p] h h' := by
  obtain ⟨r, o, e, a, b, q⟩ := draw_ex P hn h0 h1
  exact ⟨r, _, e, a, b, q, .set (by simp)⟩
theorem pickF {h : Hd} {p c n m : Nat} (P : IsPen h p c n) (hn : n < 1000000000) {ds : List D} (e : lk h m = some (.lst ds)) (hm : m ≠ p) (h0 : 0 < ds.length) (h1 : ds.length < 1000000) :
    ∃ (d : D) (h' : Hd), M_law_pick [.ref p, .ref m] h = .ok d h' ∧ d ∈ ds ∧ IsPen h' p c (n + 1) ∧ Fr [p] h h' := by
  obtain ⟨d, o, e, a, q⟩ := pick_ex P hn e hm h0 h1
  exact ⟨d, _, e, a, q, .set (by simp)⟩
theorem Fr.apps {T : List Nat} {h l : Hd} : Fr T h (h ++ l) := ⟨by simp, fun m hm _ => by rw [lk_append, if_pos hm]⟩
@[simp] theorem addA_ref (m k : Nat) (h : Hd) : addA (.ref m) (.ref k) h = klO (lk h m) fun xs => klO (lk h k) fun ys => guard' (xs.length + ys.length ≤ LIM) (.ok (.ref h.length) (h ++ [.lst (xs ++ ys)])) := id rfl
/-- a loop whose turns all go on -/
theorem loop_inv {it : ItD} {g : SG} {b : SS} (I : Nat → En → Hd → Prop) (ds : List D) (hn : ∀ i env h, I i env h → nextD it h i = some ds[i]?)
    (hs : ∀ i env h d, ds[i]? = some d → I i env h → ∃ env1 h1, g d env h = .ok env1 h1 ∧ ∃ env2 h2, b env1 h1 = .ok (.nx env2) h2 ∧ I (i + 1) env2 h2) :
    ∀ m i env h, I i env h → ds.length < m + i → i ≤ ds.length → ∃ env' h', loopI it g b m i env h = .ok (.nx env') h' ∧ I ds.length env' h'
  | 0, i, env, h, _, l, l2 => absurd l (by omega)
  | m + 1, i, env, h, a, l, l2 => by
    unfold loopI
    rw [hn i env h a]
    by_cases hi : i < ds.length
    · rw [List.getElem?_eq_getElem hi]
      obtain ⟨env1, h1, e1, env2, h2, e2, a2⟩ := hs i env h _ (List.getElem?_eq_getElem hi) a
      obtain ⟨env', h', e3, a3⟩ := loop_inv I ds hn hs m (i + 1) env2 h2 a2 (by omega) (by omega)
      refine ⟨env', h', ?_, a3⟩
      dsimp only
      rw [e1, ev_nox, Res.lift_ok, e2]
      exact e3
    · rw [List.getElem?_eq_none (Nat.le_of_not_lt hi)]
      have : i = ds.length := by omega
      subst this
      exact ⟨env, h, rfl, a⟩
def kD (k : Nat) : D := .int (k : Int)
theorem atI_nat {ds : List D} {k : Nat} {d : D} (e : ds[k]? = some d) : atI ds (k : Int) = some d := by
  have hk := lt_of_get e
  unfold atI ixN
  rw [if_pos (by omega), if_pos (by omega)]
  simpa using e
theorem ixN_nat {n k : Nat} (h : k < n) : ixN n (k : Int) = some k := by
  unfold ixN
  rw [if_pos (by omega), if_pos (by omega)]
  simp
def stepE (o : Option (Option D)) (k0 : Rs) (k : D → Rs) : Rs := match o with | none => .stuck | some none => k0 | some (some d) => k d
@[simp] theorem stepE_end (k0 : Rs) (k : D → Rs) : stepE (some none) k0 k = k0 := id rfl
@[simp] theorem stepE_on (d : D) (k0 : Rs) (k : D → Rs) : stepE (some (some d)) k0 k = k d := id rfl
theorem loopI_ev (it : ItD) (g : SG) (b : SS) (n i : Nat) (env : En) (h : Hd) : loopI it g b (n + 1) i env h = stepE (nextD it h i) (.ok (.nx env) h) fun d => (noX (g d env h)).lift env fun env1 h1 => turnE (b env1 h1) fun env2 h2 => loopI it g b n (i + 1) env2 h2 := by
  conv => lhs; unfold loopI
  unfold stepE
  cases nextD it h i with
  | none => rfl
  | some o => cases o <;> rfl
def nvO (o : Option O) (i : Nat) : Option (Option D) := match o with | some (.lst ds) => some ds[i]? | _ => none
@[simp] theorem nextD_live (m : Nat) (h : Hd) (i : Nat) : nextD (.live m) h i = nvO (lk h m) i := id rfl
def nD : List D → Nat → Option D
  | [], _ => none
  | a :: _, 0 => some a
  | _ :: l, n + 1 => nD l n
theorem nD_get : ∀ (l : List D) (i : Nat), l[i]? = nD l i
  | [], _ => rfl
  | _ :: _, 0 => rfl
  | _ :: l, n + 1 => by rw [List.getElem?_cons_succ, nD_get l n]; rfl
@[simp] theorem nD_nil (n : Nat) : nD [] n = none := id rfl
@[simp] theorem nD_zero (a : D) (l : List D) : nD (a :: l) 0 = some a := id rfl
@[simp] theorem nD_succ (a : D) (l : List D) (n : Nat) : nD (a :: l) (n + 1) = nD l n := id rfl
@[simp] theorem nvO_lst (ds : List D) (i : Nat) : nvO (some (.lst ds)) i = some (nD ds i) := by rw [← nD_get]; rfl
@[simp] theorem eqF_non_int (i : Int) (h : Hd) : eqF .non (.int i) h = .ok (.bl false) h := by rfl
theorem isNon_non : isNonD .non = true := rfl
theorem isNon_int (i : Int) : isNonD (.int i) = false := rfl
theorem rangeL_kD (n : Nat) : rangeL 0 n = (List.range n).map kD := by
  unfold rangeL kD
  congr
  funext i
  simp
end Kq
end
set_option maxHeartbeats 8000000
noncomputable section
namespace Kq
open PySem PySem.Spec L2 Kf
theorem kq_NoneType_int : kitB "NoneType" "int" = some false := by decide +kernel
theorem kq_bool_int : kitB "bool" "int" = some true := by decide +kernel
theorem kq_int_int : kitB "int" "int" = some true := by decide +kernel
theorem kq_str_int : kitB "str" "int" = some false := by decide +kernel
theorem kq_tuple_int : kitB "tuple" "int" = some false := by decide +kernel
theorem kq_list_int : kitB "list" "int" = some false := by decide +kernel
theorem kq_NoneType_bool : kitB "NoneType" "bool" = some false := by decide +kernel
theorem kq_bool_bool : kitB "bool" "bool" = some true := by decide +kernel
theorem kq_int_bool : kitB "int" "bool" = some false := by decide +kernel
theorem kq_str_bool : kitB "str" "bool" = some false := by decide +kernel
theorem kq_tuple_bool : kitB "tuple" "bool" = some false := by decide +kernel
theorem kq_list_bool : kitB "list" "bool" = some false := by decide +kernel
theorem kq_NoneType_list : kitB "NoneType" "list" = some false := by decide +kernel
theorem kq_bool_list : kitB "bool" "list" = some false := by decide +kernel
theorem kq_int_list : kitB "int" "list" = some false := by decide +kernel
theorem kq_str_list : kitB "str" "list" = some false := by decide +kernel
theorem kq_tuple_list : kitB "tuple" "list" = some false := by decide +kernel
theorem kq_list_list : kitB "list" "list" = some true := by decide +kernel
theorem kq_NoneType_tuple : kitB "NoneType" "tuple" = some false := by decide +kernel
theorem kq_bool_tuple : kitB "bool" "tuple" = some false := by decide +kernel
theorem kq_int_tuple : kitB "int" "tuple" = some false := by decide +kernel
theorem kq_str_tuple : kitB "str" "tuple" = some false := by decide +kernel
theorem kq_tuple_tuple : kitB "tuple" "tuple" = some true := by decide +kernel
theorem kq_list_tuple : kitB "list" "tuple" = some false := by decide +kernel
@[simp] theorem isi_int_non (h : Hd) : isiF "int" .non h = .ok (.bl false) h := by
  show (onSome (kitB "NoneType" "int") fun b => (Res.ok (D.bl b) h : Res D)) = _
  rw [kq_NoneType_int]; rfl
@[simp] theorem isi_int_bl (b : Bool) (h : Hd) : isiF "int" (.bl b) h = .ok (.bl true) h := by
  show (onSome (kitB "bool" "int") fun b => (Res.ok (D.bl b) h : Res D)) = _
  rw [kq_bool_int]; rfl
@[simp] theorem isi_int_int (i : Int) (h : Hd) : isiF "int" (.int i) h = .ok (.bl true) h := by
  show (onSome (kitB "int" "int") fun b => (Res.ok (D.bl b) h : Res D)) = _
  rw [kq_int_int]; rfl
@[simp] theorem isi_int_str (s : String) (h : Hd) : isiF "int" (.str s) h = .ok (.bl false) h := by
  show (onSome (kitB "str" "int") fun b => (Res.ok (D.bl b) h : Res D)) = _
  rw [kq_str_int]; rfl
@[simp] theorem isi_int_raw (s : Str) (h : Hd) : isiF "int" (.raw s) h = .ok (.bl false) h := by
  show (onSome (kitB "str" "int") fun b => (Res.ok (D.bl b) h : Res D)) = _
  rw [kq_str_int]; rfl
@[simp] theorem isi_int_tup (ds : List D) (h : Hd) : isiF "int" (.tup ds) h = .ok (.bl false) h := by
  show (onSome (kitB "tuple" "int") fun b => (Res.ok (D.bl b) h : Res D)) = _
  rw [kq_tuple_int]; rfl
@[simp] theorem isi_int_fls (ds : List D) (h : Hd) : isiF "int" (.fls ds) h = .ok (.bl false) h := by
  show (onSome (kitB "list" "int") fun b => (Res.ok (D.bl b) h : Res D)) = _
  rw [kq_list_int]; rfl
theorem isi_int_ref {m : Nat} {ds : List D} {h : Hd} (e : lk h m = some (.lst ds)) : isiF "int" (.ref m) h = .ok (.bl false) h := by
  have e2 : tyD h (.ref m) = some "list" := by
    show (match lk h m with | some (.lst _) => some "list" | some (.dict _) => some "dict" | some (.lkd _) => some "dict" | _ => none) = _
    rw [e]
  unfold isiF
  rw [e2]
  show (onSome (kitB "list" "int") fun b => (Res.ok (D.bl b) h : Res D)) = _
  rw [kq_list_int]; rfl
@[simp] theorem isi_bool_non (h : Hd) : isiF "bool" .non h = .ok (.bl false) h := by
  show (onSome (kitB "NoneType" "bool") fun b => (Res.ok (D.bl b) h : Res D)) = _
  rw [kq_NoneType_bool]; rfl
@[simp] theorem isi_bool_bl (b : Bool) (h : Hd) : isiF "bool" (.bl b) h = .ok (.bl true) h := by
  show (onSome (kitB "bool" "bool") fun b => (Res.ok (D.bl b) h : Res D)) = _
  rw [kq_bool_bool]; rfl
@[simp] theorem isi_bool_int (i : Int) (h : Hd) : isiF "bool" (.int i) h = .ok (.bl false) h := by
  show (onSome (kitB "int" "bool") fun b => (Res.ok (D.bl b) h : Res D)) = _
  rw [kq_int_bool]; rfl
@[simp] theorem isi_bool_str (s : String) (h : Hd) : isiF "bool" (.str s) h = .ok (.bl false) h := by
  show (onSome (kitB "str" "bool") fun b => (Res.ok (D.bl b) h : Res D)) = _
  rw [kq_str_bool]; rfl
@[simp] theorem isi_bool_raw (s : Str) (h : Hd) : isiF "bool" (.raw s) h = .ok (.bl false) h := by
  show (onSome (kitB "str" "bool") fun b => (Res.ok (D.bl b) h : Res D)) = _
  rw [kq_str_bool]; rfl
@[simp] theorem isi_bool_tup (ds : List D) (h : Hd) : isiF "bool" (.tup ds) h = .ok (.bl false) h := by
  show (onSome (kitB "tuple" "bool") fun b => (Res.ok (D.bl b) h : Res D)) = _
  rw [kq_tuple_bool]; rfl
@[simp] theorem isi_bool_fls (ds : List D) (h : Hd) : isiF "bool" (.fls ds) h = .ok (.bl false) h := by
  show (onSome (kitB "list" "bool") fun b => (Res.ok (D.bl b) h : Res D)) = _
  rw [kq_list_bool]; rfl
theorem isi_bool_ref {m : Nat} {ds : List D} {h : Hd} (e : lk h m = some (.lst ds)) : isiF "bool" (.ref m) h = .ok (.bl false) h := by
  have e2 : tyD h (.ref m) = some "list" := by
    show (match lk h m with | some (.lst _) => some "list" | some (.dict _) => some "dict" | some (.lkd _) => some "dict" | _ => none) = _
    rw [e]
  unfold isiF
  rw [e2]
  show (onSome (kitB "list" "bool") fun b => (Res.ok (D.bl b) h : Res D)) = _
  rw [kq_list_bool]; rfl
@[simp] theorem isi_list_non (h : Hd) : isiF "list" .non h = .ok (.bl false) h := by
  show (onSome (kitB "NoneType" "list") fun b => (Res.ok (D.bl b) h : Res D)) = _
  rw [kq_NoneType_list]; rfl
@[simp] theorem isi_list_bl (b : Bool) (h : Hd) : isiF "list" (.bl b) h = .ok (.bl false) h := by
  show (onSome (kitB "bool" "list") fun b => (Res.ok (D.bl b) h : Res D)) = _
  rw [kq_bool_list]; rfl
@[simp] theorem isi_list_int (i : Int) (h : Hd) : isiF "list" (.int i) h = .ok (.bl false) h := by
  show (onSome (kitB "int" "list") fun b => (Res.ok (D.bl b) h : Res D)) = _
  rw [kq_int_list]; rfl
@[simp] theorem isi_list_str (s : String) (h : Hd) : isiF "list" (.str s) h = .ok (.bl false) h := by
  show (onSome (kitB "str" "list") fun b => (Res.ok (D.bl b) h : Res D)) = _
  rw [kq_str_list]; rfl
@[simp] theorem isi_list_raw (s : Str) (h : Hd) : isiF "list" (.raw s) h = .ok (.bl false) h := by
  show (onSome (kitB "str" "list") fun b => (Res.ok (D.bl b) h : Res D)) = _
  rw [kq_str_list]; rfl
@[simp] theorem isi_list_tup (ds : List D) (h : Hd) : isiF "list" (.tup ds) h = .ok (.bl false) h := by
  show (onSome (kitB "tuple" "list") fun b => (Res.ok (D.bl b) h : Res D)) = _
  rw [kq_tuple_list]; rfl
@[simp] theorem isi_list_fls (ds : List D) (h : Hd) : isiF "list" (.fls ds) h = .ok (.bl true) h := by
  show (onSome (kitB "list" "list") fun b => (Res.ok (D.bl b) h : Res D)) = _
  rw [kq_list_list]; rfl
theorem isi_list_ref {m : Nat} {ds : List D} {h : Hd} (e : lk h m = some (.lst ds)) : isiF "list" (.ref m) h = .ok (.bl true) h := by
  have e2 : tyD h (.ref m) = some "list" := by
    show (match lk h m with | some (.lst _) => some "list" | some (.dict _) => some "dict" | some (.lkd _) => some "dict" | _ => none) = _
    rw [e]
  unfold isiF
  rw [e2]
  show (onSome (kitB "list" "list") fun b => (Res.ok (D.bl b) h : Res D)) = _
  rw [kq_list_list]; rfl
@[simp] theorem isi_tuple_non (h : Hd) : isiF "tuple" .non h = .ok (.bl false) h := by
  show (onSome (kitB "NoneType" "tuple") fun b => (Res.ok (D.bl b) h : Res D)) = _
  rw [kq_NoneType_tuple]; rfl
@[simp] theorem isi_tuple_bl (b : Bool) (h : Hd) : isiF "tuple" (.bl b) h = .ok (.bl false) h := by
  show (onSome (kitB "bool" "tuple") fun b => (Res.ok (D.bl b) h : Res D)) = _
  rw [kq_bool_tuple]; rfl
@[simp] theorem isi_tuple_int (i : Int) (h : Hd) : isiF "tuple" (.int i) h = .ok (.bl false) h := by
  show (onSome (kitB "int" "tuple") fun b => (Res.ok (D.bl b) h : Res D)) = _
  rw [kq_int_tuple]; rfl
@[simp] theorem isi_tuple_str (s : String) (h : Hd) : isiF "tuple" (.str s) h = .ok (.bl false) h := by
  show (onSome (kitB "str" "tuple") fun b => (Res.ok (D.bl b) h : Res D)) = _
  rw [kq_str_tuple]; rfl
@[simp] theorem isi_tuple_raw (s : Str) (h : Hd) : isiF "tuple" (.raw s) h = .ok (.bl false) h := by
  show (onSome (kitB "str" "tuple") fun b => (Res.ok (D.bl b) h : Res D)) = _
  rw [kq_str_tuple]; rfl
@[simp] theorem isi_tuple_tup (ds : List D) (h : Hd) : isiF "tuple" (.tup ds) h = .ok (.bl true) h := by
  show (onSome (kitB "tuple" "tuple") fun b => (Res.ok (D.bl b) h : Res D)) = _
  rw [kq_tuple_tuple]; rfl
@[simp] theorem isi_tuple_fls (ds : List D) (h : Hd) : isiF "tuple" (.fls ds) h = .ok (.bl false) h := by
  show (onSome (kitB "list" "tuple") fun b => (Res.ok (D.bl b) h : Res D)) = _
  rw [kq_list_tuple]; rfl
theorem isi_tuple_ref {m : Nat} {ds : List D} {h : Hd} (e : lk h m = some (.lst ds)) : isiF "tuple" (.ref m) h = .ok (.bl false) h := by
  have e2 : tyD h (.ref m) = some "list" := by
    show (match lk h m with | some (.lst _) => some "list" | some (.dict _) => some "dict" | some (.lkd _) => some "dict" | _ => none) = _
    rw [e]
  unfold isiF
  rw [e2]
  show (onSome (kitB "list" "tuple") fun b => (Res.ok (D.bl b) h : Res D)) = _
  rw [kq_list_tuple]; rfl
/-! ### whole numbers, places -/
def isW : D → Bool | .int _ => true | _ => false
def isB : D → Bool | .bl _ => true | _ => false
/-- what a value of the menus may be -/
theorem Val.cases' {h : Hd} {x : D} (v : Val h x) : x = .non ∨ (∃ b, x = .bl b) ∨ (∃ i, x = .int i) ∨ (∃ s, x = .str s) ∨ (∃ s, x = .raw s) ∨ (∃ ds, x = .tup ds) ∨ (∃ ds, x = .fls ds) ∨ ∃ m ds, x = .ref m ∧ lk h m = some (.lst ds) ∧ ∀ d ∈ ds, Dk 10 d := by
  cases v with
  | lst e q => exact .inr (.inr (.inr (.inr (.inr (.inr (.inr ⟨_, _, rfl, e, q⟩))))))
  | flat q =>
    obtain ⟨q, z⟩ := q
    cases x with
    | non => exact .inl rfl
    | bl b => exact .inr (.inl ⟨b, rfl⟩)
    | int i => exact .inr (.inr (.inl ⟨i, rfl⟩))
    | str s => exact .inr (.inr (.inr (.inl ⟨s, rfl⟩)))
    | raw b => exact .inr (.inr (.inr (.inr (.inl ⟨b, rfl⟩))))
    | tup ds => exact .inr (.inr (.inr (.inr (.inr (.inl ⟨ds, rfl⟩)))))
    | fls ds => exact .inr (.inr (.inr (.inr (.inr (.inr (.inl ⟨ds, rfl⟩))))))
    | ref m => have := z [] 10 (by omega); simp [py] at this
    | xc c a d fs => have := z [] 10 (by omega); simp [py] at this
    | ztp _ => have := z [] 10 (by omega); simp [py] at this
theorem isi_bool {h : Hd} {x : D} (v : Val h x) : isiF "bool" x h = .ok (.bl (isB x)) h := by
  rcases v.cases' with e | ⟨b, e⟩ | ⟨b, e⟩ | ⟨b, e⟩ | ⟨b, e⟩ | ⟨b, e⟩ | ⟨b, e⟩ | ⟨m, ds, e, e2, _⟩ <;> subst e <;> first | exact isi_bool_ref e2 | simp [isB]
theorem isi_list {h : Hd} {x : D} (v : Val h x) : ∃ b, isiF "list" x h = .ok (.bl b) h ∧ isiF "tuple" x h = .ok (.bl (!b && (match x with | .tup _ => true | _ => false))) h := by
  rcases v.cases' with e | ⟨b, e⟩ | ⟨b, e⟩ | ⟨b, e⟩ | ⟨b, e⟩ | ⟨b, e⟩ | ⟨b, e⟩ | ⟨m, ds, e, e2, _⟩ <;> subst e
  · exact ⟨false, by simp, by simp⟩
  · exact ⟨false, by simp, by simp⟩
  · exact ⟨false, by simp, by simp⟩
  · exact ⟨false, by simp, by simp⟩
  · exact ⟨false, by simp, by simp⟩
  · exact ⟨false, by simp, by simp⟩
  · exact ⟨true, by simp, by simp⟩
  · exact ⟨true, isi_list_ref e2, isi_tuple_ref e2⟩
theorem py_list {h : Hd} {m n : Nat} {ds : List D} (e : lk h m = some (.lst ds)) : py h (n + 1) (.ref m) = (allS (ds.map (py h n))).map .list := by
  have e' : h[m]? = some (.lst ds) := e
  show (match h[m]? with | some (.lst ds) => (allS (ds.map (py h n))).map PyData.list | _ => none) = _
  rw [e']
theorem f2P_of {g : PyData → PyData → Option Bool} {x y : D} {h : Hd} {p q : PyData} {b : Bool} (e1 : py h 60 x = some p) (e2 : py h 60 y = some q) (e3 : g p q = some b) : f2P g x y h = .ok (.bl b) h := by
  unfold f2P
  rw [e1, e2]
  simp only [e3]
/-- the data of a menu's value -/
theorem Val.py {h : Hd} {x : D} (v : Val h x) : ∃ q, ∀ n, 11 ≤ n → Kf.py h n x = some q := by
  cases v with
  | flat q => obtain ⟨q, z⟩ := q; exact ⟨q, fun n hn => z h n (by omega)⟩
  | @lst m ds e k =>
    obtain ⟨qs, z⟩ := dk_all k
    refine ⟨.list qs, fun n hn => ?_⟩
    obtain ⟨j, rfl⟩ : ∃ j, n = j + 1 := ⟨n - 1, by omega⟩
    rw [py_list e, z h j (by omega)]; rfl
theorem eqF_nil {h : Hd} {a b : Nat} {ds : List D} (ea : lk h a = some (.lst ds)) (eb : lk h b = some (.lst [])) (hd : ∀ d ∈ ds, Dk 10 d) : eqF (.ref a) (.ref b) h = .ok (.bl ds.isEmpty) h ∧ neF (.ref a) (.ref b) h = .ok (.bl !ds.isEmpty) h := by
  obtain ⟨qs, z⟩ := dk_all hd
  have e1 : Kf.py h 60 (.ref a) = some (.list qs) := by rw [py_list ea, z h 59 (by omega)]; rfl
  have e2 : Kf.py h 60 (.ref b) = some (.list []) := by rw [py_list eb]; rfl
  have e3 : PyData.eqv (.list qs) (.list []) = ds.isEmpty := by
    cases ds with
    | nil => have := z h 59 (by omega); cases this; simp [PyData.eqv, PyData.eqvAll]
    | cons d ds =>
      have := z h 59 (by omega)
      cases qs with
      | nil =>
        rw [List.map_cons] at this
        cases q : Kf.py h 59 d with
        | none => rw [q] at this; simp [allS] at this
        | some y =>
          rw [q] at this
          have this : (allS (ds.map (Kf.py h 59))).map (y :: ·) = some [] := this
          cases q2 : allS (ds.map (Kf.py h 59)) with
          | none => rw [q2] at this; cases this
          | some _ => rw [q2] at this; cases this
      | cons _ _ => simp [PyData.eqv, PyData.eqvAll]
  exact ⟨f2P_of e1 e2 (by rw [e3]), f2P_of e1 e2 (by rw [e3])⟩
/-- the items of a tuple or a list -/
def seqO (h : Hd) : D → Option (List D) | .tup ds => some ds | .fls ds => some ds | .ref m => itemsO (lk h m) | _ => none
theorem allS_inv {h : Hd} {n : Nat} : ∀ {ds : List D} {qs : List PyData}, allS (ds.map (Kf.py h n)) = some qs → ∀ (i : Nat) (d : D), ds[i]? = some d → ∃ q, qs[i]? = some q ∧ Kf.py h n d = some q
  | [], _, _, i, d, e => by simp at e
  | x :: ds, qs, e, i, d, ed => by
    rw [List.map_cons] at e
    cases q : Kf.py h n x with
    | none => rw [q] at e; cases e
    | some y =>
      rw [q] at e
      have e : (allS (ds.map (Kf.py h n))).map (y :: ·) = some qs := e
      cases q2 : allS (ds.map (Kf.py h n)) with
      | none => rw [q2] at e; cases e
      | some ys =>
        rw [q2] at e
        cases e
        cases i with
        | zero => cases ed; exact ⟨y, rfl, q⟩
        | succ i => exact allS_inv q2 i d ed
theorem dk_inv {k : Nat} {ds : List D} (h0 : Dk (k + 1) (.tup ds) ∨ Dk (k + 1) (.fls ds)) : ∀ d ∈ ds, Dk k d := fun d hd => by
  have key : ∃ qs, ∀ h n, k ≤ n → allS (ds.map (Kf.py h n)) = some qs := by
    rcases h0 with ⟨q, z⟩ | ⟨q, z⟩
    · have z1 : ∀ h n, k ≤ n → (allS (ds.map (Kf.py h n))).map PyData.tuple = some q := fun h n hn => z h (n + 1) (by omega)
      cases e : allS (ds.map (Kf.py [] k)) with
      | none => have := z1 [] k (by omega); rw [e] at this; cases this
      | some qs =>
        refine ⟨qs, fun h n hn => ?_⟩
        have a := z1 [] k (by omega)
        have b := z1 h n hn
        rw [e] at a
        cases e2 : allS (ds.map (Kf.py h n)) with
        | none => rw [e2] at b; cases b
        | some _ => rw [e2] at b; cases a; cases b; rfl
    · have z1 : ∀ h n, k ≤ n → (allS (ds.map (Kf.py h n))).map PyData.list = some q := fun h n hn => z h (n + 1) (by omega)
      cases e : allS (ds.map (Kf.py [] k)) with
      | none => have := z1 [] k (by omega); rw [e] at this; cases this
      | some qs =>
        refine ⟨qs, fun h n hn => ?_⟩
        have a := z1 [] k (by omega)
        have b := z1 h n hn
        rw [e] at a
        cases e2 : allS (ds.map (Kf.py h n)) with
        | none => rw [e2] at b; cases b
        | some _ => rw [e2] at b; cases a; cases b; rfl
  obtain ⟨qs, z⟩ := key
  obtain ⟨i, hi, e⟩ := List.getElem_of_mem hd
  have ei : ds[i]? = some d := by rw [List.getElem?_eq_getElem hi, e]
  obtain ⟨q, eq, _⟩ := allS_inv (z [] k (by omega)) i d ei
  refine ⟨q, fun h n hn => ?_⟩
  obtain ⟨q', eq', e'⟩ := allS_inv (z h n hn) i d ei
  rw [eq] at eq'
  cases eq'
  exact e'
/-- a menu's value is a row of flat things, or none at all -/
inductive Row (h : Hd) : D → List D → Prop where
  | tup {ds : List D} : Row h (.tup ds) ds
  | fls {ds : List D} : Row h (.fls ds) ds
  | lst {m : Nat} {ds : List D} : lk h m = some (.lst ds) → Row h (.ref m) ds
theorem Val.row {h : Hd} {x : D} (v : Val h x) : (∃ ds, Row h x ds ∧ ∀ d ∈ ds, Dk 10 d) ∨ (isiF "list" x h = .ok (.bl false) h ∧ isiF "tuple" x h = .ok (.bl false) h ∧ isiTF ["list", "tuple"] x h = .ok (.bl false) h) := by
  cases v with
  | lst e k => exact .inl ⟨_, .lst e, k⟩
  | @flat x q =>
    cases x with
    | tup ds => exact .inl ⟨ds, .tup, fun d hd => (dk_inv (k := 9) (.inl q) d hd).up (by omega)⟩
    | fls ds => exact .inl ⟨ds, .fls, fun d hd => (dk_inv (k := 9) (.inr q) d hd).up (by omega)⟩
    | non => exact .inr ⟨by simp, by simp, by show (onSome (kitD "NoneType" ["list", "tuple"]) fun b => (Res.ok (D.bl b) h : Res D)) = _; simp [kitD, kq_NoneType_list, kq_NoneType_tuple]⟩
    | bl b => exact .inr ⟨by simp, by simp, by show (onSome (kitD "bool" ["list", "tuple"]) fun b => (Res.ok (D.bl b) h : Res D)) = _; simp [kitD, kq_bool_list, kq_bool_tuple]⟩
    | int i => exact .inr ⟨by simp, by simp, by show (onSome (kitD "int" ["list", "tuple"]) fun b => (Res.ok (D.bl b) h : Res D)) = _; simp [kitD, kq_int_list, kq_int_tuple]⟩
    | str s => exact .inr ⟨by simp, by simp, by show (onSome (kitD "str" ["list", "tuple"]) fun b => (Res.ok (D.bl b) h : Res D)) = _; simp [kitD, kq_str_list, kq_str_tuple]⟩
    | raw s => exact .inr ⟨by simp, by simp, by show (onSome (kitD "str" ["list", "tuple"]) fun b => (Res.ok (D.bl b) h : Res D)) = _; simp [kitD, kq_str_list, kq_str_tuple]⟩
    | ref m => obtain ⟨q, z⟩ := q; have := z [] 10 (by omega); simp [Kf.py] at this
    | xc c a d fs => obtain ⟨q, z⟩ := q; have := z [] 10 (by omega); simp [Kf.py] at this
    | ztp _ => obtain ⟨q, z⟩ := q; have := z [] 10 (by omega); simp [Kf.py] at this
section
variable {h : Hd} {x : D} {ds : List D}
theorem Row.app (r : Row h x ds) (l : List O) : Row (h ++ l) x ds := by
  cases r with
  | tup => exact .tup
  | fls => exact .fls
  | lst e => exact .lst (by rw [lk_append, if_pos (lk_lt e), e])
theorem Row.len (r : Row h x ds) : lenA [x] h = .ok (.int ds.length) h := by
  cases r with
  | tup => simp
  | fls => simp
  | lst e => simp [e]
theorem Row.get (r : Row h x ds) (i : Int) : getF x (.int i) h = onSome (atI ds i) fun d => .ok d h := by
  cases r with
  | tup => simp
  | fls => rfl
  | lst e => simp [e]
theorem Row.isi (r : Row h x ds) : (∃ b, isiF "list" x h = .ok (.bl b) h ∧ isiF "tuple" x h = .ok (.bl !b) h) ∧ isiTF ["list", "tuple"] x h = .ok (.bl true) h := by
  cases r with
  | tup => exact ⟨⟨false, by simp, by simp⟩, by show (onSome (kitD "tuple" ["list", "tuple"]) fun b => (Res.ok (D.bl b) h : Res D)) = _; simp [kitD, kq_tuple_list, kq_tuple_tuple]⟩
  | fls => exact ⟨⟨true, by simp, by simp⟩, by show (onSome (kitD "list" ["list", "tuple"]) fun b => (Res.ok (D.bl b) h : Res D)) = _; simp [kitD, kq_list_list, kq_list_tuple]⟩
  | @lst m ds e =>
    refine ⟨⟨true, isi_list_ref e, isi_tuple_ref e⟩, ?_⟩
    have e2 : tyD h (.ref m) = some "list" := by
      show (match lk h m with | some (.lst _) => some "list" | some (.dict _) => some "dict" | some (.lkd _) => some "dict" | _ => none) = _
      rw [e]
    unfold isiTF
    rw [e2]
    show (onSome (kitD "list" ["list", "tuple"]) fun b => (Res.ok (D.bl b) h : Res D)) = _
    simp [kitD, kq_list_list, kq_list_tuple]
/-- a comprehension over a row -/
theorem Row.comp (r : Row h x ds) {g : SG} {t : SB} {f : SE} {env : En} {β : D → Bool} {φ : D → D} (hl : ds.length ≤ LIM) (hp : ∀ d ∈ ds, ∃ env1, g d env h = .ok env1 h ∧ t env1 h = .ok (β d) h ∧ (β d = true → f env1 h = .ok (φ d) h)) :
    ∃ it, itOf x h = some it ∧ compI it g t f env (turnsD it h) 0 0 h = .ok ((ds.filter β).map φ) h := by
  cases r with
  | tup => exact ⟨_, rfl, comp_snapP ds hl hp⟩
  | fls => exact ⟨_, rfl, comp_snapP ds hl hp⟩
  | lst e => exact ⟨_, by simp [e], comp_liveP ds e hl hp⟩
end
theorem sTry_exc {f : SS} {l : List Cl} {env env1 : En} {h h1 : Hd} {c : String} {fs : List (String × D)} (e : f env h = .ok (.exc c fs env1) h1) : sTry f l env h = sCls l c fs env1 h1 := by
  unfold sTry; rw [e]
theorem sTry_nx {f : SS} {l : List Cl} {env env1 : En} {h h1 : Hd} (e : f env h = .ok (.nx env1) h1) : sTry f l env h = .ok (.nx env1) h1 := by
  unfold sTry; rw [e]
theorem sCls_yes {mt : String → Option Bool} {sl : Option Nat} {f : String → Nat → Option Nat → SS} {r : List Cl} {c : String} {fs : List (String × D)} {env : En} {h : Hd} {res : Rs} (e : mt c = some true)
    (k : ∀ a d, outN sl (f c a d (inN sl (.xc c a d fs) env) h) = res) : sCls ((mt, sl, f) :: r) c fs env h = res := by
  unfold sCls; rw [e]; exact onAll_of k
theorem sCls_no {mt : String → Option Bool} {sl : Option Nat} {f : String → Nat → Option Nat → SS} {r : List Cl} {c : String} {fs : List (String × D)} {env : En} {h : Hd} (e : mt c = some false) :
    sCls ((mt, sl, f) :: r) c fs env h = sCls r c fs env h := by
  conv => lhs; unfold sCls
  rw [e]
theorem xf_ev (c : String) (a : Nat) (d : Option Nat) (g : SE) (f : String) (env : En) (h : Hd) (fs : List (String × D)) (e : g env h = .ok (.xc c a d fs) h) : sXf c a d g f env h = onSome (fs.lookup f) fun v => .ok v h := by
  unfold sXf
  rw [e, Res.bind_ok]
  exact if_pos ⟨rfl, rfl, rfl⟩
theorem eqF_same {x y : D} {h : Hd} {p : PyData} (e : Kf.py h 60 x = some p) (e2 : Kf.py h 60 y = some p) : eqF x y h = .ok (.bl true) h ∧ neF x y h = .ok (.bl false) h := by
  have q := PySem.SeqAt.eqv_refl p (py_ok e).1
  exact ⟨f2P_of e e2 (by rw [q]), f2P_of e e2 (by rw [q]; rfl)⟩
/-- equal lists -/
theorem eqF_lists {h : Hd} {a b : Nat} {ds : List D} (ea : lk h a = some (.lst ds)) (eb : lk h b = some (.lst ds)) (hd : ∀ d ∈ ds, Dk 10 d) : eqF (.ref a) (.ref b) h = .ok (.bl true) h ∧ neF (.ref a) (.ref b) h = .ok (.bl false) h := by
  obtain ⟨qs, z⟩ := dk_all hd
  exact eqF_same (p := .list qs) (by rw [py_list ea, z h 59 (by omega)]; rfl) (by rw [py_list eb, z h 59 (by omega)]; rfl)
theorem blsD_map {α : Type} (β : α → Bool) : ∀ ds : List α, blsD (ds.map fun y => D.bl (β y)) = some (ds.map β)
  | [] => rfl
  | y :: ds => by
    show (blsD (ds.map fun y => D.bl (β y))).map (β y :: ·) = _
    rw [blsD_map β ds]; rfl
section
variable {h : Hd} {x : D} {ds : List D}
theorem Row.fr {h' : Hd} (r : Row h x ds) (F : Fr [] h h') : Row h' x ds := by
  cases r with
  | tup => exact .tup
  | fls => exact .fls
  | lst e => exact .lst (F.get e (by simp))
end
@[simp] theorem at2_0 (a b : D) : atI [a, b] 0 = some a := id rfl
@[simp] theorem at2_1 (a b : D) : atI [a, b] 1 = some b := id rfl
@[simp] theorem at3_0 (a b c : D) : atI [a, b, c] 0 = some a := id rfl
@[simp] theorem at3_1 (a b c : D) : atI [a, b, c] 1 = some b := id rfl
@[simp] theorem at3_2 (a b c : D) : atI [a, b, c] 2 = some c := id rfl
@[simp] theorem eqF_str (s t : String) (h : Hd) : eqF (.str s) (.str t) h = .ok (.bl (decide (s = t))) h := by
  have : PyData.eqv (.str (Str.ofString s)) (.str (Str.ofString t)) = decide (s = t) := by
    show (Str.ofString s == Str.ofString t) = _
    rw [ofString_beq]
    by_cases e : s = t
    · subst e; simp
    · rw [decide_eq_false e, beq_eq_false_iff_ne.mpr e]
  exact f2P_of (p := .str (Str.ofString s)) (q := .str (Str.ofString t)) rfl rfl (by rw [this])
theorem eqv_str (s t : String) : PyData.eqv (.str (Str.ofString s)) (.str (Str.ofString t)) = decide (s = t) := by
  show (Str.ofString s == Str.ofString t) = _
  rw [ofString_beq]
  by_cases e : s = t
  · subst e; simp
  · rw [decide_eq_false e, beq_eq_false_iff_ne.mpr e]
theorem mem_strs {h : Hd} {m : Nat} {ss : List String} (e : lk h m = some (.lst (ss.map D.str))) (s : String) : memF false (.str s) (.ref m) h = .ok (.bl (ss.any fun z => decide (z = s))) h := by
  have e' : h[m]? = some (.lst (ss.map D.str)) := e
  have ep : Kf.py h 60 (.ref m) = some (.list (ss.map fun z => .str (Str.ofString z))) := by
    rw [py_list e]
    have : ∀ l : List String, allS ((l.map D.str).map (Kf.py h 59)) = some (l.map fun z => .str (Str.ofString z)) := fun l => by
      induction l with
      | nil => rfl
      | cons z r ih =>
        show (allS ((r.map D.str).map (Kf.py h 59))).map (PyData.str (Str.ofString z) :: ·) = _
        rw [ih]; rfl
    rw [this]; rfl
  have e1 : memF false (.str s) (.ref m) h = inF false (.str s) (.ref m) h := by
    simp only [memF, e']
  rw [e1]
  unfold inF
  rw [show Kf.py h 60 (.str s) = some (.str (Str.ofString s)) from rfl, ep]
  simp only [onSome, itemsP, List.any_map]
  congr 2
  simp only [Bool.false_eq_true, if_false]
  congr 1
  congr 1
  funext z
  exact eqv_str z s
theorem val_int {h : Hd} {i : Int} : Val h (.int i) := .flat (dk_int.up (by omega))
theorem val_non {h : Hd} : Val h .non := .flat (dk_non.up (by omega))
def Like (h : Hd) (a' a : D) : Prop := ∃ p, Kf.py h 60 a' = some p ∧ Kf.py h 60 a = some p
theorem ne_of_lk {h : Hd} {a b : Nat} {x y : O} (e1 : lk h a = some x) (e2 : lk h b = some y) (hn : x ≠ y) : a ≠ b := fun z => by
  subst z
  rw [e1] at e2
  exact hn (Option.some.inj e2)
end Kq
end
set_option maxHeartbeats 8000000
noncomputable section
namespace Kq
open PySem PySem.Spec L2 Kf
def rg2 (d e : D) (h : Hd) : Res ItD := asInt d fun i => asInt e fun j => guard' ((-BIG ≤ i ∧ i < BIG) ∧ -BIG ≤ j ∧ j < BIG) (.ok (.snap (rangeL i (j - i).toNat)) h)
@[simp] theorem ev_range2 (f g : SE) (env : En) (h : Hd) : sRange2 f g env h = (f env h).bind fun d h1 => (g env h1).bind fun e h2 => rg2 d e h2 := by
  unfold sRange2
  congr
  funext d h1
  congr
  funext e h2
  cases d <;> first | rfl | (cases e <;> rfl)
theorem big_v : BIG = 4611686018427387904 := rfl
@[simp] theorem rg2_int (i j : Int) (h : Hd) (c : -1000000 ≤ i ∧ i < 1000000 ∧ -1000000 ≤ j ∧ j < 1000000) : rg2 (.int i) (.int j) h = .ok (.snap (rangeL i (j - i).toNat)) h :=
  guard_true _ _ ⟨⟨Int.le_trans (by decide +kernel) c.1, Int.lt_of_lt_of_le c.2.1 (by decide +kernel)⟩, Int.le_trans (by decide +kernel) c.2.2.1, Int.lt_of_lt_of_le c.2.2.2 (by decide +kernel)⟩
theorem rangeL_at {lo : Int} {n : Nat} {d : D} (h : d ∈ rangeL lo n) : ∃ k : Nat, k < n ∧ d = .int (lo + k) := by
  unfold rangeL at h
  simp at h
  obtain ⟨k, hk, rfl⟩ := h
  exact ⟨k, hk, rfl⟩
theorem rangeL_len' (lo : Int) (n : Nat) : (rangeL lo n).length = n := by simp [rangeL]
@[simp] theorem ev_while (n : Nat) (c : SB) (b : SS) (env : En) (h : Hd) : sWhile n c b env h = loopWhile c b n env h := id rfl
theorem loopWhile_ev (c : SB) (b : SS) (n : Nat) (env : En) (h : Hd) : loopWhile c b (n + 1) env h = (c env h).lift env fun t h1 => iteR t (turnE (b env h1) fun env2 h2 => loopWhile c b n env2 h2) (.ok (.nx env) h1) := by
  conv => lhs; unfold loopWhile
  unfold iteR
  congr
@[simp] theorem ev_aug (i : Nat) (F : F2) (f : SE) (env : En) (h : Hd) : sAug i F f env h = Res.lift (sVar i env h) env fun x h0 => (f env h0).lift env fun y h1 => (F x y h1).lift env fun z h2 => .ok (.nx (env.set i (some z))) h2 := id rfl
@[simp] theorem min2_int (i j : Int) (h : Hd) : min2F [.int i, .int j] h = .ok (.int (min i j)) h := by
  show Res.ok (D.int (if j < i then j else i)) h = _
  congr 2
  by_cases c : j < i
  · rw [if_pos c]; omega
  · rw [if_neg c]; omega
@[simp] theorem max2_int (i j : Int) (h : Hd) : max2F [.int i, .int j] h = .ok (.int (max i j)) h := by
  show Res.ok (D.int (if j > i then j else i)) h = _
  congr 2
  by_cases c : j > i
  · rw [if_pos c]; omega
  · rw [if_neg c]; omega
@[simp] theorem ev_callN' (F : List D → Hd → Res D) (a : SA) (env : En) (h : Hd) : sCallN F a env h = (a env h).bind fun ds h1 => F ds h1 := id rfl
@[simp] theorem tupN_ev (ds : List D) (h : Hd) : tupN ds h = .ok (.tup ds) h := id rfl
theorem reprF_ev {x : D} {h : Hd} {p : PyData} (e : Kf.py h 60 x = some p) (s : p.showable = true) (l : p.shown.length ≤ LIM) : reprF [x] h = .ok (.raw p.shown) h := by
  unfold reprF fa1
  simp only [e, onSome]
  exact guard_true _ _ ⟨s, l⟩
/-- in [lo, hi] -/
def isIn (lo hi : Int) : D → Bool | .int i => decide (lo ≤ i) && decide (i ≤ hi) | _ => false
theorem isIn_int {lo hi : Int} {x : D} (e : isIn lo hi x = true) : ∃ i, x = .int i ∧ lo ≤ i ∧ i ≤ hi := by
  cases x with
  | int i => exact ⟨i, rfl, by simpa [isIn] using e⟩
  | _ => cases e
end Kq
end
set_option maxHeartbeats 8000000
noncomputable section
namespace Kq
open PySem PySem.Spec L2 Kf
theorem whole_ex {h : Hd} {x : D} (v : Val h x) : M_is_whole [x] h = .ok (.bl (isW x)) h := by
  rcases v.cases' with e | ⟨b, e⟩ | ⟨b, e⟩ | ⟨b, e⟩ | ⟨b, e⟩ | ⟨b, e⟩ | ⟨b, e⟩ | ⟨m, ds, e, e2, _⟩ <;> subst e <;> simp [M_is_whole, defM_ev, s_is_whole, startD, isW]
  simp [isi_int_ref e2]
theorem between_ex {h : Hd} {x : D} (v : Val h x) (lo hi : Int) : M_is_between [x, .int lo, .int hi] h = .ok (.bl (isIn lo hi x)) h := by
  have w := whole_ex v
  cases hw : isW x with
  | false =>
    have : isIn lo hi x = false := by cases x <;> first | rfl | simp [isW] at hw
    simp (disch := omega) [M_is_between, defM_ev, s_is_between, startD, w, hw, this, guard_true]
  | true =>
    obtain ⟨i, rfl⟩ : ∃ i, x = .int i := by cases x <;> first | exact ⟨_, rfl⟩ | simp [isW] at hw
    by_cases g : i < lo
    · have : isIn lo hi (.int i) = false := by simp [isIn]; omega
      simp (disch := omega) [M_is_between, defM_ev, s_is_between, startD, w, hw, this, guard_true, g]
    · have : isIn lo hi (.int i) = !decide (hi < i) := by
        have : lo ≤ i := by omega
        simp [isIn, this]
        by_cases z : hi < i
        · simp [z]
        · simp [z]; omega
      simp (disch := omega) [M_is_between, defM_ev, s_is_between, startD, w, hw, this, guard_true, g]
end Kq
end
set_option maxHeartbeats 8000000
noncomputable section
namespace Kq
open PySem PySem.Spec L2 Kf PySem.W
def SI1 : SS := (sIf (sOr (sTest (s2 (memF true) (sVar 1) (sTup (sCons (sC (.int 1)) (sCons (sC (.int 3)) (sCons (sC (.int 5)) (sCons (sC (.int 7)) sNil))))))) (sNot (sTest (sFn 1 M_is_whole [] (sCons (sVar 1) sNil)))))
    (sRaise "BadNumber" ["what", "number"] (sCons (sC (.str "servers")) (sCons (sVar 1) sNil)))
    sNext)
def SI2 : SS := (sIf (sNot (sTest (sFn 3 M_is_between [] (sCons (sVar 2) (sCons (sC (.int 1)) (sCons (sC (.int 8)) sNil))))))
    (sRaise "BadNumber" ["what", "number"] (sCons (sC (.str "shelves")) (sCons (sVar 2) sNil)))
    sNext)
def SI3 : SS := (sIf (sNot (sTest (sFn 3 M_is_between [] (sCons (sVar 3) (sCons (sC (.int 1)) (sCons (sC (.int 4)) sNil))))))
    (sRaise "BadNumber" ["what", "number"] (sCons (sC (.str "k")) (sCons (sVar 3) sNil)))
    sNext)
def SI4 : SS := (sIf (sNot (sTest (sFn 3 M_is_between [] (sCons (sVar 4) (sCons (sC (.int 0)) (sCons (sC (.int 2)) sNil))))))
    (sRaise "BadNumber" ["what", "number"] (sCons (sC (.str "e")) (sCons (sVar 4) sNil)))
    sNext)
def SI5 : SS := (sIf (sOr (sNot (sTest (sFn 3 M_is_between [] (sCons (sVar 5) (sCons (sC (.int 0)) (sCons (sC (.int 3)) sNil)))))) (sTest (s2 gtF (s2 addA (s2 addA (sVar 3) (s2 mulB (sC (.int 2)) (sVar 4))) (sVar 5)) (sVar 2))))
    (sRaise "BadNumber" ["what", "number"] (sCons (sC (.str "f")) (sCons (sVar 5) sNil)))
    sNext)
def SI6 : SS := (sIf (sOr (sNot (sTest (sFn 3 M_is_between [] (sCons (sVar 6) (sCons (s2 addA (sVar 2) (sC (.int 1))) (sCons (s2 powF (sC (.int 10)) (sC (.int 6))) sNil)))))) (sNot (sTest (sFn 1 M_is_prime [] (sCons (sVar 6) sNil)))))
    (sRaise "BadNumber" ["what", "number"] (sCons (sC (.str "prime")) (sCons (sVar 6) sNil)))
    sNext)
def SI7 : SS := (sIf (sNot (sTest (sFn 3 M_is_between [] (sCons (sVar 7) (sCons (sC (.int 9)) (sCons (sC (.int 4000)) sNil))))))
    (sRaise "BadNumber" ["what", "number"] (sCons (sC (.str "size")) (sCons (sVar 7) sNil)))
    sNext)
def SI8 : SS := (sIf (sNot (sTest (sFn 3 M_is_between [] (sCons (sVar 8) (sCons (sC (.int 1)) (sCons (sC (.int 16)) sNil))))))
    (sRaise "BadNumber" ["what", "number"] (sCons (sC (.str "width")) (sCons (sVar 8) sNil)))
    sNext)
def SI9 : SS := (sSetF (sVar 0) "servers" ["Settings"] (sVar 1))
def SI10 : SS := (sSetF (sVar 0) "shelves" ["Settings"] (sVar 2))
def SI11 : SS := (sSetF (sVar 0) "k" ["Settings"] (sVar 3))
def SI12 : SS := (sSetF (sVar 0) "e" ["Settings"] (sVar 4))
def SI13 : SS := (sSetF (sVar 0) "f" ["Settings"] (sVar 5))
def SI14 : SS := (sSetF (sVar 0) "prime" ["Settings"] (sVar 6))
def SI15 : SS := (sSetF (sVar 0) "size" ["Settings"] (sVar 7))
def SI16 : SS := (sSetF (sVar 0) "width" ["Settings"] (sVar 8))
def SI17 : SS := (sSetF (sVar 0) "need" ["Settings"] (s2 addA (s2 addA (sVar 3) (s2 mulB (sC (.int 2)) (sVar 4))) (sVar 5)))
theorem SI_eq : M_Settings_init = defM 9 (sSeq SI1 (sSeq SI2 (sSeq SI3 (sSeq SI4 (sSeq SI5 (sSeq SI6 (sSeq SI7 (sSeq SI8 (sSeq SI9 (sSeq SI10 (sSeq SI11 (sSeq SI12 (sSeq SI13 (sSeq SI14 (sSeq SI15 (sSeq SI16 SI17)))))))))))))))) := rfl
def cfgO (sv sh k e f p sz wd nd : Int) : O := .ins "Settings" [("servers", .int sv), ("shelves", .int sh), ("k", .int k), ("e", .int e), ("f", .int f), ("prime", .int p), ("size", .int sz), ("width", .int wd), ("need", .int nd)]
theorem prime_101 (h : Hd) : M_is_prime [.int 101] h = .ok (.bl true) h := by
  have E : ∀ (d : Int) (n : Nat), 2 ≤ d → d ≤ 11 → (n : Int) = 66 - d → loopWhile (sTest (s2 leF (s2 mulB (sVar 1) (sVar 1)) (sVar 0))) (sSeq (sIf (sTest (s2 eqF (s2 modF (sVar 0) (sVar 1)) (sC (.int 0))))
    (sRet (sC (.bl false)))
    sNext)
    (sAug 1 (f2I yes2 fun i j => .int (i + j)) (sC (.int 1)))) n [some (.int 101), some (.int d)] h = .ok (.nx [some (.int 101), some (.int 11)]) h := by
    intro d n
    induction n generalizing d with
    | zero => intro a b c; omega
    | succ n ih =>
      intro a b c
      rw [loopWhile_ev]
      by_cases e : d = 11
      · subst e
        simp (disch := omega)
      · have sq : ¬ (101 < d * d) := by
          have : d ≤ 10 := by omega
          have := Int.mul_le_mul this this (by omega) (by omega)
          omega
        have md : ¬ (101 % d = 0) := by
          have : d = 2 ∨ d = 3 ∨ d = 4 ∨ d = 5 ∨ d = 6 ∨ d = 7 ∨ d = 8 ∨ d = 9 ∨ d = 10 := by omega
          rcases this with rfl | rfl | rfl | rfl | rfl | rfl | rfl | rfl | rfl <;> decide
        have aa : ∀ i j : Int, f2I yes2 (fun i j => D.int (i + j)) (.int i) (.int j) h = .ok (.int (i + j)) h := fun _ _ => rfl
        simp (disch := omega) [sq, md, aa]
        exact ih (d + 1) (by omega) (by omega) (by omega)
  have := E 2 64 (by omega) (by omega) (by omega)
  simp [M_is_prime, defM_ev, s_is_prime, startD, this]
theorem mem_1357 (h : Hd) : memF true (.int 1) (.tup [.int 1, .int 3, .int 5, .int 7]) h = .ok (.bl false) h := by rfl
theorem init_ex {h : Hd} {s : Nat} (e : lk h s = some (.ins "Settings" [])) : M_Settings_init [.ref s, .int 1, .int 4, .int 2, .int 0, .int 1, .int 101, .int 40, .int 2] h = .ok .non (h.set s (cfgO 1 4 2 0 1 101 40 2 3)) := by
  have hr := lk_lt e
  have bt : ∀ (i lo hi : Int) (h : Hd), M_is_between [.int i, .int lo, .int hi] h = .ok (.bl (decide (lo ≤ i) && decide (i ≤ hi))) h := fun i lo hi h => between_ex val_int lo hi
  have wh : ∀ (i : Int) (h : Hd), M_is_whole [.int i] h = .ok (.bl true) h := fun i h => whole_ex val_int
  have C1 : SI1 [some (.ref s), some (.int 1), some (.int 4), some (.int 2), some (.int 0), some (.int 1), some (.int 101), some (.int 40), some (.int 2)] h = .ok (.nx [some (.ref s), some (.int 1), some (.int 4), some (.int 2), some (.int 0), some (.int 1), some (.int 101), some (.int 40), some (.int 2)]) h := by
    simp [SI1, bt, wh, mem_1357, prime_101, guard_true, LIM_eq]
  have C2 : SI2 [some (.ref s), some (.int 1), some (.int 4), some (.int 2), some (.int 0), some (.int 1), some (.int 101), some (.int 40), some (.int 2)] h = .ok (.nx [some (.ref s), some (.int 1), some (.int 4), some (.int 2), some (.int 0), some (.int 1), some (.int 101), some (.int 40), some (.int 2)]) h := by
    simp [SI2, bt, wh, mem_1357, prime_101, guard_true, LIM_eq]
  have C3 : SI3 [some (.ref s), some (.int 1), some (.int 4), some (.int 2), some (.int 0), some (.int 1), some (.int 101), some (.int 40), some (.int 2)] h = .ok (.nx [some (.ref s), some (.int 1), some (.int 4), some (.int 2), some (.int 0), some (.int 1), some (.int 101), some (.int 40), some (.int 2)]) h := by
    simp [SI3, bt, wh, mem_1357, prime_101, guard_true, LIM_eq]
  have C4 : SI4 [some (.ref s), some (.int 1), some (.int 4), some (.int 2), some (.int 0), some (.int 1), some (.int 101), some (.int 40), some (.int 2)] h = .ok (.nx [some (.ref s), some (.int 1), some (.int 4), some (.int 2), some (.int 0), some (.int 1), some (.int 101), some (.int 40), some (.int 2)]) h := by
    simp [SI4, bt, wh, mem_1357, prime_101, guard_true, LIM_eq]
  have C5 : SI5 [some (.ref s), some (.int 1), some (.int 4), some (.int 2), some (.int 0), some (.int 1), some (.int 101), some (.int 40), some (.int 2)] h = .ok (.nx [some (.ref s), some (.int 1), some (.int 4), some (.int 2), some (.int 0), some (.int 1), some (.int 101), some (.int 40), some (.int 2)]) h := by
    simp [SI5, bt, wh, mem_1357, prime_101, guard_true, LIM_eq]
  have C6 : SI6 [some (.ref s), some (.int 1), some (.int 4), some (.int 2), some (.int 0), some (.int 1), some (.int 101), some (.int 40), some (.int 2)] h = .ok (.nx [some (.ref s), some (.int 1), some (.int 4), some (.int 2), some (.int 0), some (.int 1), some (.int 101), some (.int 40), some (.int 2)]) h := by
    simp [SI6, bt, wh, mem_1357, prime_101, guard_true, LIM_eq]
  have C7 : SI7 [some (.ref s), some (.int 1), some (.int 4), some (.int 2), some (.int 0), some (.int 1), some (.int 101), some (.int 40), some (.int 2)] h = .ok (.nx [some (.ref s), some (.int 1), some (.int 4), some (.int 2), some (.int 0), some (.int 1), some (.int 101), some (.int 40), some (.int 2)]) h := by
    simp [SI7, bt, wh, mem_1357, prime_101, guard_true, LIM_eq]
  have C8 : SI8 [some (.ref s), some (.int 1), some (.int 4), some (.int 2), some (.int 0), some (.int 1), some (.int 101), some (.int 40), some (.int 2)] h = .ok (.nx [some (.ref s), some (.int 1), some (.int 4), some (.int 2), some (.int 0), some (.int 1), some (.int 101), some (.int 40), some (.int 2)]) h := by
    simp [SI8, bt, wh, mem_1357, prime_101, guard_true, LIM_eq]
  have E1 : SI9 [some (.ref s), some (.int 1), some (.int 4), some (.int 2), some (.int 0), some (.int 1), some (.int 101), some (.int 40), some (.int 2)] h = .ok (.nx [some (.ref s), some (.int 1), some (.int 4), some (.int 2), some (.int 0), some (.int 1), some (.int 101), some (.int 40), some (.int 2)]) (h.set s (.ins "Settings" [("servers", .int 1)])) := by
    simp [SI9, hr, guard_true, putD, e]
  have E2 : SI10 [some (.ref s), some (.int 1), some (.int 4), some (.int 2), some (.int 0), some (.int 1), some (.int 101), some (.int 40), some (.int 2)] (h.set s (.ins "Settings" [("servers", .int 1)])) = .ok (.nx [some (.ref s), some (.int 1), some (.int 4), some (.int 2), some (.int 0), some (.int 1), some (.int 101), some (.int 40), some (.int 2)]) (h.set s (.ins "Settings" [("servers", .int 1), ("shelves", .int 4)])) := by
    simp [SI10, hr, guard_true, putD]
  have E3 : SI11 [some (.ref s), some (.int 1), some (.int 4), some (.int 2), some (.int 0), some (.int 1), some (.int 101), some (.int 40), some (.int 2)] (h.set s (.ins "Settings" [("servers", .int 1), ("shelves", .int 4)])) = .ok (.nx [some (.ref s), some (.int 1), some (.int 4), some (.int 2), some (.int 0), some (.int 1), some (.int 101), some (.int 40), some (.int 2)]) (h.set s (.ins "Settings" [("servers", .int 1), ("shelves", .int 4), ("k", .int 2)])) := by
    simp [SI11, hr, guard_true, putD]
  have E4 : SI12 [some (.ref s), some (.int 1), some (.int 4), some (.int 2), some (.int 0), some (.int 1), some (.int 101), some (.int 40), some (.int 2)] (h.set s (.ins "Settings" [("servers", .int 1), ("shelves", .int 4), ("k", .int 2)])) = .ok (.nx [some (.ref s), some (.int 1), some (.int 4), some (.int 2), some (.int 0), some (.int 1), some (.int 101), some (.int 40), some (.int 2)]) (h.set s (.ins "Settings" [("servers", .int 1), ("shelves", .int 4), ("k", .int 2), ("e", .int 0)])) := by
    simp [SI12, hr, guard_true, putD]
  have E5 : SI13 [some (.ref s), some (.int 1), some (.int 4), some (.int 2), some (.int 0), some (.int 1), some (.int 101), some (.int 40), some (.int 2)] (h.set s (.ins "Settings" [("servers", .int 1), ("shelves", .int 4), ("k", .int 2), ("e", .int 0)])) = .ok (.nx [some (.ref s), some (.int 1), some (.int 4), some (.int 2), some (.int 0), some (.int 1), some (.int 101), some (.int 40), some (.int 2)]) (h.set s (.ins "Settings" [("servers", .int 1), ("shelves", .int 4), ("k", .int 2), ("e", .int 0), ("f", .int 1)])) := by
    simp [SI13, hr, guard_true, putD]
  have E6 : SI14 [some (.ref s), some (.int 1), some (.int 4), some (.int 2), some (.int 0), some (.int 1), some (.int 101), some (.int 40), some (.int 2)] (h.set s (.ins "Settings" [("servers", .int 1), ("shelves", .int 4), ("k", .int 2), ("e", .int 0), ("f", .int 1)])) = .ok (.nx [some (.ref s), some (.int 1), some (.int 4), some (.int 2), some (.int 0), some (.int 1), some (.int 101), some (.int 40), some (.int 2)]) (h.set s (.ins "Settings" [("servers", .int 1), ("shelves", .int 4), ("k", .int 2), ("e", .int 0), ("f", .int 1), ("prime", .int 101)])) := by
    simp [SI14, hr, guard_true, putD]
  have E7 : SI15 [some (.ref s), some (.int 1), some (.int 4), some (.int 2), some (.int 0), some (.int 1), some (.int 101), some (.int 40), some (.int 2)] (h.set s (.ins "Settings" [("servers", .int 1), ("shelves", .int 4), ("k", .int 2), ("e", .int 0), ("f", .int 1), ("prime", .int 101)])) = .ok (.nx [some (.ref s), some (.int 1), some (.int 4), some (.int 2), some (.int 0), some (.int 1), some (.int 101), some (.int 40), some (.int 2)]) (h.set s (.ins "Settings" [("servers", .int 1), ("shelves", .int 4), ("k", .int 2), ("e", .int 0), ("f", .int 1), ("prime", .int 101), ("size", .int 40)])) := by
    simp [SI15, hr, guard_true, putD]
  have E8 : SI16 [some (.ref s), some (.int 1), some (.int 4), some (.int 2), some (.int 0), some (.int 1), some (.int 101), some (.int 40), some (.int 2)] (h.set s (.ins "Settings" [("servers", .int 1), ("shelves", .int 4), ("k", .int 2), ("e", .int 0), ("f", .int 1), ("prime", .int 101), ("size", .int 40)])) = .ok (.nx [some (.ref s), some (.int 1), some (.int 4), some (.int 2), some (.int 0), some (.int 1), some (.int 101), some (.int 40), some (.int 2)]) (h.set s (.ins "Settings" [("servers", .int 1), ("shelves", .int 4), ("k", .int 2), ("e", .int 0), ("f", .int 1), ("prime", .int 101), ("size", .int 40), ("width", .int 2)])) := by
    simp [SI16, hr, guard_true, putD]
  have E9 : SI17 [some (.ref s), some (.int 1), some (.int 4), some (.int 2), some (.int 0), some (.int 1), some (.int 101), some (.int 40), some (.int 2)] (h.set s (.ins "Settings" [("servers", .int 1), ("shelves", .int 4), ("k", .int 2), ("e", .int 0), ("f", .int 1), ("prime", .int 101), ("size", .int 40), ("width", .int 2)])) = .ok (.nx [some (.ref s), some (.int 1), some (.int 4), some (.int 2), some (.int 0), some (.int 1), some (.int 101), some (.int 40), some (.int 2)]) (h.set s (.ins "Settings" [("servers", .int 1), ("shelves", .int 4), ("k", .int 2), ("e", .int 0), ("f", .int 1), ("prime", .int 101), ("size", .int 40), ("width", .int 2), ("need", .int 3)])) := by
    simp [SI17, hr, guard_true, putD]
  have E0 : M_Settings_init [.ref s, .int 1, .int 4, .int 2, .int 0, .int 1, .int 101, .int 40, .int 2] h = finR (sSeq SI1 (sSeq SI2 (sSeq SI3 (sSeq SI4 (sSeq SI5 (sSeq SI6 (sSeq SI7 (sSeq SI8 (sSeq SI9 (sSeq SI10 (sSeq SI11 (sSeq SI12 (sSeq SI13 (sSeq SI14 (sSeq SI15 (sSeq SI16 SI17))))))))))))))) [some (.ref s), some (.int 1), some (.int 4), some (.int 2), some (.int 0), some (.int 1), some (.int 101), some (.int 40), some (.int 2)] h) := by rw [SI_eq, defM_ev]; rfl
  rw [E0]
  rw [ev_seq, C1, andThen_nx, ev_seq, C2, andThen_nx, ev_seq, C3, andThen_nx, ev_seq, C4, andThen_nx, ev_seq, C5, andThen_nx, ev_seq, C6, andThen_nx, ev_seq, C7, andThen_nx, ev_seq, C8, andThen_nx, ev_seq, E1, andThen_nx, ev_seq, E2, andThen_nx, ev_seq, E3, andThen_nx, ev_seq, E4, andThen_nx, ev_seq, E5, andThen_nx, ev_seq, E6, andThen_nx, ev_seq, E7, andThen_nx, ev_seq, E8, andThen_nx, E9]
  rfl
end Kq
end
set_option maxHeartbeats 8000000
noncomputable section
namespace Kq
open PySem PySem.Spec L2 Kf PySem.W
def GO1 : SS := (sAsg (sNew (sLst sNil)) (gN 2))
def GO2 : SS := (sFor (sRange3 (sC (.int 0)) (sCall lenA (sCons (sVar 0) sNil)) (sVar 1)) (gN 3) (sSeq (sAsg (sNew (sCallL listF (sCons (sSlA (sVar 0) (sPart (sVar 3)) (sPart (s2 addA (sVar 3) (sVar 1)))) sNil))) (gN 4))
    (sDrop (sAppend (sVar 2) (s2 addA (sVar 4) (s2 mulB (sNew (sLst (sCons (sC (.int 0)) sNil))) (s2 (f2I yes2 fun i j => .int (i - j)) (sVar 1) (sCall lenA (sCons (sVar 4) sNil)))))))))
def GO3 : SS := (sRet (sVar 2))
theorem GO_eq : M_groups_of = defM 5 (sSeq GO1 (sSeq GO2 GO3)) := rfl
/-! ### rows of numbers -/
theorem ints_flat {ls : List Int} : ∀ d ∈ ls.map D.int, Dk 10 d := fun d hd => by
  obtain ⟨i, _, rfl⟩ := List.mem_map.mp hd
  exact dk_int.up (by omega)
theorem isTF_row {h : Hd} {x : D} {ds : List D} (r : Row h x ds) : isiTF ["list", "tuple"] x h = .ok (.bl true) h := r.isi.2
theorem is_list_row {h : Hd} {x : D} {ds : List D} (r : Row h x ds) : M_is_list [x] h = .ok (.bl true) h := by
  have := isTF_row r
  simp [M_is_list, defM_ev, s_is_list, startD, this]
theorem is_list_no {h : Hd} {x : D} (e : isiTF ["list", "tuple"] x h = .ok (.bl false) h) : M_is_list [x] h = .ok (.bl false) h := by
  simp [M_is_list, defM_ev, s_is_list, startD, e]
theorem isTF_dict {h : Hd} {m : Nat} {kvs : List (D × D)} (e : lk h m = some (.dict kvs)) : isiTF ["list", "tuple"] (.ref m) h = .ok (.bl false) h := by
  have e2 : tyD h (.ref m) = some "dict" := by
    show (match lk h m with | some (.lst _) => some "list" | some (.dict _) => some "dict" | some (.lkd _) => some "dict" | _ => none) = _
    rw [e]
  unfold isiTF
  rw [e2]
  show (onSome (kitD "dict" ["list", "tuple"]) fun b => (Res.ok (D.bl b) h : Res D)) = _
  have k1 : kitB "dict" "list" = some false := by decide +kernel
  have k2 : kitB "dict" "tuple" = some false := by decide +kernel
  simp [kitD, k1, k2]
section
variable {h : Hd} {s m : Nat} {sv sh k e f p sz wd nd : Int} {x : D} {ds : List D} {ls : List Int}
/-- letters are told -/
theorem letters_ok (c : lk h s = some (cfgO sv sh k e f p sz wd nd)) (r : Row h x ds) (hf : ∀ d ∈ ds, Dk 10 d) (hl : ds.length ≤ 10000) :
    M_told_letters [x, .ref s] h = if ds.all (isIn 0 (p - 1)) then .ok (.tup ds) h else .exc "BadNumber" [("number", x), ("what", .str "letters")] h := by
  unfold cfgO at c
  obtain ⟨it, e1, e2⟩ := r.comp (g := gN 2) (t := sYes) (f := sFn 3 M_is_between [] (sCons (sVar 2) (sCons (sC (.int 0)) (sCons (s2 (f2I yes2 fun i j => .int (i - j)) (sFld (sVar 1) "prime" ["Settings"]) (sC (.int 1))) sNil)))) (env := [some x, some (.ref s), none]) (β := fun _ => true) (φ := fun d => .bl (isIn 0 (p - 1) d)) (by rw [LIM_eq]; omega) fun d hd => ⟨_, rfl, rfl, fun _ => by
    have := between_ex (Val.flat (hf d hd)) 0 (p - 1) (h := h)
    simp [c, guard_true, List.lookup, this]⟩
  have il := is_list_row r
  have tf : tupF [x] h = .ok (.tup ds) h := by
    cases r with
    | tup => rfl
    | fls => rfl
    | lst e => simp [e]
  have ff : (ds.filter fun _ => true) = ds := List.filter_eq_self.mpr (by simp)
  have bl := blsD_map (isIn 0 (p - 1)) ds
  have al : (ds.map (isIn 0 (p - 1))).all id = ds.all (isIn 0 (p - 1)) := by rw [List.all_map]; rfl
  cases q : ds.all (isIn 0 (p - 1)) with
  | true => simp [M_told_letters, defM_ev, s_told_letters, startD, guard_true, il, e1, e2, ff, allN, bl, al, q, tf]
  | false => simp [M_told_letters, defM_ev, s_told_letters, startD, guard_true, il, e1, e2, ff, allN, bl, al, q]
theorem letters_no (e : isiTF ["list", "tuple"] x h = .ok (.bl false) h) : M_told_letters [x, .ref s] h = .exc "BadNumber" [("number", x), ("what", .str "letters")] h := by
  have il := is_list_no e
  simp [M_told_letters, defM_ev, s_told_letters, startD, guard_true, il]
/-! ### a value -/
def valueP (g : List Int) (x p : Int) : Int := g.reverse.foldl (fun f l => (f * x + l) % p) 0
theorem value_ex (e : lk h m = some (.lst (ls.map D.int))) {n p : Int} (hn : -1000000 < n ∧ n < 1000000) (hp : 0 < p) : M_value_at [.ref m, .int n, .int p] h = .ok (.int (valueP ls n p)) h := by
  have nx : ∀ i, nextD (.rv (.ref m) ls.length) h i = some (ls.reverse.map D.int)[i]? := fun i => by
    have ei : itemsD h (.ref m) = some (ls.map D.int) := by simp [itemsD, lk_def, e]
    show (match itemsD h (.ref m) with | some xs => if xs.length = ls.length then some xs.reverse[i]? else none | none => none) = _
    rw [ei]
    simp
  have L := loop_inv (it := .rv (.ref m) ls.length) (g := gN 4) (b := sAsg (s2 modF (s2 addA (s2 mulB (sVar 3) (sVar 1)) (sVar 4)) (sVar 2)) (gN 3))
    (fun i env h' => h' = h ∧ ∃ y, env = [some (.ref m), some (.int n), some (.int p), some (.int ((ls.reverse.take i).foldl (fun f l => (f * n + l) % p) 0)), y]) (ls.reverse.map D.int) (fun i env h' a => by rw [a.1]; exact nx i)
    (fun i env h' d hd ⟨eh, y, ee⟩ => by
      subst eh ee
      rw [List.getElem?_map] at hd
      cases ed : ls.reverse[i]? with
      | none => rw [ed] at hd; cases hd
      | some l =>
        rw [ed] at hd
        cases hd
        refine ⟨_, h', rfl, _, h', by simp (disch := omega); rfl, rfl, some (.int l), ?_⟩
        have : ls.reverse.take (i + 1) = ls.reverse.take i ++ [l] := by
          rw [List.take_add_one, ed]; rfl
        rw [this, List.foldl_append]
        rfl)
    (ls.length + 1) 0 [some (.ref m), some (.int n), some (.int p), some (.int 0), none] h ⟨rfl, none, by simp⟩ (by simp) (Nat.zero_le _)
  obtain ⟨env', h', e1, e2, y, e3⟩ := L
  rw [e2, e3] at e1
  have sk : seqK h (.ref m) = some false := by simp [seqK, lk_def, e]
  have ei : itemsD h (.ref m) = some (ls.map D.int) := by simp [itemsD, lk_def, e]
  have rv : ∀ env : En, env[0]? = some (some (.ref m)) → sRevA (sVar 0) env h = .ok (.rv (.ref m) ls.length) h := fun env he => by
    have : sVar 0 env h = .ok (.ref m) h := by simp [sVar, he]
    unfold sRevA
    rw [this]
    show onSome (seqK h (.ref m)) _ = _
    rw [sk]
    show onSome (itemsD h (.ref m)) _ = _
    rw [ei]
    simp
  have tn : turnsD (.rv (.ref m) ls.length) h = ls.length + 1 := rfl
  have tk : ls.reverse.take (ls.reverse.map D.int).length = ls.reverse := by rw [List.length_map]; exact List.take_length
  rw [tk] at e1
  simp [M_value_at, defM_ev, s_value_at, startD, rv, tn, e1, valueP]
end
end Kq
end
set_option maxHeartbeats 8000000
noncomputable section
namespace Kq
open PySem PySem.Spec L2 Kf PySem.W
/-! ### groups -/
theorem cut_mid (ds : List D) (a b : Nat) (h : a ≤ b) : cutD ds (some (a : Int)) (some (b : Int)) = (ds.drop a).take (b - a) := by
  unfold cutD
  rw [HT.sIx_nat, HT.sIx_nat]
  apply List.ext_getElem?
  intro i
  rw [List.getElem?_take, List.getElem?_take, List.getElem?_drop, List.getElem?_drop]
  by_cases c : a ≤ ds.length
  · rw [Nat.min_eq_left c]
    by_cases c2 : b ≤ ds.length
    · rw [Nat.min_eq_left c2]
    · by_cases c3 : i < b - a
      · rw [if_pos c3]
        by_cases c4 : i < min b ds.length - a
        · rw [if_pos c4]
        · rw [if_neg c4, List.getElem?_eq_none (by omega)]
      · rw [if_neg c3, if_neg (by omega)]
  · rw [if_neg (by omega)]
    by_cases c3 : i < b - a
    · rw [if_pos c3, List.getElem?_eq_none (by omega)]
    · rw [if_neg c3]
def grp (ls : List Int) (k i : Nat) : List Int := (ls.drop (i * k)).take k ++ List.replicate (k - ((ls.drop (i * k)).take k).length) 0
def stepsN (n k : Nat) : Nat := (n + k - 1) / k
def groupsP (ls : List Int) (k : Nat) : List (List Int) := (List.range (stepsN ls.length k)).map (grp ls k)
theorem fits_ok {i : Int} (h : -1000000 ≤ i ∧ i ≤ 1000000) : Builtin.Range.rangeFitsLong i = true := by
  have e : (2 : Int) ^ 63 = 9223372036854775808 := by decide
  unfold Builtin.Range.rangeFitsLong
  rw [e]
  simp
  omega
theorem rg3_ex (n k : Nat) (hk : 1 ≤ k ∧ k ≤ 4) (hn : n ≤ 10000) (h : Hd) : rg3 (.int 0) (.int n) (.int k) h = .ok (.snap (rangeC 0 k (stepsN n k))) h := by
  have e : Builtin.Range.rangeSize 0 n k = ((stepsN n k : Nat) : Int) := by
    rw [PyProof.Rows.rangeSize_pos (by omega) (by omega)]
    unfold stepsN
    have : k = 1 ∨ k = 2 ∨ k = 3 ∨ k = 4 := by omega
    rcases this with rfl | rfl | rfl | rfl <;> omega
  have sm : Builtin.Range.small 0 n k = true := by
    unfold Builtin.Range.small
    rw [e]
    have sb : stepsN n k ≤ 10010 := by
      unfold stepsN
      exact Nat.le_trans (Nat.div_le_self _ _) (by omega)
    rw [fits_ok (i := 0) (by omega), fits_ok (i := (n : Int)) (by omega), fits_ok (i := (k : Int)) (by omega), fits_ok (i := ((stepsN n k : Nat) : Int)) (by omega), fits_ok (i := (n : Int) + ((k : Int) - 1)) (by omega)]
    rw [if_pos (by omega)]
    simp
  unfold rg3
  show guard' _ _ = _
  rw [guard_true _ _ ⟨by omega, by omega, sm, by rw [e]; omega⟩, e]
  rfl
/-- lists of numbers, each at a place of its own -/
structure Lsts (h : Hd) (gs : List Nat) (gl : List (List Int)) : Prop where
  len : gs.length = gl.length
  at_ : ∀ (i g : Nat), gs[i]? = some g → ∃ l, gl[i]? = some l ∧ lk h g = some (.lst (l.map D.int))
theorem Lsts.nil {h : Hd} : Lsts h [] [] := ⟨rfl, fun i g e => by simp at e⟩
theorem Lsts.fr {h h' : Hd} {T : List Nat} {gs : List Nat} {gl : List (List Int)} (L : Lsts h gs gl) (F : Fr T h h') (hT : ∀ g ∈ gs, g ∉ T) : Lsts h' gs gl := ⟨L.len, fun i g e => by
  obtain ⟨l, e1, e2⟩ := L.at_ i g e
  exact ⟨l, e1, F.get e2 (hT g (List.mem_of_getElem? e))⟩⟩
theorem Lsts.snoc {h : Hd} {gs : List Nat} {gl : List (List Int)} {g : Nat} {l : List Int} (L : Lsts h gs gl) (e : lk h g = some (.lst (l.map D.int))) : Lsts h (gs ++ [g]) (gl ++ [l]) := by
  refine ⟨by simp [L.len], fun i g' e' => ?_⟩
  by_cases c : i < gs.length
  · rw [List.getElem?_append_left c] at e'
    obtain ⟨l', e1, e2⟩ := L.at_ i g' e'
    exact ⟨l', by rw [List.getElem?_append_left (by rw [← L.len]; exact c)]; exact e1, e2⟩
  · rw [List.getElem?_append_right (by omega)] at e'
    have : i - gs.length = 0 := by
      cases q : i - gs.length with
      | zero => rfl
      | succ n => rw [q] at e'; simp at e'
    rw [this] at e'
    cases e'
    refine ⟨l, ?_, e⟩
    have hi : i = gl.length := by have := L.len; omega
    subst hi
    simp
theorem repl_ex {h : Hd} {q : Nat} {n : Int} (e : lk h q = some (.lst [.int 0])) (h0 : -1000000 < n ∧ n < 1000000) : mulB (.ref q) (.int n) h = .ok (.ref h.length) (h ++ [.lst (List.replicate n.toNat (.int 0))]) := by
  show repL (.ref q) (.int n) h = _
  have c3 : (-9223372036854775808 ≤ n ∧ n < 9223372036854775808) ∧ [D.int 0].length * n.toNat ≤ LIM := by
    refine ⟨by omega, ?_⟩
    show 1 * n.toNat ≤ 16777216
    omega
  have fl : (List.replicate n.toNat [D.int 0]).flatten = List.replicate n.toNat (.int 0) := by simp
  simp only [repL, asRef, asInt, onLst_ev, e, klO_lst]
  rw [guard_true _ _ c3, fl]
section
variable {h : Hd} {m : Nat} {ls : List Int}
def GB' : SS := (sSeq (sAsg (sNew (sCallL listF (sCons (sSlA (sVar 0) (sPart (sVar 3)) (sPart (s2 addA (sVar 3) (sVar 1)))) sNil))) (gN 4))
    (sDrop (sAppend (sVar 2) (s2 addA (sVar 4) (s2 mulB (sNew (sLst (sCons (sC (.int 0)) sNil))) (s2 (f2I yes2 fun i j => .int (i - j)) (sVar 1) (sCall lenA (sCons (sVar 4) sNil))))))))
def AP : SE := (s2 addA (sVar 4) (s2 mulB (sNew (sLst (sCons (sC (.int 0)) sNil))) (s2 (f2I yes2 fun i j => .int (i - j)) (sVar 1) (sCall lenA (sCons (sVar 4) sNil)))))
theorem GB'_eq : GB' = (sSeq (sAsg (sNew (sCallL listF (sCons (sSlA (sVar 0) (sPart (sVar 3)) (sPart (s2 addA (sVar 3) (sVar 1)))) sNil))) (gN 4)) (sDrop (sAppend (sVar 2) AP))) := rfl
theorem sub_int (i j : Int) (h : Hd) : f2I yes2 (fun i j => D.int (i - j)) (.int i) (.int j) h = .ok (.int (i - j)) h := rfl
theorem grp_turn {k i : Nat} {gs : List Nat} (hk : 1 ≤ k ∧ k ≤ 4) (hn : ls.length ≤ 10000) (hi : i ≤ 10000) (em : lk h m = some (.lst (gs.map D.ref))) (L : Lsts h gs ((List.range i).map (grp ls k))) (hm : ∀ g ∈ gs, g ≠ m) (y : Option D) (st : Int) (hst : st = ((i * k : Nat) : Int)) :
    ∃ h' y', GB' [some (.tup (ls.map D.int)), some (.int k), some (.ref m), some (.int st), y] h = .ok (.nx [some (.tup (ls.map D.int)), some (.int k), some (.ref m), some (.int st), y']) h' ∧
      ∃ g, lk h' m = some (.lst ((gs ++ [g]).map D.ref)) ∧ Lsts h' (gs ++ [g]) ((List.range (i + 1)).map (grp ls k)) ∧ (∀ z ∈ gs ++ [g], z ≠ m) ∧ Fr [m] h h' := by
  have hml := lk_lt em
  have gl := L.len
  simp only [List.length_map, List.length_range] at gl
  obtain ⟨c, ec⟩ : ∃ c, c = (ls.drop (i * k)).take k := ⟨_, rfl⟩
  have cl : c.length ≤ k := by rw [ec, List.length_take]; omega
  have ikb : i * k ≤ 40000 := Nat.le_trans (Nat.mul_le_mul hi hk.2) (by omega)
  have cut : cutD (ls.map D.int) (some st) (some (st + k)) = c.map D.int := by
    rw [hst]
    have := cut_mid (ls.map D.int) (i * k) (i * k + k) (by omega)
    rw [Nat.add_sub_cancel_left, ← List.map_drop, ← List.map_take, ← ec] at this
    rw [← this]
    congr 2
  -- the heaps
  obtain ⟨h1, eh1⟩ : ∃ h1, h1 = h ++ [O.lst (c.map D.int)] := ⟨_, rfl⟩
  have l1 : h1.length = h.length + 1 := by rw [eh1]; simp
  obtain ⟨h2, eh2⟩ : ∃ h2, h2 = h1 ++ [O.lst [.int 0]] := ⟨_, rfl⟩
  have l2 : h2.length = h.length + 2 := by rw [eh2, List.length_append, l1]; rfl
  obtain ⟨h3, eh3⟩ : ∃ h3, h3 = h2 ++ [O.lst (List.replicate (k - c.length) (.int 0))] := ⟨_, rfl⟩
  have l3 : h3.length = h.length + 3 := by rw [eh3, List.length_append, l2]; rfl
  obtain ⟨h4, eh4⟩ : ∃ h4, h4 = h3 ++ [O.lst (c.map D.int ++ List.replicate (k - c.length) (.int 0))] := ⟨_, rfl⟩
  have l4 : h4.length = h.length + 4 := by rw [eh4, List.length_append, l3]; rfl
  have F1 : Fr [] h h1 := by rw [eh1]; exact Fr.app
  have F2 : Fr [] h1 h2 := by rw [eh2]; exact Fr.app
  have F3 : Fr [] h2 h3 := by rw [eh3]; exact Fr.app
  have F4 : Fr [] h3 h4 := by rw [eh4]; exact Fr.app
  have q1 : lk h1 h.length = some (.lst (c.map D.int)) := by rw [eh1]; simp
  have q2 : lk h2 h1.length = some (.lst [.int 0]) := by rw [eh2]; simp
  have q3 : lk h3 h2.length = some (.lst (List.replicate (k - c.length) (.int 0))) := by rw [eh3]; simp
  have q4 : lk h4 h3.length = some (.lst (c.map D.int ++ List.replicate (k - c.length) (.int 0))) := by rw [eh4]; simp
  have m4 := F4.get (F3.get (F2.get (F1.get em (by simp)) (by simp)) (by simp)) (by simp)
  have q13 := F3.get (F2.get q1 (by simp)) (by simp)
  have q12 := F2.get q1 (by simp)
  have rp : mulB (.ref h1.length) (.int ((k : Int) - (c.length : Int))) h2 = .ok (.ref h2.length) h3 := by
    have tn : ((k : Int) - (c.length : Int)).toNat = k - c.length := by omega
    rw [repl_ex q2 (by omega), tn, eh3]
  have gg : c.map D.int ++ List.replicate (k - c.length) (.int 0) = (grp ls k i).map D.int := by
    unfold grp
    rw [← ec, List.map_append, List.map_replicate]
  have ml4 : m < h4.length := by omega
  refine ⟨h4.set m (.lst ((gs ++ [h3.length]).map D.ref)), some (.ref h.length), ?_, h3.length, by simp [ml4], ?_, ?_, ?_⟩
  · have ps : ∀ (f : SE) (env : En) (h : Hd) (i : Int), f env h = .ok (.int i) h → sPart f env h = .ok (some i) h := fun f env h i e => by unfold sPart; rw [e]; rfl
    have p1 := ps (sVar 3) [some (.tup (ls.map D.int)), some (.int k), some (.ref m), some (.int st), y] h st (by simp)
    have p2 := ps (s2 addA (sVar 3) (sVar 1)) [some (.tup (ls.map D.int)), some (.int k), some (.ref m), some (.int st), y] h (st + k) (by simp)
    have s1 : sSlA (sVar 0) (sPart (sVar 3)) (sPart (s2 addA (sVar 3) (sVar 1))) [some (.tup (ls.map D.int)), some (.int k), some (.ref m), some (.int st), y] h = .ok (.tup (c.map D.int)) h := by
      unfold sSlA
      simp [p1, p2, cut]
    have s2' : AP [some (.tup (ls.map D.int)), some (.int k), some (.ref m), some (.int st), some (.ref h.length)] h1 = .ok (.ref h3.length) h4 := by
      have n1 : h.length < h1.length := by omega
      have n2 : h.length < h3.length := by omega
      have n3 : h2.length < h3.length := by omega
      unfold AP
      simp [LIM_eq, ← eh2, n1, q1, lnO, sub_int, rp, q13, q3]
      rw [guard_true _ _ (by omega), ← eh4]
    have m1 := F1.get em (by simp)
    have s3 : sSlA (sVar 0) (sPart (sVar 3)) (sPart (s2 addA (sVar 3) (sVar 1))) [some (.tup (ls.map D.int)), some (.int k), some (.ref m), some (.int st), y] h = .ok (.tup (c.map D.int)) h := s1
    have A1 : (sAsg (sNew (sCallL listF (sCons (sSlA (sVar 0) (sPart (sVar 3)) (sPart (s2 addA (sVar 3) (sVar 1)))) sNil))) (gN 4)) [some (.tup (ls.map D.int)), some (.int k), some (.ref m), some (.int st), y] h = .ok (.nx [some (.tup (ls.map D.int)), some (.int k), some (.ref m), some (.int st), some (.ref h.length)]) h1 := by
      have z : sCons (sSlA (sVar 0) (sPart (sVar 3)) (sPart (s2 addA (sVar 3) (sVar 1)))) sNil [some (.tup (ls.map D.int)), some (.int k), some (.ref m), some (.int st), y] h = .ok [.tup (c.map D.int)] h := by
        unfold sCons
        rw [s3]
        rfl
      unfold sAsg sNew sCallL
      rw [z]
      simp [eh1]
    have A2 : (sDrop (sAppend (sVar 2) AP)) [some (.tup (ls.map D.int)), some (.int k), some (.ref m), some (.int st), some (.ref h.length)] h1 = .ok (.nx [some (.tup (ls.map D.int)), some (.int k), some (.ref m), some (.int st), some (.ref h.length)]) (h4.set m (.lst ((gs ++ [h3.length]).map D.ref))) := by
      have gl' : (gs.map D.ref).length < 16777216 := by rw [List.length_map]; omega
      simp [s2', m1, m4, LIM_eq]
      rw [guard_true _ _ (by omega)]
      rfl
    rw [GB'_eq, ev_seq, A1, andThen_nx, A2]
  · have F04 : Fr [] h h4 := F1.trans (F2.trans (F3.trans F4))
    have L4 := L.fr F04 (by simp)
    have sn := L4.snoc (g := h3.length) (l := grp ls k i) (by rw [q4, gg])
    have e2 : (List.range (i + 1)).map (grp ls k) = (List.range i).map (grp ls k) ++ [grp ls k i] := by rw [List.range_succ, List.map_append]; rfl
    rw [e2]
    refine sn.fr (T := [m]) (Fr.set (by simp)) fun g hg => ?_
    simp only [List.mem_singleton]
    rcases List.mem_append.mp hg with hg | hg
    · exact hm g hg
    · simp at hg; omega
  · intro z hz
    rcases List.mem_append.mp hz with hz | hz
    · exact hm z hz
    · simp at hz; omega
  · exact ((F1.trans (F2.trans (F3.trans F4))).sub (by simp)).trans (Fr.set (by simp))
end
end Kq
end
set_option maxHeartbeats 8000000
noncomputable section
namespace Kq
open PySem PySem.Spec L2 Kf PySem.W
theorem GO2_eq : GO2 = sFor (sRange3 (sC (.int 0)) (sCall lenA (sCons (sVar 0) sNil)) (sVar 1)) (gN 3) GB' := rfl
theorem map_all2 {α β : Type} (f : α → β) (l : List α) : (l.filter fun _ => true).map f = l.map f := by rw [List.filter_eq_self.mpr (by simp)]
def ivD : D → Int | .int i => i | _ => 0
def pieceP (ls : List Int) (n : Int) (k : Nat) (p : Int) : List Int := (groupsP ls k).map fun g => valueP g n p
section
variable {h : Hd} {s m : Nat} {ls : List Int} {sv sh e f p sz wd nd : Int} {k : Nat}
theorem groups_ex (hk : 1 ≤ k ∧ k ≤ 4) (hn : ls.length ≤ 10000) : ∃ h' gs, M_groups_of [.tup (ls.map D.int), .int k] h = .ok (.ref h.length) h' ∧ lk h' h.length = some (.lst (gs.map D.ref)) ∧ Lsts h' gs (groupsP ls k) ∧ Fr [] h h' := by
  have sb : stepsN ls.length k ≤ 10010 := by
    unfold stepsN
    exact Nat.le_trans (Nat.div_le_self _ _) (by omega)
  have sb2 : stepsN ls.length k ≤ ls.length := by
    unfold stepsN
    have : k = 1 ∨ k = 2 ∨ k = 3 ∨ k = 4 := by omega
    rcases this with rfl | rfl | rfl | rfl <;> omega
  obtain ⟨h0, eh0⟩ : ∃ h0, h0 = h ++ [O.lst []] := ⟨_, rfl⟩
  have m0 : lk h0 h.length = some (.lst (([] : List Nat).map D.ref)) := by rw [eh0]; simp
  obtain ⟨env', h', E, y3, y4, gs, ee, em, L, hm, F⟩ := loop_inv (it := .snap (rangeC 0 k (stepsN ls.length k))) (g := gN 3) (b := GB')
    (fun i env h' => ∃ y3 y4 gs, env = [some (.tup (ls.map D.int)), some (.int k), some (.ref h.length), y3, y4] ∧ lk h' h.length = some (.lst (gs.map D.ref)) ∧ Lsts h' gs ((List.range i).map (grp ls k)) ∧ (∀ g ∈ gs, g ≠ h.length) ∧ Fr [h.length] h0 h') (rangeC 0 k (stepsN ls.length k)) (fun i env h' _ => rfl)
    (fun i env h1 d hd ⟨y3, y4, gs, ee, em, L, hm, F⟩ => by
      have hi : i < stepsN ls.length k := by have := lt_of_get hd; simpa [rangeC] using this
      have ed : d = .int ((i * k : Nat) : Int) := by
        simp [rangeC, hi] at hd
        rw [← hd]
        simp
      subst ee
      obtain ⟨h2, y', E2, g, a1, a2, a3, a4⟩ := grp_turn hk hn (by omega) em L hm y4 _ rfl
      exact ⟨_, h1, rfl, _, h2, by rw [ed]; exact E2, _, y', gs ++ [g], rfl, a1, a2, a3, F.trans a4⟩)
    (stepsN ls.length k + 1) 0 [some (.tup (ls.map D.int)), some (.int k), some (.ref h.length), none, none] h0 ⟨none, none, [], rfl, m0, .nil, (fun g hg => by cases hg), Fr.refl⟩ (by simp [rangeC]) (Nat.zero_le _)
  have rl : (rangeC 0 k (stepsN ls.length k)).length = stepsN ls.length k := by simp [rangeC]
  rw [rl] at L
  have F2 : Fr [] h h' := ⟨by have := F.len; rw [eh0] at this; simp at this; omega, fun z hz _ => by
    rw [F.at_ z (by rw [eh0]; simp; omega) (by simp; omega), eh0]
    simp [hz]⟩
  refine ⟨h', gs, ?_, em, L, F2⟩
  have G1 : GO1 [some (.tup (ls.map D.int)), some (.int k), none, none, none] h = .ok (.nx [some (.tup (ls.map D.int)), some (.int k), some (.ref h.length), none, none]) h0 := by
    simp [GO1, eh0]
  have rg : sRange3 (sC (.int 0)) (sCall lenA (sCons (sVar 0) sNil)) (sVar 1) [some (.tup (ls.map D.int)), some (.int k), some (.ref h.length), none, none] h0 = .ok (.snap (rangeC 0 k (stepsN ls.length k))) h0 := by
    have := rg3_ex ls.length k hk hn h0
    unfold sRange3
    simp [this]
  have G2 : GO2 [some (.tup (ls.map D.int)), some (.int k), some (.ref h.length), none, none] h0 = .ok (.nx env') h' := by
    rw [GO2_eq, ev_for, rg]
    have : turnsD (.snap (rangeC 0 k (stepsN ls.length k))) h0 = stepsN ls.length k + 1 := by
      show (rangeC 0 k (stepsN ls.length k)).length + 1 = _
      rw [rl]
    rw [Res.lift_ok, this]
    exact E
  have E0 : M_groups_of [.tup (ls.map D.int), .int k] h = finR (sSeq GO1 (sSeq GO2 GO3) [some (.tup (ls.map D.int)), some (.int k), none, none, none] h) := by rw [GO_eq, defM_ev]; rfl
  rw [E0, ev_seq, G1, andThen_nx, ev_seq, G2, andThen_nx, ee]
  simp [GO3]
theorem lsts_map {h : Hd} {gs : List Nat} {gl : List (List Int)} (L : Lsts h gs gl) {β : Type} (F : List Int → β) (φ : D → β) (hφ : ∀ g l, lk h g = some (.lst (l.map D.int)) → φ (.ref g) = F l) : (gs.map D.ref).map φ = gl.map F := by
  apply List.ext_getElem?
  intro i
  rw [List.getElem?_map, List.getElem?_map, List.getElem?_map]
  cases e : gs[i]? with
  | none =>
    have : gl[i]? = none := List.getElem?_eq_none (by rw [← L.len]; exact List.getElem?_eq_none_iff.mp e)
    rw [this]
    rfl
  | some g =>
    obtain ⟨l, e1, e2⟩ := L.at_ i g e
    rw [e1]
    simp [hφ g l e2]
theorem ivD_map (l : List Int) : (l.map D.int).map ivD = l := by
  rw [List.map_map]
  exact List.map_id'' (fun _ => rfl) l
theorem ivD_comp (l : List Int) : l.map (ivD ∘ D.int) = l := List.map_id'' (fun _ => rfl) l
theorem piece_ex (c : lk h s = some (cfgO sv sh k e f p sz wd nd)) (hk : 1 ≤ k ∧ k ≤ 4) (hn : ls.length ≤ 10000) (hp : 0 < p) {n : Int} (n1 : -1000000 < n ∧ n < 1000000) :
    ∃ h', M_piece_at [.tup (ls.map D.int), .int n, .ref s] h = .ok (.tup ((pieceP ls n k p).map D.int)) h' ∧ Fr [] h h' := by
  obtain ⟨h', gs, E, em, L, F⟩ := groups_ex (h := h) hk hn
  have c' := F.get c (by simp)
  unfold cfgO at c c'
  have gll : gs.length ≤ 10000 := by
    rw [L.len]
    unfold groupsP stepsN
    simp only [List.length_map, List.length_range]
    have : k = 1 ∨ k = 2 ∨ k = 3 ∨ k = 4 := by omega
    rcases this with rfl | rfl | rfl | rfl <;> omega
  have C := comp_liveP (g := gN 3) (t := sYes) (f := sFn 3 M_value_at [] (sCons (sVar 3) (sCons (sVar 1) (sCons (sFld (sVar 2) "prime" ["Settings"]) sNil)))) (env := [some (.tup (ls.map D.int)), some (.int n), some (.ref s), none]) (h := h')
    (β := fun _ => true) (φ := fun d => match d with | .ref g => (match lk h' g with | some (.lst ds) => .int (valueP (ds.map ivD) n p) | _ => .non) | _ => .non) (gs.map D.ref) em (by rw [LIM_eq]; simp; omega) fun d hd => by
      obtain ⟨g, hg, rfl⟩ := List.mem_map.mp hd
      obtain ⟨i, hi, eg⟩ := List.getElem_of_mem hg
      obtain ⟨l, _, e2⟩ := L.at_ i g (by rw [List.getElem?_eq_getElem hi, eg])
      refine ⟨_, rfl, rfl, fun _ => ?_⟩
      have v := value_ex e2 n1 hp
      simp [c', guard_true, List.lookup, v, e2, ivD_comp]
  have mm := lsts_map L (fun g => D.int (valueP g n p)) (fun d => match d with | .ref g => (match lk h' g with | some (.lst ds) => .int (valueP (ds.map ivD) n p) | _ => .non) | _ => .non) fun g l e2 => by simp [e2, ivD_comp]
  rw [map_all2, mm] at C
  refine ⟨h', ?_, F⟩
  have iv : itOf (.ref h.length) h' = some (.live h.length) := by simp [em]
  have pp : (groupsP ls k).map (fun g => D.int (valueP g n p)) = (pieceP ls n k p).map D.int := by unfold pieceP; rw [List.map_map]; rfl
  rw [pp] at C
  simp [M_piece_at, defM_ev, s_piece_at, startD, c, guard_true, List.lookup, E, em, C]
end
end Kq
end
set_option maxHeartbeats 8000000
noncomputable section
namespace Kq
open PySem PySem.Spec L2 Kf PySem.W
def BA1 : SS := (sPar [3, 4] (sCons (sNew (sLst (sCons (sC (.int 1)) sNil))) (sCons (sC (.int 1)) sNil)))
def BA2 : SS := (sFor (sVal (sVar 0)) (gN 5) (sIf (sTest (s2 neF (sVar 5) (sVar 1)))
    (sSeq (sAsg (s2 addA (sNew (sLst (sCons (sC (.int 0)) sNil))) (sVar 3)) (gN 6))
    (sSeq (sFor (sEnum (sVar 3)) (gTp 2 (gCons' (gN 7) (gCons' (gN 8) gNil'))) (sAsg (s2 modF (s2 (f2I yes2 fun i j => .int (i - j)) (s2 getF (sVar 6) (sVar 7)) (s2 mulB (sVar 5) (sVar 8))) (sVar 2)) (gSub' (sVar 6) (sVar 7) setF)))
    (sPar [3, 4] (sCons (sVar 6) (sCons (s2 modF (s2 mulB (sVar 4) (s2 (f2I yes2 fun i j => .int (i - j)) (sVar 1) (sVar 5))) (sVar 2)) sNil)))))
    sNext))
def BA3 : SS := (sAsg (sFn 2 M_inverse [] (sCons (sVar 4) (sCons (sVar 2) sNil))) (gN 9))
def BA4 : SS := (sRet (sNew (sLc (sVal (sVar 3)) (gN 8) sYes (s2 modF (s2 mulB (sVar 8) (sVar 9)) (sVar 2)) [8])))
theorem BA_eq : M_basis_at = defM 10 (sSeq BA1 (sSeq BA2 (sSeq BA3 BA4))) := rfl
def IV1 : SS := (sPar [2, 3] (sCons (sC (.int 1)) (sCons (s2 (f2I yes2 fun i j => .int (i - j)) (sVar 1) (sC (.int 2))) sNil)))
def IV2 : SS := (sWhile 64 (sTest (s2 gtF (sVar 3) (sC (.int 0)))) (sSeq (sIf (sTest (s2 eqF (s2 modF (sVar 3) (sC (.int 2))) (sC (.int 1))))
    (sAsg (s2 modF (s2 mulB (sVar 2) (sVar 0)) (sVar 1)) (gN 2))
    sNext)
    (sSeq (sAsg (s2 modF (s2 mulB (sVar 0) (sVar 0)) (sVar 1)) (gN 0))
    (sAsg (s2 fdivF (sVar 3) (sC (.int 2))) (gN 3)))))
def IV3 : SS := (sRet (sVar 2))
theorem IV_eq : M_inverse = defM 4 (sSeq IV1 (sSeq IV2 IV3)) := rfl
@[simp] theorem ev_gtpz (n : Nat) (k : SGs) (ds : List D) (env : En) (h : Hd) : gTp n k (.ztp ds) env h = guard' (ds.length = n) (k ds env h) := id rfl
/-! ### the inverse -/
def powL : Nat → Int → Int → Int → Int → Int
  | 0, _, f, _, _ => f
  | m + 1, n, f, l, p => if 0 < l then powL m (n * n % p) (if l % 2 = 1 then f * n % p else f) (l / 2) p else f
def invP (n p : Int) : Int := powL 63 n 1 (p - 2) p
def IVC : SB := (sTest (s2 gtF (sVar 3) (sC (.int 0))))
def IVB : SS := (sSeq (sIf (sTest (s2 eqF (s2 modF (sVar 3) (sC (.int 2))) (sC (.int 1))))
    (sAsg (s2 modF (s2 mulB (sVar 2) (sVar 0)) (sVar 1)) (gN 2))
    sNext)
    (sSeq (sAsg (s2 modF (s2 mulB (sVar 0) (sVar 0)) (sVar 1)) (gN 0))
    (sAsg (s2 fdivF (sVar 3) (sC (.int 2))) (gN 3))))
theorem IV2_eq : IV2 = sWhile 64 IVC IVB := rfl
theorem inv_loop {p : Int} (hp : 0 < p ∧ p < 1073741824) (h : Hd) : ∀ (m : Nat) (n f l : Int), 0 ≤ n → n < 1073741824 → 0 ≤ f → f < 1073741824 → 0 ≤ l → l < 2 ^ m → ∃ n' l', loopWhile IVC IVB (m + 1) [some (.int n), some (.int p), some (.int f), some (.int l)] h = .ok (.nx [some (.int n'), some (.int p), some (.int (powL m n f l p)), some (.int l')]) h
  | 0, n, f, l, a1, a2, b1, b2, c1, c2 => by
    have : l = 0 := by simp at c2; omega
    subst this
    refine ⟨n, 0, ?_⟩
    rw [loopWhile_ev]
    simp [IVC, powL]
  | m + 1, n, f, l, a1, a2, b1, b2, c1, c2 => by
    by_cases c : 0 < l
    · have q1 : 0 ≤ n * n % p := Int.emod_nonneg _ (by omega)
      have q2 : n * n % p < 1073741824 := by have := Int.emod_lt_of_pos (n * n) hp.1; omega
      have q3 : 0 ≤ f * n % p := Int.emod_nonneg _ (by omega)
      have q4 : f * n % p < 1073741824 := by have := Int.emod_lt_of_pos (f * n) hp.1; omega
      have q5 : l / 2 < 2 ^ m := by rw [Int.pow_succ] at c2; omega
      have e1 : powL (m + 1) n f l p = powL m (n * n % p) (if l % 2 = 1 then f * n % p else f) (l / 2) p := by
        show (if 0 < l then _ else _) = _
        rw [if_pos c]
      rw [loopWhile_ev, e1]
      by_cases d : l % 2 = 1
      · obtain ⟨n', l', ih⟩ := inv_loop hp h m (n * n % p) (f * n % p) (l / 2) q1 q2 q3 q4 (by omega) q5
        refine ⟨n', l', ?_⟩
        simp (disch := omega) [IVC, IVB, c, d]
        exact ih
      · obtain ⟨n', l', ih⟩ := inv_loop hp h m (n * n % p) f (l / 2) q1 q2 b1 b2 (by omega) q5
        refine ⟨n', l', ?_⟩
        simp (disch := omega) [IVC, IVB, c, d]
        exact ih
    · refine ⟨n, l, ?_⟩
      have e1 : powL (m + 1) n f l p = f := by
        show (if 0 < l then _ else _) = _
        rw [if_neg c]
      rw [loopWhile_ev, e1]
      simp [IVC, c]
theorem inverse_ex {n p : Int} (hp : 2 ≤ p ∧ p < 1073741824) (hn : 0 ≤ n ∧ n < 1073741824) (h : Hd) : M_inverse [.int n, .int p] h = .ok (.int (invP n p)) h := by
  have pw : (2 : Int) ^ 63 = 9223372036854775808 := by decide
  obtain ⟨n', l', E⟩ := inv_loop (p := p) (by omega) h 63 n 1 (p - 2) hn.1 hn.2 (by omega) (by omega) (by omega) (by rw [pw]; omega)
  have E0 : M_inverse [.int n, .int p] h = finR (sSeq IV1 (sSeq IV2 IV3) [some (.int n), some (.int p), none, none] h) := by rw [IV_eq, defM_ev]; rfl
  have E1 : IV1 [some (.int n), some (.int p), none, none] h = .ok (.nx [some (.int n), some (.int p), some (.int 1), some (.int (p - 2))]) h := by simp [IV1]
  have E2 : IV2 [some (.int n), some (.int p), some (.int 1), some (.int (p - 2))] h = .ok (.nx [some (.int n'), some (.int p), some (.int (invP n p)), some (.int l')]) h := by
    rw [IV2_eq, ev_while]
    exact E
  rw [E0, ev_seq, E1, andThen_nx, ev_seq, E2, andThen_nx]
  simp [IV3]
/-! ### a row times (x - o) -/
def updR (row : List Int) (o p : Int) (i : Nat) : List Int := (List.zipWith (fun a b => (a - o * b) % p) (0 :: row) row).take i ++ (0 :: row).drop i
def mulRow (row : List Int) (o p : Int) : List Int := updR row o p row.length
theorem updR_len (row : List Int) (o p : Int) (i : Nat) (hi : i ≤ row.length) : (updR row o p i).length = row.length + 1 := by
  unfold updR
  simp only [List.length_append, List.length_take, List.length_zipWith, List.length_cons, List.length_drop]
  omega
theorem updR_at (row : List Int) (o p : Int) (i : Nat) (hi : i < row.length) : (updR row o p i)[i]? = (0 :: row)[i]? := by
  unfold updR
  have hl : ((List.zipWith (fun a b => (a - o * b) % p) (0 :: row) row).take i).length = i := by
    simp only [List.length_take, List.length_zipWith, List.length_cons]
    omega
  rw [List.getElem?_append_right (by omega), hl, Nat.sub_self, List.getElem?_drop]
  rfl
theorem updR_set (row : List Int) (o p : Int) (i : Nat) (a b : Int) (hi : i < row.length) (ha : (0 :: row)[i]? = some a) (hb : row[i]? = some b) : (updR row o p i).set i ((a - o * b) % p) = updR row o p (i + 1) := by
  have zl : (List.zipWith (fun a b => (a - o * b) % p) (0 :: row) row).length = row.length := by
    simp only [List.length_zipWith, List.length_cons]; omega
  have za : (List.zipWith (fun a b => (a - o * b) % p) (0 :: row) row)[i]? = some ((a - o * b) % p) := by
    rw [List.getElem?_zipWith, ha, hb]
  apply List.ext_getElem?
  intro j
  rw [List.getElem?_set]
  unfold updR
  by_cases c : i = j
  · subst c
    rw [if_pos rfl, if_pos (by simp only [List.length_append, List.length_take, List.length_drop, List.length_cons, zl]; omega)]
    rw [List.getElem?_append_left (by rw [List.length_take, zl]; omega), List.getElem?_take, if_pos (by omega), za]
  · rw [if_neg c]
    by_cases d : j < i
    · rw [List.getElem?_append_left (by rw [List.length_take, zl]; omega), List.getElem?_append_left (by rw [List.length_take, zl]; omega), List.getElem?_take, List.getElem?_take, if_pos d, if_pos (by omega)]
    · rw [List.getElem?_append_right (by rw [List.length_take, zl]; omega), List.getElem?_append_right (by rw [List.length_take, zl]; omega), List.getElem?_drop, List.getElem?_drop, List.length_take, List.length_take, zl]
      congr 1
      omega
end Kq
end
set_option maxHeartbeats 8000000
noncomputable section
namespace Kq
open PySem PySem.Spec L2 Kf PySem.W
def BI : SS := (sAsg (s2 modF (s2 (f2I yes2 fun i j => .int (i - j)) (s2 getF (sVar 6) (sVar 7)) (s2 mulB (sVar 5) (sVar 8))) (sVar 2)) (gSub' (sVar 6) (sVar 7) setF))
def BIg : SG := (gTp 2 (gCons' (gN 7) (gCons' (gN 8) gNil')))
def BO : SS := (sIf (sTest (s2 neF (sVar 5) (sVar 1)))
    (sSeq (sAsg (s2 addA (sNew (sLst (sCons (sC (.int 0)) sNil))) (sVar 3)) (gN 6))
    (sSeq (sFor (sEnum (sVar 3)) BIg BI)
    (sPar [3, 4] (sCons (sVar 6) (sCons (s2 modF (s2 mulB (sVar 4) (s2 (f2I yes2 fun i j => .int (i - j)) (sVar 1) (sVar 5))) (sVar 2)) sNil)))))
    sNext)
theorem BA2_eq : BA2 = sFor (sVal (sVar 0)) (gN 5) BO := rfl
section
variable {h : Hd} {R L : Nat} {row : List Int} {o p n b : Int} {x : D} {ds : List D} {x0 x1 x9 x4 : Option D}
theorem inner_ex (eR : lk h R = some (.lst (row.map D.int))) (eL : lk h L = some (.lst ((0 :: row).map D.int))) (hRL : R ≠ L) (hp : 0 < p) (ho : -1000000 < o ∧ o < 1000000) (x7 x8 : Option D) :
    ∃ y7 y8 h', sFor (sEnum (sVar 3)) BIg BI [x0, x1, some (.int p), some (.ref R), x4, some (.int o), some (.ref L), x7, x8, x9] h = .ok (.nx [x0, x1, some (.int p), some (.ref R), x4, some (.int o), some (.ref L), y7, y8, x9]) h' ∧
      lk h' L = some (.lst ((mulRow row o p).map D.int)) ∧ Fr [L] h h' := by
  obtain ⟨dz, edz⟩ : ∃ dz : List D, dz = (List.range row.length).map fun (i : Nat) => D.ztp [.int (i : Int), .int (row.getD i 0)] := ⟨_, rfl⟩
  have nx : ∀ h', lk h' R = some (.lst (row.map D.int)) → ∀ i, nextD (.en (.ref R)) h' i = some dz[i]? := fun h' e i => by
    have ei : itemsD h' (.ref R) = some (row.map D.int) := by simp [itemsD, lk_def, e]
    show (match itemsD h' (.ref R) with | some xs => some (match xs[i]? with | some u => some (D.ztp [.int (i : Nat), u]) | none => none) | none => none) = _
    rw [ei, edz]
    dsimp only
    rw [List.getElem?_map, List.getElem?_map]
    by_cases c : i < row.length
    · rw [List.getElem?_eq_getElem c, List.getElem?_range c]
      simp [List.getD_eq_getElem?_getD, List.getElem?_eq_getElem c]
    · rw [List.getElem?_eq_none (by omega), List.getElem?_eq_none (by simpa using c)]
      rfl
  have dl : dz.length = row.length := by rw [edz]; simp
  have u0 : updR row o p 0 = 0 :: row := by unfold updR; simp
  obtain ⟨env', h', E, ⟨y7, y8, ee⟩, eL', F⟩ := loop_inv (it := .en (.ref R)) (g := BIg) (b := BI)
    (fun i env h' => (∃ y7 y8, env = [x0, x1, some (.int p), some (.ref R), x4, some (.int o), some (.ref L), y7, y8, x9]) ∧ lk h' L = some (.lst ((updR row o p i).map D.int)) ∧ Fr [L] h h') dz (fun i env h' a => nx h' (a.2.2.get eR (by simpa using hRL)) i)
    (fun i env h1 d hd ⟨⟨y7, y8, ee⟩, eL', F⟩ => by
      have hi : i < row.length := by have := lt_of_get hd; omega
      have ed : d = .ztp [.int (i : Int), .int row[i]] := by
        rw [edz, List.getElem?_map, List.getElem?_range hi] at hd
        have := Option.some.inj hd
        rw [← this]
        simp [List.getD_eq_getElem?_getD, List.getElem?_eq_getElem hi]
      subst ee
      have hb : row[i]? = some row[i] := List.getElem?_eq_getElem hi
      obtain ⟨a, ha⟩ : ∃ a, (0 :: row)[i]? = some a := ⟨_, List.getElem?_eq_getElem (by simp; omega)⟩
      have ua := updR_at row o p i hi
      rw [ha] at ua
      have ul := updR_len row o p i (by omega)
      have at1 : atI ((updR row o p i).map D.int) (i : Int) = some (.int a) := atI_nat (by rw [List.getElem?_map, ua]; rfl)
      have ix1 : ixN ((updR row o p i).map D.int).length (i : Int) = some i := ixN_nat (by rw [List.length_map, ul]; omega)
      have st1 : ((updR row o p i).map D.int).set i (.int ((a - o * row[i]) % p)) = (updR row o p (i + 1)).map D.int := by rw [← updR_set row o p i a row[i] hi ha hb, List.map_set]
      have hL := lk_lt eL'
      have ul2 : (updR row o p i).length = row.length + 1 := ul
      refine ⟨[x0, x1, some (.int p), some (.ref R), x4, some (.int o), some (.ref L), some (.int (i : Int)), some (.int row[i]), x9], h1, by rw [ed]; simp [BIg, guard_true], [x0, x1, some (.int p), some (.ref R), x4, some (.int o), some (.ref L), some (.int (i : Int)), some (.int row[i]), x9], h1.set L (.lst ((updR row o p (i + 1)).map D.int)), ?_, ⟨_, _, rfl⟩, by simp [hL], F.trans (Fr.set (by simp))⟩
      have g1 : getF (.ref L) (.int (i : Int)) h1 = .ok (.int a) h1 := by rw [getF_ref, eL', gO_lst, at1]; rfl
      have s1 : setF (.ref L) (.int (i : Int)) (.int ((a - o * row[i]) % p)) h1 = .ok () (h1.set L (.lst ((updR row o p (i + 1)).map D.int))) := by
        rw [setF_ref, eL', stO_lst, ix1, ← st1]; rfl
      have m1 : mulB (.int o) (.int row[i]) h1 = .ok (.int (o * row[i])) h1 := mulB_int _ _ _ (.inl (by omega))
      have md : modF (.int (a - o * row[i])) (.int p) h1 = .ok (.int ((a - o * row[i]) % p)) h1 := modF_int _ _ _ hp
      unfold BI
      simp only [ev_asg, ev_2, ev_var, ev_gsub]
      simp [g1, m1, md, s1, -getF_ref, -setF_ref])
    (dz.length + 1) 0 [x0, x1, some (.int p), some (.ref R), x4, some (.int o), some (.ref L), x7, x8, x9] h ⟨⟨x7, x8, rfl⟩, by rw [u0]; exact eL, Fr.refl⟩ (by omega) (Nat.zero_le _)
  rw [dl] at eL'
  refine ⟨y7, y8, h', ?_, eL', F⟩
  have sk : seqK h (.ref R) = some false := by simp [seqK, lk_def, eR]
  have se : sEnum (sVar 3) [x0, x1, some (.int p), some (.ref R), x4, some (.int o), some (.ref L), x7, x8, x9] h = .ok (.en (.ref R)) h := by
    unfold sEnum
    have : sVar 3 [x0, x1, some (.int p), some (.ref R), x4, some (.int o), some (.ref L), x7, x8, x9] h = .ok (.ref R) h := by simp
    rw [this]
    show onSome (seqK h (.ref R)) _ = _
    rw [sk]
    exact guard_true _ _ rfl
  have tn : turnsD (.en (.ref R)) h = dz.length + 1 := by
    have ei : itemsD h (.ref R) = some (row.map D.int) := by simp [itemsD, lk_def, eR]
    show (match itemsD h (.ref R) with | some ds => ds.length + 1 | none => 0) = _
    rw [ei, dl]
    simp
  rw [ev_for, se, Res.lift_ok, tn, E, ee]
end
end Kq
end
set_option maxHeartbeats 8000000
noncomputable section
namespace Kq
open PySem PySem.Spec L2 Kf PySem.W
theorem powL_bd {p : Int} (hp : 0 < p ∧ p < 1073741824) : ∀ (m : Nat) (n f l : Int), 0 ≤ f → f < 1073741824 → 0 ≤ powL m n f l p ∧ powL m n f l p < 1073741824
  | 0, _, f, _, a, b => ⟨a, b⟩
  | m + 1, n, f, l, a, b => by
    show 0 ≤ (if 0 < l then _ else _) ∧ (if 0 < l then _ else _) < 1073741824
    split
    · refine powL_bd hp m _ _ _ ?_ ?_ <;> split
      · exact Int.emod_nonneg _ (by omega)
      · exact a
      · have := Int.emod_lt_of_pos (f * n) hp.1; omega
      · exact b
    · exact ⟨a, b⟩
theorem invP_bd {n p : Int} (hp : 0 < p ∧ p < 1073741824) : 0 ≤ invP n p ∧ invP n p < 1073741824 := powL_bd hp 63 n 1 (p - 2) (by omega) (by omega)
def stepBP (n p : Int) (acc : List Int × Int) (o : Int) : List Int × Int := if o ≠ n then (mulRow acc.1 o p, acc.2 * (n - o) % p) else acc
def basisB (ns : List Int) (n p : Int) : List Int × Int := ns.foldl (stepBP n p) ([1], 1)
def basisP (ns : List Int) (n p : Int) : List Int := (basisB ns n p).1.map fun l => l * invP (basisB ns n p).2 p % p
theorem Fr.fresh {h h1 h2 : Hd} {L : Nat} (a : Fr [] h h1) (b : Fr [L] h1 h2) (hL : h.length ≤ L) : Fr [] h h2 := ⟨Nat.le_trans a.len b.len, fun m hm _ => by
  rw [b.at_ m (Nat.lt_of_lt_of_le hm a.len) (by simp; omega), a.at_ m hm (by simp)]⟩
theorem snoc_take {α : Type} {l : List α} {i : Nat} {a : α} (e : l[i]? = some a) : l.take (i + 1) = l.take i ++ [a] := by
  rw [List.take_add_one, e]; rfl
section
variable {h : Hd} {N : Nat} {ns : List Int} {p n : Int}
def AD : SE := s2 addA (sNew (sLst (sCons (sC (.int 0)) sNil))) (sVar 3)
def INN : SS := sFor (sEnum (sVar 3)) BIg BI
def PAA : SS := (sPar [3, 4] (sCons (sVar 6) (sCons (s2 modF (s2 mulB (sVar 4) (s2 (f2I yes2 fun i j => .int (i - j)) (sVar 1) (sVar 5))) (sVar 2)) sNil)))
theorem BO_eq : BO = sIf (sTest (s2 neF (sVar 5) (sVar 1))) (sSeq (sAsg AD (gN 6)) (sSeq INN PAA)) sNext := rfl
theorem mulRow_len (row : List Int) (o p : Int) : (mulRow row o p).length = row.length + 1 := updR_len row o p row.length (Nat.le_refl _)
theorem basis_ex (eN : lk h N = some (.lst (ns.map D.int))) (hl : ns.length ≤ 1000) (hb : ∀ o ∈ ns, -1000000 < o ∧ o < 1000000) (hn : -1000000 < n ∧ n < 1000000) (hp : 2 ≤ p ∧ p < 1073741824) :
    ∃ h' q, M_basis_at [.ref N, .int n, .int p] h = .ok (.ref q) h' ∧ lk h' q = some (.lst ((basisP ns n p).map D.int)) ∧ Fr [] h h' ∧ h.length ≤ q := by
  have hNl := lk_lt eN
  obtain ⟨h1, eh1⟩ : ∃ h1, h1 = h ++ [O.lst [.int 1]] := ⟨_, rfl⟩
  have F1 : Fr [] h h1 := by rw [eh1]; exact Fr.app
  have q1 : lk h1 h.length = some (.lst (([1] : List Int).map D.int)) := by rw [eh1]; simp
  have E1 : BA1 [some (.ref N), some (.int n), some (.int p), none, none, none, none, none, none, none] h = .ok (.nx [some (.ref N), some (.int n), some (.int p), some (.ref h.length), some (.int 1), none, none, none, none, none]) h1 := by
    simp [BA1, eh1, LIM_eq, guard_true]
  obtain ⟨env', h2, E2, R, y5, y6, y7, y8, ee, eR, hR, rl, b0, b1, F2⟩ := loop_inv (it := .live N) (g := gN 5) (b := BO)
    (fun i env h' => ∃ R y5 y6 y7 y8, env = [some (.ref N), some (.int n), some (.int p), some (.ref R), some (.int ((ns.take i).foldl (stepBP n p) ([1], 1)).2), y5, y6, y7, y8, none] ∧ lk h' R = some (.lst (((ns.take i).foldl (stepBP n p) ([1], 1)).1.map D.int)) ∧ h.length ≤ R ∧ ((ns.take i).foldl (stepBP n p) ([1], 1)).1.length ≤ i + 1 ∧ 0 ≤ ((ns.take i).foldl (stepBP n p) ([1], 1)).2 ∧ ((ns.take i).foldl (stepBP n p) ([1], 1)).2 < 1073741824 ∧ Fr [] h h') (ns.map D.int)
    (fun i env h' ⟨_, _, _, _, _, _, _, _, _, _, _, F⟩ => by rw [nextD_live, F.get eN (by simp), nvO_lst, nD_get])
    (fun i env h2 d hd ⟨R, y5, y6, y7, y8, ee, eR, hR, rl, b0, b1, F⟩ => by
      rw [List.getElem?_map] at hd
      cases eo : ns[i]? with
      | none => rw [eo] at hd; cases hd
      | some o =>
        rw [eo] at hd
        cases hd
        subst ee
        have ho := hb o (List.mem_of_getElem? eo)
        rw [snoc_take eo, List.foldl_append]
        generalize (ns.take i).foldl (stepBP n p) ([1], 1) = acc at eR rl b0 b1 ⊢
        obtain ⟨rw', bl⟩ := acc
        refine ⟨_, h2, rfl, ?_⟩
        by_cases c : o = n
        · have st : List.foldl (stepBP n p) (rw', bl) [o] = (rw', bl) := by simp [stepBP, c]
          rw [st]
          refine ⟨_, h2, ?_, R, some (.int o), y6, y7, y8, rfl, eR, hR, Nat.le_succ_of_le rl, b0, b1, F⟩
          simp [BO, c]
        · have st : List.foldl (stepBP n p) (rw', bl) [o] = (mulRow rw' o p, bl * (n - o) % p) := by simp [stepBP, c]
          rw [st]
          obtain ⟨h3, eh3⟩ : ∃ h3, h3 = h2 ++ [O.lst [.int 0], O.lst ((0 :: rw').map D.int)] := ⟨_, rfl⟩
          have F3 : Fr [] h2 h3 := by rw [eh3]; exact Fr.apps
          have hRl := lk_lt eR
          have eR3 := F3.get eR (by simp)
          have eL3 : lk h3 (h2.length + 1) = some (.lst ((0 :: rw').map D.int)) := by rw [eh3, lk_append, if_neg (show ¬ (h2.length + 1 < h2.length) by omega)]; simp
          obtain ⟨z7, z8, h4, E4, eL4, F4⟩ := inner_ex (x0 := some (.ref N)) (x1 := some (.int n)) (x4 := some (.int bl)) (x9 := none) eR3 eL3 (show R ≠ h2.length + 1 by omega) (show 0 < p by omega) ho y7 y8
          have le2 := F.len
          refine ⟨_, h4, ?_, h2.length + 1, some (.int o), some (.ref (h2.length + 1)), z7, z8, rfl, eL4, by omega, by rw [mulRow_len]; exact Nat.succ_le_succ rl, Int.emod_nonneg _ (by omega), by have := Int.emod_lt_of_pos (bl * (n - o)) (show 0 < p by omega); omega, Fr.fresh (L := h2.length + 1) (F.trans F3) F4 (by omega)⟩
          have hi : i < ns.length := lt_of_get eo
          have rl' : rw'.length ≤ i + 1 := rl
          have ad : AD [some (.ref N), some (.int n), some (.int p), some (.ref R), some (.int bl), some (.int o), y6, y7, y8, none] h2 = .ok (.ref (h2.length + 1)) h3 := by
            unfold AD
            simp [LIM_eq, hRl, eR, lk_append]
            rw [guard_true _ _ (by omega), eh3]
            simp
          have A1 : (sAsg AD (gN 6)) [some (.ref N), some (.int n), some (.int p), some (.ref R), some (.int bl), some (.int o), y6, y7, y8, none] h2 = .ok (.nx [some (.ref N), some (.int n), some (.int p), some (.ref R), some (.int bl), some (.int o), some (.ref (h2.length + 1)), y7, y8, none]) h3 := by
            simp [ad]
          have A3 : PAA [some (.ref N), some (.int n), some (.int p), some (.ref R), some (.int bl), some (.int o), some (.ref (h2.length + 1)), z7, z8, none] h4 = .ok (.nx [some (.ref N), some (.int n), some (.int p), some (.ref (h2.length + 1)), some (.int (bl * (n - o) % p)), some (.int o), some (.ref (h2.length + 1)), z7, z8, none]) h4 := by
            simp (disch := omega) [PAA]
          have T : (sTest (s2 neF (sVar 5) (sVar 1))) [some (.ref N), some (.int n), some (.int p), some (.ref R), some (.int bl), some (.int o), y6, y7, y8, none] h2 = .ok true h2 := by
            simp [c]
          show BO [some (.ref N), some (.int n), some (.int p), some (.ref R), some (.int bl), some (.int o), y6, y7, y8, none] h2 = _
          rw [BO_eq, ev_if, T, Res.lift_ok]
          show (sSeq (sAsg AD (gN 6)) (sSeq INN PAA)) _ h2 = _
          rw [ev_seq, A1, andThen_nx, ev_seq]
          unfold INN
          rw [E4, andThen_nx, A3])
    (ns.length + 1) 0 [some (.ref N), some (.int n), some (.int p), some (.ref h.length), some (.int 1), none, none, none, none, none] h1 ⟨h.length, none, none, none, none, rfl, q1, Nat.le_refl _, by simp, by simp, by simp, F1⟩ (by simp) (Nat.zero_le _)
  have tk : ns.take (ns.map D.int).length = ns := by rw [List.length_map]; exact List.take_length
  rw [tk] at ee eR b0 b1 rl
  have e2N := F2.get eN (by simp)
  have turns : turnsD (.live N) h1 = ns.length + 1 := by
    have := F1.get eN (by simp)
    show (match h1[N]? with | some (.lst ds) => ds.length + 1 | _ => 0) = _
    rw [lk_def, this]
    simp
  have iv : itOf (.ref N) h1 = some (.live N) := by simp [F1.get eN (by simp)]
  have E2' : BA2 [some (.ref N), some (.int n), some (.int p), some (.ref h.length), some (.int 1), none, none, none, none, none] h1 = .ok (.nx env') h2 := by
    rw [BA2_eq, ev_for]
    simp only [ev_val, ev_var]
    simp [F1.get eN (by simp), turns]
    exact E2
  have IX := inverse_ex hp ⟨b0, b1⟩ h2
  have E3 : BA3 env' h2 = .ok (.nx [some (.ref N), some (.int n), some (.int p), some (.ref R), some (.int (basisB ns n p).2), y5, y6, y7, y8, some (.int (invP (basisB ns n p).2 p))]) h2 := by
    rw [ee]
    simp [BA3, IX, guard_true, basisB]
  have C := comp_liveP (g := gN 8) (t := sYes) (f := s2 modF (s2 mulB (sVar 8) (sVar 9)) (sVar 2)) (env := [some (.ref N), some (.int n), some (.int p), some (.ref R), some (.int (basisB ns n p).2), y5, y6, y7, none, some (.int (invP (basisB ns n p).2 p))]) (h := h2)
    (β := fun _ => true) (φ := fun d => .int (ivD d * invP (basisB ns n p).2 p % p)) ((basisB ns n p).1.map D.int) eR (by rw [LIM_eq, List.length_map]; show (ns.foldl (stepBP n p) ([1], 1)).1.length ≤ _; simp at rl; omega) fun d hd => by
      obtain ⟨l, _, rfl⟩ := List.mem_map.mp hd
      have ib := invP_bd (n := (basisB ns n p).2) (p := p) (by omega)
      refine ⟨_, rfl, rfl, fun _ => ?_⟩
      simp (disch := omega) [ivD]
  rw [map_all2, List.map_map] at C
  have cm : (basisB ns n p).1.map ((fun d => D.int (ivD d * invP (basisB ns n p).2 p % p)) ∘ D.int) = (basisP ns n p).map D.int := by
    unfold basisP
    rw [List.map_map]
    rfl
  rw [cm] at C
  refine ⟨h2 ++ [O.lst ((basisP ns n p).map D.int)], h2.length, ?_, by simp, F2.trans Fr.app, F2.len⟩
  have E0 : M_basis_at [.ref N, .int n, .int p] h = finR (sSeq BA1 (sSeq BA2 (sSeq BA3 BA4)) [some (.ref N), some (.int n), some (.int p), none, none, none, none, none, none, none] h) := by rw [BA_eq, defM_ev]; rfl
  rw [E0, ev_seq, E1, andThen_nx, ev_seq, E2', andThen_nx, ev_seq, E3, andThen_nx]
  have eR' : lk h2 R = some (.lst ((basisB ns n p).1.map D.int)) := eR
  simp [BA4, eR', C]
end
end Kq
end
set_option maxHeartbeats 8000000
noncomputable section
namespace Kq
open PySem PySem.Spec L2 Kf PySem.W
def LT1 : SS := (sAsg (sSlA (sVar 0) sNoPart (sPart (sFld (sVar 2) "k" ["Settings"]))) (gN 3))
def LT2 : SS := (sAsg (sNew (sLc (sVal (sVar 3)) (gTp 2 (gCons' (gN 9) (gCons' (gN 10) gNil'))) sYes (sVar 9) [9, 10])) (gN 4))
def LT3 : SS := (sAsg (sNew (sLc (sVal (sVar 4)) (gN 9) sYes (sFn 3 M_basis_at [] (sCons (sVar 4) (sCons (sVar 9) (sCons (sFld (sVar 2) "prime" ["Settings"]) sNil)))) [9])) (gN 5))
def LT4 : SS := (sAsg (sNew (sLst sNil)) (gN 6))
def LT5 : SS := (sFor (sRange1 (sCall lenA (sCons (s2 getF (s2 getF (sVar 3) (sC (.int 0))) (sC (.int 1))) sNil))) (gN 7) (sFor (sRange1 (sFld (sVar 2) "k" ["Settings"])) (gN 8) (sDrop (sAppend (sVar 6) (s2 modF (sCallN sumN (sLc (sZip (sVar 5) (sVar 3)) (gTp 2 (gCons' (gN 11) (gCons' (gTp 2 (gCons' (gN 9) (gCons' (gN 10) gNil'))) gNil'))) sYes (s2 mulB (s2 getF (sVar 11) (sVar 8)) (s2 getF (sVar 10) (sVar 7))) [11, 9, 10])) (sFld (sVar 2) "prime" ["Settings"]))))))
def LT6 : SS := (sRet (sCall tupF (sCons (sSlA (sVar 6) sNoPart (sPart (sVar 1))) sNil)))
theorem LT_eq : M_letters_at = defM 12 (sSeq LT1 (sSeq LT2 (sSeq LT3 (sSeq LT4 (sSeq LT5 LT6))))) := rfl
/-- a comprehension whose items may make new things -/
theorem comp_inv {it : ItD} {g : SG} {t : SB} {f : SE} {env : En} (I : Nat → List D → Hd → Prop) (ds : List D) (hn : ∀ i acc h, I i acc h → nextD it h i = some ds[i]?)
    (hs : ∀ i acc h d, ds[i]? = some d → I i acc h → ∃ env1, g d env h = .ok env1 h ∧ t env1 h = .ok true h ∧ ∃ v h1, f env1 h = .ok v h1 ∧ I (i + 1) (acc ++ [v]) h1) :
    ∀ m i n acc h, I i acc h → ds.length < m + i → i ≤ ds.length → n + (ds.length - i) ≤ LIM → ∃ vs h', compI it g t f env m i n h = .ok vs h' ∧ I ds.length (acc ++ vs) h'
  | 0, i, n, acc, h, _, l, l2, _ => absurd l (by omega)
  | m + 1, i, n, acc, h, a, l, l2, l3 => by
    unfold compI
    rw [hn i acc h a]
    by_cases hi : i < ds.length
    · rw [List.getElem?_eq_getElem hi]
      obtain ⟨env1, e1, e2, v, h1, e3, a2⟩ := hs i acc h _ (List.getElem?_eq_getElem hi) a
      obtain ⟨vs, h', e4, a3⟩ := comp_inv I ds hn hs m (i + 1) (n + 1) (acc ++ [v]) h1 a2 (by omega) (by omega) (by omega)
      refine ⟨v :: vs, h', ?_, by rw [List.append_assoc] at a3; exact a3⟩
      dsimp only
      rw [e1, ev_nox, Res.bind_ok, e2, ev_nox, Res.bind_ok, if_pos rfl, e3, ev_nox, Res.bind_ok, if_pos (by omega), e4]
      rfl
    · rw [List.getElem?_eq_none (Nat.le_of_not_lt hi)]
      have : i = ds.length := by omega
      subst this
      exact ⟨[], h, rfl, by rw [List.append_nil]; exact a⟩
def pairD (q : Int × List Int) : D := .tup [.int q.1, .tup (q.2.map D.int)]
theorem cut_pre (ds : List D) (k : Nat) : cutD ds none (some (k : Int)) = ds.take k := by
  unfold cutD
  rw [HT.sIx_nat, HT.sIx_none]
  apply List.ext_getElem?
  intro i
  rw [List.getElem?_take, List.getElem?_take, List.drop_zero]
  by_cases c : i < k
  · rw [if_pos c]
    by_cases d : i < ds.length
    · rw [if_pos (by omega)]
    · rw [List.getElem?_eq_none (by omega)]
      split <;> rfl
  · rw [if_neg c, if_neg (by omega)]
def valP (rl : List (List Int)) (fl : List (Int × List Int)) (p : Int) (place j : Nat) : Int := (List.zipWith (fun row q => row.getD j 0 * q.2.getD place 0) rl fl).sum % p
def foundP (rl : List (List Int)) (fl : List (Int × List Int)) (p : Int) (k len : Nat) : List Int := (List.range len).flatMap fun place => (List.range k).map (valP rl fl p place)
def rowsP (fl : List (Int × List Int)) (p : Int) : List (List Int) := fl.map fun q => basisP (fl.map (·.1)) q.1 p
def lettersP (ps : List (Int × List Int)) (k : Nat) (p : Int) (count : Nat) : List Int := (foundP (rowsP (ps.take k) p) (ps.take k) p k ((ps.take k).headD (0, [])).2.length).take count
theorem basisP_len : ∀ (ns : List Int) (n p : Int) (acc : List Int × Int), (ns.foldl (stepBP n p) acc).1.length = acc.1.length + (ns.filter fun o => decide (o ≠ n)).length
  | [], _, _, _ => rfl
  | o :: ns, n, p, acc => by
    rw [List.foldl_cons, basisP_len ns n p]
    by_cases c : o ≠ n
    · rw [List.filter_cons_of_pos (by simpa using c)]
      have : stepBP n p acc o = (mulRow acc.1 o p, acc.2 * (n - o) % p) := by unfold stepBP; rw [if_pos c]
      rw [this, mulRow_len]
      simp only [List.length_cons]
      omega
    · rw [List.filter_cons_of_neg (by simpa using c)]
      have : stepBP n p acc o = acc := by unfold stepBP; rw [if_neg c]
      rw [this]
theorem filter_ne : ∀ (ns : List Int) (n : Int), ns.Nodup → n ∈ ns → (ns.filter fun o => decide (o ≠ n)).length + 1 = ns.length
  | [], _, _, h => by cases h
  | o :: ns, n, nd, h => by
    rw [List.nodup_cons] at nd
    by_cases c : o = n
    · subst c
      rw [List.filter_cons_of_neg (by simp)]
      have : (ns.filter fun x => decide (x ≠ o)) = ns := List.filter_eq_self.mpr fun a ha => by
        simp only [decide_eq_true_eq]
        intro e; subst e; exact nd.1 ha
      rw [this]; rfl
    · rw [List.filter_cons_of_pos (by simpa using c)]
      have := filter_ne ns n nd.2 (by rcases List.mem_cons.mp h with h | h; exact absurd h.symm c; exact h)
      simp only [List.length_cons]
      omega
theorem rowsP_at {fl : List (Int × List Int)} {p : Int} (nd : (fl.map (·.1)).Nodup) {r : List Int} (h : r ∈ rowsP fl p) : r.length = fl.length := by
  obtain ⟨q, hq, rfl⟩ := List.mem_map.mp h
  unfold basisP basisB
  rw [List.length_map, basisP_len]
  have := filter_ne (fl.map (·.1)) q.1 nd (List.mem_map_of_mem hq)
  rw [List.length_map] at this
  simp only [List.length_cons, List.length_nil]
  omega
end Kq
end
set_option maxHeartbeats 8000000
noncomputable section
namespace Kq
open PySem PySem.Spec L2 Kf PySem.W
theorem intsD_map : ∀ l : List Int, intsD (l.map D.int) = some l
  | [] => rfl
  | a :: l => by
    show (intsD (l.map D.int)).map (a :: ·) = _
    rw [intsD_map l]
    rfl
def ZT : SG := (gTp 2 (gCons' (gN 11) (gCons' (gTp 2 (gCons' (gN 9) (gCons' (gN 10) gNil'))) gNil')))
def ZV : SE := (s2 mulB (s2 getF (sVar 11) (sVar 8)) (s2 getF (sVar 10) (sVar 7)))
def APL : SA := (sLc (sZip (sVar 5) (sVar 3)) ZT sYes ZV [11, 9, 10])
def APP : SS := (sDrop (sAppend (sVar 6) (s2 modF (sCallN sumN APL) (sFld (sVar 2) "prime" ["Settings"]))))
theorem LT5_eq : LT5 = sFor (sRange1 (sCall lenA (sCons (s2 getF (s2 getF (sVar 3) (sC (.int 0))) (sC (.int 1))) sNil))) (gN 7) (sFor (sRange1 (sFld (sVar 2) "k" ["Settings"])) (gN 8) APP) := rfl
section
variable {h : Hd} {P s FW NM RW FD : Nat} {sv sh e f p sz wd nd count : Int} {k : Nat} {gs : List Nat} {rl : List (List Int)} {fl : List (Int × List Int)}
def envL (P s FW NM RW FD : Nat) (count : Int) (y7 y8 : Option D) : En := [some (.ref P), some (.int count), some (.ref s), some (.ref FW), some (.ref NM), some (.ref RW), some (.ref FD), y7, y8, none, none, none]
theorem zip_ex (eF : lk h FW = some (.lst (fl.map pairD))) (eR : lk h RW = some (.lst (gs.map D.ref))) (L : Lsts h gs rl) (lg : gs.length = fl.length) (hf : fl.length ≤ 100) (hr : ∀ r ∈ rl, r.length = fl.length ∧ ∀ x ∈ r, 0 ≤ x ∧ x < 1073741824) {len : Nat} (hq : ∀ q ∈ fl, q.2.length = len) {place j : Nat} (hp : place < len) (hj : j < fl.length) :
    APL (envL P s FW NM RW FD count (some (.int (place : Nat))) (some (.int (j : Nat)))) h = .ok ((List.zipWith (fun row q => row.getD j 0 * q.2.getD place 0) rl fl).map D.int) h := by
  have eiF : itemsD h (.ref FW) = some (fl.map pairD) := by simp [itemsD, lk_def, eF]
  have eiR : itemsD h (.ref RW) = some (gs.map D.ref) := by simp [itemsD, lk_def, eR]
  obtain ⟨dz, edz⟩ : ∃ dz : List D, dz = List.zipWith (fun g q => D.ztp [.ref g, pairD q]) gs fl := ⟨_, rfl⟩
  have dl : dz.length = gs.length := by rw [edz, List.length_zipWith, lg, Nat.min_self]
  have nx : ∀ i, nextD (.zp (.ref RW) (.ref FW)) h (0 + i) = some dz[i]? := fun i => by
    rw [Nat.zero_add]
    show (match itemsD h (.ref RW), itemsD h (.ref FW) with | some xs, some ys => some (match xs[i]?, ys[i]? with | some u, some v => some (D.ztp [u, v]) | _, _ => none) | _, _ => none) = _
    rw [eiR, eiF, edz, List.getElem?_zipWith]
    dsimp only
    rw [List.getElem?_map, List.getElem?_map]
    cases gs[i]? with
    | none => rfl
    | some g => cases fl[i]? <;> rfl
  have C := comp_pure (it := .zp (.ref RW) (.ref FW)) (g := ZT) (t := sYes) (f := ZV) (env := envL P s FW NM RW FD count (some (.int (place : Nat))) (some (.int (j : Nat)))) (h := h) (β := fun _ => true)
    (φ := fun d => match d with | .ztp [.ref g, .tup [_, .tup vs]] => (match lk h g with | some (.lst ds) => .int (ivD (ds.getD j .non) * ivD (vs.getD place .non)) | _ => .non) | _ => .non) dz (dz.length + 1) 0 0 nx (by omega) (by rw [LIM_eq]; omega) fun d hd => by
      obtain ⟨i, hi, ei⟩ := List.getElem_of_mem hd
      have hg : i < gs.length := by omega
      have hfi : i < fl.length := by omega
      have ed : d = .ztp [.ref gs[i], pairD fl[i]] := by
        rw [← ei]
        simp [edz]
      obtain ⟨r, er, lr⟩ := L.at_ i gs[i] (List.getElem?_eq_getElem hg)
      obtain ⟨rlen, rbd⟩ := hr r (List.mem_of_getElem? er)
      have ql := hq fl[i] (List.getElem_mem hfi)
      have rj : j < r.length := by omega
      have qp : place < fl[i].2.length := by omega
      have a1 : atI (r.map D.int) ((j : Nat) : Int) = some (.int r[j]) := atI_nat (by rw [List.getElem?_map, List.getElem?_eq_getElem rj]; rfl)
      have a2 : atI (fl[i].2.map D.int) ((place : Nat) : Int) = some (.int fl[i].2[place]) := atI_nat (by rw [List.getElem?_map, List.getElem?_eq_getElem qp]; rfl)
      have rb := rbd r[j] (List.getElem_mem rj)
      have g1 : (r.map D.int).getD j .non = .int r[j] := by rw [List.getD_eq_getElem?_getD, List.getElem?_map, List.getElem?_eq_getElem rj]; rfl
      have g2 : (fl[i].2.map D.int).getD place .non = .int fl[i].2[place] := by rw [List.getD_eq_getElem?_getD, List.getElem?_map, List.getElem?_eq_getElem qp]; rfl
      have mm : mulB (.int r[j]) (.int fl[i].2[place]) h = .ok (.int (r[j] * fl[i].2[place])) h := mulB_int _ _ _ (.inl (by omega))
      subst ed
      refine ⟨[some (.ref P), some (.int count), some (.ref s), some (.ref FW), some (.ref NM), some (.ref RW), some (.ref FD), some (.int (place : Nat)), some (.int (j : Nat)), some (.int fl[i].1), some (.tup (fl[i].2.map D.int)), some (.ref gs[i])], ?_, rfl, fun _ => ?_⟩
      · simp [ZT, envL, pairD, guard_true]
      · simp only [ZV, ev_2, ev_var]
        simp [lr, a1, a2, mm, pairD, ivD, List.getElem?_eq_getElem rj, List.getElem?_eq_getElem qp]
  rw [map_all2] at C
  have mz : dz.map (fun d => match d with | .ztp [.ref g, .tup [_, .tup vs]] => (match lk h g with | some (.lst ds) => D.int (ivD (ds.getD j .non) * ivD (vs.getD place .non)) | _ => .non) | _ => .non) = (List.zipWith (fun row q => row.getD j 0 * q.2.getD place 0) rl fl).map D.int := by
    apply List.ext_getElem?
    intro i
    rw [edz, List.getElem?_map, List.getElem?_map, List.getElem?_zipWith, List.getElem?_zipWith]
    by_cases c : i < gs.length
    · obtain ⟨r, er, lr⟩ := L.at_ i gs[i] (List.getElem?_eq_getElem c)
      obtain ⟨rlen, rbd⟩ := hr r (List.mem_of_getElem? er)
      have hfi : i < fl.length := by omega
      have ql := hq fl[i] (List.getElem_mem hfi)
      rw [List.getElem?_eq_getElem c, List.getElem?_eq_getElem hfi, er]
      have g1 : (r.map D.int).getD j .non = .int (r.getD j 0) := by rw [List.getD_eq_getElem?_getD, List.getD_eq_getElem?_getD, List.getElem?_map, List.getElem?_eq_getElem (by omega)]; rfl
      have g2 : (fl[i].2.map D.int).getD place .non = .int (fl[i].2.getD place 0) := by rw [List.getD_eq_getElem?_getD, List.getD_eq_getElem?_getD, List.getElem?_map, List.getElem?_eq_getElem (by omega)]; rfl
      simp only [Option.map_some, pairD]
      rw [lr]
      dsimp only
      rw [g1, g2]
      rfl
    · have c2 : ¬ i < rl.length := by rw [← L.len]; exact c
      rw [List.getElem?_eq_none (by omega), List.getElem?_eq_none (l := rl) (by omega)]
      rfl
  rw [mz] at C
  have sz : sZip (sVar 5) (sVar 3) (envL P s FW NM RW FD count (some (.int (place : Nat))) (some (.int (j : Nat)))) h = .ok (.zp (.ref RW) (.ref FW)) h := by
    have s1 : seqK h (.ref RW) = some false := by simp [seqK, lk_def, eR]
    have s2 : seqK h (.ref FW) = some false := by simp [seqK, lk_def, eF]
    have v1 : sVar 5 (envL P s FW NM RW FD count (some (.int (place : Nat))) (some (.int (j : Nat)))) h = .ok (.ref RW) h := by simp [envL]
    have v2 : sVar 3 (envL P s FW NM RW FD count (some (.int (place : Nat))) (some (.int (j : Nat)))) h = .ok (.ref FW) h := by simp [envL]
    unfold sZip
    rw [v1, Res.bind_ok, v2, Res.bind_ok, s1]
    show onSome (seqK h (.ref FW)) _ = _
    rw [s2]
    show sZip.guardI _ _ = _
    unfold sZip.guardI
    exact guard_true _ _ rfl
  have tn : turnsD (.zp (.ref RW) (.ref FW)) h = dz.length + 1 := by
    show (match itemsD h (.ref RW) with | some ds => ds.length + 1 | none => 0) = _
    rw [eiR, dl]
    simp
  unfold APL
  rw [ev_lc, sz, Res.bind_ok, tn]
  have wp : wipeD (envL P s FW NM RW FD count (some (.int (place : Nat))) (some (.int (j : Nat)))) [11, 9, 10] = envL P s FW NM RW FD count (some (.int (place : Nat))) (some (.int (j : Nat))) := rfl
  rw [wp]
  exact C
theorem app_ex (c : lk h s = some (cfgO sv sh k e f p sz wd nd)) (eF : lk h FW = some (.lst (fl.map pairD))) (eR : lk h RW = some (.lst (gs.map D.ref))) (L : Lsts h gs rl) (lg : gs.length = fl.length) (hf : fl.length ≤ 100) (hr : ∀ r ∈ rl, r.length = fl.length ∧ ∀ x ∈ r, 0 ≤ x ∧ x < 1073741824) {len : Nat} (hq : ∀ q ∈ fl, q.2.length = len) {place j : Nat} (hpl : place < len) (hj : j < fl.length)
    {acc : List Int} (eD : lk h FD = some (.lst (acc.map D.int))) (ha : acc.length ≤ 1000000) (hp : 0 < p) :
    APP (envL P s FW NM RW FD count (some (.int (place : Nat))) (some (.int (j : Nat)))) h = .ok (.nx (envL P s FW NM RW FD count (some (.int (place : Nat))) (some (.int (j : Nat))))) (h.set FD (.lst ((acc ++ [valP rl fl p place j]).map D.int))) := by
  have Z := zip_ex (P := P) (s := s) (NM := NM) (FD := FD) (count := count) eF eR L lg hf hr hq hpl hj
  have hD := lk_lt eD
  unfold cfgO at c
  have S : sCallN sumN APL (envL P s FW NM RW FD count (some (.int (place : Nat))) (some (.int (j : Nat)))) h = .ok (.int (List.zipWith (fun row q => row.getD j 0 * q.2.getD place 0) rl fl).sum) h := by
    unfold sCallN
    rw [Z, Res.bind_ok]
    unfold sumN
    rw [intsD_map]
    rfl
  have M : (s2 modF (sCallN sumN APL) (sFld (sVar 2) "prime" ["Settings"])) (envL P s FW NM RW FD count (some (.int (place : Nat))) (some (.int (j : Nat)))) h = .ok (.int (valP rl fl p place j)) h := by
    rw [ev_2, S, Res.bind_ok]
    have fp : sFld (sVar 2) "prime" ["Settings"] (envL P s FW NM RW FD count (some (.int (place : Nat))) (some (.int (j : Nat)))) h = .ok (.int p) h := by simp [envL, c, guard_true, List.lookup]
    rw [fp, Res.bind_ok, modF_int _ _ _ hp]
    rfl
  unfold APP
  rw [ev_drop, ev_append]
  have v6 : sVar 6 (envL P s FW NM RW FD count (some (.int (place : Nat))) (some (.int (j : Nat)))) h = .ok (.ref FD) h := by simp [envL]
  rw [v6, Res.bind_ok]
  simp only [asRef, onLst_ev, eD, klO_lst]
  rw [M, Res.bind_ok]
  simp only [eD, klO_lst]
  rw [guard_true _ _ (by rw [LIM_eq, List.length_map]; omega)]
  simp
end
end Kq
end
set_option maxHeartbeats 8000000
noncomputable section
namespace Kq
open PySem PySem.Spec L2 Kf PySem.W
theorem rowsP_bd {fl : List (Int × List Int)} {p : Int} (hp : 0 < p ∧ p < 1073741824) {r : List Int} (h : r ∈ rowsP fl p) : ∀ x ∈ r, 0 ≤ x ∧ x < 1073741824 := by
  obtain ⟨q, _, rfl⟩ := List.mem_map.mp h
  intro x hx
  obtain ⟨l, _, rfl⟩ := List.mem_map.mp hx
  exact ⟨Int.emod_nonneg _ (by omega), by have := Int.emod_lt_of_pos (l * invP (basisB (fl.map (·.1)) q.1 p).2 p) hp.1; omega⟩
def foundU (rl : List (List Int)) (fl : List (Int × List Int)) (p : Int) (k i : Nat) : List Int := (List.range i).flatMap fun place => (List.range k).map (valP rl fl p place)
theorem foundU_len (rl : List (List Int)) (fl : List (Int × List Int)) (p : Int) (k : Nat) : ∀ i, (foundU rl fl p k i).length = i * k
  | 0 => by simp [foundU]
  | i + 1 => by
    have := foundU_len rl fl p k i
    unfold foundU at this ⊢
    rw [List.range_succ, List.flatMap_append, List.length_append, this]
    simp
    rw [Nat.add_mul]
    omega
theorem foundU_succ (rl : List (List Int)) (fl : List (Int × List Int)) (p : Int) (k i : Nat) : foundU rl fl p k (i + 1) = foundU rl fl p k i ++ (List.range k).map (valP rl fl p i) := by
  unfold foundU
  rw [List.range_succ, List.flatMap_append]
  simp
section
variable {h : Hd} {P s FW NM RW FD : Nat} {sv sh e f p sz wd nd count : Int} {k : Nat} {gs : List Nat} {rl : List (List Int)} {fl : List (Int × List Int)}
theorem loops_ex (c : lk h s = some (cfgO sv sh k e f p sz wd nd)) (eF : lk h FW = some (.lst (fl.map pairD))) (eR : lk h RW = some (.lst (gs.map D.ref))) (L : Lsts h gs rl) (lg : gs.length = fl.length) (hf : fl.length ≤ 100) (hr : ∀ r ∈ rl, r.length = fl.length ∧ ∀ x ∈ r, 0 ≤ x ∧ x < 1073741824) {len : Nat} (hq : ∀ q ∈ fl, q.2.length = len)
    (hk : k = fl.length ∧ 1 ≤ k) (hlen : len ≤ 1000) (eD : lk h FD = some (.lst [])) (hp : 0 < p) (n1 : s ≠ FD) (n2 : FW ≠ FD) (n3 : RW ≠ FD) (n4 : ∀ g ∈ gs, g ≠ FD) :
    ∃ y7 y8 h', LT5 (envL P s FW NM RW FD count none none) h = .ok (.nx (envL P s FW NM RW FD count y7 y8)) h' ∧ lk h' FD = some (.lst ((foundP rl fl p k len).map D.int)) ∧ Fr [FD] h h' := by
  have kb : k ≤ 100 := by omega
  obtain ⟨env', h', E, ⟨y7, y8, ee⟩, eD', F⟩ := loop_inv (it := .snap (rangeL 0 len)) (g := gN 7) (b := sFor (sRange1 (sFld (sVar 2) "k" ["Settings"])) (gN 8) APP)
    (fun i env h' => (∃ y7 y8, env = envL P s FW NM RW FD count y7 y8) ∧ lk h' FD = some (.lst ((foundU rl fl p k i).map D.int)) ∧ Fr [FD] h h') (rangeL 0 len) (fun i env h' _ => rfl)
    (fun i env h1 d hd ⟨⟨y7, y8, ee⟩, eD1, F1⟩ => by
      have hi : i < len := by have := lt_of_get hd; simpa [rangeL] using this
      have ed : d = .int (i : Nat) := by
        rw [rangeL_kD, List.getElem?_map, List.getElem?_range hi] at hd
        exact (Option.some.inj hd).symm
      subst ee
      refine ⟨envL P s FW NM RW FD count (some (.int (i : Nat))) y8, h1, by rw [ed]; rfl, ?_⟩
      have c1 := F1.get c (by simpa using n1)
      have fl1 := foundU_len rl fl p k i
      have ib : i * k ≤ 100000 := Nat.le_trans (Nat.mul_le_mul (show i ≤ 1000 by omega) kb) (by omega)
      obtain ⟨env2, h2, E2, ⟨z8, ee2⟩, eD2, F2⟩ := loop_inv (it := .snap (rangeL 0 k)) (g := gN 8) (b := APP)
        (fun j env h' => (∃ y8, env = envL P s FW NM RW FD count (some (.int (i : Nat))) y8) ∧ lk h' FD = some (.lst ((foundU rl fl p k i ++ (List.range j).map (valP rl fl p i)).map D.int)) ∧ Fr [FD] h1 h') (rangeL 0 k) (fun i env h' _ => rfl)
        (fun j env h3 d hd ⟨⟨y8, ee⟩, eD3, F3⟩ => by
          have hj : j < k := by have := lt_of_get hd; simpa [rangeL] using this
          have ed : d = .int (j : Nat) := by
            rw [rangeL_kD, List.getElem?_map, List.getElem?_range hj] at hd
            exact (Option.some.inj hd).symm
          subst ee
          have F13 := F1.trans F3
          have A := app_ex (P := P) (NM := NM) (count := count) (F13.get c (by simpa using n1)) (F13.get eF (by simpa using n2)) (F13.get eR (by simpa using n3)) (L.fr F13 (fun g hg => by simpa using n4 g hg)) lg hf hr hq hi (show j < fl.length by omega) eD3 (by rw [List.length_append, fl1, List.length_map, List.length_range]; omega) hp
          have hD3 := lk_lt eD3
          refine ⟨envL P s FW NM RW FD count (some (.int (i : Nat))) (some (.int (j : Nat))), h3, by rw [ed]; rfl, _, _, A, ⟨_, rfl⟩, ?_, F3.trans (Fr.set (by simp))⟩
          rw [lk_set, if_pos rfl, if_pos hD3]
          simp [List.range_succ])
        (k + 1) 0 (envL P s FW NM RW FD count (some (.int (i : Nat))) y8) h1 ⟨⟨y8, rfl⟩, by simpa using eD1, Fr.refl⟩ (by rw [rangeL_len]; omega) (Nat.zero_le _)
      rw [rangeL_len] at eD2
      refine ⟨env2, h2, ?_, ⟨_, _, ee2⟩, by rw [foundU_succ]; exact eD2, F1.trans F2⟩
      unfold cfgO at c1
      have rg : sRange1 (sFld (sVar 2) "k" ["Settings"]) (envL P s FW NM RW FD count (some (.int (i : Nat))) y8) h1 = .ok (.snap (rangeL 0 k)) h1 := by
        have : sFld (sVar 2) "k" ["Settings"] (envL P s FW NM RW FD count (some (.int (i : Nat))) y8) h1 = .ok (.int k) h1 := by simp [envL, c1, guard_true, List.lookup]
        rw [ev_range1, this, Res.bind_ok, rg1_int _ _ (by omega)]
        rfl
      have tn : turnsD (.snap (rangeL 0 k)) h1 = k + 1 := by show (rangeL 0 k).length + 1 = _; rw [rangeL_len]
      rw [ev_for, rg, Res.lift_ok, tn]
      exact E2)
    (len + 1) 0 (envL P s FW NM RW FD count none none) h ⟨⟨none, none, rfl⟩, by simpa [foundU] using eD, Fr.refl⟩ (by rw [rangeL_len]; omega) (Nat.zero_le _)
  rw [rangeL_len] at eD'
  refine ⟨y7, y8, h', ?_, eD', F⟩
  obtain ⟨q0, fr, efl⟩ : ∃ q0 fr, fl = q0 :: fr := by
    cases fl with
    | nil => exact absurd hk.1 (by simp; omega)
    | cons a b => exact ⟨a, b, rfl⟩
  have ql : q0.2.length = len := hq q0 (by rw [efl]; simp)
  have a0 : atI (fl.map pairD) 0 = some (pairD q0) := by rw [efl]; exact atI_nat (k := 0) rfl
  have rg : sRange1 (sCall lenA (sCons (s2 getF (s2 getF (sVar 3) (sC (.int 0))) (sC (.int 1))) sNil)) (envL P s FW NM RW FD count none none) h = .ok (.snap (rangeL 0 len)) h := by
    have : sCall lenA (sCons (s2 getF (s2 getF (sVar 3) (sC (.int 0))) (sC (.int 1))) sNil) (envL P s FW NM RW FD count none none) h = .ok (.int len) h := by
      simp [envL, eF, a0, pairD, ql]
    rw [ev_range1, this, Res.bind_ok, rg1_int _ _ (by omega)]
    rfl
  have tn : turnsD (.snap (rangeL 0 len)) h = len + 1 := by show (rangeL 0 len).length + 1 = _; rw [rangeL_len]
  rw [LT5_eq, ev_for, rg, Res.lift_ok, tn, E, ee]
end
section
variable {h : Hd} {P s : Nat} {sv sh e f p sz wd nd : Int} {k count : Nat} {ps : List (Int × List Int)}
theorem letters_ex (eP : lk h P = some (.lst (ps.map pairD))) (c : lk h s = some (cfgO sv sh k e f p sz wd nd)) (hk : 1 ≤ k ∧ k ≤ 4) (hps : k ≤ ps.length) (hpl : ps.length ≤ 100) {len : Nat} (hq : ∀ q ∈ ps, q.2.length = len) (hlen : len ≤ 1000) (nd' : ((ps.take k).map (·.1)).Nodup) (hb : ∀ q ∈ ps, -1000000 < q.1 ∧ q.1 < 1000000) (hp : 2 ≤ p ∧ p < 1073741824) (hc : count ≤ 1000000) :
    ∃ h', M_letters_at [.ref P, .int count, .ref s] h = .ok (.tup ((lettersP ps k p count).map D.int)) h' ∧ Fr [] h h' := by
  have c0 := c
  unfold cfgO at c0
  obtain ⟨fl, efl⟩ : ∃ fl, fl = ps.take k := ⟨_, rfl⟩
  have fll : fl.length = k := by rw [efl, List.length_take]; omega
  have hqf : ∀ q ∈ fl, q.2.length = len := fun q hq' => hq q (List.mem_of_mem_take (by rw [← efl]; exact hq'))
  obtain ⟨ns, ens⟩ : ∃ ns, ns = fl.map (·.1) := ⟨_, rfl⟩
  have hns : ∀ o ∈ ns, -1000000 < o ∧ o < 1000000 := fun o ho => by
    rw [ens] at ho
    obtain ⟨q, hq', rfl⟩ := List.mem_map.mp ho
    exact hb q (List.mem_of_mem_take (by rw [← efl]; exact hq'))
  have nsl : ns.length = k := by rw [ens, List.length_map, fll]
  -- the first two lists
  obtain ⟨h1, eh1⟩ : ∃ h1, h1 = h ++ [O.lst (fl.map pairD)] := ⟨_, rfl⟩
  have l1 : h1.length = h.length + 1 := by rw [eh1]; simp
  have F1 : Fr [] h h1 := by rw [eh1]; exact Fr.app
  have f1 : lk h1 h.length = some (.lst (fl.map pairD)) := by rw [eh1]; simp
  have E1 : LT1 [some (.ref P), some (.int count), some (.ref s), none, none, none, none, none, none, none, none, none] h = .ok (.nx [some (.ref P), some (.int count), some (.ref s), some (.ref h.length), none, none, none, none, none, none, none, none]) h1 := by
    have pk : sPart (sFld (sVar 2) "k" ["Settings"]) [some (.ref P), some (.int count), some (.ref s), none, none, none, none, none, none, none, none, none] h = .ok (some (k : Int)) h := by
      have : sFld (sVar 2) "k" ["Settings"] [some (.ref P), some (.int count), some (.ref s), none, none, none, none, none, none, none, none, none] h = .ok (.int k) h := by simp [c0, guard_true, List.lookup]
      unfold sPart
      rw [this]
      rfl
    have sl : sSlA (sVar 0) sNoPart (sPart (sFld (sVar 2) "k" ["Settings"])) [some (.ref P), some (.int count), some (.ref s), none, none, none, none, none, none, none, none, none] h = .ok (.ref h.length) h1 := by
      have np : sNoPart [some (.ref P), some (.int count), some (.ref s), none, none, none, none, none, none, none, none, none] h = .ok none h := rfl
      have v0 : sVar 0 [some (.ref P), some (.int count), some (.ref s), none, none, none, none, none, none, none, none, none] h = .ok (.ref P) h := by simp
      unfold sSlA
      rw [v0, Res.bind_ok, np, Res.bind_ok, pk, Res.bind_ok]
      show onLst h P _ = _
      rw [onLst_ev, eP, klO_lst, cut_pre, ← List.map_take, ← efl, eh1]
    unfold LT1
    rw [ev_asg, sl]
    simp
  have C2 := comp_liveP (g := gTp 2 (gCons' (gN 9) (gCons' (gN 10) gNil'))) (t := sYes) (f := sVar 9) (env := [some (.ref P), some (.int count), some (.ref s), some (.ref h.length), none, none, none, none, none, none, none, none]) (h := h1)
    (β := fun _ => true) (φ := fun d => match d with | .tup (x :: _) => x | _ => .non) (fl.map pairD) f1 (by rw [LIM_eq, List.length_map]; omega) fun d hd => by
      obtain ⟨q, _, rfl⟩ := List.mem_map.mp hd
      exact ⟨_, by simp [pairD, guard_true]; rfl, rfl, fun _ => by simp [pairD]⟩
  rw [map_all2, List.map_map] at C2
  have cm2 : fl.map ((fun d => match d with | D.tup (x :: _) => x | _ => .non) ∘ pairD) = ns.map D.int := by rw [ens, List.map_map]; rfl
  rw [cm2] at C2
  obtain ⟨h2, eh2⟩ : ∃ h2, h2 = h1 ++ [O.lst (ns.map D.int)] := ⟨_, rfl⟩
  have l2 : h2.length = h.length + 2 := by rw [eh2, List.length_append, l1]; rfl
  have F2 : Fr [] h1 h2 := by rw [eh2]; exact Fr.app
  have f2 : lk h2 h1.length = some (.lst (ns.map D.int)) := by rw [eh2]; simp
  have E2 : LT2 [some (.ref P), some (.int count), some (.ref s), some (.ref h.length), none, none, none, none, none, none, none, none] h1 = .ok (.nx [some (.ref P), some (.int count), some (.ref s), some (.ref h.length), some (.ref h1.length), none, none, none, none, none, none, none]) h2 := by
    simp [LT2, f1, C2, eh2]
  -- the rows
  obtain ⟨vs, h3, E3, gs, ev, L3, hg3, F3⟩ := comp_inv (it := .live h1.length) (g := gN 9) (t := sYes) (f := sFn 3 M_basis_at [] (sCons (sVar 4) (sCons (sVar 9) (sCons (sFld (sVar 2) "prime" ["Settings"]) sNil)))) (env := [some (.ref P), some (.int count), some (.ref s), some (.ref h.length), some (.ref h1.length), none, none, none, none, none, none, none])
    (fun i acc h' => ∃ gs : List Nat, acc = gs.map D.ref ∧ Lsts h' gs ((ns.take i).map fun n => basisP ns n p) ∧ (∀ g ∈ gs, h2.length ≤ g) ∧ Fr [] h2 h') (ns.map D.int) (fun i acc h' ⟨_, _, _, _, F⟩ => by rw [nextD_live, F.get f2 (by simp), nvO_lst, nD_get])
    (fun i acc h' d hd ⟨gs, ea, L, hg, F⟩ => by
      rw [List.getElem?_map] at hd
      cases en : ns[i]? with
      | none => rw [en] at hd; cases hd
      | some n =>
        rw [en] at hd
        cases hd
        have cc := (F1.trans (F2.trans F)).get c (by simp)
        unfold cfgO at cc
        obtain ⟨h4, q, B, eq4, F4, hq4⟩ := basis_ex (F.get f2 (by simp)) (by omega) hns (hns n (List.mem_of_getElem? en)) hp
        refine ⟨[some (.ref P), some (.int count), some (.ref s), some (.ref h.length), some (.ref h1.length), none, none, none, none, some (.int n), none, none], rfl, rfl, .ref q, h4, ?_, gs ++ [q], by rw [ea]; simp, ?_, ?_, F.trans F4⟩
        · simp [cc, guard_true, List.lookup, B]
        · rw [snoc_take en, List.map_append]
          exact (L.fr F4 (by simp)).snoc eq4
        · intro g hg'
          rcases List.mem_append.mp hg' with hg' | hg'
          · exact hg g hg'
          · simp at hg'
            have := F.len
            omega)
    (ns.length + 1) 0 0 [] h2 ⟨[], rfl, by simpa using Lsts.nil, (fun g hg => by cases hg), Fr.refl⟩ (by simp) (Nat.zero_le _) (by rw [LIM_eq, List.length_map]; omega)
  rw [List.nil_append] at ev
  have tk : ns.take (ns.map D.int).length = ns := by rw [List.length_map]; exact List.take_length
  rw [tk] at L3
  have rle : (ns.map fun n => basisP ns n p) = rowsP fl p := by unfold rowsP; rw [ens, List.map_map]; rfl
  rw [rle] at L3
  obtain ⟨h4, eh4⟩ : ∃ h4, h4 = h3 ++ [O.lst (gs.map D.ref)] := ⟨_, rfl⟩
  have l4 : h4.length = h3.length + 1 := by rw [eh4]; simp
  have F4 : Fr [] h3 h4 := by rw [eh4]; exact Fr.app
  have f4 : lk h4 h3.length = some (.lst (gs.map D.ref)) := by rw [eh4]; simp
  have tn2 : turnsD (.live h1.length) h2 = ns.length + 1 := by
    show (match h2[h1.length]? with | some (.lst ds) => ds.length + 1 | _ => 0) = _
    rw [lk_def, f2]
    simp
  have E3' : LT3 [some (.ref P), some (.int count), some (.ref s), some (.ref h.length), some (.ref h1.length), none, none, none, none, none, none, none] h2 = .ok (.nx [some (.ref P), some (.int count), some (.ref s), some (.ref h.length), some (.ref h1.length), some (.ref h3.length), none, none, none, none, none, none]) h4 := by
    rw [ev] at E3
    simp [LT3, f2, tn2, E3, eh4]
  obtain ⟨h5, eh5⟩ : ∃ h5, h5 = h4 ++ [O.lst []] := ⟨_, rfl⟩
  have F5 : Fr [] h4 h5 := by rw [eh5]; exact Fr.app
  have f5 : lk h5 h4.length = some (.lst []) := by rw [eh5]; simp
  have E4 : LT4 [some (.ref P), some (.int count), some (.ref s), some (.ref h.length), some (.ref h1.length), some (.ref h3.length), none, none, none, none, none, none] h4 = .ok (.nx (envL P s h.length h1.length h3.length h4.length count none none)) h5 := by
    simp [LT4, eh5, envL]
  have F15 := F1.trans (F2.trans (F3.trans (F4.trans F5)))
  have le3 := F3.len
  obtain ⟨y7, y8, h6, E5, f6, F6⟩ := loops_ex (P := P) (NM := h1.length) (count := count) (FD := h4.length) (len := len) (F15.get c (by simp)) ((F2.trans (F3.trans (F4.trans F5))).get f1 (by simp)) (F5.get f4 (by simp)) ((L3.fr F4 (by simp)).fr F5 (by simp))
    (by rw [L3.len]; unfold rowsP; simp) (by omega) (fun r hr => ⟨rowsP_at (by rw [efl]; exact nd') hr, rowsP_bd (by omega) hr⟩) hqf ⟨fll.symm, hk.1⟩ hlen f5 (by omega)
    (by have := lk_lt c; omega) (by omega) (by omega) (fun g hg => by
      obtain ⟨i, hi, eg⟩ := List.getElem_of_mem hg
      obtain ⟨_, _, lg⟩ := L3.at_ i g (by rw [List.getElem?_eq_getElem hi, eg])
      have := lk_lt lg
      omega)
  have E0 : M_letters_at [.ref P, .int count, .ref s] h = finR (sSeq LT1 (sSeq LT2 (sSeq LT3 (sSeq LT4 (sSeq LT5 LT6)))) [some (.ref P), some (.int count), some (.ref s), none, none, none, none, none, none, none, none, none] h) := by rw [LT_eq, defM_ev]; rfl
  have lq : ((ps.take k).headD (0, [])).2.length = len := by
    rw [← efl]
    cases fl with
    | nil => simp at fll; omega
    | cons q r => exact hqf q (by simp)
  have lP : (foundP (rowsP fl p) fl p k len).take count = lettersP ps k p count := by unfold lettersP; rw [lq, efl]
  refine ⟨h6 ++ [O.lst ((lettersP ps k p count).map D.int)], ?_, (F15.fresh F6 (by omega)).trans Fr.app⟩
  rw [E0, ev_seq, E1, andThen_nx, ev_seq, E2, andThen_nx, ev_seq, E3', andThen_nx, ev_seq, E4, andThen_nx, ev_seq, E5, andThen_nx]
  have pk : sPart (sVar 1) (envL P s h.length h1.length h3.length h4.length count y7 y8) h6 = .ok (some (count : Int)) h6 := by
    have : sVar 1 (envL P s h.length h1.length h3.length h4.length count y7 y8) h6 = .ok (.int count) h6 := by simp [envL]
    unfold sPart
    rw [this]
    rfl
  have sl : sSlA (sVar 6) sNoPart (sPart (sVar 1)) (envL P s h.length h1.length h3.length h4.length count y7 y8) h6 = .ok (.ref h6.length) (h6 ++ [O.lst ((lettersP ps k p count).map D.int)]) := by
    have np : sNoPart (envL P s h.length h1.length h3.length h4.length count y7 y8) h6 = .ok none h6 := rfl
    have v6 : sVar 6 (envL P s h.length h1.length h3.length h4.length count y7 y8) h6 = .ok (.ref h4.length) h6 := by simp [envL]
    unfold sSlA
    rw [v6, Res.bind_ok, np, Res.bind_ok, pk, Res.bind_ok]
    show onLst h6 h4.length _ = _
    rw [onLst_ev, f6, klO_lst, cut_pre, ← List.map_take, lP]
  unfold LT6
  rw [ev_ret, ev_call, ev_cons, sl]
  simp
end
end Kq
end
set_option maxHeartbeats 8000000
noncomputable section
namespace Kq
open PySem PySem.Spec L2 Kf PySem.W
def IP1 : SS := (sIf (sOr (sNot (sTest (sIsi "tuple" (sVar 0)))) (sOr (sTest (s2 neF (sCall lenA (sCons (sVar 0) sNil)) (sC (.int 2)))) (sNot (sTest (sFn 3 M_is_between [] (sCons (s2 getF (sVar 0) (sC (.int 0))) (sCons (sC (.int 1)) (sCons (sFld (sVar 2) "shelves" ["Settings"]) sNil))))))))
    (sRet (sC (.bl false)))
    sNext)
def IP2 : SS := (sIf (sOr (sNot (sTest (sIsi "tuple" (s2 getF (sVar 0) (sC (.int 1)))))) (sTest (s2 neF (sCall lenA (sCons (s2 getF (sVar 0) (sC (.int 1))) sNil)) (sVar 1))))
    (sRet (sC (.bl false)))
    sNext)
def IP3 : SS := (sRet (sCallN allN (sLc (sVal (s2 getF (sVar 0) (sC (.int 1)))) (gN 3) sYes (sFn 3 M_is_between [] (sCons (sVar 3) (sCons (sC (.int 0)) (sCons (s2 (f2I yes2 fun i j => .int (i - j)) (sFld (sVar 2) "prime" ["Settings"]) (sC (.int 1))) sNil)))) [3])))
theorem IP_eq : M_is_pair = defM 4 (sSeq IP1 (sSeq IP2 IP3)) := rfl
def TP1 : SS := (sIf (sNot (sTest (sFn 1 M_is_count [] (sCons (sVar 1) sNil))))
    (sRaise "BadNumber" ["what", "number"] (sCons (sC (.str "count")) (sCons (sVar 1) sNil)))
    sNext)
def TP2 : SS := (sAsg (s2 fdivF (s2 (f2I yes2 fun i j => .int (i - j)) (s2 addA (sVar 1) (sFld (sVar 2) "k" ["Settings"])) (sC (.int 1))) (sFld (sVar 2) "k" ["Settings"])) (gN 3))
def TP3 : SS := (sIf (sOr (sNot (sTest (sFn 1 M_is_list [] (sCons (sVar 0) sNil)))) (sTest (s2 ltF (sCall lenA (sCons (sVar 0) sNil)) (sFld (sVar 2) "k" ["Settings"]))))
    (sRaise "BadNumber" ["what", "number"] (sCons (sC (.str "pieces")) (sCons (sVar 0) sNil)))
    sNext)
def TP4 : SS := (sFor (sVal (sVar 0)) (gN 4) (sIf (sNot (sTest (sFn 3 M_is_pair [] (sCons (sVar 4) (sCons (sVar 3) (sCons (sVar 2) sNil))))))
    (sRaise "BadNumber" ["what", "number"] (sCons (sC (.str "pieces")) (sCons (sVar 0) sNil)))
    sNext))
def TP5 : SS := (sAsg (sNew (sCallLN sortL (sLc (sVal (sVar 0)) (gN 4) sYes (s2 getF (sVar 4) (sC (.int 0))) [4]))) (gN 5))
def TP6 : SS := (sIf (sTest (s2 neF (sSetLen (sVar 5)) (sCall lenA (sCons (sVar 5) sNil))))
    (sRaise "BadNumber" ["what", "number"] (sCons (sC (.str "pieces")) (sCons (sVar 0) sNil)))
    sNext)
def TP7 : SS := (sRet (sNew (sCallL sortF (sCons (sVar 0) sNil))))
theorem TP_eq : M_told_pieces = defM 6 (sSeq TP1 (sSeq TP2 (sSeq TP3 (sSeq TP4 (sSeq TP5 (sSeq TP6 TP7)))))) := rfl
/-! ### each once -/
theorem dedup_le : ∀ (l acc : List Int), (l.foldl PyProof.Rows.step_dedup acc).length ≤ acc.length + l.length
  | [], acc => by simp
  | a :: l, acc => by
    rw [List.foldl_cons]
    have := dedup_le l (PyProof.Rows.step_dedup acc a)
    have h2 : (PyProof.Rows.step_dedup acc a).length ≤ acc.length + 1 := by
      unfold PyProof.Rows.step_dedup
      split
      · omega
      · simp
    simp only [List.length_cons]
    omega
theorem dedup_iff : ∀ (l acc : List Int), (l.foldl PyProof.Rows.step_dedup acc).length = acc.length + l.length ↔ (l.Nodup ∧ ∀ x ∈ l, x ∉ acc)
  | [], acc => by simp
  | a :: l, acc => by
    rw [List.foldl_cons]
    by_cases c : a ∈ acc
    · have e : PyProof.Rows.step_dedup acc a = acc := by
        unfold PyProof.Rows.step_dedup
        rw [if_pos (by rw [List.any_eq_true]; exact ⟨a, c, by simp⟩)]
      rw [e]
      have := dedup_le l acc
      constructor
      · intro z; simp only [List.length_cons] at z; omega
      · intro z; exact absurd c (z.2 a List.mem_cons_self)
    · have e : PyProof.Rows.step_dedup acc a = acc ++ [a] := by
        unfold PyProof.Rows.step_dedup
        rw [if_neg]
        rw [List.any_eq_true]
        rintro ⟨x, hx, ex⟩
        rw [beq_iff_eq] at ex
        subst ex
        exact c hx
      rw [e]
      have ih := dedup_iff l (acc ++ [a])
      simp only [List.length_append, List.length_cons, List.length_nil] at ih ⊢
      rw [show acc.length + (l.length + 1) = acc.length + (0 + 1) + l.length by omega, ih]
      constructor
      · rintro ⟨n1, n2⟩
        refine ⟨List.nodup_cons.mpr ⟨fun z => n2 a z (by simp), n1⟩, fun x hx => ?_⟩
        rcases List.mem_cons.mp hx with rfl | hx
        · exact c
        · exact fun z => n2 x hx (by simp [z])
      · rintro ⟨n1, n2⟩
        rw [List.nodup_cons] at n1
        refine ⟨n1.2, fun x hx z => ?_⟩
        rcases List.mem_append.mp z with z | z
        · exact n2 x (List.mem_cons_of_mem _ hx) z
        · simp at z; subst z; exact n1.1 hx
theorem dedupI_iff (l : List Int) : (dedupI l).length = l.length ↔ l.Nodup := by
  have := dedup_iff l []
  simp at this
  exact this
/-! ### sorted -/
theorem allS_map_some {α β : Type} (f : α → β) : ∀ l : List α, allS (l.map fun a => some (f a)) = some (l.map f)
  | [] => rfl
  | a :: l => by
    show (allS (l.map fun a => some (f a))).map (f a :: ·) = _
    rw [allS_map_some f l]
    rfl
theorem sort_ints (ns : List Int) (h : Hd) : sortL (ns.map D.int) h = .ok ((ns.mergeSort fun a b => decide (a ≤ b)).map D.int) h := by
  have e1 : dps h (ns.map D.int) = some (ns.map fun n => (D.int n, PyData.int n)) := by
    unfold dps
    rw [List.map_map]
    exact allS_map_some (fun n => (D.int n, PyData.int n)) ns
  have e2 : alikeB ((ns.map fun n => (D.int n, PyData.int n)).map (·.2)) = true := by
    simp only [alikeB, List.all_eq_true, List.map_map, Bool.and_eq_true]
    intro x hx
    obtain ⟨a, _, rfl⟩ := List.mem_map.mp hx
    refine ⟨rfl, fun y hy => ?_⟩
    obtain ⟨b, _, rfl⟩ := List.mem_map.mp hy
    simp [alike]
  have e3 : sortableB ((ns.map fun n => (D.int n, PyData.int n)).map (·.2)) = true := by
    simp only [sortableB, Bool.or_eq_true, List.all_eq_true]
    right
    intro x hx
    rw [List.map_map] at hx
    obtain ⟨a, _, rfl⟩ := List.mem_map.mp hx
    rfl
  have e4 : (ns.map fun n => (D.int n, PyData.int n)).mergeSort Kf.sortLe = (ns.mergeSort fun a b => decide (a ≤ b)).map fun n => (D.int n, PyData.int n) :=
    (List.map_mergeSort (r := fun a b : Int => decide (a ≤ b)) (s := Kf.sortLe) (f := fun n : Int => (D.int n, PyData.int n)) (l := ns) fun a _ b _ => by
      unfold Kf.sortLe
      rw [dataLt_int]
      by_cases c : a ≤ b
      · rw [decide_eq_true c, decide_eq_false (by omega)]; rfl
      · rw [decide_eq_false c, decide_eq_true (by omega)]; rfl).symm
  unfold sortL
  rw [e1]
  show guard' _ _ = _
  rw [guard_true _ _ ⟨e2, e3⟩, e4, List.map_map]
  rfl
def pairP (q : Int × List Int) : PyData := .tuple [.int q.1, .tuple (q.2.map .int)]
def lePr (a b : Int × List Int) : Bool := !dataLt (pairP b) (pairP a)
def sortPr (ps : List (Int × List Int)) : List (Int × List Int) := ps.mergeSort lePr
theorem tupI_py (h : Hd) (n : Nat) (l : List Int) : Kf.py h (n + 2) (.tup (l.map D.int)) = some (.tuple (l.map .int)) := by
  show (allS ((l.map D.int).map (Kf.py h (n + 1)))).map PyData.tuple = _
  rw [List.map_map]
  have : allS (l.map (Kf.py h (n + 1) ∘ D.int)) = some (l.map PyData.int) := allS_map_some PyData.int l
  rw [this]
  rfl
theorem pair_py (h : Hd) (n : Nat) (q : Int × List Int) : Kf.py h (n + 3) (pairD q) = some (pairP q) := by
  have t := tupI_py h n q.2
  show (allS [some (PyData.int q.1), Kf.py h (n + 2) (.tup (q.2.map D.int))]).map PyData.tuple = _
  rw [t]
  rfl
theorem sort_pairs (ps : List (Int × List Int)) (h : Hd) : sortL (ps.map pairD) h = .ok ((sortPr ps).map pairD) h := by
  have e1 : dps h (ps.map pairD) = some (ps.map fun q => (pairD q, pairP q)) := by
    unfold dps
    rw [List.map_map]
    have : ((fun d => (Kf.py h 60 d).map fun p => (d, p)) ∘ pairD) = fun q => some (pairD q, pairP q) := by
      funext q
      show (Kf.py h 60 (pairD q)).map _ = _
      rw [pair_py h 57 q]
      rfl
    rw [this]
    exact allS_map_some (fun q => (pairD q, pairP q)) ps
  have e2 : alikeB ((ps.map fun q => (pairD q, pairP q)).map (·.2)) = true := by
    simp only [alikeB, List.all_eq_true, List.map_map, Bool.and_eq_true]
    intro x hx
    obtain ⟨a, _, rfl⟩ := List.mem_map.mp hx
    refine ⟨rfl, fun y hy => ?_⟩
    obtain ⟨b, _, rfl⟩ := List.mem_map.mp hy
    simp [alike, alikeAll, pairP, alike_ints]
  have e3 : sortableB ((ps.map fun q => (pairD q, pairP q)).map (·.2)) = true := by
    simp only [sortableB, Bool.or_eq_true, List.all_eq_true]
    left
    intro x hx
    rw [List.map_map] at hx
    obtain ⟨a, _, rfl⟩ := List.mem_map.mp hx
    rfl
  have e4 : (ps.map fun q => (pairD q, pairP q)).mergeSort Kf.sortLe = (sortPr ps).map fun q => (pairD q, pairP q) :=
    (List.map_mergeSort (r := lePr) (s := Kf.sortLe) (f := fun q : Int × List Int => (pairD q, pairP q)) (l := ps) fun a _ b _ => rfl).symm
  unfold sortL
  rw [e1]
  show guard' _ _ = _
  rw [guard_true _ _ ⟨e2, e3⟩, e4, List.map_map]
  rfl
/-! ### a pair -/
def isPairB (sh p : Int) (len : Int) : D → Bool
  | .tup [a, .tup vs] => isIn 1 sh a && decide ((vs.length : Int) = len) && vs.all (isIn 0 (p - 1))
  | _ => false
/-- what may stand among the pieces -/
def PV (h : Hd) (d : D) : Prop := isiF "tuple" d h = .ok (.bl false) h ∧ (∀ ds, d ≠ .tup ds) ∨ ∃ ds, d = .tup ds ∧ ds.length ≤ 1000 ∧ ∀ x ∈ ds, Val h x ∧ ∀ vs, x = .tup vs → vs.length ≤ 1000
section
variable {h : Hd} {s : Nat} {sv sh k e f p sz wd nd len : Int} {d : D}
theorem pair_ex (c : lk h s = some (cfgO sv sh k e f p sz wd nd)) (v : PV h d) : M_is_pair [d, .int len, .ref s] h = .ok (.bl (isPairB sh p len d)) h := by
  unfold cfgO at c
  have E0 : M_is_pair [d, .int len, .ref s] h = finR (sSeq IP1 (sSeq IP2 IP3) [some d, some (.int len), some (.ref s), none] h) := by rw [IP_eq, defM_ev]; rfl
  rw [E0]
  rcases v with ⟨v, nt⟩ | ⟨ds, rfl, hl, v⟩
  · have : isPairB sh p len d = false := by
      cases d <;> first | rfl | exact absurd rfl (nt _)
    simp [IP1, v, this]
  · by_cases c2 : ds.length = 2
    · obtain ⟨a, b, rfl⟩ : ∃ a b, ds = [a, b] := by
        match ds, c2 with
        | [a, b], _ => exact ⟨a, b, rfl⟩
      have va := between_ex (v a (by simp)).1 1 sh
      cases ia : isIn 1 sh a with
      | false =>
        have : isPairB sh p len (.tup [a, b]) = false := by cases b <;> simp [isPairB, ia]
        rw [ia] at va
        simp [IP1, c, guard_true, List.lookup, va, this]
      | true =>
        rw [ia] at va
        have A1 : IP1 [some (.tup [a, b]), some (.int len), some (.ref s), none] h = .ok (.nx [some (.tup [a, b]), some (.int len), some (.ref s), none]) h := by
          simp [IP1, c, guard_true, List.lookup, va]
        rw [ev_seq, A1, andThen_nx]
        have vb := (v b (by simp)).1
        by_cases tb : ∃ vs, b = .tup vs
        · obtain ⟨vs, rfl⟩ := tb
          have vl := (v _ (List.mem_cons_of_mem _ List.mem_cons_self)).2 vs rfl
          have fl : ∀ x ∈ vs, Dk 10 x := fun x hx => by
            cases vb with
            | flat q => exact (dk_inv (k := 9) (.inl q) x hx).up (by omega)
          by_cases c3 : (vs.length : Int) = len
          · have A2 : IP2 [some (.tup [a, .tup vs]), some (.int len), some (.ref s), none] h = .ok (.nx [some (.tup [a, .tup vs]), some (.int len), some (.ref s), none]) h := by
              simp [IP2, c3]
            obtain ⟨it, e1, e2⟩ := (Row.tup (h := h) (ds := vs)).comp (g := gN 3) (t := sYes) (f := sFn 3 M_is_between [] (sCons (sVar 3) (sCons (sC (.int 0)) (sCons (s2 (f2I yes2 fun i j => .int (i - j)) (sFld (sVar 2) "prime" ["Settings"]) (sC (.int 1))) sNil)))) (env := [some (.tup [a, .tup vs]), some (.int len), some (.ref s), none]) (β := fun _ => true) (φ := fun d => .bl (isIn 0 (p - 1) d)) (by rw [LIM_eq]; omega) fun d hd => ⟨_, rfl, rfl, fun _ => by
              have := between_ex (Val.flat (fl d hd)) 0 (p - 1) (h := h)
              simp [c, guard_true, List.lookup, this]⟩
            rw [map_all2] at e2
            have bl := blsD_map (isIn 0 (p - 1)) vs
            have al : (vs.map (isIn 0 (p - 1))).all id = vs.all (isIn 0 (p - 1)) := by rw [List.all_map]; rfl
            have r : isPairB sh p len (.tup [a, .tup vs]) = vs.all (isIn 0 (p - 1)) := by simp [isPairB, ia, c3]
            rw [ev_seq, A2, andThen_nx, r]
            simp at e1
            subst e1
            simp at e2
            simp [IP3, e2, allN, bl, al]
          · have r : isPairB sh p len (.tup [a, .tup vs]) = false := by simp [isPairB, c3]
            simp [IP2, c3, r]
        · have r : isPairB sh p len (.tup [a, b]) = false := by
            cases b <;> first | rfl | exact absurd ⟨_, rfl⟩ tb
          have ib : isiF "tuple" b h = .ok (.bl false) h := by
            rcases vb.cases' with e | ⟨_, e⟩ | ⟨_, e⟩ | ⟨_, e⟩ | ⟨_, e⟩ | ⟨_, e⟩ | ⟨_, e⟩ | ⟨m, ds, e, e2, _⟩ <;> subst e <;> first | exact isi_tuple_ref e2 | exact absurd ⟨_, rfl⟩ tb | simp
          simp [IP2, ib, r]
    · have r : isPairB sh p len (.tup ds) = false := by
        match ds, c2 with
        | [], _ => rfl
        | [_], _ => rfl
        | [_, _], c2 => exact absurd rfl c2
        | _ :: b :: _ :: _, _ => cases b <;> rfl
      have c3 : ¬ ((ds.length : Int) = 2) := by omega
      simp [IP1, c3, r]
end
end Kq
end
set_option maxHeartbeats 8000000
noncomputable section
namespace Kq
open PySem PySem.Spec L2 Kf PySem.W
/-- a loop that ends at the first bad item -/
theorem loop_guard {it : ItD} {g : SG} {b : SS} {h : Hd} {ds : List D} (hn : ∀ i, nextD it h i = some ds[i]?) (ok : D → Bool) (E : D → En) (E0 : En) (c : String) (fs : List (String × D))
    (hg : ∀ d env, env = E0 ∨ (∃ d', env = E d') → d ∈ ds → g d env h = .ok (E d) h) (hb : ∀ d ∈ ds, b (E d) h = if ok d then .ok (.nx (E d)) h else .ok (.exc c fs (E d)) h) :
    ∀ m i env, (env = E0 ∨ ∃ d', env = E d') → ds.length < m + i → i ≤ ds.length → (∀ d ∈ ds.take i, ok d = true) →
      ∃ env', (env' = E0 ∨ (∃ d', env' = E d') ∨ env' = env) ∧ loopI it g b m i env h = if ds.all ok then .ok (.nx env') h else .ok (.exc c fs env') h
  | 0, i, env, _, l, l2, _ => absurd l (by omega)
  | m + 1, i, env, he, l, l2, hok => by
    unfold loopI
    rw [hn i]
    by_cases hi : i < ds.length
    · have ei := List.getElem?_eq_getElem hi
      have mi : ds[i] ∈ ds := List.getElem_mem hi
      rw [ei]
      dsimp only
      rw [hg ds[i] env he mi, ev_nox, Res.lift_ok, hb ds[i] mi]
      by_cases c1 : ok ds[i] = true
      · rw [if_pos c1]
        obtain ⟨env', h1, h2⟩ := loop_guard hn ok E E0 c fs hg hb m (i + 1) (E ds[i]) (.inr ⟨_, rfl⟩) (by omega) (by omega) (fun d hd => by
          rw [snoc_take ei] at hd
          rcases List.mem_append.mp hd with hd | hd
          · exact hok d hd
          · simp at hd; subst hd; exact c1)
        refine ⟨env', ?_, h2⟩
        rcases h1 with h1 | h1 | h1
        · exact .inl h1
        · exact .inr (.inl h1)
        · exact .inr (.inl ⟨_, h1⟩)
      · rw [if_neg c1]
        have : ds.all ok = false := by
          rw [List.all_eq_false]
          exact ⟨ds[i], mi, c1⟩
        refine ⟨E ds[i], .inr (.inl ⟨_, rfl⟩), ?_⟩
        rw [this]
        rfl
    · rw [List.getElem?_eq_none (Nat.le_of_not_lt hi)]
      have hia : ds.all ok = true := by
        rw [List.all_eq_true]
        intro d hd
        exact hok d (by rw [List.take_of_length_le (by omega)]; exact hd)
      refine ⟨env, .inr (.inr rfl), ?_⟩
      rw [hia]
      rfl
theorem Row.next {h : Hd} {x : D} {ds : List D} (r : Row h x ds) : ∃ it, itOf x h = some it ∧ (∀ i, nextD it h i = some ds[i]?) ∧ turnsD it h = ds.length + 1 := by
  cases r with
  | tup => exact ⟨_, rfl, fun i => rfl, rfl⟩
  | fls => exact ⟨_, rfl, fun i => rfl, rfl⟩
  | @lst m ds e =>
    refine ⟨.live m, by simp [e], fun i => by rw [nextD_live, e, nvO_lst, nD_get], ?_⟩
    show (match h[m]? with | some (.lst ds) => ds.length + 1 | _ => 0) = _
    rw [lk_def, e]
def isC (x : D) : Bool := match x with | .int i => decide (0 ≤ i) | _ => false
theorem count_ex {h : Hd} {x : D} (v : Val h x) : M_is_count [x] h = .ok (.bl (isC x)) h := by
  have w := whole_ex v
  cases hw : isW x with
  | false =>
    have : isC x = false := by cases x <;> first | rfl | simp [isW] at hw
    rw [hw] at w
    simp [M_is_count, defM_ev, s_is_count, startD, w, this, guard_true]
  | true =>
    obtain ⟨i, rfl⟩ : ∃ i, x = .int i := by cases x <;> first | exact ⟨_, rfl⟩ | simp [isW] at hw
    rw [hw] at w
    have : isC (.int i) = !decide (i < 0) := by
      by_cases z : i < 0
      · have z2 : ¬ 0 ≤ i := by omega
        simp [isC, z]
      · have z2 : 0 ≤ i := by omega
        simp [isC, z, z2]
    simp [M_is_count, defM_ev, s_is_count, startD, w, this, guard_true]
section
variable {h : Hd} {s : Nat} {sv sh e f p sz wd nd : Int} {k : Nat} {x y : D} {ds : List D}
def badP (x : D) (h : Hd) : Res D := .exc "BadNumber" [("number", x), ("what", .str "pieces")] h
/-- no count -/
theorem told_count (v : Val h y) (hy : isC y = false) : M_told_pieces [x, y, .ref s] h = .exc "BadNumber" [("number", y), ("what", .str "count")] h := by
  have := count_ex v
  rw [hy] at this
  have E0 : M_told_pieces [x, y, .ref s] h = finR (sSeq TP1 (sSeq TP2 (sSeq TP3 (sSeq TP4 (sSeq TP5 (sSeq TP6 TP7))))) [some x, some y, some (.ref s), none, none, none] h) := by rw [TP_eq, defM_ev]; rfl
  rw [E0]
  simp [TP1, this, guard_true]
def lenOf (count k : Nat) : Nat := stepsN count k
theorem told_12 (c : lk h s = some (cfgO sv sh k e f p sz wd nd)) (hk : 1 ≤ k ∧ k ≤ 4) (count : Nat) (K : SS) : finR (sSeq TP1 (sSeq TP2 K) [some x, some (.int count), some (.ref s), none, none, none] h) = finR (K [some x, some (.int count), some (.ref s), some (.int (stepsN count k : Nat)), none, none] h) := by
  have ic := count_ex (h := h) (x := .int count) val_int
  have ic2 : isC (.int (count : Int)) = true := by simp [isC]
  rw [ic2] at ic
  unfold cfgO at c
  have A1 : TP1 [some x, some (.int count), some (.ref s), none, none, none] h = .ok (.nx [some x, some (.int count), some (.ref s), none, none, none]) h := by simp [TP1, ic, guard_true]
  have st : ((count : Int) + k - 1) / k = ((stepsN count k : Nat) : Int) := by
    unfold stepsN
    have : k = 1 ∨ k = 2 ∨ k = 3 ∨ k = 4 := by omega
    rcases this with rfl | rfl | rfl | rfl <;> omega
  have A2 : TP2 [some x, some (.int count), some (.ref s), none, none, none] h = .ok (.nx [some x, some (.int count), some (.ref s), some (.int (stepsN count k : Nat)), none, none]) h := by
    have fd : fdivF (.int ((count : Int) + k - 1)) (.int k) h = .ok (.int (((count : Int) + k - 1) / k)) h := fdivF_int _ _ _ (by omega)
    simp [TP2, c, guard_true, List.lookup, fd, st]
  rw [ev_seq, A1, andThen_nx, ev_seq, A2, andThen_nx]
theorem told_eq (count : Nat) : M_told_pieces [x, .int count, .ref s] h = finR (sSeq TP1 (sSeq TP2 (sSeq TP3 (sSeq TP4 (sSeq TP5 (sSeq TP6 TP7))))) [some x, some (.int count), some (.ref s), none, none, none] h) := by rw [TP_eq, defM_ev]; rfl
/-- no list -/
theorem told_no (c : lk h s = some (cfgO sv sh k e f p sz wd nd)) (hk : 1 ≤ k ∧ k ≤ 4) (count : Nat) (e : isiTF ["list", "tuple"] x h = .ok (.bl false) h) : M_told_pieces [x, .int count, .ref s] h = badP x h := by
  have il := is_list_no e
  rw [told_eq, told_12 c hk]
  simp [TP3, il, guard_true, badP]
theorem told_few (c : lk h s = some (cfgO sv sh k e f p sz wd nd)) (hk : 1 ≤ k ∧ k ≤ 4) (count : Nat) (r : Row h x ds) (hl : ds.length < k) : M_told_pieces [x, .int count, .ref s] h = badP x h := by
  have il := is_list_row r
  have ll := r.len
  rw [told_eq, told_12 c hk]
  unfold cfgO at c
  have : ((ds.length : Nat) : Int) < k := by omega
  simp [TP3, il, guard_true, badP, ll, c, List.lookup, this]
theorem told_34 (c : lk h s = some (cfgO sv sh k e f p sz wd nd)) (hk : 1 ≤ k ∧ k ≤ 4) (count : Nat) (r : Row h x ds) (hl : k ≤ ds.length) (hv : ∀ d ∈ ds, PV h d) : ∃ y4, M_told_pieces [x, .int count, .ref s] h = if ds.all (isPairB sh p (stepsN count k : Nat)) then finR (sSeq TP5 (sSeq TP6 TP7) [some x, some (.int count), some (.ref s), some (.int (stepsN count k : Nat)), y4, none] h) else badP x h := by
  have il := is_list_row r
  have ll := r.len
  rw [told_eq, told_12 c hk]
  have c0 := c
  unfold cfgO at c
  have : ¬ ((ds.length : Nat) : Int) < k := by omega
  have A3 : TP3 [some x, some (.int count), some (.ref s), some (.int (stepsN count k : Nat)), none, none] h = .ok (.nx [some x, some (.int count), some (.ref s), some (.int (stepsN count k : Nat)), none, none]) h := by
    simp [TP3, il, guard_true, ll, c, List.lookup, this]
  obtain ⟨it, e1, nx, tn⟩ := r.next
  obtain ⟨env', he, L⟩ := loop_guard (it := it) (g := gN 4) (b := sIf (sNot (sTest (sFn 3 M_is_pair [] (sCons (sVar 4) (sCons (sVar 3) (sCons (sVar 2) sNil))))))
    (sRaise "BadNumber" ["what", "number"] (sCons (sC (.str "pieces")) (sCons (sVar 0) sNil)))
    sNext) nx (isPairB sh p (stepsN count k : Nat)) (fun d => [some x, some (.int count), some (.ref s), some (.int (stepsN count k : Nat)), some d, none]) [some x, some (.int count), some (.ref s), some (.int (stepsN count k : Nat)), none, none] "BadNumber" [("number", x), ("what", .str "pieces")]
    (fun d env he _ => by rcases he with rfl | ⟨d', rfl⟩ <;> rfl) (fun d hd => by
      have := pair_ex (len := (stepsN count k : Nat)) c0 (hv d hd)
      cases q : isPairB sh p (stepsN count k : Nat) d <;> rw [q] at this <;> simp [this, guard_true, q])
    (ds.length + 1) 0 [some x, some (.int count), some (.ref s), some (.int (stepsN count k : Nat)), none, none] (.inl rfl) (by omega) (Nat.zero_le _) (by simp)
  have A4 : TP4 [some x, some (.int count), some (.ref s), some (.int (stepsN count k : Nat)), none, none] h = if ds.all (isPairB sh p (stepsN count k : Nat)) then .ok (.nx env') h else .ok (.exc "BadNumber" [("number", x), ("what", .str "pieces")] env') h := by
    unfold TP4
    rw [ev_for]
    have sv : sVal (sVar 0) [some x, some (.int count), some (.ref s), some (.int (stepsN count k : Nat)), none, none] h = .ok it h := by
      rw [ev_val]
      simp [e1]
    rw [sv, Res.lift_ok, tn]
    exact L
  obtain ⟨y4, ee⟩ : ∃ y4, env' = [some x, some (.int count), some (.ref s), some (.int (stepsN count k : Nat)), y4, none] := by
    rcases he with he | ⟨d, he⟩ | he
    · exact ⟨_, he⟩
    · exact ⟨_, he⟩
    · exact ⟨_, he⟩
  refine ⟨y4, ?_⟩
  rw [ev_seq, A3, andThen_nx, ev_seq, A4, ee]
  cases q : ds.all (isPairB sh p (stepsN count k : Nat)) with
  | true => rw [if_pos rfl, if_pos rfl, andThen_nx]
  | false =>
    rw [if_neg (by simp), if_neg (by simp)]
    rfl
/-- the pieces -/
theorem told_ps (c : lk h s = some (cfgO sv sh k e f p sz wd nd)) (hk : 1 ≤ k ∧ k ≤ 4) (count : Nat) {ps : List (Int × List Int)} (r : Row h x (ps.map pairD)) (hl : k ≤ ps.length) (hl2 : ps.length ≤ 100) (hq : ∀ q ∈ ps, q.2.length ≤ 1000) :
    (((ps.map pairD).all (isPairB sh p (stepsN count k : Nat)) = true ∧ (ps.map (·.1)).Nodup) → ∃ h', M_told_pieces [x, .int count, .ref s] h = .ok (.ref (h.length + 1)) h' ∧ lk h' (h.length + 1) = some (.lst ((sortPr ps).map pairD)) ∧ Fr [] h h') ∧
    (¬ ((ps.map pairD).all (isPairB sh p (stepsN count k : Nat)) = true ∧ (ps.map (·.1)).Nodup) → ∃ h', M_told_pieces [x, .int count, .ref s] h = badP x h' ∧ Fr [] h h') := by
  have pv : ∀ d ∈ ps.map pairD, PV h d := fun d hd => by
    obtain ⟨q, hq', rfl⟩ := List.mem_map.mp hd
    refine .inr ⟨_, rfl, by simp, fun z hz => ?_⟩
    simp only [List.mem_cons, List.not_mem_nil, or_false] at hz
    rcases hz with rfl | rfl
    · exact ⟨val_int, fun vs e => by cases e⟩
    · refine ⟨.flat ((dk_tup (k := 1) fun d hd => ?_).up (by omega)), fun vs e => ?_⟩
      · obtain ⟨i, _, rfl⟩ := List.mem_map.mp hd
        exact dk_int
      · cases e
        rw [List.length_map]
        exact hq q hq'
  obtain ⟨y4, T⟩ := told_34 c hk count r (by rw [List.length_map]; exact hl) pv
  cases ap : (ps.map pairD).all (isPairB sh p (stepsN count k : Nat)) with
  | false =>
    rw [ap] at T
    exact ⟨fun z => (by cases z.1), fun _ => ⟨h, T, Fr.refl⟩⟩
  | true =>
    rw [ap, if_pos rfl] at T
    obtain ⟨it, e1, e2⟩ := r.comp (g := gN 4) (t := sYes) (f := s2 getF (sVar 4) (sC (.int 0))) (env := [some x, some (.int count), some (.ref s), some (.int (stepsN count k : Nat)), none, none]) (β := fun _ => true) (φ := fun d => match d with | .tup (a :: _) => a | _ => .non) (by rw [LIM_eq, List.length_map]; omega) fun d hd => by
      obtain ⟨q, _, rfl⟩ := List.mem_map.mp hd
      exact ⟨_, rfl, rfl, fun _ => by simp [pairD]⟩
    rw [map_all2, List.map_map] at e2
    have cm : ps.map ((fun d => match d with | D.tup (a :: _) => a | _ => .non) ∘ pairD) = (ps.map (·.1)).map D.int := by rw [List.map_map]; rfl
    rw [cm] at e2
    obtain ⟨so, eso⟩ : ∃ so, so = (ps.map (·.1)).mergeSort fun a b => decide (a ≤ b) := ⟨_, rfl⟩
    have pm : so.Perm (ps.map (·.1)) := by rw [eso]; exact List.mergeSort_perm _ _
    have sol : so.length = ps.length := by rw [pm.length_eq, List.length_map]
    have si := sort_ints (ps.map (·.1)) h
    rw [← eso] at si
    obtain ⟨h1, eh1⟩ : ∃ h1, h1 = h ++ [O.lst (so.map D.int)] := ⟨_, rfl⟩
    have F1 : Fr [] h h1 := by rw [eh1]; exact Fr.app
    have f1 : lk h1 h.length = some (.lst (so.map D.int)) := by rw [eh1]; simp
    have A5 : TP5 [some x, some (.int count), some (.ref s), some (.int (stepsN count k : Nat)), y4, none] h = .ok (.nx [some x, some (.int count), some (.ref s), some (.int (stepsN count k : Nat)), y4, some (.ref h.length)]) h1 := by
      have : sLc (sVal (sVar 0)) (gN 4) sYes (s2 getF (sVar 4) (sC (.int 0))) [4] [some x, some (.int count), some (.ref s), some (.int (stepsN count k : Nat)), y4, none] h = .ok ((ps.map (·.1)).map D.int) h := by
        rw [ev_lc]
        simp [e1]
        have e2' := e2
        simp at e2'
        exact e2'
      unfold TP5 sCallLN
      rw [ev_asg, ev_new, this, Res.bind_ok, si]
      simp [eh1]
    have sl : setLenF (.ref h.length) h1 = .ok (.int (dedupI so).length) h1 := by
      have s1 : seqK h1 (.ref h.length) = some false := by simp [seqK, lk_def, f1]
      have s2 : itemsD h1 (.ref h.length) = some (so.map D.int) := by simp [itemsD, lk_def, f1]
      unfold setLenF
      rw [s1]
      show onSome (itemsD h1 (.ref h.length)) _ = _
      rw [s2]
      show onSome (intsD (so.map D.int)) _ = _
      rw [intsD_map]
      exact guard_true _ _ ⟨rfl, by omega⟩
    have dd : (dedupI so).length = so.length ↔ (ps.map (·.1)).Nodup := (dedupI_iff so).trans pm.nodup_iff
    have sl2 : sSetLen (sVar 5) [some x, some (.int count), some (.ref s), some (.int (stepsN count k : Nat)), y4, some (.ref h.length)] h1 = .ok (.int (dedupI so).length) h1 := by
      unfold sSetLen
      simp [sl]
    rw [T, ev_seq, A5, andThen_nx]
    by_cases nd' : (ps.map (·.1)).Nodup
    · have q1 := dd.mpr nd'
      refine ⟨fun _ => ?_, fun z => absurd ⟨rfl, nd'⟩ z⟩
      have A6 : TP6 [some x, some (.int count), some (.ref s), some (.int (stepsN count k : Nat)), y4, some (.ref h.length)] h1 = .ok (.nx [some x, some (.int count), some (.ref s), some (.int (stepsN count k : Nat)), y4, some (.ref h.length)]) h1 := by
        simp [TP6, sl2, f1, q1]
      have it1 : itemsD h1 x = some (ps.map pairD) := by
        cases r with
        | tup => rfl
        | fls => rfl
        | lst e => simp [itemsD, lk_def, F1.get e (by simp)]
      have l1 : h1.length = h.length + 1 := by rw [eh1]; simp
      have sp := sort_pairs ps h1
      have sf : sortF [x] h1 = .ok ((sortPr ps).map pairD) h1 := by
        show onSome (itemsD h1 x) _ = _
        rw [it1]
        exact sp
      refine ⟨h1 ++ [O.lst ((sortPr ps).map pairD)], ?_, by rw [← l1]; simp, F1.trans Fr.app⟩
      rw [ev_seq, A6, andThen_nx]
      simp [TP7, sf, l1]
    · have q1 : ¬ (dedupI so).length = so.length := fun z => nd' (dd.mp z)
      refine ⟨fun z => absurd z.2 nd', fun _ => ⟨h1, ?_, F1⟩⟩
      have q2 : ¬ (((dedupI so).length : Int) = (so.length : Int)) := by omega
      simp [TP6, sl2, f1, q2, badP]
end
end Kq
end
set_option maxHeartbeats 8000000
noncomputable section
namespace Kq
open PySem PySem.Spec L2 Kf PySem.W
theorem eqvAll_ints : ∀ as bs : List Int, PyData.eqvAll (as.map PyData.int) (bs.map PyData.int) = decide (as = bs)
  | [], [] => rfl
  | [], b :: bs => rfl
  | a :: as, [] => rfl
  | a :: as, b :: bs => by
    show ((a == b) && PyData.eqvAll (as.map PyData.int) (bs.map PyData.int)) = _
    rw [eqvAll_ints as bs]
    by_cases e : a = b
    · subst e
      by_cases e2 : as = bs
      · subst e2; simp
      · simp [e2]
    · rw [beq_eq_false_iff_ne.mpr e]; simp [e]
theorem eqF_ints (as bs : List Int) (h : Hd) : eqF (.tup (as.map D.int)) (.tup (bs.map D.int)) h = .ok (.bl (decide (as = bs))) h ∧ neF (.tup (as.map D.int)) (.tup (bs.map D.int)) h = .ok (.bl !decide (as = bs)) h := by
  have e : PyData.eqv (.tuple (as.map .int)) (.tuple (bs.map .int)) = decide (as = bs) := eqvAll_ints as bs
  exact ⟨f2P_of (tupI_py h 58 as) (tupI_py h 58 bs) (by rw [e]), f2P_of (tupI_py h 58 as) (tupI_py h 58 bs) (by rw [e])⟩
section
variable {h : Hd} {s : Nat} {sv sh e f p sz wd nd : Int} {k : Nat} {x y : D} {ps : List (Int × List Int)} {count : Nat}
/-- pieces that are told -/
structure Good (ps : List (Int × List Int)) (k : Nat) (sh p : Int) (count : Nat) : Prop where
  hk : 1 ≤ k ∧ k ≤ 4
  hp : 2 ≤ p ∧ p < 1073741824
  many : k ≤ ps.length ∧ ps.length ≤ 100
  hc : count ≤ 1000
  hsh : sh ≤ 8
  fit : (ps.map pairD).all (isPairB sh p (stepsN count k : Nat)) = true
  nd : (ps.map (·.1)).Nodup
theorem isPairB_pairD {len : Nat} {q : Int × List Int} (e : isPairB sh p len (pairD q) = true) : 1 ≤ q.1 ∧ q.1 ≤ sh ∧ q.2.length = len ∧ ∀ v ∈ q.2, 0 ≤ v ∧ v < p := by
  simp only [isPairB, pairD, Bool.and_eq_true, decide_eq_true_eq, List.length_map, List.all_eq_true] at e
  obtain ⟨⟨e1, e2⟩, e3⟩ := e
  obtain ⟨i, ei, e1a, e1b⟩ := isIn_int e1
  cases ei
  refine ⟨e1a, e1b, by omega, fun v hv => ?_⟩
  obtain ⟨j, ej, e3a, e3b⟩ := isIn_int (e3 _ (List.mem_map.mpr ⟨v, hv, rfl⟩))
  cases ej
  exact ⟨e3a, by omega⟩
theorem Good.at (g : Good ps k sh p count) {q : Int × List Int} (hq : q ∈ ps) : 1 ≤ q.1 ∧ q.1 ≤ sh ∧ q.2.length = stepsN count k ∧ ∀ v ∈ q.2, 0 ≤ v ∧ v < p :=
  isPairB_pairD (List.all_eq_true.mp g.fit _ (List.mem_map.mpr ⟨q, hq, rfl⟩))
theorem Good.steps (g : Good ps k sh p count) : stepsN count k ≤ 1000 := by
  obtain ⟨h1, h2⟩ := g.hk
  have := g.hc
  unfold stepsN
  have : k = 1 ∨ k = 2 ∨ k = 3 ∨ k = 4 := by omega
  rcases this with rfl | rfl | rfl | rfl <;> omega
theorem sortPr_perm (ps : List (Int × List Int)) : (sortPr ps).Perm ps := List.mergeSort_perm _ _
end
end Kq
end
set_option maxHeartbeats 8000000
noncomputable section
namespace Kq
open PySem PySem.Spec L2 Kf PySem.W
section
variable {h : Hd} {s : Nat} {sv sh e f p sz wd nd : Int} {k : Nat} {x y : D} {ps : List (Int × List Int)} {count : Nat}
theorem Good.sorted (g : Good ps k sh p count) {h : Hd} {P : Nat} (c : lk h s = some (cfgO sv sh k e f p sz wd nd)) (eP : lk h P = some (.lst ((sortPr ps).map pairD))) :
    ∃ h', M_letters_at [.ref P, .int count, .ref s] h = .ok (.tup ((lettersP (sortPr ps) k p count).map D.int)) h' ∧ Fr [] h h' := by
  have pm := sortPr_perm ps
  have sl := pm.length_eq
  have at' : ∀ q ∈ sortPr ps, 1 ≤ q.1 ∧ q.1 ≤ sh ∧ q.2.length = stepsN count k ∧ ∀ v ∈ q.2, 0 ≤ v ∧ v < p := fun q hq => g.at (pm.mem_iff.mp hq)
  have nd2 : ((sortPr ps).map (·.1)).Nodup := (pm.map (·.1)).nodup_iff.mpr g.nd
  have nd3 : (((sortPr ps).take k).map (·.1)).Nodup := by rw [List.map_take]; exact nd2.sublist (List.take_sublist _ _)
  have hs := g.hsh
  exact letters_ex eP c g.hk (by rw [sl]; exact g.many.1) (by rw [sl]; exact g.many.2) (len := stepsN count k) (fun q hq => (at' q hq).2.2.1) g.steps nd3 (fun q hq => by have := at' q hq; omega) g.hp (by have := g.hc; omega)
theorem Good.told (g : Good ps k sh p count) (c : lk h s = some (cfgO sv sh k e f p sz wd nd)) (r : Row h x (ps.map pairD)) :
    ∃ h', M_told_pieces [x, .int count, .ref s] h = .ok (.ref (h.length + 1)) h' ∧ lk h' (h.length + 1) = some (.lst ((sortPr ps).map pairD)) ∧ Fr [] h h' :=
  (told_ps c g.hk count r g.many.1 g.many.2 (fun q hq => by rw [(g.at hq).2.2.1]; exact g.steps)).1 ⟨g.fit, g.nd⟩
theorem letters_of_ex (g : Good ps k sh p count) (c : lk h s = some (cfgO sv sh k e f p sz wd nd)) (r : Row h x (ps.map pairD)) :
    ∃ h', M_letters_of [x, .int count, .ref s] h = .ok (.tup ((lettersP (sortPr ps) k p count).map D.int)) h' ∧ Fr [] h h' := by
  obtain ⟨h1, e1, e2, F1⟩ := g.told c r
  obtain ⟨h2, e3, F2⟩ := g.sorted (F1.get c (by simp)) e2
  exact ⟨h2, by simp [M_letters_of, defM_ev, s_letters_of, startD, guard_true, e1, e3], F1.trans F2⟩
theorem letters_of_exc {h' : Hd} {c : String} {fs : List (String × D)} (e1 : M_told_pieces [x, y, .ref s] h = .exc c fs h') : M_letters_of [x, y, .ref s] h = .exc c fs h' := by
  simp [M_letters_of, defM_ev, s_letters_of, startD, guard_true, e1]
theorem agree_on_exc {h' : Hd} {c : String} {fs : List (String × D)} (e1 : M_told_pieces [x, y, .ref s] h = .exc c fs h') : M_agree_on [x, y, .ref s] h = .exc c fs h' := by
  simp [M_agree_on, defM_ev, s_agree_on, startD, guard_true, e1]
/-- the pieces agree -/
def agreeP (ps : List (Int × List Int)) (k : Nat) (p : Int) (count : Nat) : Bool := ps.all fun q => decide (pieceP (lettersP ps k p count) q.1 k p = q.2)
theorem agree_on_ex (g : Good ps k sh p count) (c : lk h s = some (cfgO sv sh k e f p sz wd nd)) (r : Row h x (ps.map pairD)) :
    ∃ h', M_agree_on [x, .int count, .ref s] h = .ok (.bl (agreeP (sortPr ps) k p count)) h' ∧ Fr [] h h' := by
  obtain ⟨h1, e1, e2, F1⟩ := g.told c r
  obtain ⟨h2, e3, F2⟩ := g.sorted (F1.get c (by simp)) e2
  obtain ⟨so, eso⟩ : ∃ so, so = sortPr ps := ⟨_, rfl⟩
  have pm := sortPr_perm ps
  have sl := pm.length_eq
  rw [← eso] at e2 e3 pm sl ⊢
  obtain ⟨ls, els⟩ : ∃ ls, ls = lettersP so k p count := ⟨_, rfl⟩
  rw [← els] at e3
  have lsl : ls.length ≤ 10000 := by
    rw [els]
    unfold lettersP
    rw [List.length_take]
    have := g.hc
    omega
  have hs := g.hsh
  have gm := g.many.2
  obtain ⟨P, eP⟩ : ∃ P, P = h.length + 1 := ⟨_, rfl⟩
  rw [← eP] at e1 e2 e3
  obtain ⟨vs, h3, E3, ev, F3⟩ := comp_inv (it := .live P) (g := gTp 2 (gCons' (gN 5) (gCons' (gN 6) gNil'))) (t := sYes) (f := s2 eqF (sFn 3 M_piece_at [] (sCons (sVar 4) (sCons (sVar 5) (sCons (sVar 2) sNil)))) (sVar 6)) (env := [some x, some (.int count), some (.ref s), some (.ref P), some (.tup (ls.map D.int)), none, none])
    (fun i acc h' => acc = (so.take i).map (fun q => D.bl (decide (pieceP ls q.1 k p = q.2))) ∧ Fr [] h2 h') (so.map pairD) (fun i acc h' ⟨_, F⟩ => by rw [nextD_live, F.get (F2.get e2 (by simp)) (by simp), nvO_lst, nD_get])
    (fun i acc h' d hd ⟨ea, F⟩ => by
      rw [List.getElem?_map] at hd
      cases en : so[i]? with
      | none => rw [en] at hd; cases hd
      | some q =>
        rw [en] at hd
        cases hd
        have qm : q ∈ ps := pm.mem_iff.mp (List.mem_of_getElem? en)
        have q4 := g.at qm
        obtain ⟨h4, B, F4⟩ := piece_ex (ls := ls) ((F1.trans (F2.trans F)).get c (by simp)) g.hk lsl (by have := g.hp; omega) (n := q.1) (by omega)
        refine ⟨[some x, some (.int count), some (.ref s), some (.ref P), some (.tup (ls.map D.int)), some (.int q.1), some (.tup (q.2.map D.int))], by simp [pairD, guard_true], rfl, .bl (decide (pieceP ls q.1 k p = q.2)), h4, ?_, ?_, F.trans F4⟩
        · have := (eqF_ints (pieceP ls q.1 k p) q.2 h4).1
          simp [B, this]
        · rw [ea, snoc_take en, List.map_append]
          rfl)
    (so.length + 1) 0 0 [] h2 ⟨rfl, Fr.refl⟩ (by simp) (Nat.zero_le _) (by rw [LIM_eq, List.length_map]; omega)
  rw [List.nil_append] at ev
  have tk : so.take (so.map pairD).length = so := by rw [List.length_map]; exact List.take_length
  rw [tk] at ev
  have tn2 : turnsD (.live P) h2 = so.length + 1 := by
    show (match h2[P]? with | some (.lst ds) => ds.length + 1 | _ => 0) = _
    rw [lk_def, F2.get e2 (by simp)]
    simp
  have bl : blsD vs = some (so.map fun q => decide (pieceP ls q.1 k p = q.2)) := by rw [ev]; exact blsD_map (fun q : Int × List Int => decide (pieceP ls q.1 k p = q.2)) so
  have al : (so.map fun q => decide (pieceP ls q.1 k p = q.2)).all id = agreeP so k p count := by rw [List.all_map, els]; rfl
  refine ⟨h3, ?_, F1.trans (F2.trans F3)⟩
  simp [M_agree_on, defM_ev, s_agree_on, startD, guard_true, e1, e3, F2.get e2, tn2, E3, allN, bl, al]
end
end Kq
end
set_option maxHeartbeats 8000000
noncomputable section
namespace Kq
open PySem PySem.Spec L2 Kf PySem.W
section
variable {h : Hd} {s : Nat} {sv sh e f p sz wd nd : Int} {k : Nat} {x y : D} {ps : List (Int × List Int)} {count : Nat}
theorem piece_of_exc {h' : Hd} {c : String} {fs : List (String × D)} (e1 : M_told_letters [x, .ref s] h = .exc c fs h') : M_piece_of [x, y, .ref s] h = .exc c fs h' := by
  simp [M_piece_of, defM_ev, s_piece_of, startD, guard_true, e1]
theorem pieces_of_exc {h' : Hd} {c : String} {fs : List (String × D)} (e1 : M_told_letters [x, .ref s] h = .exc c fs h') : M_pieces_of [x, .ref s] h = .exc c fs h' := by
  simp [M_pieces_of, defM_ev, s_pieces_of, startD, guard_true, e1]
theorem piece_of_num {ds : List D} (c : lk h s = some (cfgO sv sh k e f p sz wd nd)) (e1 : M_told_letters [x, .ref s] h = .ok (.tup ds) h) (v : Val h y) (hy : isIn 1 sh y = false) : M_piece_of [x, y, .ref s] h = .exc "BadNumber" [("number", y), ("what", .str "number")] h := by
  unfold cfgO at c
  have := between_ex v 1 sh (h := h)
  rw [hy] at this
  simp [M_piece_of, defM_ev, s_piece_of, startD, guard_true, e1, c, List.lookup, this]
def opE (i : Int) (x y : D) (s : Nat) (h : Hd) : Res D := if i = 0 then M_piece_of [x, y, .ref s] h else if i = 1 then M_pieces_of [x, .ref s] h else if i = 2 then M_letters_of [x, y, .ref s] h else M_agree_on [x, y, .ref s] h
theorem told_back_exc {i : Int} {z : D} {w : String} {h' : Hd} {t : Str} (e1 : opE i x y s h = .exc "BadNumber" [("number", z), ("what", .str w)] h') (e2 : reprA [z] h' = .ok (.raw t) h') :
    M_law_told [.int i, x, y, .ref s] h = .ok (.tup [.str w, .raw t]) h' := by
  unfold opE at e1
  have body : (sIf (sTest (s2 eqF (sVar 0) (sC (.int 0))))
    (sDrop (sFn 3 M_piece_of [] (sCons (sVar 1) (sCons (sVar 2) (sCons (sVar 3) sNil)))))
    (sIf (sTest (s2 eqF (sVar 0) (sC (.int 1))))
    (sDrop (sFn 2 M_pieces_of [] (sCons (sVar 1) (sCons (sVar 3) sNil))))
    (sIf (sTest (s2 eqF (sVar 0) (sC (.int 2))))
    (sDrop (sFn 3 M_letters_of [] (sCons (sVar 1) (sCons (sVar 2) (sCons (sVar 3) sNil)))))
    (sDrop (sFn 3 M_agree_on [] (sCons (sVar 1) (sCons (sVar 2) (sCons (sVar 3) sNil)))))))) [some (.int i), some x, some y, some (.ref s), none] h = .ok (.exc "BadNumber" [("number", z), ("what", .str w)] [some (.int i), some x, some y, some (.ref s), none]) h' := by
    by_cases c0 : i = 0
    · rw [if_pos c0] at e1
      subst c0
      simp [guard_true, e1]
    · rw [if_neg c0] at e1
      by_cases c1 : i = 1
      · rw [if_pos c1] at e1
        subst c1
        simp [guard_true, e1]
      · rw [if_neg c1] at e1
        by_cases c2 : i = 2
        · rw [if_pos c2] at e1
          subst c2
          simp [guard_true, e1]
        · rw [if_neg c2] at e1
          simp [guard_true, e1, c0, c1, c2]
  rw [M_law_told, defM_ev]
  show finR ((sSeq _ _) [some (.int i), some x, some y, some (.ref s), none] h) = _
  have T := (sTry_exc (l := [((fun c => List.lookup c [("BadNumber", true)]), (some 4), fun _ a d => (sRet (sTup (sCons (sXf "BadNumber" a d (sVar 4) "what") (sCons (sCall reprA (sCons (sXf "BadNumber" a d (sVar 4) "number") sNil)) sNil)))))]) body).trans (sCls_yes (res := .ok (.ret (.tup [.str w, .raw t])) h') rfl fun a d => by
    simp [xf_ev, List.lookup, e2, outN, inN, guard_true, LIM_eq])
  rw [ev_seq, T]
  rfl
theorem told_back_ok {i : Int} {v : D} {h' : Hd} (e1 : opE i x y s h = .ok v h') : M_law_told [.int i, x, y, .ref s] h = .ok .non h' := by
  unfold opE at e1
  have body : (sIf (sTest (s2 eqF (sVar 0) (sC (.int 0))))
    (sDrop (sFn 3 M_piece_of [] (sCons (sVar 1) (sCons (sVar 2) (sCons (sVar 3) sNil)))))
    (sIf (sTest (s2 eqF (sVar 0) (sC (.int 1))))
    (sDrop (sFn 2 M_pieces_of [] (sCons (sVar 1) (sCons (sVar 3) sNil))))
    (sIf (sTest (s2 eqF (sVar 0) (sC (.int 2))))
    (sDrop (sFn 3 M_letters_of [] (sCons (sVar 1) (sCons (sVar 2) (sCons (sVar 3) sNil)))))
    (sDrop (sFn 3 M_agree_on [] (sCons (sVar 1) (sCons (sVar 2) (sCons (sVar 3) sNil)))))))) [some (.int i), some x, some y, some (.ref s), none] h = .ok (.nx [some (.int i), some x, some y, some (.ref s), none]) h' := by
    by_cases c0 : i = 0
    · rw [if_pos c0] at e1
      subst c0
      simp [guard_true, e1]
    · rw [if_neg c0] at e1
      by_cases c1 : i = 1
      · rw [if_pos c1] at e1
        subst c1
        simp [guard_true, e1]
      · rw [if_neg c1] at e1
        by_cases c2 : i = 2
        · rw [if_pos c2] at e1
          subst c2
          simp [guard_true, e1]
        · rw [if_neg c2] at e1
          simp [guard_true, e1, c0, c1, c2]
  rw [M_law_told, defM_ev]
  show finR ((sSeq _ _) [some (.int i), some x, some y, some (.ref s), none] h) = _
  rw [ev_seq, sTry_nx body]
  rfl
end
end Kq
end
set_option maxHeartbeats 8000000
noncomputable section
namespace Kq
open PySem PySem.Spec L2 Kf PySem.W
def LW1 : SS := (sAsg (sFn 1 M_law_pen [] (sCons (sVar 0) sNil)) (gN 1))
def LW2 : SS := (sAsg (sNewI "Settings" 9 M_Settings_init [] (sCons (sC (.int 1)) (sCons (sC (.int 4)) (sCons (sC (.int 2)) (sCons (sC (.int 0)) (sCons (sC (.int 1)) (sCons (sC (.int 101)) (sCons (sC (.int 40)) (sCons (sC (.int 2)) sNil))))))))) (gN 2))
def LW3 : SS := (sAsg (sFn 2 M_law_pick [] (sCons (sVar 1) (sCons (sNew (sLst (sCons (sC .non) (sCons (sC (.int 5)) (sCons (sC (.str "12")) (sCons (sTup (sCons (sC (.int 1)) (sCons (sC (.int 101)) sNil))) (sCons (sNew (sLst (sCons (sC (.int 3)) (sCons (sNeg (sC (.int 1))) sNil)))) (sCons (sTup (sCons (sC (.bl true)) sNil)) (sCons (sTup (sCons (sTup (sCons (sC (.int 1)) sNil)) sNil)) (sCons (sNew (sLst (sCons (sC (.int 1)) (sCons (sC (.str "2")) sNil)))) (sCons (sDict [((sC (.str "a")), (sC (.int 1)))]) sNil))))))))))) sNil))) (gN 3))
def LW4 : SS := (sAsg (sFn 2 M_law_pick [] (sCons (sVar 1) (sCons (sNew (sLst (sCons (sC (.int 0)) (sCons (sC (.int 5)) (sCons (sNeg (sC (.int 1))) (sCons (sC .non) (sCons (sC (.bl true)) (sCons (sC (.str "1")) (sCons (sTup (sCons (sC (.int 1)) sNil)) sNil))))))))) sNil))) (gN 4))
def LW5 : SS := (sFor (sSnap (sLst (sCons (sC (.int 0)) (sCons (sC (.int 1)) sNil)))) (gN 5) (sIf (sTest (s2 neF (sFn 4 M_law_told [] (sCons (sVar 5) (sCons (sVar 3) (sCons (sVar 4) (sCons (sVar 2) sNil))))) (sTup (sCons (sC (.str "letters")) (sCons (sCall reprA (sCons (sVar 3) sNil)) sNil)))))
    (sRet (sC (.bl false)))
    sNext))
def LW6 : SS := (sIf (sTest (s2 neF (sFn 4 M_law_told [] (sCons (sC (.int 0)) (sCons (sNew (sLst (sCons (sC (.int 100)) (sCons (sC (.int 0)) sNil)))) (sCons (sVar 4) (sCons (sVar 2) sNil))))) (sTup (sCons (sC (.str "number")) (sCons (sCall reprA (sCons (sVar 4) sNil)) sNil)))))
    (sRet (sC (.bl false)))
    sNext)
def LW7 : SS := (sAsg (sNew (sLst (sCons (sTup (sCons (sC (.int 1)) (sCons (sTup (sCons (sC (.int 5)) (sCons (sC (.int 6)) sNil))) sNil))) (sCons (sTup (sCons (sC (.int 3)) (sCons (sTup (sCons (sC (.int 7)) (sCons (sC (.int 8)) sNil))) sNil))) sNil)))) (gN 6))
def LW8 : SS := (sAsg (sNew (sLst (sCons (sNew (sLst sNil)) (sCons (sSlA (sVar 6) sNoPart (sPart (sC (.int 1)))) (sCons (s2 addA (sSlA (sVar 6) sNoPart (sPart (sC (.int 1)))) (sSlA (sVar 6) sNoPart (sPart (sC (.int 1))))) (sCons (s2 addA (sNew (sLst (sCons (sTup (sCons (sC (.int 0)) (sCons (sTup (sCons (sC (.int 5)) (sCons (sC (.int 6)) sNil))) sNil))) sNil))) (sSlA (sVar 6) (sPart (sC (.int 1))) sNoPart)) (sCons (s2 addA (sNew (sLst (sCons (sTup (sCons (sC (.int 5)) (sCons (sTup (sCons (sC (.int 5)) (sCons (sC (.int 6)) sNil))) sNil))) sNil))) (sVar 6)) sNil))))))) (gN 7))
def LW9 : SS := (sDrop (sAppend (sVar 7) (s2 addA (sVar 6) (sNew (sLst (sCons (sTup (sCons (sC (.int 2)) (sCons (sTup (sCons (sC (.int 1)) sNil)) sNil))) sNil))))))
def LW10 : SS := (sAsg (s2 addA (sVar 7) (sNew (sLst (sCons (s2 addA (sVar 6) (sNew (sLst (sCons (sTup (sCons (sC (.int 2)) (sCons (sTup (sCons (sC (.int 1)) (sCons (sC (.int 2)) (sCons (sC (.int 3)) sNil)))) sNil))) sNil)))) (sCons (s2 addA (sVar 6) (sNew (sLst (sCons (sTup (sCons (sC (.int 2)) (sCons (sNew (sLst (sCons (sC (.int 1)) (sCons (sC (.int 2)) sNil)))) sNil))) sNil)))) (sCons (s2 addA (sVar 6) (sNew (sLst (sCons (sTup (sCons (sC (.int 2)) (sCons (sTup (sCons (sC (.int 1)) (sCons (sC (.int 101)) sNil))) sNil))) sNil)))) (sCons (s2 addA (sVar 6) (sNew (sLst (sCons (sTup (sCons (sC (.bl true)) (sCons (sTup (sCons (sC (.int 1)) (sCons (sC (.int 2)) sNil))) sNil))) sNil)))) sNil))))))) (gN 7))
def LW11 : SS := (sAsg (s2 addA (sVar 7) (sNew (sLst (sCons (s2 addA (sVar 6) (sNew (sLst (sCons (sC .non) sNil)))) (sCons (s2 addA (sVar 6) (sNew (sLst (sCons (sTup (sCons (sC (.int 2)) sNil)) sNil)))) (sCons (sC .non) (sCons (sC (.str "ab")) (sCons (s2 addA (sVar 6) (sNew (sLst (sCons (sTup (sCons (sC (.int 2)) (sCons (sTup (sCons (sC (.int 1)) (sCons (sNeg (sC (.int 1))) sNil))) sNil))) sNil)))) (sCons (s2 addA (sVar 6) (sNew (sLst (sCons (sTup (sCons (sC (.int 2)) (sCons (sTup (sCons (sC (.str "1")) (sCons (sC (.int 2)) sNil))) sNil))) sNil)))) sNil))))))))) (gN 7))
def LW12 : SS := (sAsg (s2 getF (sVar 7) (sFn 2 M_law_draw [] (sCons (sVar 1) (sCons (sCall lenA (sCons (sVar 7) sNil)) sNil)))) (gN 8))
def LW13 : SS := (sAsg (sFn 2 M_law_pick [] (sCons (sVar 1) (sCons (sNew (sLst (sCons (sC .non) (sCons (sNeg (sC (.int 1))) (sCons (sC (.bl true)) (sCons (sC (.str "3")) (sCons (sTup (sCons (sC (.int 3)) sNil)) sNil))))))) sNil))) (gN 9))
def LW14 : SS := (sFor (sSnap (sLst (sCons (sC (.int 2)) (sCons (sC (.int 3)) sNil)))) (gN 5) (sSeq (sIf (sTest (s2 neF (sFn 4 M_law_told [] (sCons (sVar 5) (sCons (sVar 8) (sCons (sVar 9) (sCons (sVar 2) sNil))))) (sTup (sCons (sC (.str "count")) (sCons (sCall reprA (sCons (sVar 9) sNil)) sNil)))))
    (sRet (sC (.bl false)))
    sNext)
    (sSeq (sIf (sTest (s2 neF (sFn 4 M_law_told [] (sCons (sVar 5) (sCons (sVar 8) (sCons (sFn 2 M_law_pick [] (sCons (sVar 1) (sCons (sNew (sLst (sCons (sC (.int 3)) (sCons (sC (.int 4)) sNil)))) sNil))) (sCons (sVar 2) sNil))))) (sTup (sCons (sC (.str "pieces")) (sCons (sCall reprA (sCons (sVar 8) sNil)) sNil)))))
    (sRet (sC (.bl false)))
    sNext)
    (sSeq (sIf (sTest (s2 notF (sFn 4 M_law_told [] (sCons (sVar 5) (sCons (sVar 6) (sCons (sFn 2 M_law_pick [] (sCons (sVar 1) (sCons (sNew (sLst (sCons (sC (.int 3)) (sCons (sC (.int 4)) sNil)))) sNil))) (sCons (sVar 2) sNil))))) (sC .non)))
    (sRet (sC (.bl false)))
    sNext)
    (sIf (sTest (s2 neF (sFn 4 M_law_told [] (sCons (sVar 5) (sCons (sVar 6) (sCons (sFn 2 M_law_pick [] (sCons (sVar 1) (sCons (sNew (sLst (sCons (sC (.int 0)) (sCons (sC (.int 2)) (sCons (sC (.int 5)) sNil))))) sNil))) (sCons (sVar 2) sNil))))) (sTup (sCons (sC (.str "pieces")) (sCons (sCall reprA (sCons (sVar 6) sNil)) sNil)))))
    (sRet (sC (.bl false)))
    sNext)))))
def LW15 : SS := (sIf (sOr (sTest (sFn 3 M_agree_on [] (sCons (sVar 6) (sCons (sC (.int 3)) (sCons (sVar 2) sNil))))) (sOr (sNot (sTest (sFn 3 M_agree_on [] (sCons (sVar 6) (sCons (sC (.int 4)) (sCons (sVar 2) sNil)))))) (sTest (s2 neF (sFn 3 M_letters_of [] (sCons (sVar 6) (sCons (sC (.int 3)) (sCons (sVar 2) sNil)))) (sTup (sCons (sC (.int 4)) (sCons (sC (.int 1)) (sCons (sC (.int 5)) sNil))))))))
    (sRet (sC (.bl false)))
    sNext)
def LW16 : SS := (sRet (sAndV (s2 eqF (sFn 3 M_letters_of [] (sCons (sNew (sLst (sCons (sTup (sCons (sC (.int 1)) (sCons (sTup sNil) sNil))) (sCons (sTup (sCons (sC (.int 2)) (sCons (sTup sNil) sNil))) sNil)))) (sCons (sC (.int 0)) (sCons (sVar 2) sNil)))) (sTup sNil)) (sFn 3 M_agree_on [] (sCons (sTup (sCons (sTup (sCons (sC (.int 4)) (sCons (sTup sNil) sNil))) (sCons (sTup (sCons (sC (.int 2)) (sCons (sTup sNil) sNil))) (sCons (sTup (sCons (sC (.int 1)) (sCons (sTup sNil) sNil))) sNil)))) (sCons (sC (.int 0)) (sCons (sVar 2) sNil))))))
theorem LW_eq : M_law = defM 10 (sSeq LW1 (sSeq LW2 (sSeq LW3 (sSeq LW4 (sSeq LW5 (sSeq LW6 (sSeq LW7 (sSeq LW8 (sSeq LW9 (sSeq LW10 (sSeq LW11 (sSeq LW12 (sSeq LW13 (sSeq LW14 (sSeq LW15 LW16))))))))))))))) := rfl
/-! ### shown -/
theorem reprA_lst {h : Hd} {m : Nat} {ds : List D} {qs : List PyData} (e : lk h m = some (.lst ds)) (q : allS (ds.map (Kf.py h 59)) = some qs) (s : (PyData.list qs).showable = true) (l : (PyData.list qs).shown.length ≤ LIM) : reprA [.ref m] h = .ok (.raw (PyData.list qs).shown) h := by
  have e2 : h[m]? = some (.lst ds) := by rw [lk_def]; exact e
  show (match h[m]? with | some (.lst _) => reprF [.ref m] h | _ => reprDF (.ref m) h) = _
  rw [e2]
  exact reprF_ev (by rw [py_list e, q]; rfl) s l
structure Bad (P : D → Hd → Prop) (h : Hd) (p : Nat) (x : D) : Prop where
  told : ∀ h', Fr [p] h h' → P x h'
  shown : ∃ t, PyData.strOk t = true ∧ ∀ h', Fr [p] h h' → reprA [x] h' = .ok (.raw t) h'
theorem Bad.fr {P : D → Hd → Prop} {h h' : Hd} {p : Nat} {x : D} (b : Bad P h p x) (F : Fr [p] h h') : Bad P h' p x := by
  obtain ⟨t, o, s⟩ := b.shown
  exact ⟨fun h1 F1 => b.told h1 (F.trans F1), t, o, fun h1 F1 => s h1 (F.trans F1)⟩
theorem Bad.fr0 {P : D → Hd → Prop} {h h' : Hd} {p : Nat} {x : D} (b : Bad P h p x) (F : Fr [] h h') : Bad P h' p x := b.fr (F.sub (by simp))
abbrev CF0 (s : Nat) (h : Hd) : Prop := lk h s = some (cfgO 1 4 2 0 1 101 40 2 3)
def LetP (x : D) (h : Hd) : Prop := ∀ s, CF0 s h → M_told_letters [x, .ref s] h = .exc "BadNumber" [("number", x), ("what", .str "letters")] h
def NumP (y : D) (h : Hd) : Prop := Val h y ∧ isIn 1 4 y = false
def CntP (y : D) (h : Hd) : Prop := Val h y ∧ isC y = false
def PieP (x : D) (h : Hd) : Prop := ∀ (s count : Nat), CF0 s h → count = 3 ∨ count = 4 → ∃ h', M_told_pieces [x, .int count, .ref s] h = badP x h' ∧ Fr [] h h'
theorem let_row {h : Hd} {x : D} {ds : List D} (r : Row h x ds) (hf : ∀ d ∈ ds, Dk 10 d) (hl : ds.length ≤ 10000) (hb : ds.all (isIn 0 (101 - 1)) = false) : LetP x h := fun s c => by
  rw [letters_ok c r hf hl, hb]
  rfl
theorem let_no {h : Hd} {x : D} (e : isiTF ["list", "tuple"] x h = .ok (.bl false) h) : LetP x h := fun s c => letters_no e
theorem bad_flat {P : D → Hd → Prop} {h : Hd} {p : Nat} {x : D} {q : PyData} (hx : ∀ m, x ≠ .ref m) (e : ∀ h, Kf.py h 60 x = some q) (s : q.showable = true) (l : q.shown.length ≤ LIM ∧ PyData.strOk q.shown = true) (t : ∀ h, P x h) : Bad P h p x := ⟨fun h' _ => t h', q.shown, l.2, fun h' _ => by
  have : reprA [x] h' = reprF [x] h' := by
    cases x <;> first | rfl | exact absurd rfl (hx _)
  rw [this]
  exact reprF_ev (e h') s l.1⟩
theorem bad_lst {P : D → Hd → Prop} {h : Hd} {p m : Nat} {ds : List D} {qs : List PyData} (e : lk h m = some (.lst ds)) (hm : m ≠ p) (q : ∀ h, allS (ds.map (Kf.py h 59)) = some qs) (s : (PyData.list qs).showable = true) (l : (PyData.list qs).shown.length ≤ LIM ∧ PyData.strOk (PyData.list qs).shown = true) (t : ∀ h, lk h m = some (.lst ds) → P (.ref m) h) : Bad P h p (.ref m) :=
  ⟨fun h' F => t h' (F.get e (by simpa using hm)), (PyData.list qs).shown, l.2, fun h' F => reprA_lst (F.get e (by simpa using hm)) (q h') s l.1⟩
end Kq
end
set_option maxHeartbeats 8000000
noncomputable section
namespace Kq
open PySem PySem.Spec L2 Kf PySem.W
theorem lk_at (h l : Hd) (i : Nat) : lk (h ++ l) (h.length + i) = l[i]? := by
  rw [lk_append, if_neg (by omega)]
  congr 1
  omega
section
variable {h : Hd} {p c n s : Nat}
theorem lw3 (P : IsPen h p c n) (hn : n < 10000) {x0 x2 x3 x4 x5 x6 x7 x8 x9 : Option D} : ∃ d h', LW3 [x0, some (.ref p), x2, x3, x4, x5, x6, x7, x8, x9] h = .ok (.nx [x0, some (.ref p), x2, some d, x4, x5, x6, x7, x8, x9]) h' ∧ IsPen h' p c (n + 1) ∧ Fr [p] h h' ∧ Bad LetP h' p d := by
  have pl := P.lt
  have cl := P.ltc
  obtain ⟨h1, e1⟩ : ∃ h1, h1 = h ++ [O.lst [.int 3, .int (-1)], O.lst [.int 1, .str "2"], O.dict [(.str "a", .int 1)], O.lst [.non, .int 5, .str "12", .tup [.int 1, .int 101], .ref h.length, .tup [.bl true], .tup [.tup [.int 1]], .ref (h.length + 1), .ref (h.length + 2)]] := ⟨_, rfl⟩
  have F1 : Fr [p] h h1 := by rw [e1]; exact Fr.apps
  have P1 : IsPen h1 p c n := (show Fr [] h h1 by rw [e1]; exact Fr.apps).pen P (by simp) (by simp)
  have a0 : lk h1 h.length = some (.lst [.int 3, .int (-1)]) := by rw [e1]; exact lk_at h _ 0
  have a1 : lk h1 (h.length + 1) = some (.lst [.int 1, .str "2"]) := by rw [e1]; exact lk_at h _ 1
  have a2 : lk h1 (h.length + 2) = some (.dict [(.str "a", .int 1)]) := by rw [e1]; exact lk_at h _ 2
  have a3 : lk h1 (h.length + 3) = some (.lst [.non, .int 5, .str "12", .tup [.int 1, .int 101], .ref h.length, .tup [.bl true], .tup [.tup [.int 1]], .ref (h.length + 1), .ref (h.length + 2)]) := by rw [e1]; exact lk_at h _ 3
  obtain ⟨d, h2, E, dm, P2, F2⟩ := pickF P1 (by omega) a3 (by omega) (by simp) (by simp)
  refine ⟨d, h2, ?_, P2, F1.trans F2, Bad.fr ?_ F2⟩
  · rw [e1] at E
    have dm0 : dmerge [] [(D.str "a", D.int 1)] = [(.str "a", .int 1)] := rfl
    simp [LW3, LIM_eq, guard_true, dm0, Nat.add_assoc, E]
  · simp only [List.mem_cons, List.not_mem_nil, or_false] at dm
    rcases dm with rfl | rfl | rfl | rfl | rfl | rfl | rfl | rfl | rfl
    · exact bad_flat (q := .none) (by simp) (fun _ => rfl) (by decide +kernel) (by decide +kernel) fun h => let_no rfl
    · exact bad_flat (q := .int 5) (by simp) (fun _ => rfl) (by decide +kernel) (by decide +kernel) fun h => let_no rfl
    · exact bad_flat (q := .str (Str.ofString "12")) (by simp) (fun _ => rfl) (by decide +kernel) (by decide +kernel) fun h => let_no rfl
    · exact bad_flat (q := .tuple [.int 1, .int 101]) (by simp) (fun _ => rfl) (by decide +kernel) (by decide +kernel) fun h => let_row .tup (by simp [dk_int.up]) (by simp) (by decide +kernel)
    · exact bad_lst (qs := [.int 3, .int (-1)]) a0 (by omega) (fun _ => rfl) (by decide +kernel) (by decide +kernel) fun h e => let_row (.lst e) (by simp [dk_int.up]) (by simp) (by decide +kernel)
    · exact bad_flat (q := .tuple [.bool true]) (by simp) (fun _ => rfl) (by decide +kernel) (by decide +kernel) fun h => let_row .tup (by simp [dk_bl.up]) (by simp) (by decide +kernel)
    · exact bad_flat (q := .tuple [.tuple [.int 1]]) (by simp) (fun _ => rfl) (by decide +kernel) (by decide +kernel) fun h => let_row .tup (by
        simp only [List.mem_cons, List.not_mem_nil, or_false, forall_eq]
        exact (dk_tup (k := 1) (by simp [dk_int])).up (by omega)) (by simp) (by decide +kernel)
    · exact bad_lst (qs := [.int 1, .str (Str.ofString "2")]) a1 (by omega) (fun _ => rfl) (by decide +kernel) (by decide +kernel) fun h e => let_row (.lst e) (by simp [dk_int.up, dk_str.up]) (by simp) (by decide +kernel)
    · have hm : h.length + 2 ≠ p := by omega
      refine ⟨fun h' F => let_no (isTF_dict (F.get a2 (by simpa using hm))), ?_⟩
      refine ⟨(PyData.dict [(.str (Str.ofString "a"), .int 1)]).shown, by decide +kernel, fun h' F => ?_⟩
      have e := F.get a2 (by simpa using hm)
      have e2 : h'[h.length + 2]? = some (.dict [(.str "a", .int 1)]) := by rw [lk_def]; exact e
      show (match h'[h.length + 2]? with | some (.lst _) => reprF [.ref (h.length + 2)] h' | _ => reprDF (.ref (h.length + 2)) h') = _
      rw [e2]
      show onSome (dictD h' (h.length + 2)) _ = _
      have e3 : dictD h' (h.length + 2) = some [(.str "a", .int 1)] := by simp [dictD, e2]
      rw [e3]
      exact guard_true _ _ (by decide +kernel)
theorem lw4 (P : IsPen h p c n) (hn : n < 10000) {x0 x2 x3 x4 x5 x6 x7 x8 x9 : Option D} : ∃ d h', LW4 [x0, some (.ref p), x2, x3, x4, x5, x6, x7, x8, x9] h = .ok (.nx [x0, some (.ref p), x2, x3, some d, x5, x6, x7, x8, x9]) h' ∧ IsPen h' p c (n + 1) ∧ Fr [p] h h' ∧ Bad NumP h' p d := by
  have pl := P.lt
  have cl := P.ltc
  obtain ⟨h1, e1⟩ : ∃ h1, h1 = h ++ [O.lst [.int 0, .int 5, .int (-1), .non, .bl true, .str "1", .tup [.int 1]]] := ⟨_, rfl⟩
  have F1 : Fr [p] h h1 := by rw [e1]; exact Fr.apps
  have P1 : IsPen h1 p c n := (show Fr [] h h1 by rw [e1]; exact Fr.apps).pen P (by simp) (by simp)
  have a0 : lk h1 h.length = some (.lst [.int 0, .int 5, .int (-1), .non, .bl true, .str "1", .tup [.int 1]]) := by rw [e1]; exact lk_at h _ 0
  obtain ⟨d, h2, E, dm, P2, F2⟩ := pickF P1 (by omega) a0 (by omega) (by simp) (by simp)
  refine ⟨d, h2, ?_, P2, F1.trans F2, Bad.fr ?_ F2⟩
  · rw [e1] at E
    simp [LW4, LIM_eq, guard_true, Nat.add_assoc, E]
  · simp only [List.mem_cons, List.not_mem_nil, or_false] at dm
    rcases dm with rfl | rfl | rfl | rfl | rfl | rfl | rfl
    · exact bad_flat (q := .int 0) (by simp) (fun _ => rfl) (by decide +kernel) (by decide +kernel) fun h => ⟨val_int, by decide +kernel⟩
    · exact bad_flat (q := .int 5) (by simp) (fun _ => rfl) (by decide +kernel) (by decide +kernel) fun h => ⟨val_int, by decide +kernel⟩
    · exact bad_flat (q := .int (-1)) (by simp) (fun _ => rfl) (by decide +kernel) (by decide +kernel) fun h => ⟨val_int, by decide +kernel⟩
    · exact bad_flat (q := .none) (by simp) (fun _ => rfl) (by decide +kernel) (by decide +kernel) fun h => ⟨val_non, rfl⟩
    · exact bad_flat (q := .bool true) (by simp) (fun _ => rfl) (by decide +kernel) (by decide +kernel) fun h => ⟨.flat (dk_bl.up (by omega)), rfl⟩
    · exact bad_flat (q := .str (Str.ofString "1")) (by simp) (fun _ => rfl) (by decide +kernel) (by decide +kernel) fun h => ⟨.flat (dk_str.up (by omega)), rfl⟩
    · exact bad_flat (q := .tuple [.int 1]) (by simp) (fun _ => rfl) (by decide +kernel) (by decide +kernel) fun h => ⟨.flat ((dk_tup (k := 1) (by simp [dk_int])).up (by omega)), rfl⟩
theorem lw13 (P : IsPen h p c n) (hn : n < 10000) {x0 x2 x3 x4 x5 x6 x7 x8 x9 : Option D} : ∃ d h', LW13 [x0, some (.ref p), x2, x3, x4, x5, x6, x7, x8, x9] h = .ok (.nx [x0, some (.ref p), x2, x3, x4, x5, x6, x7, x8, some d]) h' ∧ IsPen h' p c (n + 1) ∧ Fr [p] h h' ∧ Bad CntP h' p d := by
  have pl := P.lt
  have cl := P.ltc
  obtain ⟨h1, e1⟩ : ∃ h1, h1 = h ++ [O.lst [.non, .int (-1), .bl true, .str "3", .tup [.int 3]]] := ⟨_, rfl⟩
  have F1 : Fr [p] h h1 := by rw [e1]; exact Fr.apps
  have P1 : IsPen h1 p c n := (show Fr [] h h1 by rw [e1]; exact Fr.apps).pen P (by simp) (by simp)
  have a0 : lk h1 h.length = some (.lst [.non, .int (-1), .bl true, .str "3", .tup [.int 3]]) := by rw [e1]; exact lk_at h _ 0
  obtain ⟨d, h2, E, dm, P2, F2⟩ := pickF P1 (by omega) a0 (by omega) (by simp) (by simp)
  refine ⟨d, h2, ?_, P2, F1.trans F2, Bad.fr ?_ F2⟩
  · rw [e1] at E
    simp [LW13, LIM_eq, guard_true, Nat.add_assoc, E]
  · simp only [List.mem_cons, List.not_mem_nil, or_false] at dm
    rcases dm with rfl | rfl | rfl | rfl | rfl
    · exact bad_flat (q := .none) (by simp) (fun _ => rfl) (by decide +kernel) (by decide +kernel) fun h => ⟨val_non, rfl⟩
    · exact bad_flat (q := .int (-1)) (by simp) (fun _ => rfl) (by decide +kernel) (by decide +kernel) fun h => ⟨val_int, by decide +kernel⟩
    · exact bad_flat (q := .bool true) (by simp) (fun _ => rfl) (by decide +kernel) (by decide +kernel) fun h => ⟨.flat (dk_bl.up (by omega)), rfl⟩
    · exact bad_flat (q := .str (Str.ofString "3")) (by simp) (fun _ => rfl) (by decide +kernel) (by decide +kernel) fun h => ⟨.flat (dk_str.up (by omega)), rfl⟩
    · exact bad_flat (q := .tuple [.int 3]) (by simp) (fun _ => rfl) (by decide +kernel) (by decide +kernel) fun h => ⟨.flat ((dk_tup (k := 1) (by simp [dk_int])).up (by omega)), rfl⟩
end
end Kq
end
set_option maxHeartbeats 8000000
noncomputable section
namespace Kq
open PySem PySem.Spec L2 Kf PySem.W
/-! ### plain things, checked by running -/
def flatB : Nat → D → Bool
  | 0, _ => false
  | n + 1, .tup ds => ds.all (flatB n)
  | _ + 1, .int _ | _ + 1, .str _ | _ + 1, .bl _ | _ + 1, .non => true
  | _ + 1, _ => false
theorem flatB_dk : ∀ {n : Nat} {d : D}, flatB n d = true → Dk n d
  | 0, _, e => by cases e
  | n + 1, .tup ds, e => dk_tup fun d hd => flatB_dk (List.all_eq_true.mp e d hd)
  | n + 1, .int _, _ => dk_int.up (by omega)
  | n + 1, .str _, _ => dk_str.up (by omega)
  | n + 1, .bl _, _ => dk_bl.up (by omega)
  | n + 1, .non, _ => dk_non.up (by omega)
def pvB : D → Bool
  | .tup ds => decide (ds.length ≤ 1000) && ds.all fun x => flatB 10 x && match x with | .tup vs => decide (vs.length ≤ 1000) | _ => true
  | .non | .int _ | .str _ | .bl _ => true
  | _ => false
theorem pvB_pv {h : Hd} {d : D} (e : pvB d = true) : PV h d := by
  cases d with
  | tup ds =>
    simp only [pvB, Bool.and_eq_true, decide_eq_true_eq, List.all_eq_true] at e
    refine .inr ⟨ds, rfl, e.1, fun x hx => ⟨.flat (flatB_dk (e.2 x hx).1), fun vs ev => ?_⟩⟩
    have := (e.2 x hx).2
    subst ev
    simpa using this
  | non => exact .inl ⟨isi_tuple_non h, fun ds => D.noConfusion⟩
  | int i => exact .inl ⟨isi_tuple_int i h, fun ds => D.noConfusion⟩
  | str i => exact .inl ⟨isi_tuple_str i h, fun ds => D.noConfusion⟩
  | bl i => exact .inl ⟨isi_tuple_bl i h, fun ds => D.noConfusion⟩
  | _ => cases e
theorem st32 : stepsN 3 2 = 2 := by decide +kernel
theorem st42 : stepsN 4 2 = 2 := by decide +kernel
section
variable {h : Hd} {p m : Nat} {x : D} {ds : List D}
theorem pie_few (r : Row h x ds) (hl : ds.length < 2) : PieP x h := fun s count c hc => ⟨h, told_few (k := 2) c (by omega) count r hl, Fr.refl⟩
theorem pie_no (e : isiTF ["list", "tuple"] x h = .ok (.bl false) h) : PieP x h := fun s count c hc => ⟨h, told_no (k := 2) c (by omega) count e, Fr.refl⟩
theorem pie_bad (r : Row h x ds) (hl : 2 ≤ ds.length) (hv : ∀ d ∈ ds, PV h d) (hb : ds.all (isPairB 4 101 2) = false) : PieP x h := fun s count c hc => by
  obtain ⟨y4, e⟩ := told_34 (k := 2) c (by omega) count r hl hv
  have : stepsN count 2 = 2 := by rcases hc with rfl | rfl <;> decide +kernel
  rw [this] at e
  have hb' : ds.all (isPairB 4 101 ((2 : Nat) : Int)) = false := hb
  rw [hb', if_neg (by simp)] at e
  exact ⟨h, e, Fr.refl⟩
theorem pie_dup {ps : List (Int × List Int)} (r : Row h x (ps.map pairD)) (hl : 2 ≤ ps.length) (hl2 : ps.length ≤ 100) (hq : ∀ q ∈ ps, q.2.length ≤ 1000) (hb : ¬ (ps.map (·.1)).Nodup) : PieP x h := fun s count c hc =>
  (told_ps (k := 2) c (by omega) count r hl hl2 hq).2 fun z => hb z.2
/-- a list of plain things is refused -/
theorem bad_plain {qs : List PyData} (e : lk h m = some (.lst ds)) (hm : m ≠ p) (hl : 2 ≤ ds.length) (hv : ds.all pvB = true) (hb : ds.all (isPairB 4 101 2) = false) (q : ∀ h, allS (ds.map (Kf.py h 59)) = some qs) (s : (PyData.list qs).showable = true) (l : (PyData.list qs).shown.length ≤ LIM ∧ PyData.strOk (PyData.list qs).shown = true) : Bad PieP h p (.ref m) :=
  bad_lst e hm q s l fun h e => pie_bad (.lst e) hl (fun d hd => pvB_pv (List.all_eq_true.mp hv d hd)) hb
theorem bad_few {qs : List PyData} (e : lk h m = some (.lst ds)) (hm : m ≠ p) (hl : ds.length < 2) (q : ∀ h, allS (ds.map (Kf.py h 59)) = some qs) (s : (PyData.list qs).showable = true) (l : (PyData.list qs).shown.length ≤ LIM ∧ PyData.strOk (PyData.list qs).shown = true) : Bad PieP h p (.ref m) :=
  bad_lst e hm q s l fun h e => pie_few (.lst e) hl
theorem bad_nest {a : Nat} (e : lk h m = some (.lst [pairD (1, [5, 6]), pairD (3, [7, 8]), .tup [.int 2, .ref a]])) (hm : m ≠ p) (e2 : lk h a = some (.lst [.int 1, .int 2])) (ha : a ≠ p) : Bad PieP h p (.ref m) := by
  refine ⟨fun h' F => ?_, (PyData.list [.tuple [.int 1, .tuple [.int 5, .int 6]], .tuple [.int 3, .tuple [.int 7, .int 8]], .tuple [.int 2, .list [.int 1, .int 2]]]).shown, by decide +kernel, fun h' F => ?_⟩
  · have e' := F.get e (by simpa using hm)
    have e2' := F.get e2 (by simpa using ha)
    refine pie_bad (.lst e') (by simp) (fun d hd => ?_) ?_
    · simp only [List.mem_cons, List.not_mem_nil, or_false] at hd
      rcases hd with rfl | rfl | rfl
      · exact pvB_pv (by decide +kernel)
      · exact pvB_pv (by decide +kernel)
      · refine .inr ⟨_, rfl, by simp, fun z hz => ?_⟩
        simp only [List.mem_cons, List.not_mem_nil, or_false] at hz
        rcases hz with rfl | rfl
        · exact ⟨val_int, fun vs ev => by cases ev⟩
        · exact ⟨.lst e2' (by simp [dk_int.up]), fun vs ev => by cases ev⟩
    · simp [isPairB, isIn, pairD]
  · have e' := F.get e (by simpa using hm)
    have e2' := F.get e2 (by simpa using ha)
    have q : Kf.py h' 58 (.ref a) = some (.list [.int 1, .int 2]) := by rw [py_list e2']; rfl
    refine reprA_lst e' ?_ (by decide +kernel) (by decide +kernel)
    show allS [some (PyData.tuple [.int 1, .tuple [.int 5, .int 6]]), some (PyData.tuple [.int 3, .tuple [.int 7, .int 8]]), (allS [some (PyData.int 2), Kf.py h' 58 (.ref a)]).map PyData.tuple] = _
    rw [q]
    rfl
end
end Kq
end
set_option maxHeartbeats 8000000
noncomputable section
namespace Kq
open PySem PySem.Spec L2 Kf PySem.W
abbrev W1 : D := .tup [.int 1, .tup [.int 5, .int 6]]
abbrev W3 : D := .tup [.int 3, .tup [.int 7, .int 8]]
theorem hd0 (a : O) (l : List O) : (a :: l : Hd)[0]? = some a := rfl
theorem hdS (a : O) (l : List O) (i : Nat) : (a :: l : Hd)[i + 1]? = l[i]? := rfl
section
variable {h : Hd} {p c n s w : Nat} {x0 x1 x2 x3 x4 x5 x6 x7 x8 x9 : Option D}
theorem lw7 : LW7 [x0, x1, x2, x3, x4, x5, x6, x7, x8, x9] h = .ok (.nx [x0, x1, x2, x3, x4, x5, some (.ref h.length), x7, x8, x9]) (h ++ [O.lst [W1, W3]]) := by
  simp [LW7, LIM_eq, guard_true]
theorem cut_1 : cutD [W1, W3] none (some 1) = [W1] := by rfl
theorem cut_2 : cutD [W1, W3] (some 1) none = [W3] := by rfl
theorem lw8 (ew : lk h w = some (.lst [W1, W3])) : LW8 [x0, x1, x2, x3, x4, x5, some (.ref w), x7, x8, x9] h = .ok (.nx [x0, x1, x2, x3, x4, x5, some (.ref w), some (.ref (h.length + 10)), x8, x9]) (h ++ [O.lst [], O.lst [W1], O.lst [W1], O.lst [W1], O.lst [W1, W1], O.lst [.tup [.int 0, .tup [.int 5, .int 6]]], O.lst [W3], O.lst [.tup [.int 0, .tup [.int 5, .int 6]], W3], O.lst [.tup [.int 5, .tup [.int 5, .int 6]]], O.lst [.tup [.int 5, .tup [.int 5, .int 6]], W1, W3],
    O.lst [.ref h.length, .ref (h.length + 1), .ref (h.length + 4), .ref (h.length + 7), .ref (h.length + 9)]]) := by
  have wl := lk_lt ew
  have s1 : ∀ (l : Hd), lk (h ++ l) w = some (.lst [W1, W3]) := fun l => by rw [lk_append, if_pos wl, ew]
  have P1 : ∀ (l : Hd), sPart (sC (.int 1)) [x0, x1, x2, x3, x4, x5, some (.ref w), x7, x8, x9] (h ++ l) = .ok (some 1) (h ++ l) := fun l => by rfl
  have N1 : ∀ (l : Hd), sNoPart [x0, x1, x2, x3, x4, x5, some (.ref w), x7, x8, x9] (h ++ l) = .ok none (h ++ l) := fun l => by rfl
  have sl1 : ∀ (l : Hd), sSlA (sVar 6) sNoPart (sPart (sC (.int 1))) [x0, x1, x2, x3, x4, x5, some (.ref w), x7, x8, x9] (h ++ l) = .ok (.ref (h.length + l.length)) (h ++ (l ++ [O.lst [W1]])) := fun l => by
    unfold sSlA
    have v0 : sVar 6 [x0, x1, x2, x3, x4, x5, some (.ref w), x7, x8, x9] (h ++ l) = .ok (.ref w) (h ++ l) := by simp
    rw [v0, Res.bind_ok, N1, Res.bind_ok, P1, Res.bind_ok]
    show onLst (h ++ l) w _ = _
    rw [onLst_ev, s1, klO_lst, cut_1]
    simp
  have sl2 : ∀ (l : Hd), sSlA (sVar 6) (sPart (sC (.int 1))) sNoPart [x0, x1, x2, x3, x4, x5, some (.ref w), x7, x8, x9] (h ++ l) = .ok (.ref (h.length + l.length)) (h ++ (l ++ [O.lst [W3]])) := fun l => by
    unfold sSlA
    have v0 : sVar 6 [x0, x1, x2, x3, x4, x5, some (.ref w), x7, x8, x9] (h ++ l) = .ok (.ref w) (h ++ l) := by simp
    rw [v0, Res.bind_ok, P1, Res.bind_ok, N1, Res.bind_ok]
    show onLst (h ++ l) w _ = _
    rw [onLst_ev, s1, klO_lst, cut_2]
    simp
  have wlk : ∀ k, (w < h.length + k) = True := fun k => by simp; omega
  unfold LW8
  simp [LIM_eq, guard_true, sl1, sl2, s1, lk_at, wlk]
theorem lw9 {w7 : Nat} {ds : List D} (ew : lk h w = some (.lst [W1, W3])) (e7 : lk h w7 = some (.lst ds)) (hl : ds.length ≤ 100) : LW9 [x0, x1, x2, x3, x4, x5, some (.ref w), some (.ref w7), x8, x9] h = .ok (.nx [x0, x1, x2, x3, x4, x5, some (.ref w), some (.ref w7), x8, x9]) ((h ++ [O.lst [.tup [.int 2, .tup [.int 1]]], O.lst [W1, W3, .tup [.int 2, .tup [.int 1]]]]).set w7 (.lst (ds ++ [.ref (h.length + 1)]))) := by
  have wl := lk_lt ew
  have wl7 := lk_lt e7
  have s1 : ∀ (l : Hd), lk (h ++ l) w = some (.lst [W1, W3]) := fun l => by rw [lk_append, if_pos wl, ew]
  have s7 : ∀ (l : Hd), lk (h ++ l) w7 = some (.lst ds) := fun l => by rw [lk_append, if_pos wl7, e7]
  have wlk : ∀ k, (w < h.length + k) = True := fun k => by simp; omega
  have hl2 : ds.length + 1 ≤ 16777216 := by omega
  unfold LW9
  simp (disch := omega) [LIM_eq, guard_true, s1, s7, lk_at, hd0, hdS, Nat.add_assoc, wlk, wl, wl7, ew, e7]
theorem lw10 {w7 : Nat} {ds : List D} (ew : lk h w = some (.lst [W1, W3])) (e7 : lk h w7 = some (.lst ds)) (hl : ds.length ≤ 100) : LW10 [x0, x1, x2, x3, x4, x5, some (.ref w), some (.ref w7), x8, x9] h = .ok (.nx [x0, x1, x2, x3, x4, x5, some (.ref w), some (.ref (h.length + 10)), x8, x9]) (h ++ [
    O.lst [.tup [.int 2, .tup [.int 1, .int 2, .int 3]]], O.lst [W1, W3, .tup [.int 2, .tup [.int 1, .int 2, .int 3]]],
    O.lst [.int 1, .int 2], O.lst [.tup [.int 2, .ref (h.length + 2)]], O.lst [W1, W3, .tup [.int 2, .ref (h.length + 2)]],
    O.lst [.tup [.int 2, .tup [.int 1, .int 101]]], O.lst [W1, W3, .tup [.int 2, .tup [.int 1, .int 101]]],
    O.lst [.tup [.bl true, .tup [.int 1, .int 2]]], O.lst [W1, W3, .tup [.bl true, .tup [.int 1, .int 2]]],
    O.lst [.ref (h.length + 1), .ref (h.length + 4), .ref (h.length + 6), .ref (h.length + 8)], O.lst (ds ++ [.ref (h.length + 1), .ref (h.length + 4), .ref (h.length + 6), .ref (h.length + 8)])]) := by
  have wl := lk_lt ew
  have wl7 := lk_lt e7
  have s1 : ∀ (l : Hd), lk (h ++ l) w = some (.lst [W1, W3]) := fun l => by rw [lk_append, if_pos wl, ew]
  have s7 : ∀ (l : Hd), lk (h ++ l) w7 = some (.lst ds) := fun l => by rw [lk_append, if_pos wl7, e7]
  have wlk : ∀ k, (w < h.length + k) = True := fun k => by simp; omega
  have wlk7 : ∀ k, (w7 < h.length + k) = True := fun k => by simp; omega
  have hl2 : ds.length + 4 ≤ 16777216 := by omega
  unfold LW10
  simp (disch := omega) [LIM_eq, guard_true, s1, s7, lk_at, hd0, hdS, Nat.add_assoc, wlk, wlk7, wl, wl7, ew, e7]
theorem lw11 {w7 : Nat} {ds : List D} (ew : lk h w = some (.lst [W1, W3])) (e7 : lk h w7 = some (.lst ds)) (hl : ds.length ≤ 100) : LW11 [x0, x1, x2, x3, x4, x5, some (.ref w), some (.ref w7), x8, x9] h = .ok (.nx [x0, x1, x2, x3, x4, x5, some (.ref w), some (.ref (h.length + 9)), x8, x9]) (h ++ [
    O.lst [.non], O.lst [W1, W3, .non],
    O.lst [.tup [.int 2]], O.lst [W1, W3, .tup [.int 2]],
    O.lst [.tup [.int 2, .tup [.int 1, .int (-1)]]], O.lst [W1, W3, .tup [.int 2, .tup [.int 1, .int (-1)]]],
    O.lst [.tup [.int 2, .tup [.str "1", .int 2]]], O.lst [W1, W3, .tup [.int 2, .tup [.str "1", .int 2]]],
    O.lst [.ref (h.length + 1), .ref (h.length + 3), .non, .str "ab", .ref (h.length + 5), .ref (h.length + 7)], O.lst (ds ++ [.ref (h.length + 1), .ref (h.length + 3), .non, .str "ab", .ref (h.length + 5), .ref (h.length + 7)])]) := by
  have wl := lk_lt ew
  have wl7 := lk_lt e7
  have s1 : ∀ (l : Hd), lk (h ++ l) w = some (.lst [W1, W3]) := fun l => by rw [lk_append, if_pos wl, ew]
  have s7 : ∀ (l : Hd), lk (h ++ l) w7 = some (.lst ds) := fun l => by rw [lk_append, if_pos wl7, e7]
  have wlk : ∀ k, (w < h.length + k) = True := fun k => by simp; omega
  have wlk7 : ∀ k, (w7 < h.length + k) = True := fun k => by simp; omega
  have hl2 : ds.length + 6 ≤ 16777216 := by omega
  unfold LW11
  simp (disch := omega) [LIM_eq, guard_true, s1, s7, lk_at, hd0, hdS, Nat.add_assoc, wlk, wlk7, wl, wl7, ew, e7]
end
end Kq
end
set_option maxHeartbeats 8000000
noncomputable section
namespace Kq
open PySem PySem.Spec L2 Kf PySem.W
section
variable {h : Hd} {p c n s w w7 : Nat} {ds : List D} {x0 x1 x2 x3 x4 x5 x6 x7 x8 x9 : Option D}
theorem st8 (hp : p < h.length) (ew : lk h w = some (.lst [W1, W3])) : ∃ (w7 : Nat) (ds : List D) (h1 h' : Hd), LW8 [x0, x1, x2, x3, x4, x5, some (.ref w), x7, x8, x9] h = .ok (.nx [x0, x1, x2, x3, x4, x5, some (.ref w), some (.ref w7), x8, x9]) h1 ∧
    LW9 [x0, x1, x2, x3, x4, x5, some (.ref w), some (.ref w7), x8, x9] h1 = .ok (.nx [x0, x1, x2, x3, x4, x5, some (.ref w), some (.ref w7), x8, x9]) h' ∧
    Fr [] h h' ∧ lk h' w7 = some (.lst ds) ∧ h.length ≤ w7 ∧ ds.length = 6 ∧ ∀ d ∈ ds, Bad PieP h' p d := by
  have wl := lk_lt ew
  have E8 := lw8 ew (x0 := x0) (x1 := x1) (x2 := x2) (x3 := x3) (x4 := x4) (x5 := x5) (x7 := x7) (x8 := x8) (x9 := x9)
  obtain ⟨l8, el8⟩ : ∃ l8, l8 = [O.lst [], O.lst [W1], O.lst [W1], O.lst [W1], O.lst [W1, W1], O.lst [.tup [.int 0, .tup [.int 5, .int 6]]], O.lst [W3], O.lst [.tup [.int 0, .tup [.int 5, .int 6]], W3], O.lst [.tup [.int 5, .tup [.int 5, .int 6]]], O.lst [.tup [.int 5, .tup [.int 5, .int 6]], W1, W3],
    O.lst [.ref h.length, .ref (h.length + 1), .ref (h.length + 4), .ref (h.length + 7), .ref (h.length + 9)]] := ⟨_, rfl⟩
  rw [← el8] at E8
  have len8 : l8.length = 11 := by rw [el8]; rfl
  have a8 : lk (h ++ l8) (h.length + 10) = some (.lst [.ref h.length, .ref (h.length + 1), .ref (h.length + 4), .ref (h.length + 7), .ref (h.length + 9)]) := by rw [el8]; exact lk_at h _ 10
  have E9 := lw9 (h := h ++ l8) (w := w) (by rw [lk_append, if_pos wl, ew]) a8 (by simp) (x0 := x0) (x1 := x1) (x2 := x2) (x3 := x3) (x4 := x4) (x5 := x5) (x8 := x8) (x9 := x9)
  have ll : (h ++ l8).length + 1 = h.length + 12 := by rw [List.length_append, len8]
  rw [ll] at E9
  obtain ⟨h2, eh2⟩ : ∃ h2, h2 = ((h ++ l8) ++ [O.lst [.tup [.int 2, .tup [.int 1]]], O.lst [W1, W3, .tup [.int 2, .tup [.int 1]]]]).set (h.length + 10) (.lst ([.ref h.length, .ref (h.length + 1), .ref (h.length + 4), .ref (h.length + 7), .ref (h.length + 9)] ++ [.ref (h.length + 12)])) := ⟨_, rfl⟩
  rw [← eh2] at E9
  have at8 : ∀ i, i ≠ 10 → i < 11 → lk h2 (h.length + i) = l8[i]? := fun i hi hl => by
    rw [eh2, lk_set, if_neg (by omega), lk_append, if_pos (by rw [List.length_append, len8]; omega), lk_at]
  have at9 : lk h2 (h.length + 12) = some (.lst [W1, W3, .tup [.int 2, .tup [.int 1]]]) := by
    rw [eh2, lk_set, if_neg (by omega), ← ll]
    exact lk_at (h ++ l8) _ 1
  have at7 : lk h2 (h.length + 10) = some (.lst ([.ref h.length, .ref (h.length + 1), .ref (h.length + 4), .ref (h.length + 7), .ref (h.length + 9)] ++ [.ref (h.length + 12)])) := by
    rw [eh2, lk_set, if_pos rfl, if_pos (by rw [List.length_append, List.length_append, len8]; omega)]
  have F : Fr [] h h2 := ⟨by rw [eh2]; simp, fun m hm _ => by rw [eh2, lk_set, if_neg (by omega), List.append_assoc, lk_append, if_pos hm]⟩
  refine ⟨_, _, _, _, E8, E9, F, at7, by omega, rfl, fun d hd => ?_⟩
  simp only [List.mem_cons, List.not_mem_nil, or_false, List.mem_append] at hd
  rcases hd with (rfl | rfl | rfl | rfl | rfl) | rfl
  · exact bad_few (qs := []) (ds := []) (by have := at8 0 (by omega) (by omega); rw [el8] at this; exact this) (by omega) (by simp) (fun _ => rfl) (by decide +kernel) (by decide +kernel)
  · exact bad_few (qs := [.tuple [.int 1, .tuple [.int 5, .int 6]]]) (ds := [W1]) (by have := at8 1 (by omega) (by omega); rw [el8] at this; exact this) (by omega) (by simp) (fun _ => rfl) (by decide +kernel) (by decide +kernel)
  · exact bad_lst (qs := [.tuple [.int 1, .tuple [.int 5, .int 6]], .tuple [.int 1, .tuple [.int 5, .int 6]]]) (ds := [W1, W1]) (by have := at8 4 (by omega) (by omega); rw [el8] at this; exact this) (by omega) (fun _ => rfl) (by decide +kernel) (by decide +kernel) fun h e => pie_dup (ps := [(1, [5, 6]), (1, [5, 6])]) (.lst e) (by simp) (by simp) (by simp) (by decide +kernel)
  · exact bad_plain (qs := [.tuple [.int 0, .tuple [.int 5, .int 6]], .tuple [.int 3, .tuple [.int 7, .int 8]]]) (ds := [.tup [.int 0, .tup [.int 5, .int 6]], W3]) (by have := at8 7 (by omega) (by omega); rw [el8] at this; exact this) (by omega) (by simp) (by decide +kernel) (by decide +kernel) (fun _ => rfl) (by decide +kernel) (by decide +kernel)
  · exact bad_plain (qs := [.tuple [.int 5, .tuple [.int 5, .int 6]], .tuple [.int 1, .tuple [.int 5, .int 6]], .tuple [.int 3, .tuple [.int 7, .int 8]]]) (ds := [.tup [.int 5, .tup [.int 5, .int 6]], W1, W3]) (by have := at8 9 (by omega) (by omega); rw [el8] at this; exact this) (by omega) (by simp) (by decide +kernel) (by decide +kernel) (fun _ => rfl) (by decide +kernel) (by decide +kernel)
  · exact bad_plain (qs := [.tuple [.int 1, .tuple [.int 5, .int 6]], .tuple [.int 3, .tuple [.int 7, .int 8]], .tuple [.int 2, .tuple [.int 1]]]) at9 (by omega) (by simp) (by decide +kernel) (by decide +kernel) (fun _ => rfl) (by decide +kernel) (by decide +kernel)
theorem st10 (hp : p < h.length) (ew : lk h w = some (.lst [W1, W3])) (e7 : lk h w7 = some (.lst ds)) (hl : ds.length = 6) (hb : ∀ d ∈ ds, Bad PieP h p d) : ∃ (w7' : Nat) (ds' : List D) (h' : Hd), LW10 [x0, x1, x2, x3, x4, x5, some (.ref w), some (.ref w7), x8, x9] h = .ok (.nx [x0, x1, x2, x3, x4, x5, some (.ref w), some (.ref w7'), x8, x9]) h' ∧
    Fr [] h h' ∧ lk h' w7' = some (.lst ds') ∧ h.length ≤ w7' ∧ ds'.length = 10 ∧ ∀ d ∈ ds', Bad PieP h' p d := by
  refine ⟨_, _, _, lw10 ew e7 (by omega), Fr.apps, lk_at h _ 10, by omega, by rw [List.length_append, hl]; rfl, fun d hd => ?_⟩
  rcases List.mem_append.mp hd with hd | hd
  · exact (hb d hd).fr0 Fr.apps
  simp only [List.mem_cons, List.not_mem_nil, or_false] at hd
  rcases hd with rfl | rfl | rfl | rfl
  · exact bad_plain (qs := [.tuple [.int 1, .tuple [.int 5, .int 6]], .tuple [.int 3, .tuple [.int 7, .int 8]], .tuple [.int 2, .tuple [.int 1, .int 2, .int 3]]]) (lk_at h _ 1) (by omega) (by simp) (by decide +kernel) (by decide +kernel) (fun _ => rfl) (by decide +kernel) (by decide +kernel)
  · exact bad_nest (lk_at h _ 4) (by omega) (lk_at h _ 2) (by omega)
  · exact bad_plain (qs := [.tuple [.int 1, .tuple [.int 5, .int 6]], .tuple [.int 3, .tuple [.int 7, .int 8]], .tuple [.int 2, .tuple [.int 1, .int 101]]]) (lk_at h _ 6) (by omega) (by simp) (by decide +kernel) (by decide +kernel) (fun _ => rfl) (by decide +kernel) (by decide +kernel)
  · exact bad_plain (qs := [.tuple [.int 1, .tuple [.int 5, .int 6]], .tuple [.int 3, .tuple [.int 7, .int 8]], .tuple [.bool true, .tuple [.int 1, .int 2]]]) (lk_at h _ 8) (by omega) (by simp) (by decide +kernel) (by decide +kernel) (fun _ => rfl) (by decide +kernel) (by decide +kernel)
theorem st11 (hp : p < h.length) (ew : lk h w = some (.lst [W1, W3])) (e7 : lk h w7 = some (.lst ds)) (hl : ds.length = 10) (hb : ∀ d ∈ ds, Bad PieP h p d) : ∃ (w7' : Nat) (ds' : List D) (h' : Hd), LW11 [x0, x1, x2, x3, x4, x5, some (.ref w), some (.ref w7), x8, x9] h = .ok (.nx [x0, x1, x2, x3, x4, x5, some (.ref w), some (.ref w7'), x8, x9]) h' ∧
    Fr [] h h' ∧ lk h' w7' = some (.lst ds') ∧ h.length ≤ w7' ∧ ds'.length = 16 ∧ ∀ d ∈ ds', Bad PieP h' p d := by
  refine ⟨_, _, _, lw11 ew e7 (by omega), Fr.apps, lk_at h _ 9, by omega, by rw [List.length_append, hl]; rfl, fun d hd => ?_⟩
  rcases List.mem_append.mp hd with hd | hd
  · exact (hb d hd).fr0 Fr.apps
  simp only [List.mem_cons, List.not_mem_nil, or_false] at hd
  rcases hd with rfl | rfl | rfl | rfl | rfl | rfl
  · exact bad_plain (qs := [.tuple [.int 1, .tuple [.int 5, .int 6]], .tuple [.int 3, .tuple [.int 7, .int 8]], .none]) (lk_at h _ 1) (by omega) (by simp) (by decide +kernel) (by decide +kernel) (fun _ => rfl) (by decide +kernel) (by decide +kernel)
  · exact bad_plain (qs := [.tuple [.int 1, .tuple [.int 5, .int 6]], .tuple [.int 3, .tuple [.int 7, .int 8]], .tuple [.int 2]]) (lk_at h _ 3) (by omega) (by simp) (by decide +kernel) (by decide +kernel) (fun _ => rfl) (by decide +kernel) (by decide +kernel)
  · exact bad_flat (q := .none) (by simp) (fun _ => rfl) (by decide +kernel) (by decide +kernel) fun h => pie_no rfl
  · exact bad_flat (q := .str (Str.ofString "ab")) (by simp) (fun _ => rfl) (by decide +kernel) (by decide +kernel) fun h => pie_no rfl
  · exact bad_plain (qs := [.tuple [.int 1, .tuple [.int 5, .int 6]], .tuple [.int 3, .tuple [.int 7, .int 8]], .tuple [.int 2, .tuple [.int 1, .int (-1)]]]) (lk_at h _ 5) (by omega) (by simp) (by decide +kernel) (by decide +kernel) (fun _ => rfl) (by decide +kernel) (by decide +kernel)
  · exact bad_plain (qs := [.tuple [.int 1, .tuple [.int 5, .int 6]], .tuple [.int 3, .tuple [.int 7, .int 8]], .tuple [.int 2, .tuple [.str (Str.ofString "1"), .int 2]]]) (lk_at h _ 7) (by omega) (by simp) (by decide +kernel) (by decide +kernel) (fun _ => rfl) (by decide +kernel) (by decide +kernel)
theorem st12 (P : IsPen h p c n) (hn : n < 10000) (e7 : lk h w7 = some (.lst ds)) (hw : w7 ≠ p) (hl : ds.length = 16) (hb : ∀ d ∈ ds, Bad PieP h p d) : ∃ d h', LW12 [x0, some (.ref p), x2, x3, x4, x5, x6, some (.ref w7), x8, x9] h = .ok (.nx [x0, some (.ref p), x2, x3, x4, x5, x6, some (.ref w7), some d, x9]) h' ∧ IsPen h' p c (n + 1) ∧ Fr [p] h h' ∧ Bad PieP h' p d := by
  obtain ⟨r, h', e, r0, r1, P', F⟩ := drawF P (by omega) (many := (16 : Int)) (by omega) (by omega)
  obtain ⟨d, ed, dm⟩ := atI_mem (ds := ds) (i := r) r0 (by omega)
  refine ⟨d, h', ?_, P', F, (hb d dm).fr F⟩
  have e7' := F.get e7 (by simpa using hw)
  have hl' : ((ds.length : Nat) : Int) = 16 := by omega
  simp [LW12, e7, hl', e, e7', ed, guard_true]
end
end Kq
end
set_option maxHeartbeats 8000000
noncomputable section
namespace Kq
open PySem PySem.Spec L2 Kf PySem.W
section
variable {h : Hd} {p c n s w w7 : Nat} {ds : List D} {x y : D} {x0 x1 x2 x3 x4 x5 x6 x7 x8 x9 : Option D}
theorem same_pair (a : String) {t : Str} (o : PyData.strOk t = true) (h : Hd) : neF (.tup [.str a, .raw t]) (.tup [.str a, .raw t]) h = .ok (.bl false) h := by
  have e : Kf.py h 60 (.tup [.str a, .raw t]) = some (.tuple [.str (Str.ofString a), .str t]) := by
    show (allS [some (PyData.str (Str.ofString a)), if PyData.strOk t = true then some (PyData.str t) else none]).map PyData.tuple = _
    rw [if_pos o]
    rfl
  exact (eqF_same e e).2
/-- what is told back, and shown -/
theorem back_ex {i : Int} {z : D} {a : String} {h' : Hd} {t : Str} (e1 : opE i x y s h = .exc "BadNumber" [("number", z), ("what", .str a)] h') (e2 : reprA [z] h' = .ok (.raw t) h') :
    M_law_told [.int i, x, y, .ref s] h = .ok (.tup [.str a, .raw t]) h' := told_back_exc e1 e2
def LB5 : SS := (sIf (sTest (s2 neF (sFn 4 M_law_told [] (sCons (sVar 5) (sCons (sVar 3) (sCons (sVar 4) (sCons (sVar 2) sNil))))) (sTup (sCons (sC (.str "letters")) (sCons (sCall reprA (sCons (sVar 3) sNil)) sNil)))))
    (sRet (sC (.bl false)))
    sNext)
theorem LW5_eq : LW5 = sFor (sSnap (sLst (sCons (sC (.int 0)) (sCons (sC (.int 1)) sNil)))) (gN 5) LB5 := rfl
theorem lb5 (c : CF0 s h) (b : Bad LetP h p x) {i : Int} (hi : i = 0 ∨ i = 1) : LB5 [x0, x1, some (.ref s), some x, some y, some (.int i), x6, x7, x8, x9] h = .ok (.nx [x0, x1, some (.ref s), some x, some y, some (.int i), x6, x7, x8, x9]) h := by
  obtain ⟨t, o, sh⟩ := b.shown
  have e0 := b.told h Fr.refl s c
  have s0 := sh h Fr.refl
  have e1 : opE i x y s h = .exc "BadNumber" [("number", x), ("what", .str "letters")] h := by
    unfold opE
    rcases hi with rfl | rfl
    · exact piece_of_exc e0
    · exact pieces_of_exc e0
  have e2 := back_ex e1 s0
  have e3 := same_pair "letters" o h
  simp [LB5, guard_true, e2, s0, LIM_eq, e3]
theorem lw5 (c : CF0 s h) (b : Bad LetP h p x) : ∃ y5, LW5 [x0, x1, some (.ref s), some x, some y, x5, x6, x7, x8, x9] h = .ok (.nx [x0, x1, some (.ref s), some x, some y, y5, x6, x7, x8, x9]) h := by
  have b0 := lb5 (x0 := x0) (x1 := x1) (x6 := x6) (x7 := x7) (x8 := x8) (x9 := x9) (y := y) c b (i := 0) (.inl rfl)
  have b1 := lb5 (x0 := x0) (x1 := x1) (x6 := x6) (x7 := x7) (x8 := x8) (x9 := x9) (y := y) c b (i := 1) (.inr rfl)
  refine ⟨some (.int 1), ?_⟩
  rw [LW5_eq]
  simp [loopItems_cons, b0, b1, LIM_eq, guard_true]
theorem lw6 (c : CF0 s h) (b : Bad NumP h p y) : ∃ h', LW6 [x0, x1, some (.ref s), x3, some y, x5, x6, x7, x8, x9] h = .ok (.nx [x0, x1, some (.ref s), x3, some y, x5, x6, x7, x8, x9]) h' ∧ Fr [] h h' := by
  obtain ⟨t, o, sh⟩ := b.shown
  obtain ⟨h1, e1⟩ : ∃ h1, h1 = h ++ [O.lst [.int 100, .int 0]] := ⟨_, rfl⟩
  have F : Fr [] h h1 := by rw [e1]; exact Fr.apps
  have c1 : CF0 s h1 := F.get c (by simp)
  have b1 := b.told h1 (F.sub (by simp))
  have s1 := sh h1 (F.sub (by simp))
  have a1 : lk h1 h.length = some (.lst [.int 100, .int 0]) := by rw [e1]; exact lk_at h _ 0
  have tl : M_told_letters [.ref h.length, .ref s] h1 = .ok (.tup [.int 100, .int 0]) h1 := by
    rw [letters_ok c1 (.lst a1) (by simp [dk_int.up]) (by simp)]
    rfl
  have e2 : opE 0 (.ref h.length) y s h1 = .exc "BadNumber" [("number", y), ("what", .str "number")] h1 := by
    unfold opE
    exact piece_of_num c1 tl b1.1 b1.2
  have e3 := back_ex e2 s1
  have e4 := same_pair "number" o h1
  refine ⟨h1, ?_, F⟩
  rw [e1] at e3 e4 s1 ⊢
  simp [LW6, guard_true, e3, s1, LIM_eq, e4]
end
end Kq
end
set_option maxHeartbeats 8000000
noncomputable section
namespace Kq
open PySem PySem.Spec L2 Kf PySem.W
/-! ### the good pieces -/
def gps : List (Int × List Int) := [(1, [5, 6]), (3, [7, 8])]
theorem gps_good {count : Nat} (hc : count = 3 ∨ count = 4) : Good gps 2 4 101 count := by
  rcases hc with rfl | rfl <;> exact ⟨by omega, by omega, by decide, by omega, by omega, by decide +kernel, by decide⟩
theorem gps_sorted : sortPr gps = gps := by
  unfold sortPr
  exact List.mergeSort_of_pairwise (by unfold gps; rw [List.pairwise_cons]; exact ⟨by intro a ha; simp only [List.mem_cons, List.not_mem_nil, or_false] at ha; subst ha; decide +kernel, List.pairwise_singleton _ _⟩)
theorem agree3 : agreeP gps 2 101 3 = false := by decide +kernel
theorem agree4 : agreeP gps 2 101 4 = true := by decide +kernel
theorem letters3 : lettersP gps 2 101 3 = [4, 1, 5] := by decide +kernel
theorem gps_bad {count : Nat} (hc : count = 0 ∨ count = 2 ∨ count = 5) : (gps.map pairD).all (isPairB 4 101 (stepsN count 2 : Nat)) = false := by
  rcases hc with rfl | rfl | rfl <;> decide +kernel
end Kq
end
set_option maxHeartbeats 8000000
noncomputable section
namespace Kq
open PySem PySem.Spec L2 Kf PySem.W
def LA1 : SS := (sIf (sTest (s2 neF (sFn 4 M_law_told [] (sCons (sVar 5) (sCons (sVar 8) (sCons (sVar 9) (sCons (sVar 2) sNil))))) (sTup (sCons (sC (.str "count")) (sCons (sCall reprA (sCons (sVar 9) sNil)) sNil)))))
    (sRet (sC (.bl false)))
    sNext)
def LA2 : SS := (sIf (sTest (s2 neF (sFn 4 M_law_told [] (sCons (sVar 5) (sCons (sVar 8) (sCons (sFn 2 M_law_pick [] (sCons (sVar 1) (sCons (sNew (sLst (sCons (sC (.int 3)) (sCons (sC (.int 4)) sNil)))) sNil))) (sCons (sVar 2) sNil))))) (sTup (sCons (sC (.str "pieces")) (sCons (sCall reprA (sCons (sVar 8) sNil)) sNil)))))
    (sRet (sC (.bl false)))
    sNext)
def LA3 : SS := (sIf (sTest (s2 notF (sFn 4 M_law_told [] (sCons (sVar 5) (sCons (sVar 6) (sCons (sFn 2 M_law_pick [] (sCons (sVar 1) (sCons (sNew (sLst (sCons (sC (.int 3)) (sCons (sC (.int 4)) sNil)))) sNil))) (sCons (sVar 2) sNil))))) (sC .non)))
    (sRet (sC (.bl false)))
    sNext)
def LA4 : SS := (sIf (sTest (s2 neF (sFn 4 M_law_told [] (sCons (sVar 5) (sCons (sVar 6) (sCons (sFn 2 M_law_pick [] (sCons (sVar 1) (sCons (sNew (sLst (sCons (sC (.int 0)) (sCons (sC (.int 2)) (sCons (sC (.int 5)) sNil))))) sNil))) (sCons (sVar 2) sNil))))) (sTup (sCons (sC (.str "pieces")) (sCons (sCall reprA (sCons (sVar 6) sNil)) sNil)))))
    (sRet (sC (.bl false)))
    sNext)
theorem LW14_eq : LW14 = sFor (sSnap (sLst (sCons (sC (.int 2)) (sCons (sC (.int 3)) sNil)))) (gN 5) (sSeq LA1 (sSeq LA2 (sSeq LA3 LA4))) := rfl
section
variable {h : Hd} {p c n s w : Nat} {x y : D} {i : Int} {x0 x1 x2 x3 x4 x5 x6 x7 x8 x9 : Option D}
theorem opE_ge (hi : i = 2 ∨ i = 3) {z : D} {h' : Hd} {a : String} {fs : List (String × D)} (e : M_told_pieces [x, y, .ref s] h = .exc a fs h') : opE i x y s h = .exc a fs h' := by
  unfold opE
  rcases hi with rfl | rfl
  · exact letters_of_exc e
  · exact agree_on_exc e
theorem la1 (hi : i = 2 ∨ i = 3) (b : Bad CntP h p y) : LA1 [x0, x1, some (.ref s), x3, x4, some (.int i), x6, x7, some x, some y] h = .ok (.nx [x0, x1, some (.ref s), x3, x4, some (.int i), x6, x7, some x, some y]) h := by
  obtain ⟨t, o, sh⟩ := b.shown
  have b0 := b.told h Fr.refl
  have e0 : M_told_pieces [x, y, .ref s] h = .exc "BadNumber" [("number", y), ("what", .str "count")] h := told_count b0.1 b0.2
  have e2 := back_ex (opE_ge (z := x) hi e0) (sh h Fr.refl)
  have e3 := same_pair "count" o h
  simp [LA1, guard_true, e2, sh h Fr.refl, LIM_eq, e3]
/-- a pick of a count -/
theorem pickC (P : IsPen h p c n) (hn : n < 10000) {ds : List D} (h0 : 0 < ds.length) (h1 : ds.length < 100) : ∃ d h', M_law_pick [.ref p, .ref h.length] (h ++ [O.lst ds]) = .ok d h' ∧ d ∈ ds ∧ IsPen h' p c (n + 1) ∧ Fr [p] h h' := by
  have pl := P.lt
  have F : Fr [] h (h ++ [O.lst ds]) := Fr.app
  obtain ⟨d, h', e, dm, P', F'⟩ := pickF (F.pen P (by simp) (by simp)) (by omega) (lk_at h _ 0) (by omega) h0 (by omega)
  exact ⟨d, h', e, dm, P', (F.sub (by simp)).trans F'⟩
theorem la2 (hi : i = 2 ∨ i = 3) (P : IsPen h p c n) (hn : n < 10000) (C : CF0 s h) (hs : s ≠ p) (b : Bad PieP h p x) : ∃ h', LA2 [x0, some (.ref p), some (.ref s), x3, x4, some (.int i), x6, x7, some x, x9] h = .ok (.nx [x0, some (.ref p), some (.ref s), x3, x4, some (.int i), x6, x7, some x, x9]) h' ∧ IsPen h' p c (n + 1) ∧ Fr [p] h h' := by
  have pl := P.lt
  have cl := P.ltc
  obtain ⟨t, o, sh⟩ := b.shown
  obtain ⟨d, h1, e, dm, P1, F1⟩ := pickC P hn (ds := [.int 3, .int 4]) (by simp) (by simp)
  simp only [List.mem_cons, List.not_mem_nil, or_false] at dm
  obtain ⟨count, ed, hc⟩ : ∃ count : Nat, d = .int count ∧ (count = 3 ∨ count = 4) := by
    rcases dm with rfl | rfl
    · exact ⟨3, rfl, .inl rfl⟩
    · exact ⟨4, rfl, .inr rfl⟩
  subst ed
  obtain ⟨h2, e0, F2⟩ := b.told h1 F1 s count (F1.get C (by simpa using hs)) hc
  have F12 : Fr [p] h h2 := F1.trans (F2.sub (by simp))
  have s2 := sh h2 F12
  have e2 := back_ex (opE_ge (z := x) hi e0) s2
  have e3 := same_pair "pieces" o h2
  refine ⟨h2, ?_, F2.pen P1 (by simp) (by simp), F12⟩
  simp [LA2, guard_true, LIM_eq, e, e2, s2, e3]
theorem notF_non (h : Hd) : notF .non .non h = .ok (.bl false) h := rfl
theorem la3 (hi : i = 2 ∨ i = 3) (P : IsPen h p c n) (hn : n < 10000) (C : CF0 s h) (hs : s ≠ p) (ew : lk h w = some (.lst [W1, W3])) (hw : w ≠ p) : ∃ h', LA3 [x0, some (.ref p), some (.ref s), x3, x4, some (.int i), some (.ref w), x7, x8, x9] h = .ok (.nx [x0, some (.ref p), some (.ref s), x3, x4, some (.int i), some (.ref w), x7, x8, x9]) h' ∧ IsPen h' p c (n + 1) ∧ Fr [p] h h' := by
  obtain ⟨d, h1, e, dm, P1, F1⟩ := pickC P hn (ds := [.int 3, .int 4]) (by simp) (by simp)
  simp only [List.mem_cons, List.not_mem_nil, or_false] at dm
  obtain ⟨count, ed, hc⟩ : ∃ count : Nat, d = .int count ∧ (count = 3 ∨ count = 4) := by
    rcases dm with rfl | rfl
    · exact ⟨3, rfl, .inl rfl⟩
    · exact ⟨4, rfl, .inr rfl⟩
  subst ed
  have C1 : CF0 s h1 := F1.get C (by simpa using hs)
  have r1 : Row h1 (.ref w) (gps.map pairD) := .lst (F1.get ew (by simpa using hw))
  obtain ⟨v, h2, e0, F2⟩ : ∃ v h2, opE i (.ref w) (.int count) s h1 = .ok v h2 ∧ Fr [] h1 h2 := by
    unfold opE
    rcases hi with rfl | rfl
    · obtain ⟨h2, e, F⟩ := letters_of_ex (k := 2) (gps_good hc) C1 r1
      exact ⟨_, h2, e, F⟩
    · obtain ⟨h2, e, F⟩ := agree_on_ex (k := 2) (gps_good hc) C1 r1
      exact ⟨_, h2, e, F⟩
  have e2 := told_back_ok e0
  refine ⟨h2, ?_, F2.pen P1 (by simp) (by simp), F1.trans (F2.sub (by simp))⟩
  simp [LA3, guard_true, LIM_eq, e, e2, isNon_non]
theorem la4 (hi : i = 2 ∨ i = 3) (P : IsPen h p c n) (hn : n < 10000) (C : CF0 s h) (hs : s ≠ p) (ew : lk h w = some (.lst [W1, W3])) (hw : w ≠ p) : ∃ h', LA4 [x0, some (.ref p), some (.ref s), x3, x4, some (.int i), some (.ref w), x7, x8, x9] h = .ok (.nx [x0, some (.ref p), some (.ref s), x3, x4, some (.int i), some (.ref w), x7, x8, x9]) h' ∧ IsPen h' p c (n + 1) ∧ Fr [p] h h' := by
  obtain ⟨d, h1, e, dm, P1, F1⟩ := pickC P hn (ds := [.int 0, .int 2, .int 5]) (by simp) (by simp)
  simp only [List.mem_cons, List.not_mem_nil, or_false] at dm
  obtain ⟨count, ed, hc⟩ : ∃ count : Nat, d = .int count ∧ (count = 0 ∨ count = 2 ∨ count = 5) := by
    rcases dm with rfl | rfl | rfl
    · exact ⟨0, rfl, .inl rfl⟩
    · exact ⟨2, rfl, .inr (.inl rfl)⟩
    · exact ⟨5, rfl, .inr (.inr rfl)⟩
  subst ed
  have C1 : CF0 s h1 := F1.get C (by simpa using hs)
  have r1 : Row h1 (.ref w) (gps.map pairD) := .lst (F1.get ew (by simpa using hw))
  obtain ⟨h2, e0, F2⟩ := (told_ps (k := 2) C1 (by omega) count r1 (by decide) (by decide) (by decide)).2 fun z => by
    have := gps_bad hc
    rw [z.1] at this
    cases this
  have F12 : Fr [p] h h2 := F1.trans (F2.sub (by simp))
  have s2 : reprA [.ref w] h2 = .ok (.raw (PyData.list [.tuple [.int 1, .tuple [.int 5, .int 6]], .tuple [.int 3, .tuple [.int 7, .int 8]]]).shown) h2 :=
    reprA_lst (F12.get ew (by simpa using hw)) rfl (by decide +kernel) (by decide +kernel)
  have e2 := back_ex (opE_ge (z := .non) hi e0) s2
  have e3 := same_pair "pieces" (t := (PyData.list [.tuple [.int 1, .tuple [.int 5, .int 6]], .tuple [.int 3, .tuple [.int 7, .int 8]]]).shown) (by decide +kernel) h2
  refine ⟨h2, ?_, F2.pen P1 (by simp) (by simp), F12⟩
  simp [LA4, guard_true, LIM_eq, e, e2, s2, e3]
theorem turn14 (hi : i = 2 ∨ i = 3) (P : IsPen h p c n) (hn : n < 9000) (C : CF0 s h) (hs : s ≠ p) (ew : lk h w = some (.lst [W1, W3])) (hw : w ≠ p) (b : Bad PieP h p x) (b2 : Bad CntP h p y) : ∃ h', (sSeq LA1 (sSeq LA2 (sSeq LA3 LA4))) [x0, some (.ref p), some (.ref s), x3, x4, some (.int i), some (.ref w), x7, some x, some y] h = .ok (.nx [x0, some (.ref p), some (.ref s), x3, x4, some (.int i), some (.ref w), x7, some x, some y]) h' ∧ IsPen h' p c (n + 3) ∧ Fr [p] h h' := by
  have e1 := la1 (x0 := x0) (x1 := some (.ref p)) (x3 := x3) (x4 := x4) (x6 := some (.ref w)) (x7 := x7) (s := s) (x := x) hi b2
  obtain ⟨h2, e2, P2, F2⟩ := la2 (x0 := x0) (x3 := x3) (x4 := x4) (x6 := some (.ref w)) (x7 := x7) (x9 := some y) hi P (by omega) C hs b
  obtain ⟨h3, e3, P3, F3⟩ := la3 (x0 := x0) (x3 := x3) (x4 := x4) (x7 := x7) (x8 := some x) (x9 := some y) hi P2 (by omega) (F2.get C (by simpa using hs)) hs (F2.get ew (by simpa using hw)) hw
  obtain ⟨h4, e4, P4, F4⟩ := la4 (x0 := x0) (x3 := x3) (x4 := x4) (x7 := x7) (x8 := some x) (x9 := some y) hi P3 (by omega) ((F2.trans F3).get C (by simpa using hs)) hs ((F2.trans F3).get ew (by simpa using hw)) hw
  exact ⟨h4, by rw [ev_seq, e1, andThen_nx, ev_seq, e2, andThen_nx, ev_seq, e3, andThen_nx, e4], P4, F2.trans (F3.trans F4)⟩
theorem lw14 (P : IsPen h p c n) (hn : n < 8000) (C : CF0 s h) (hs : s ≠ p) (ew : lk h w = some (.lst [W1, W3])) (hw : w ≠ p) (b : Bad PieP h p x) (b2 : Bad CntP h p y) : ∃ y5 h', LW14 [x0, some (.ref p), some (.ref s), x3, x4, x5, some (.ref w), x7, some x, some y] h = .ok (.nx [x0, some (.ref p), some (.ref s), x3, x4, y5, some (.ref w), x7, some x, some y]) h' ∧ IsPen h' p c (n + 6) ∧ Fr [p] h h' := by
  obtain ⟨h1, e1, P1, F1⟩ := turn14 (x0 := x0) (x3 := x3) (x4 := x4) (x7 := x7) (i := 2) (.inl rfl) P (by omega) C hs ew hw b b2
  obtain ⟨h2, e2, P2, F2⟩ := turn14 (x0 := x0) (x3 := x3) (x4 := x4) (x7 := x7) (i := 3) (.inr rfl) P1 (by omega) (F1.get C (by simpa using hs)) hs (F1.get ew (by simpa using hw)) hw (b.fr F1) (b2.fr F1)
  refine ⟨some (.int 3), h2, ?_, P2, F1.trans F2⟩
  rw [LW14_eq]
  generalize (sSeq LA1 (sSeq LA2 (sSeq LA3 LA4))) = B at e1 e2 ⊢
  simp [loopItems_cons, e1, e2, LIM_eq, guard_true]
end
end Kq
end
set_option maxHeartbeats 8000000
noncomputable section
namespace Kq
open PySem PySem.Spec L2 Kf PySem.W
section
variable {h : Hd} {p c n s w : Nat} {x y : D} {i : Int} {x0 x1 x2 x3 x4 x5 x6 x7 x8 x9 : Option D}
theorem lw15 (C : CF0 s h) (ew : lk h w = some (.lst [W1, W3])) : ∃ h', LW15 [x0, x1, some (.ref s), x3, x4, x5, some (.ref w), x7, x8, x9] h = .ok (.nx [x0, x1, some (.ref s), x3, x4, x5, some (.ref w), x7, x8, x9]) h' ∧ Fr [] h h' := by
  have r (h1 : Hd) (F : Fr [] h h1) : Row h1 (.ref w) (gps.map pairD) := .lst (F.get ew (by simp))
  obtain ⟨h1, e1, F1⟩ := agree_on_ex (k := 2) (gps_good (.inl rfl)) C (r h Fr.refl)
  rw [gps_sorted, agree3] at e1
  obtain ⟨h2, e2, F2⟩ := agree_on_ex (k := 2) (gps_good (.inr rfl)) (F1.get C (by simp)) (r h1 F1)
  rw [gps_sorted, agree4] at e2
  obtain ⟨h3, e3, F3⟩ := letters_of_ex (k := 2) (gps_good (.inl rfl)) ((F1.trans F2).get C (by simp)) (r h2 (F1.trans F2))
  rw [gps_sorted, letters3] at e3
  have e4 := (eqF_ints [4, 1, 5] [4, 1, 5] h3).2
  refine ⟨h3, ?_, F1.trans (F2.trans F3)⟩
  have e1' : M_agree_on [.ref w, .int 3, .ref s] h = .ok (.bl false) h1 := e1
  have e2' : M_agree_on [.ref w, .int 4, .ref s] h1 = .ok (.bl true) h2 := e2
  have e3' : M_letters_of [.ref w, .int 3, .ref s] h2 = .ok (.tup [.int 4, .int 1, .int 5]) h3 := e3
  have e4' : neF (.tup [.int 4, .int 1, .int 5]) (.tup [.int 4, .int 1, .int 5]) h3 = .ok (.bl false) h3 := by rw [show ([.int 4, .int 1, .int 5] : List D) = [4, 1, 5].map D.int from rfl, e4]; rfl
  simp [LW15, guard_true, e1', e2', e3', e4', LIM_eq]
def eps : List (Int × List Int) := [(1, []), (2, [])]
def eps3 : List (Int × List Int) := [(4, []), (2, []), (1, [])]
theorem eps_good : Good eps 2 4 101 0 := ⟨by omega, by omega, by decide, by omega, by omega, by decide +kernel, by decide⟩
theorem eps3_good : Good eps3 2 4 101 0 := ⟨by omega, by omega, by decide, by omega, by omega, by decide +kernel, by decide⟩
theorem letters0 (ps : List (Int × List Int)) : lettersP ps 2 101 0 = [] := by unfold lettersP; rw [List.take_zero]
theorem agree0 : agreeP (sortPr eps3) 2 101 0 = true := by
  unfold agreeP
  rw [List.all_eq_true]
  intro q hq
  have := (eps3_good.at ((sortPr_perm eps3).mem_iff.mp hq)).2.2.1
  rw [letters0]
  have l0 : q.2 = [] := List.length_eq_zero_iff.mp this
  rw [l0]
  rfl
theorem lw16 (C : CF0 s h) : ∃ h', LW16 [x0, x1, some (.ref s), x3, x4, x5, x6, x7, x8, x9] h = .ok (.ret (.bl true)) h' := by
  obtain ⟨h1, e1⟩ : ∃ h1, h1 = h ++ [O.lst [.tup [.int 1, .tup []], .tup [.int 2, .tup []]]] := ⟨_, rfl⟩
  have F1 : Fr [] h h1 := by rw [e1]; exact Fr.apps
  have a1 : lk h1 h.length = some (.lst (eps.map pairD)) := by rw [e1]; exact lk_at h _ 0
  obtain ⟨h2, e2, F2⟩ := letters_of_ex (k := 2) eps_good (F1.get C (by simp)) (.lst a1)
  rw [letters0] at e2
  obtain ⟨h3, e3, F3⟩ := agree_on_ex (k := 2) eps3_good ((F1.trans F2).get C (by simp)) (.tup (ds := eps3.map pairD))
  rw [agree0] at e3
  have e4 := (eqF_ints [] [] h2).1
  have e2' : M_letters_of [.ref h.length, .int 0, .ref s] h1 = .ok (.tup []) h2 := e2
  have e3' : M_agree_on [.tup [.tup [.int 4, .tup []], .tup [.int 2, .tup []], .tup [.int 1, .tup []]], .int 0, .ref s] h2 = .ok (.bl true) h3 := e3
  have e4' : eqF (.tup []) (.tup []) h2 = .ok (.bl true) h2 := e4
  refine ⟨h3, ?_⟩
  rw [e1] at e2'
  simp [LW16, guard_true, LIM_eq, e2', e3', e4']
end
theorem law_sp (ns : List Int) (_ : ns.length ≤ 63) : ∃ h', M_law [.fls (ns.map D.int)] [] = .ok (.bl true) h' := by
  obtain ⟨h0, e0, P0, l0⟩ := pen_ex ns
  have E1 : LW1 [some (.fls (ns.map D.int)), none, none, none, none, none, none, none, none, none] [] = .ok (.nx [some (.fls (ns.map D.int)), some (.ref 1), none, none, none, none, none, none, none, none]) h0 := by
    simp [LW1, guard_true, e0]
  obtain ⟨h1, eh1⟩ : ∃ h1, h1 = h0 ++ [cfgO 1 4 2 0 1 101 40 2 3] := ⟨_, rfl⟩
  have i0 := init_ex (h := h0 ++ [O.ins "Settings" []]) (s := h0.length) (by simp)
  have st : (h0 ++ [O.ins "Settings" []]).set h0.length (cfgO 1 4 2 0 1 101 40 2 3) = h1 := by rw [eh1]; simp
  rw [st] at i0
  have E2 : LW2 [some (.fls (ns.map D.int)), some (.ref 1), none, none, none, none, none, none, none, none] h0 = .ok (.nx [some (.fls (ns.map D.int)), some (.ref 1), some (.ref h0.length), none, none, none, none, none, none, none]) h1 := by
    simp [LW2, guard_true, i0, LIM_eq]
  have F1 : Fr [] h0 h1 := by rw [eh1]; exact Fr.app
  have P1 := F1.pen P0 (by simp) (by simp)
  have C1 : CF0 h0.length h1 := by rw [eh1]; exact lk_at h0 _ 0
  have hs : h0.length ≠ 1 := by omega
  generalize h0.length = s at E2 C1 hs
  obtain ⟨x, h2, E3, P2, F2, b1⟩ := lw3 P1 (by omega) (x0 := some (.fls (ns.map D.int))) (x2 := some (.ref s)) (x3 := none) (x4 := none) (x5 := none) (x6 := none) (x7 := none) (x8 := none) (x9 := none)
  obtain ⟨y, h3, E4, P3, F3, b2⟩ := lw4 P2 (by omega) (x0 := some (.fls (ns.map D.int))) (x2 := some (.ref s)) (x3 := some x) (x4 := none) (x5 := none) (x6 := none) (x7 := none) (x8 := none) (x9 := none)
  have C3 : CF0 s h3 := (F2.trans F3).get C1 (by simpa using hs)
  obtain ⟨y5, E5⟩ := lw5 C3 (b1.fr F3) (y := y) (x0 := some (.fls (ns.map D.int))) (x1 := some (.ref 1)) (x5 := none) (x6 := none) (x7 := none) (x8 := none) (x9 := none)
  obtain ⟨h4, E6, F4⟩ := lw6 C3 b2 (x0 := some (.fls (ns.map D.int))) (x1 := some (.ref 1)) (x3 := some x) (x5 := y5) (x6 := none) (x7 := none) (x8 := none) (x9 := none)
  have P4 := F4.pen P3 (by simp) (by simp)
  have C4 : CF0 s h4 := F4.get C3 (by simp)
  have E7 := lw7 (h := h4) (x0 := some (.fls (ns.map D.int))) (x1 := some (.ref 1)) (x2 := some (.ref s)) (x3 := some x) (x4 := some y) (x5 := y5) (x6 := none) (x7 := none) (x8 := none) (x9 := none)
  obtain ⟨h5, eh5⟩ : ∃ h5, h5 = h4 ++ [O.lst [W1, W3]] := ⟨_, rfl⟩
  rw [← eh5] at E7
  have F5 : Fr [] h4 h5 := by rw [eh5]; exact Fr.app
  have w5 : lk h5 h4.length = some (.lst [W1, W3]) := by rw [eh5]; exact lk_at h4 _ 0
  have hw : h4.length ≠ 1 := by have := P4.lt; omega
  have P5 := F5.pen P4 (by simp) (by simp)
  have C5 : CF0 s h5 := F5.get C4 (by simp)
  generalize h4.length = w at E7 w5 hw
  obtain ⟨w7, ds7, h6, h7, E8, E9, F7, e7, hw7, l7, B7⟩ := st8 P5.lt w5 (x0 := some (.fls (ns.map D.int))) (x1 := some (.ref 1)) (x2 := some (.ref s)) (x3 := some x) (x4 := some y) (x5 := y5) (x7 := none) (x8 := none) (x9 := none)
  have P7 := F7.pen P5 (by simp) (by simp)
  have ew7 := F7.get w5 (by simp)
  obtain ⟨w8, ds8, h8, E10, F8, e8, hw8, l8, B8⟩ := st10 P7.lt ew7 e7 l7 B7 (x0 := some (.fls (ns.map D.int))) (x1 := some (.ref 1)) (x2 := some (.ref s)) (x3 := some x) (x4 := some y) (x5 := y5) (x8 := none) (x9 := none)
  have P8 := F8.pen P7 (by simp) (by simp)
  have ew8 := F8.get ew7 (by simp)
  obtain ⟨w9, ds9, h9, E11, F9, e9, hw9, l9, B9⟩ := st11 P8.lt ew8 e8 l8 B8 (x0 := some (.fls (ns.map D.int))) (x1 := some (.ref 1)) (x2 := some (.ref s)) (x3 := some x) (x4 := some y) (x5 := y5) (x8 := none) (x9 := none)
  have P9 := F9.pen P8 (by simp) (by simp)
  have ew9 := F9.get ew8 (by simp)
  obtain ⟨d, h10, E12, P10, F10, b10⟩ := st12 P9 (by omega) e9 (by have := P8.lt; omega) l9 B9 (x0 := some (.fls (ns.map D.int))) (x2 := some (.ref s)) (x3 := some x) (x4 := some y) (x5 := y5) (x6 := some (.ref w)) (x8 := none) (x9 := none)
  obtain ⟨z, h11, E13, P11, F11, b11⟩ := lw13 P10 (by omega) (x0 := some (.fls (ns.map D.int))) (x2 := some (.ref s)) (x3 := some x) (x4 := some y) (x5 := y5) (x6 := some (.ref w)) (x7 := some (.ref w9)) (x8 := some d) (x9 := none)
  have ew11 := (F10.trans F11).get ew9 (by simpa using hw)
  have C11 : CF0 s h11 := (F10.trans F11).get (((F7.trans (F8.trans F9)).get C5 (by simp))) (by simpa using hs)
  obtain ⟨z5, h12, E14, P12, F12⟩ := lw14 P11 (by omega) C11 hs ew11 hw (b10.fr F11) b11 (x0 := some (.fls (ns.map D.int))) (x3 := some x) (x4 := some y) (x5 := y5) (x7 := some (.ref w9))
  have ew12 := F12.get ew11 (by simpa using hw)
  have C12 : CF0 s h12 := F12.get C11 (by simpa using hs)
  obtain ⟨h13, E15, F13⟩ := lw15 C12 ew12 (x0 := some (.fls (ns.map D.int))) (x1 := some (.ref 1)) (x3 := some x) (x4 := some y) (x5 := z5) (x7 := some (.ref w9)) (x8 := some d) (x9 := some z)
  obtain ⟨h14, E16⟩ := lw16 (F13.get C12 (by simp)) (x0 := some (.fls (ns.map D.int))) (x1 := some (.ref 1)) (x3 := some x) (x4 := some y) (x5 := z5) (x6 := some (.ref w)) (x7 := some (.ref w9)) (x8 := some d) (x9 := some z)
  refine ⟨h14, ?_⟩
  have E0 : M_law [.fls (ns.map D.int)] [] = finR ((sSeq LW1 (sSeq LW2 (sSeq LW3 (sSeq LW4 (sSeq LW5 (sSeq LW6 (sSeq LW7 (sSeq LW8 (sSeq LW9 (sSeq LW10 (sSeq LW11 (sSeq LW12 (sSeq LW13 (sSeq LW14 (sSeq LW15 LW16))))))))))))))) [some (.fls (ns.map D.int)), none, none, none, none, none, none, none, none, none] []) := by rw [LW_eq, defM_ev]; rfl
  rw [E0, ev_seq, E1, andThen_nx, ev_seq, E2, andThen_nx, ev_seq, E3, andThen_nx, ev_seq, E4, andThen_nx, ev_seq, E5, andThen_nx, ev_seq, E6, andThen_nx, ev_seq, E7, andThen_nx, ev_seq, E8, andThen_nx, ev_seq, E9, andThen_nx, ev_seq, E10, andThen_nx, ev_seq, E11, andThen_nx, ev_seq, E12, andThen_nx, ev_seq, E13, andThen_nx, ev_seq, E14, andThen_nx, ev_seq, E15, andThen_nx, E16]
  rfl
end Kq
end
section
set_option maxHeartbeats 4000000
/-! Kf: a law's end, where nothing is being shown. -/
namespace Kf
open PySem PySem.Spec L2 PyProof.Rows
section
variable {P : Program} {w : World} {K : PySem.W.Frag} {mg mb : Str → Option Value} {CX : CXT} {k : Nat} {fa a : Addr} {fd : FuncData} {x : Str} {sp : Sp} {s : Shared} {vs : List Value} {ns : List Int}
/-- from a heap in which the script alone may be tracked -/
theorem law_from {H : Hp} {oA : Obj} (one : ∀ b, H b = none ∨ (b = a ∧ H b = some (.frz oA (.lst (ns.map V.int))))) (noK : H a ≠ none → K.lookup a = none) (hok : HOk P w H s.heap)
    (KX : K.In s.heap) (hns : s.heap.Ns mainGlobals mg) (hb : s.heap.Ns builtinsNs mb) (hbb : ∀ x : Str, x ≠ "__name__" → mb x = bootBuiltins x) (hlim : s.heap.NoLimit) (hg : s.gens = #[])
    (ha : s.heap.get? a = some { cls := .type "list", data := .seq vs.toArray }) (hr : RoomG k callerA) (F : ∀ base : Heap, K.In base → base.Ns mainGlobals mg → FnG P w K mg base CX k fa fd [x] sp) (hbind : ∀ (s : Shared) (u : Value), BindsTo s fd ⟨[u], []⟩ [(x, u)])
    (hsp : sp [.ref a] H (fun v _ => v = .bl true) fun _ _ _ => False) (hCX : ∀ H e s', CX [] H s (fun _ _ _ => False) e s' → False) :
    codeAny (model P w) callerA (.call (.ref fa) ⟨[.ref a], []⟩) (fun r s' => r = .ok (.ret (.bool true)) ∧ OldK s.heap s'.heap ∧ s'.os = s.os ∧ AllBare s'.gens) s := by
  have atA : ∀ b, H b ≠ none → b = a := fun b q => (one b).elim (fun z => absurd z q) (·.1)
  have hid : ∀ b o, s.heap.get? b = some o → H b = none → (hidT s.heap H).get? b = some o := fun b o => hidT_get
  have free : ∀ b o es ep, s.heap.get? b = some o → o.data = .dict es ep → H b = none := by
    intro b o es ep e d
    rcases one b with z | ⟨z, _⟩
    · exact z
    · subst z
      rw [ha] at e
      cases e
      exact absurd d (by intro q; cases q)
  have ns_ : ∀ b m, s.heap.Ns b m → (hidT s.heap H).Ns b m := fun b m ⟨o, es, ep, e, d, r⟩ => ⟨o, es, ep, hid b o e (free b o es ep e d), d, r⟩
  have kin : K.In (hidT s.heap H) := by
    intro b o e
    refine hid b o (KX b o e) ?_
    rcases one b with z | ⟨z, zz⟩
    · exact z
    · subst z
      rw [noK (by rw [zz]; simp)] at e
      cases e
  obtain ⟨mc, l1, l2⟩ := hlim
  have md : Mod K mg (hidT s.heap H) := ⟨kin, ns_ _ _ hns, ⟨mb, ns_ _ _ hb, hbb⟩, ⟨mc, ns_ _ _ l1, l2⟩⟩
  have e0 : Env0 P w K mg (hidT s.heap H) callerA [] s H :=
    { frames := rfl, mod := md, bs := fun b o e => of_hidT e, bsz := Nat.le_of_eq (hidT_size _ _), funs := trivial, frf := (by intro b hb; cases hb), hok := hok, bare := .of_eq hg }
  apply codeAny_mono ((F _ kin (ns_ _ _ hns)).go (args := ⟨[.ref a], []⟩) (us := [.ref a]) (vs := [V.ref a]) hr e0 (hbind s (.ref a)) (.cons rfl .nil) hsp)
  intro r s' z
  match r, z with
  | .error e, z => exact (hCX H e s' z).elim
  | .ok .next, z => exact z.elim
  | .ok .brk, z => exact z.elim
  | .ok .cont, z => exact z.elim
  | .ok (.ret u), ⟨v, H', os, bare, un, hok', rv, q⟩ =>
    have q : v = .bl true := q
    subst q
    have rv : u = Value.bool true := rv
    subst rv
    refine ⟨rfl, OldK.of_keep fun b o e => ?_, os, bare⟩
    rcases one b with z | ⟨z1, z2⟩
    · exact un.keep b o e z (fun m => by cases m) (by simp)
    · obtain ⟨o1, _⟩ := hok b _ z2
      obtain ⟨o2, _⟩ := hok' b _ (un.frzs b oA _ z2)
      rw [e] at o1
      cases o1
      exact o2
theorem law_goG (KX : K.In s.heap) (hns : s.heap.Ns mainGlobals mg) (hb : s.heap.Ns builtinsNs mb) (hbb : ∀ x : Str, x ≠ "__name__" → mb x = bootBuiltins x) (hlim : s.heap.NoLimit) (hg : s.gens = #[])
    (ha : s.heap.get? a = some { cls := .type "list", data := .seq vs.toArray }) (hi : IntsAre vs ns) (hl : ns.length ≤ sizeLine) (hr : RoomG k callerA)
    (F : ∀ base : Heap, K.In base → base.Ns mainGlobals mg → FnG P w K mg base CX k fa fd [x] sp) (hbind : ∀ (s : Shared) (u : Value), BindsTo s fd ⟨[u], []⟩ [(x, u)])
    (hsp : ∀ H : Hp, Only H → SqL K H a (ns.map V.int) → sp [.ref a] H (fun v _ => v = .bl true) fun _ _ _ => False) (hCX : ∀ H e s', CX [] H s (fun _ _ _ => False) e s' → False) :
    codeAny (model P w) callerA (.call (.ref fa) ⟨[.ref a], []⟩) (fun r s' => r = .ok (.ret (.bool true)) ∧ OldK s.heap s'.heap ∧ s'.os = s.os ∧ AllBare s'.gens) s := by
  have iv := vals_ints hi
  by_cases hk : ∃ o, K.lookup a = some o
  · obtain ⟨o, hk⟩ := hk
    have e := KX a o hk
    rw [ha] at e
    cases e
    have sq : SqL K (fun _ => none) a (ns.map V.int) := .inr ⟨_, vs.toArray, _, hk, rfl, rfl, rfl, by rw [List.size_toArray, hi.length]; exact hl, by simpa using iv⟩
    exact law_from (oA := { cls := .type "list", data := .seq vs.toArray }) (ns := ns) (H := fun _ => none) (fun b => .inl rfl) (fun z => absurd rfl z) (fun b u z => by have z : (none : Option HO) = some u := z; cases z) KX hns hb hbb hlim hg ha hr F hbind (hsp _ (fun _ => .inl rfl) sq) hCX
  · have hk : K.lookup a = none := by
      cases e : K.lookup a with
      | none => rfl
      | some o => exact absurd ⟨o, e⟩ hk
    obtain ⟨H, h1, h2⟩ : ∃ H : Hp, H a = some (.frz { cls := .type "list", data := .seq vs.toArray } (.lst (ns.map V.int))) ∧ ∀ b, b ≠ a → H b = none :=
      ⟨upd (fun _ => none) a (.frz { cls := .type "list", data := .seq vs.toArray } (.lst (ns.map V.int))), upd_same, fun b q => upd_ne q⟩
    have one : ∀ b, H b = none ∨ (b = a ∧ H b = some (.frz { cls := .type "list", data := .seq vs.toArray } (.lst (ns.map V.int)))) := by
      intro b
      by_cases q : b = a
      · exact .inr ⟨q, by rw [q, h1]⟩
      · exact .inl (h2 b q)
    refine law_from one (fun _ => hk) ?_ KX hns hb hbb hlim hg ha hr F hbind (hsp _ (fun b => ?_) (.inl (.inr ⟨_, h1⟩))) hCX
    · intro b u z
      rcases one b with q | ⟨q1, q2⟩
      · rw [q] at z; cases z
      · rw [q2] at z
        cases z
        subst q1
        exact ⟨ha, by rw [List.length_map]; exact hl, vs, _, iv, ha⟩
    · rcases one b with q | ⟨_, q2⟩
      · exact .inl q
      · exact .inr ⟨_, _, q2⟩
end
theorem walk_G {l : PySem.W.OpenLaw} {n k : Nat} {q : Program} {loose : List Str} {XP : (Str → Option Value) → Heap → Prop} {YP : World → Heap → Prop} {d : DefRec} {K : Params → PySem.W.Frag} {CX : World → CXT} {sp : World → Sp} {x : Str}
    (hn : l.most = some n) (hn2 : n ≤ sizeLine) (hdf : d.params.defaults = []) (hr : RoomG k callerA) (hY : ∀ (w : World) (h : Heap), YP w h → (K w.params).In h)
    (F : ∀ (w : World) (mg : Str → Option Value) (fa : Addr) (h : Heap), (K w.params).In h → h.Ns mainGlobals mg → mg d.name = some (.ref fa) →
      ∃ fd : FuncData, (∀ (s : Shared) (u : Value), BindsTo s fd ⟨[u], []⟩ [(x, u)]) ∧ ∀ base : Heap, (K w.params).In base → base.Ns mainGlobals mg → FnG l.prog w (K w.params) mg base (CX w) k fa fd [x] (sp w))
    (hsp : ∀ (w : World) (H : Hp) (a : Addr) (ns : List Int), ns.length ≤ n → Only H → SqL (K w.params) H a (ns.map V.int) → sp w [.ref a] H (fun v _ => v = .bl true) fun _ _ _ => False)
    (hCX : ∀ (w : World) (H : Hp) (s : Shared) (e : Value) (s' : Shared), CX w [] H s (fun _ _ _ => False) e s' → False) :
    PySem.W.WalkO q loose XP YP l.row.toRowW d [] (fun f vs => PySem.call f vs) := by
  apply Att.attach_call hn hdf
  intro w s₀ s₁ mg mb fa o pm cd doc a vs ns G Y ho hd hcd hmg hobj hints hlen hg
  obtain ⟨fd, hb, hF⟩ := F w mg fa _ (hY w _ Y) G.T.g hmg
  exact law_goG (hY w _ Y) G.T.g G.T.b G.T.builtins G.T.nolimit hg hobj hints (Nat.le_trans hlen hn2) hr hF hb (fun H hO hS => hsp w H a ns hlen hO hS) fun H e s' => hCX w H s₁ e s'
end Kf
end
set_option maxHeartbeats 8000000
noncomputable section
namespace Kq
open PySem PySem.Spec L2 Kf
/-! ### the head, printed by head.py -/
abbrev st_BadNumber_init : Stmt := inClass (topS 2) 0
theorem sc_BadNumber_init : FnScope ["self", "what", "number"] ["self", "what", "number"] (defScope st_BadNumber_init) := ⟨rfl, rfl, rfl, by decide +kernel, rfl, by decide +kernel, by decide +kernel⟩
theorem exm_mk {K : PySem.W.Frag} {C : Addr} {t : Value} {r : Bool} (e1 : PySem.W.subIn K (.ref C) (.type "BaseException") = some true) (e2 : PySem.W.isClsIn K C = true) (e3 : PySem.W.typeIn K (.ref C) = some (.type "type")) (e4 : PySem.W.subIn K t (.ref C) = some r) : PySem.W.exmOne K t (.ref C) = some r := by
  have e2' : (PySem.W.clsIn K C).isSome = true := e2
  have h1 : (PySem.W.subIn K (.ref C) (.type "BaseException") == some true) = true := by rw [e1]; rfl
  have h2 : ((PySem.W.clsIn K C).isSome && PySem.W.typeIn K (.ref C) == some (.type "type")) = true := by rw [e2', e3]; decide
  unfold PySem.W.exmOne
  rw [if_pos h1]
  show (if ((PySem.W.clsIn K C).isSome && PySem.W.typeIn K (.ref C) == some (.type "type")) = true then PySem.W.subIn K t (.ref C) else none) = _
  rw [if_pos h2, e4]
def spL (K : PySem.W.Frag) (M : FA) : Sp := fun vs H Q E => ∀ cA : CA, spOf K cA 1 M vs H Q E
theorem all_mk {l : PySem.W.OpenLaw} {w : World} {K : PySem.W.Frag} {h : Heap} {mg : Str → Option Value} {fa : Addr} (X : K.In h) (NG : h.Ns mainGlobals mg) (hfa : mg "law" = some (.ref fa))
    {C_Settings C_BadNumber : Addr}
    {f_law_pen f_is_whole f_is_between f_is_prime f_Settings_init f_law_draw f_law_pick f_is_list f_told_letters f_value_at f_groups_of f_piece_at f_piece_of f_pieces_of f_inverse f_basis_at f_letters_at f_is_count f_is_pair f_told_pieces f_letters_of f_agree_on f_law_told f_law : Addr}
    {nm_BadNumber q_BadNumber : Str} {N_BadNumber : Addr} {bs_BadNumber bm_BadNumber : List Value} {sn_BadNumber : List Str} {sub_BadNumber : List Value} {ab_BadNumber : Bool} {col_BadNumber : Option Bool} {dd_BadNumber : Option Addr} {m0_BadNumber m1_BadNumber m2_BadNumber m3_BadNumber m5_BadNumber : Option Value}
    {f_BadNumber_init : Addr}
    {od_BadNumber_init an_BadNumber_init : Option Addr} {sl_BadNumber_init : Array (Option Value)} {oc_BadNumber_init kV_BadNumber_init dc_BadNumber_init pm_BadNumber_init cd_BadNumber_init ct_BadNumber_init : Value}
    {od_law_pen an_law_pen : Option Addr} {sl_law_pen : Array (Option Value)} {oc_law_pen kV_law_pen dc_law_pen pm_law_pen cd_law_pen ct_law_pen : Value}
    {od_is_whole an_is_whole : Option Addr} {sl_is_whole : Array (Option Value)} {oc_is_whole kV_is_whole dc_is_whole pm_is_whole cd_is_whole ct_is_whole : Value}
    {od_is_between an_is_between : Option Addr} {sl_is_between : Array (Option Value)} {oc_is_between kV_is_between dc_is_between pm_is_between cd_is_between ct_is_between : Value}
    {od_is_prime an_is_prime : Option Addr} {sl_is_prime : Array (Option Value)} {oc_is_prime kV_is_prime dc_is_prime pm_is_prime cd_is_prime ct_is_prime : Value}
    {od_Settings_init an_Settings_init : Option Addr} {sl_Settings_init : Array (Option Value)} {oc_Settings_init kV_Settings_init dc_Settings_init pm_Settings_init cd_Settings_init ct_Settings_init : Value}
    {od_law_draw an_law_draw : Option Addr} {sl_law_draw : Array (Option Value)} {oc_law_draw kV_law_draw dc_law_draw pm_law_draw cd_law_draw ct_law_draw : Value}
    {od_law_pick an_law_pick : Option Addr} {sl_law_pick : Array (Option Value)} {oc_law_pick kV_law_pick dc_law_pick pm_law_pick cd_law_pick ct_law_pick : Value}
    {od_is_list an_is_list : Option Addr} {sl_is_list : Array (Option Value)} {oc_is_list kV_is_list dc_is_list pm_is_list cd_is_list ct_is_list : Value}
    {od_told_letters an_told_letters : Option Addr} {sl_told_letters : Array (Option Value)} {oc_told_letters kV_told_letters dc_told_letters pm_told_letters cd_told_letters ct_told_letters : Value}
    {od_value_at an_value_at : Option Addr} {sl_value_at : Array (Option Value)} {oc_value_at kV_value_at dc_value_at pm_value_at cd_value_at ct_value_at : Value}
    {od_groups_of an_groups_of : Option Addr} {sl_groups_of : Array (Option Value)} {oc_groups_of kV_groups_of dc_groups_of pm_groups_of cd_groups_of ct_groups_of : Value}
    {od_piece_at an_piece_at : Option Addr} {sl_piece_at : Array (Option Value)} {oc_piece_at kV_piece_at dc_piece_at pm_piece_at cd_piece_at ct_piece_at : Value}
    {od_piece_of an_piece_of : Option Addr} {sl_piece_of : Array (Option Value)} {oc_piece_of kV_piece_of dc_piece_of pm_piece_of cd_piece_of ct_piece_of : Value}
    {od_pieces_of an_pieces_of : Option Addr} {sl_pieces_of : Array (Option Value)} {oc_pieces_of kV_pieces_of dc_pieces_of pm_pieces_of cd_pieces_of ct_pieces_of : Value}
    {od_inverse an_inverse : Option Addr} {sl_inverse : Array (Option Value)} {oc_inverse kV_inverse dc_inverse pm_inverse cd_inverse ct_inverse : Value}
    {od_basis_at an_basis_at : Option Addr} {sl_basis_at : Array (Option Value)} {oc_basis_at kV_basis_at dc_basis_at pm_basis_at cd_basis_at ct_basis_at : Value}
    {od_letters_at an_letters_at : Option Addr} {sl_letters_at : Array (Option Value)} {oc_letters_at kV_letters_at dc_letters_at pm_letters_at cd_letters_at ct_letters_at : Value}
    {od_is_count an_is_count : Option Addr} {sl_is_count : Array (Option Value)} {oc_is_count kV_is_count dc_is_count pm_is_count cd_is_count ct_is_count : Value}
    {od_is_pair an_is_pair : Option Addr} {sl_is_pair : Array (Option Value)} {oc_is_pair kV_is_pair dc_is_pair pm_is_pair cd_is_pair ct_is_pair : Value}
    {od_told_pieces an_told_pieces : Option Addr} {sl_told_pieces : Array (Option Value)} {oc_told_pieces kV_told_pieces dc_told_pieces pm_told_pieces cd_told_pieces ct_told_pieces : Value}
    {od_letters_of an_letters_of : Option Addr} {sl_letters_of : Array (Option Value)} {oc_letters_of kV_letters_of dc_letters_of pm_letters_of cd_letters_of ct_letters_of : Value}
    {od_agree_on an_agree_on : Option Addr} {sl_agree_on : Array (Option Value)} {oc_agree_on kV_agree_on dc_agree_on pm_agree_on cd_agree_on ct_agree_on : Value}
    {od_law_told an_law_told : Option Addr} {sl_law_told : Array (Option Value)} {oc_law_told kV_law_told dc_law_told pm_law_told cd_law_told ct_law_told : Value}
    {od_law an_law : Option Addr} {sl_law : Array (Option Value)} {oc_law kV_law dc_law pm_law cd_law ct_law : Value}
    (aC_Settings : PySem.W.nsIn K mainGlobals "Settings" = some (some (.ref C_Settings)))
    (aC_BadNumber : PySem.W.nsIn K mainGlobals "BadNumber" = some (some (.ref C_BadNumber)))
    (pg_Settings : PySem.W.plainGet K C_Settings Str.empty = true)
    (hd_Settings : PySem.W.hasDictIn K C_Settings = true)
    (po_Settings : PySem.W.plainOver K C_Settings = true)
    (sa_Settings : PySem.W.findIn K (.ref C_Settings) "__setattr__" = some (some (.builtin "object.__setattr__")))
    (mk_Settings : PySem.W.makesIn K C_Settings = true)
    (kc_Settings : PySem.W.keepIn K (.ref C_Settings) = true)
    (n_Settings_e : PySem.W.findIn K (.ref C_Settings) "e" = some none)
    (n_Settings_f : PySem.W.findIn K (.ref C_Settings) "f" = some none)
    (n_Settings_k : PySem.W.findIn K (.ref C_Settings) "k" = some none)
    (n_Settings_need : PySem.W.findIn K (.ref C_Settings) "need" = some none)
    (n_Settings_prime : PySem.W.findIn K (.ref C_Settings) "prime" = some none)
    (n_Settings_servers : PySem.W.findIn K (.ref C_Settings) "servers" = some none)
    (n_Settings_shelves : PySem.W.findIn K (.ref C_Settings) "shelves" = some none)
    (n_Settings_size : PySem.W.findIn K (.ref C_Settings) "size" = some none)
    (n_Settings_width : PySem.W.findIn K (.ref C_Settings) "width" = some none)
    (x_BadNumber : K.lookup C_BadNumber = some (excClassObj nm_BadNumber q_BadNumber C_BadNumber N_BadNumber bs_BadNumber bm_BadNumber true sn_BadNumber sub_BadNumber ab_BadNumber col_BadNumber dd_BadNumber m0_BadNumber m1_BadNumber m2_BadNumber m3_BadNumber m5_BadNumber "ValueError.__new__"))
    (r_BadNumber : PySem.HandSPX.refsVE bm_BadNumber = true)
    (sa_BadNumber : PySem.W.findIn K (.ref C_BadNumber) "__setattr__" = some (some (.builtin "object.__setattr__")))
    (kc_BadNumber : PySem.W.keepIn K (.ref C_BadNumber) = true)
    (a_BadNumber_init : PySem.W.findIn K (.ref C_BadNumber) "__init__" = some (some (.ref f_BadNumber_init)))
    (l_BadNumber_init : K.lookup f_BadNumber_init = some ⟨oc_BadNumber_init, od_BadNumber_init, .func (PySem.W.fnOf "__init__" "BadNumber.__init__" (defArgs st_BadNumber_init) (defBody st_BadNumber_init) (defScope st_BadNumber_init) .none kV_BadNumber_init dc_BadNumber_init pm_BadNumber_init an_BadNumber_init cd_BadNumber_init ct_BadNumber_init), sl_BadNumber_init⟩)
    (c_BadNumber_init : PySem.W.codeIn K cd_BadNumber_init "BadNumber.__init__" = true)
    (k_BadNumber_init : PySem.W.keepIn K (.ref f_BadNumber_init) = true)
    (t_BadNumber_init : PySem.W.typeIn K (.ref f_BadNumber_init) = some (.type "function"))
    (n_BadNumber_what : PySem.W.findIn K (.ref C_BadNumber) "what" = some none)
    (n_BadNumber_number : PySem.W.findIn K (.ref C_BadNumber) "number" = some none)
    (e_BadNumber : PySem.W.subIn K (.ref C_BadNumber) (.type "BaseException") = some true)
    (ty_BadNumber : PySem.W.typeIn K (.ref C_BadNumber) = some (.type "type"))
    (ic_BadNumber : PySem.W.isClsIn K C_BadNumber = true)
    (ga_BadNumber : PySem.W.findIn K (.ref C_BadNumber) "__getattribute__" = some (some (.builtin "BaseException.__getattribute__")))
    (gg_BadNumber : PySem.W.findIn K (.ref C_BadNumber) "__getattr__" = some none)
    (hd_BadNumber : PySem.W.hasDictIn K C_BadNumber = true)
    (s_BadNumber_BadNumber : PySem.W.subIn K (.ref C_BadNumber) (.ref C_BadNumber) = some true)
    (a_law_pen : PySem.W.nsIn K mainGlobals "_law_pen" = some (some (.ref f_law_pen)))
    (l_law_pen : K.lookup f_law_pen = some ⟨oc_law_pen, od_law_pen, .func (PySem.W.fnOf "_law_pen" "_law_pen" (defArgs st_law_pen) (defBody st_law_pen) (defScope st_law_pen) .none kV_law_pen dc_law_pen pm_law_pen an_law_pen cd_law_pen ct_law_pen), sl_law_pen⟩)
    (c_law_pen : PySem.W.codeIn K cd_law_pen "_law_pen" = true)
    (k_law_pen : PySem.W.keepIn K (.ref f_law_pen) = true)
    (a_is_whole : PySem.W.nsIn K mainGlobals "is_whole" = some (some (.ref f_is_whole)))
    (l_is_whole : K.lookup f_is_whole = some ⟨oc_is_whole, od_is_whole, .func (PySem.W.fnOf "is_whole" "is_whole" (defArgs st_is_whole) (defBody st_is_whole) (defScope st_is_whole) .none kV_is_whole dc_is_whole pm_is_whole an_is_whole cd_is_whole ct_is_whole), sl_is_whole⟩)
    (c_is_whole : PySem.W.codeIn K cd_is_whole "is_whole" = true)
    (k_is_whole : PySem.W.keepIn K (.ref f_is_whole) = true)
    (a_is_between : PySem.W.nsIn K mainGlobals "is_between" = some (some (.ref f_is_between)))
    (l_is_between : K.lookup f_is_between = some ⟨oc_is_between, od_is_between, .func (PySem.W.fnOf "is_between" "is_between" (defArgs st_is_between) (defBody st_is_between) (defScope st_is_between) .none kV_is_between dc_is_between pm_is_between an_is_between cd_is_between ct_is_between), sl_is_between⟩)
    (c_is_between : PySem.W.codeIn K cd_is_between "is_between" = true)
    (k_is_between : PySem.W.keepIn K (.ref f_is_between) = true)
    (a_is_prime : PySem.W.nsIn K mainGlobals "is_prime" = some (some (.ref f_is_prime)))
    (l_is_prime : K.lookup f_is_prime = some ⟨oc_is_prime, od_is_prime, .func (PySem.W.fnOf "is_prime" "is_prime" (defArgs st_is_prime) (defBody st_is_prime) (defScope st_is_prime) .none kV_is_prime dc_is_prime pm_is_prime an_is_prime cd_is_prime ct_is_prime), sl_is_prime⟩)
    (c_is_prime : PySem.W.codeIn K cd_is_prime "is_prime" = true)
    (k_is_prime : PySem.W.keepIn K (.ref f_is_prime) = true)
    (a_Settings_init : PySem.W.findIn K (.ref C_Settings) "__init__" = some (some (.ref f_Settings_init)))
    (l_Settings_init : K.lookup f_Settings_init = some ⟨oc_Settings_init, od_Settings_init, .func (PySem.W.fnOf "__init__" "Settings.__init__" (defArgs st_Settings_init) (defBody st_Settings_init) (defScope st_Settings_init) .none kV_Settings_init dc_Settings_init pm_Settings_init an_Settings_init cd_Settings_init ct_Settings_init), sl_Settings_init⟩)
    (c_Settings_init : PySem.W.codeIn K cd_Settings_init "Settings.__init__" = true)
    (k_Settings_init : PySem.W.keepIn K (.ref f_Settings_init) = true)
    (i_Settings_init : PySem.W.isFn K (.ref f_Settings_init) = true)
    (a_law_draw : PySem.W.nsIn K mainGlobals "_law_draw" = some (some (.ref f_law_draw)))
    (l_law_draw : K.lookup f_law_draw = some ⟨oc_law_draw, od_law_draw, .func (PySem.W.fnOf "_law_draw" "_law_draw" (defArgs st_law_draw) (defBody st_law_draw) (defScope st_law_draw) .none kV_law_draw dc_law_draw pm_law_draw an_law_draw cd_law_draw ct_law_draw), sl_law_draw⟩)
    (c_law_draw : PySem.W.codeIn K cd_law_draw "_law_draw" = true)
    (k_law_draw : PySem.W.keepIn K (.ref f_law_draw) = true)
    (a_law_pick : PySem.W.nsIn K mainGlobals "_law_pick" = some (some (.ref f_law_pick)))
    (l_law_pick : K.lookup f_law_pick = some ⟨oc_law_pick, od_law_pick, .func (PySem.W.fnOf "_law_pick" "_law_pick" (defArgs st_law_pick) (defBody st_law_pick) (defScope st_law_pick) .none kV_law_pick dc_law_pick pm_law_pick an_law_pick cd_law_pick ct_law_pick), sl_law_pick⟩)
    (c_law_pick : PySem.W.codeIn K cd_law_pick "_law_pick" = true)
    (k_law_pick : PySem.W.keepIn K (.ref f_law_pick) = true)
    (a_is_list : PySem.W.nsIn K mainGlobals "is_list" = some (some (.ref f_is_list)))
    (l_is_list : K.lookup f_is_list = some ⟨oc_is_list, od_is_list, .func (PySem.W.fnOf "is_list" "is_list" (defArgs st_is_list) (defBody st_is_list) (defScope st_is_list) .none kV_is_list dc_is_list pm_is_list an_is_list cd_is_list ct_is_list), sl_is_list⟩)
    (c_is_list : PySem.W.codeIn K cd_is_list "is_list" = true)
    (k_is_list : PySem.W.keepIn K (.ref f_is_list) = true)
    (a_told_letters : PySem.W.nsIn K mainGlobals "told_letters" = some (some (.ref f_told_letters)))
    (l_told_letters : K.lookup f_told_letters = some ⟨oc_told_letters, od_told_letters, .func (PySem.W.fnOf "told_letters" "told_letters" (defArgs st_told_letters) (defBody st_told_letters) (defScope st_told_letters) .none kV_told_letters dc_told_letters pm_told_letters an_told_letters cd_told_letters ct_told_letters), sl_told_letters⟩)
    (c_told_letters : PySem.W.codeIn K cd_told_letters "told_letters" = true)
    (k_told_letters : PySem.W.keepIn K (.ref f_told_letters) = true)
    (a_value_at : PySem.W.nsIn K mainGlobals "value_at" = some (some (.ref f_value_at)))
    (l_value_at : K.lookup f_value_at = some ⟨oc_value_at, od_value_at, .func (PySem.W.fnOf "value_at" "value_at" (defArgs st_value_at) (defBody st_value_at) (defScope st_value_at) .none kV_value_at dc_value_at pm_value_at an_value_at cd_value_at ct_value_at), sl_value_at⟩)
    (c_value_at : PySem.W.codeIn K cd_value_at "value_at" = true)
    (k_value_at : PySem.W.keepIn K (.ref f_value_at) = true)
    (a_groups_of : PySem.W.nsIn K mainGlobals "groups_of" = some (some (.ref f_groups_of)))
    (l_groups_of : K.lookup f_groups_of = some ⟨oc_groups_of, od_groups_of, .func (PySem.W.fnOf "groups_of" "groups_of" (defArgs st_groups_of) (defBody st_groups_of) (defScope st_groups_of) .none kV_groups_of dc_groups_of pm_groups_of an_groups_of cd_groups_of ct_groups_of), sl_groups_of⟩)
    (c_groups_of : PySem.W.codeIn K cd_groups_of "groups_of" = true)
    (k_groups_of : PySem.W.keepIn K (.ref f_groups_of) = true)
    (a_piece_at : PySem.W.nsIn K mainGlobals "piece_at" = some (some (.ref f_piece_at)))
    (l_piece_at : K.lookup f_piece_at = some ⟨oc_piece_at, od_piece_at, .func (PySem.W.fnOf "piece_at" "piece_at" (defArgs st_piece_at) (defBody st_piece_at) (defScope st_piece_at) .none kV_piece_at dc_piece_at pm_piece_at an_piece_at cd_piece_at ct_piece_at), sl_piece_at⟩)
    (c_piece_at : PySem.W.codeIn K cd_piece_at "piece_at" = true)
    (k_piece_at : PySem.W.keepIn K (.ref f_piece_at) = true)
    (a_piece_of : PySem.W.nsIn K mainGlobals "piece_of" = some (some (.ref f_piece_of)))
    (l_piece_of : K.lookup f_piece_of = some ⟨oc_piece_of, od_piece_of, .func (PySem.W.fnOf "piece_of" "piece_of" (defArgs st_piece_of) (defBody st_piece_of) (defScope st_piece_of) .none kV_piece_of dc_piece_of pm_piece_of an_piece_of cd_piece_of ct_piece_of), sl_piece_of⟩)
    (c_piece_of : PySem.W.codeIn K cd_piece_of "piece_of" = true)
    (k_piece_of : PySem.W.keepIn K (.ref f_piece_of) = true)
    (a_pieces_of : PySem.W.nsIn K mainGlobals "pieces_of" = some (some (.ref f_pieces_of)))
    (l_pieces_of : K.lookup f_pieces_of = some ⟨oc_pieces_of, od_pieces_of, .func (PySem.W.fnOf "pieces_of" "pieces_of" (defArgs st_pieces_of) (defBody st_pieces_of) (defScope st_pieces_of) .none kV_pieces_of dc_pieces_of pm_pieces_of an_pieces_of cd_pieces_of ct_pieces_of), sl_pieces_of⟩)
    (c_pieces_of : PySem.W.codeIn K cd_pieces_of "pieces_of" = true)
    (k_pieces_of : PySem.W.keepIn K (.ref f_pieces_of) = true)
    (a_inverse : PySem.W.nsIn K mainGlobals "inverse" = some (some (.ref f_inverse)))
    (l_inverse : K.lookup f_inverse = some ⟨oc_inverse, od_inverse, .func (PySem.W.fnOf "inverse" "inverse" (defArgs st_inverse) (defBody st_inverse) (defScope st_inverse) .none kV_inverse dc_inverse pm_inverse an_inverse cd_inverse ct_inverse), sl_inverse⟩)
    (c_inverse : PySem.W.codeIn K cd_inverse "inverse" = true)
    (k_inverse : PySem.W.keepIn K (.ref f_inverse) = true)
    (a_basis_at : PySem.W.nsIn K mainGlobals "basis_at" = some (some (.ref f_basis_at)))
    (l_basis_at : K.lookup f_basis_at = some ⟨oc_basis_at, od_basis_at, .func (PySem.W.fnOf "basis_at" "basis_at" (defArgs st_basis_at) (defBody st_basis_at) (defScope st_basis_at) .none kV_basis_at dc_basis_at pm_basis_at an_basis_at cd_basis_at ct_basis_at), sl_basis_at⟩)
    (c_basis_at : PySem.W.codeIn K cd_basis_at "basis_at" = true)
    (k_basis_at : PySem.W.keepIn K (.ref f_basis_at) = true)
    (a_letters_at : PySem.W.nsIn K mainGlobals "letters_at" = some (some (.ref f_letters_at)))
    (l_letters_at : K.lookup f_letters_at = some ⟨oc_letters_at, od_letters_at, .func (PySem.W.fnOf "letters_at" "letters_at" (defArgs st_letters_at) (defBody st_letters_at) (defScope st_letters_at) .none kV_letters_at dc_letters_at pm_letters_at an_letters_at cd_letters_at ct_letters_at), sl_letters_at⟩)
    (c_letters_at : PySem.W.codeIn K cd_letters_at "letters_at" = true)
    (k_letters_at : PySem.W.keepIn K (.ref f_letters_at) = true)
    (a_is_count : PySem.W.nsIn K mainGlobals "is_count" = some (some (.ref f_is_count)))
    (l_is_count : K.lookup f_is_count = some ⟨oc_is_count, od_is_count, .func (PySem.W.fnOf "is_count" "is_count" (defArgs st_is_count) (defBody st_is_count) (defScope st_is_count) .none kV_is_count dc_is_count pm_is_count an_is_count cd_is_count ct_is_count), sl_is_count⟩)
    (c_is_count : PySem.W.codeIn K cd_is_count "is_count" = true)
    (k_is_count : PySem.W.keepIn K (.ref f_is_count) = true)
    (a_is_pair : PySem.W.nsIn K mainGlobals "is_pair" = some (some (.ref f_is_pair)))
    (l_is_pair : K.lookup f_is_pair = some ⟨oc_is_pair, od_is_pair, .func (PySem.W.fnOf "is_pair" "is_pair" (defArgs st_is_pair) (defBody st_is_pair) (defScope st_is_pair) .none kV_is_pair dc_is_pair pm_is_pair an_is_pair cd_is_pair ct_is_pair), sl_is_pair⟩)
    (c_is_pair : PySem.W.codeIn K cd_is_pair "is_pair" = true)
    (k_is_pair : PySem.W.keepIn K (.ref f_is_pair) = true)
    (a_told_pieces : PySem.W.nsIn K mainGlobals "told_pieces" = some (some (.ref f_told_pieces)))
    (l_told_pieces : K.lookup f_told_pieces = some ⟨oc_told_pieces, od_told_pieces, .func (PySem.W.fnOf "told_pieces" "told_pieces" (defArgs st_told_pieces) (defBody st_told_pieces) (defScope st_told_pieces) .none kV_told_pieces dc_told_pieces pm_told_pieces an_told_pieces cd_told_pieces ct_told_pieces), sl_told_pieces⟩)
    (c_told_pieces : PySem.W.codeIn K cd_told_pieces "told_pieces" = true)
    (k_told_pieces : PySem.W.keepIn K (.ref f_told_pieces) = true)
    (a_letters_of : PySem.W.nsIn K mainGlobals "letters_of" = some (some (.ref f_letters_of)))
    (l_letters_of : K.lookup f_letters_of = some ⟨oc_letters_of, od_letters_of, .func (PySem.W.fnOf "letters_of" "letters_of" (defArgs st_letters_of) (defBody st_letters_of) (defScope st_letters_of) .none kV_letters_of dc_letters_of pm_letters_of an_letters_of cd_letters_of ct_letters_of), sl_letters_of⟩)
    (c_letters_of : PySem.W.codeIn K cd_letters_of "letters_of" = true)
    (k_letters_of : PySem.W.keepIn K (.ref f_letters_of) = true)
    (a_agree_on : PySem.W.nsIn K mainGlobals "agree_on" = some (some (.ref f_agree_on)))
    (l_agree_on : K.lookup f_agree_on = some ⟨oc_agree_on, od_agree_on, .func (PySem.W.fnOf "agree_on" "agree_on" (defArgs st_agree_on) (defBody st_agree_on) (defScope st_agree_on) .none kV_agree_on dc_agree_on pm_agree_on an_agree_on cd_agree_on ct_agree_on), sl_agree_on⟩)
    (c_agree_on : PySem.W.codeIn K cd_agree_on "agree_on" = true)
    (k_agree_on : PySem.W.keepIn K (.ref f_agree_on) = true)
    (a_law_told : PySem.W.nsIn K mainGlobals "_law_told" = some (some (.ref f_law_told)))
    (l_law_told : K.lookup f_law_told = some ⟨oc_law_told, od_law_told, .func (PySem.W.fnOf "_law_told" "_law_told" (defArgs st_law_told) (defBody st_law_told) (defScope st_law_told) .none kV_law_told dc_law_told pm_law_told an_law_told cd_law_told ct_law_told), sl_law_told⟩)
    (c_law_told : PySem.W.codeIn K cd_law_told "_law_told" = true)
    (k_law_told : PySem.W.keepIn K (.ref f_law_told) = true)
    (a_law : PySem.W.nsIn K mainGlobals "law" = some (some (.ref f_law)))
    (l_law : K.lookup f_law = some ⟨oc_law, od_law, .func (PySem.W.fnOf "law" "law" (defArgs st_law) (defBody st_law) (defScope st_law) .none kV_law dc_law pm_law an_law cd_law ct_law), sl_law⟩)
    (c_law : PySem.W.codeIn K cd_law "law" = true)
    (k_law : PySem.W.keepIn K (.ref f_law) = true)
    (z_int : PySem.W.nsIn K mainGlobals "int" = some none)
    (z_list : PySem.W.nsIn K mainGlobals "list" = some none)
    (z_bool : PySem.W.nsIn K mainGlobals "bool" = some none)
    (z_isinstance : PySem.W.nsIn K mainGlobals "isinstance" = some none)
    (z_len : PySem.W.nsIn K mainGlobals "len" = some none)
    (z_tuple : PySem.W.nsIn K mainGlobals "tuple" = some none)
    (z_all : PySem.W.nsIn K mainGlobals "all" = some none)
    (z_reversed : PySem.W.nsIn K mainGlobals "reversed" = some none)
    (z_range : PySem.W.nsIn K mainGlobals "range" = some none)
    (z_enumerate : PySem.W.nsIn K mainGlobals "enumerate" = some none)
    (z_sum : PySem.W.nsIn K mainGlobals "sum" = some none)
    (z_zip : PySem.W.nsIn K mainGlobals "zip" = some none)
    (z_set : PySem.W.nsIn K mainGlobals "set" = some none)
    (z_sorted : PySem.W.nsIn K mainGlobals "sorted" = some none)
    (z_repr : PySem.W.nsIn K mainGlobals "repr" = some none)
    : ∃ fd : FuncData, (∀ (s : Shared) (v : Value), BindsTo s fd ⟨[v], []⟩ [("_law_script", v)]) ∧ ∀ base : Heap, K.In base → base.Ns mainGlobals mg → FnG l.prog w K mg base (L2.CX l.prog w) 7 fa fd ["_law_script"] (spL K M_law) := by
  have e := hfa.symm.trans (PySem.W.mg_of X NG a_law)
  cases e
  refine ⟨PySem.W.fnOf "law" "law" (defArgs st_law) (defBody st_law) (defScope st_law) .none kV_law dc_law pm_law an_law cd_law ct_law, fun s v => .of_eq rfl, fun base hb hn => ?_⟩
  obtain ⟨cA, q_settingsC, q_badnumberC, qw⟩ : ∃ cA : CA, cA "Settings" = C_Settings ∧ cA "BadNumber" = C_BadNumber ∧ cA.w = w := ⟨⟨fun c => if c = "Settings" then C_Settings else if c = "BadNumber" then C_BadNumber else 0, w⟩, by simp, by simp, rfl⟩
  let GG : Gx := ⟨l.prog, w, K, mg, base, cA, qw⟩
  subst q_settingsC
  subst q_badnumberC
  have b_int : GG.mg "int" = none := PySem.W.mg_none_of X NG z_int
  have b_list : GG.mg "list" = none := PySem.W.mg_none_of X NG z_list
  have b_bool : GG.mg "bool" = none := PySem.W.mg_none_of X NG z_bool
  have b_isinstance : GG.mg "isinstance" = none := PySem.W.mg_none_of X NG z_isinstance
  have b_len : GG.mg "len" = none := PySem.W.mg_none_of X NG z_len
  have b_tuple : GG.mg "tuple" = none := PySem.W.mg_none_of X NG z_tuple
  have b_all : GG.mg "all" = none := PySem.W.mg_none_of X NG z_all
  have b_reversed : GG.mg "reversed" = none := PySem.W.mg_none_of X NG z_reversed
  have b_range : GG.mg "range" = none := PySem.W.mg_none_of X NG z_range
  have b_enumerate : GG.mg "enumerate" = none := PySem.W.mg_none_of X NG z_enumerate
  have b_sum : GG.mg "sum" = none := PySem.W.mg_none_of X NG z_sum
  have b_zip : GG.mg "zip" = none := PySem.W.mg_none_of X NG z_zip
  have b_set : GG.mg "set" = none := PySem.W.mg_none_of X NG z_set
  have b_sorted : GG.mg "sorted" = none := PySem.W.mg_none_of X NG z_sorted
  have b_repr : GG.mg "repr" = none := PySem.W.mg_none_of X NG z_repr
  have cl_Settings : Cls GG.K (GG.cA "Settings") := ⟨pg_Settings, hd_Settings, po_Settings, sa_Settings⟩
  have fl_e : FldG GG "e" ["Settings"] := by
    intro c hc
    simp only [List.mem_cons, List.not_mem_nil, or_false] at hc
    subst hc
    exact ⟨cl_Settings, n_Settings_e⟩
  have fl_f : FldG GG "f" ["Settings"] := by
    intro c hc
    simp only [List.mem_cons, List.not_mem_nil, or_false] at hc
    subst hc
    exact ⟨cl_Settings, n_Settings_f⟩
  have fl_k : FldG GG "k" ["Settings"] := by
    intro c hc
    simp only [List.mem_cons, List.not_mem_nil, or_false] at hc
    subst hc
    exact ⟨cl_Settings, n_Settings_k⟩
  have fl_need : FldG GG "need" ["Settings"] := by
    intro c hc
    simp only [List.mem_cons, List.not_mem_nil, or_false] at hc
    subst hc
    exact ⟨cl_Settings, n_Settings_need⟩
  have fl_prime : FldG GG "prime" ["Settings"] := by
    intro c hc
    simp only [List.mem_cons, List.not_mem_nil, or_false] at hc
    subst hc
    exact ⟨cl_Settings, n_Settings_prime⟩
  have fl_servers : FldG GG "servers" ["Settings"] := by
    intro c hc
    simp only [List.mem_cons, List.not_mem_nil, or_false] at hc
    subst hc
    exact ⟨cl_Settings, n_Settings_servers⟩
  have fl_shelves : FldG GG "shelves" ["Settings"] := by
    intro c hc
    simp only [List.mem_cons, List.not_mem_nil, or_false] at hc
    subst hc
    exact ⟨cl_Settings, n_Settings_shelves⟩
  have fl_size : FldG GG "size" ["Settings"] := by
    intro c hc
    simp only [List.mem_cons, List.not_mem_nil, or_false] at hc
    subst hc
    exact ⟨cl_Settings, n_Settings_size⟩
  have fl_width : FldG GG "width" ["Settings"] := by
    intro c hc
    simp only [List.mem_cons, List.not_mem_nil, or_false] at hc
    subst hc
    exact ⟨cl_Settings, n_Settings_width⟩
  have ox_BadNumber : OexC GG.K (GG.cA "BadNumber") := ⟨⟨_, _, _, _, _, _, _, _, _, _, _, _, _, _, _, x_BadNumber, r_BadNumber⟩, sa_BadNumber, e_BadNumber, ty_BadNumber, kc_BadNumber⟩
  have F_BadNumber_init := fun_mk (st := st_BadNumber_init) l_BadNumber_init c_BadNumber_init k_BadNumber_init
  have x_BadNumber : CE GG "BadNumber" "BadNumber" 1 ["what", "number"] := ⟨PySem.W.mg_of X NG aC_BadNumber, ox_BadNumber, f_BadNumber_init, _, _, a_BadNumber_init, t_BadNumber_init, x_init2 (f1 := "what") (f2 := "number") ox_BadNumber F_BadNumber_init sc_BadNumber_init rfl rfl n_BadNumber_what n_BadNumber_number (fun cdv A outer s H E => pss_cons (ps_ost (pv 0) (pv 1)) (pss_one (ps_ost (pv 0) (pv 2)))), F_BadNumber_init.binds fun _ _ _ _ _ _ us hl => match us, hl with | [_, _, _], _ => rfl⟩
  have xf_BadNumber_number : XFG GG "BadNumber" "number" := ⟨⟨ga_BadNumber, gg_BadNumber, e_BadNumber, hd_BadNumber⟩, n_BadNumber_number⟩
  have xf_BadNumber_what : XFG GG "BadNumber" "what" := ⟨⟨ga_BadNumber, gg_BadNumber, e_BadNumber, hd_BadNumber⟩, n_BadNumber_what⟩
  have h_BadNumber : CH GG "BadNumber" (.ref (GG.cA "BadNumber")) [("BadNumber", true)] := ⟨⟨by decide, .inl (PySem.W.mg_of X NG aC_BadNumber)⟩, fun c r e => by
    simp only [List.lookup_cons] at e
    split at e
    · rename_i q; rw [eq_of_beq q]; cases e; exact exm_mk e_BadNumber ic_BadNumber ty_BadNumber s_BadNumber_BadNumber
    · cases e⟩
  have F_law_pen := fun_mk (st := st_law_pen) l_law_pen c_law_pen k_law_pen
  have o_law_pen := ok_law_pen (G := GG) F_law_pen b_int b_list
  have d_c_law_pen_0 : CF GG "_law_pen" 1 1 M_law_pen [] := ⟨f_law_pen, _, _, [], [], PySem.W.mg_of X NG a_law_pen, k_law_pen, o_law_pen, F_law_pen.binds fun _ _ _ _ _ _ us hl => match us, hl with | [_], _ => rfl, .nil, fun _ _ _ => .nil⟩
  have F_is_whole := fun_mk (st := st_is_whole) l_is_whole c_is_whole k_is_whole
  have o_is_whole := ok_is_whole (G := GG) F_is_whole b_bool b_int b_isinstance
  have d_c_is_whole_0 : CF GG "is_whole" 1 1 M_is_whole [] := ⟨f_is_whole, _, _, [], [], PySem.W.mg_of X NG a_is_whole, k_is_whole, o_is_whole, F_is_whole.binds fun _ _ _ _ _ _ us hl => match us, hl with | [_], _ => rfl, .nil, fun _ _ _ => .nil⟩
  have F_is_between := fun_mk (st := st_is_between) l_is_between c_is_between k_is_between
  have o_is_between := ok_is_between (G := GG) F_is_between d_c_is_whole_0
  have d_c_is_between_0 : CF GG "is_between" 2 3 M_is_between [] := ⟨f_is_between, _, _, [], [], PySem.W.mg_of X NG a_is_between, k_is_between, o_is_between, F_is_between.binds fun _ _ _ _ _ _ us hl => match us, hl with | [_, _, _], _ => rfl, .nil, fun _ _ _ => .nil⟩
  have F_is_prime := fun_mk (st := st_is_prime) l_is_prime c_is_prime k_is_prime
  have o_is_prime := ok_is_prime (G := GG) F_is_prime 
  have d_c_is_prime_0 : CF GG "is_prime" 1 1 M_is_prime [] := ⟨f_is_prime, _, _, [], [], PySem.W.mg_of X NG a_is_prime, k_is_prime, o_is_prime, F_is_prime.binds fun _ _ _ _ _ _ us hl => match us, hl with | [_], _ => rfl, .nil, fun _ _ _ => .nil⟩
  have F_Settings_init := fun_mk (st := st_Settings_init) l_Settings_init c_Settings_init k_Settings_init
  have o_Settings_init := ok_Settings_init (G := GG) F_Settings_init fl_e fl_f fl_k fl_need fl_prime fl_servers fl_shelves fl_size fl_width x_BadNumber d_c_is_whole_0 d_c_is_between_0 d_c_is_prime_0
  have d_c_Settings_init_0 : CM GG "Settings" "Settings" 3 9 M_Settings_init [] := ⟨f_Settings_init, _, _, [], [], PySem.W.mg_of X NG aC_Settings, ⟨mk_Settings, a_Settings_init, i_Settings_init, kc_Settings⟩, o_Settings_init, F_Settings_init.binds fun _ _ _ _ _ _ us hl => match us, hl with | [_, _, _, _, _, _, _, _, _], _ => rfl, .nil, fun _ _ _ => .nil⟩
  have F_law_draw := fun_mk (st := st_law_draw) l_law_draw c_law_draw k_law_draw
  have o_law_draw := ok_law_draw (G := GG) F_law_draw b_int b_len
  have d_c_law_draw_0 : CF GG "_law_draw" 1 2 M_law_draw [] := ⟨f_law_draw, _, _, [], [], PySem.W.mg_of X NG a_law_draw, k_law_draw, o_law_draw, F_law_draw.binds fun _ _ _ _ _ _ us hl => match us, hl with | [_, _], _ => rfl, .nil, fun _ _ _ => .nil⟩
  have F_law_pick := fun_mk (st := st_law_pick) l_law_pick c_law_pick k_law_pick
  have o_law_pick := ok_law_pick (G := GG) F_law_pick b_len d_c_law_draw_0
  have d_c_law_pick_0 : CF GG "_law_pick" 2 2 M_law_pick [] := ⟨f_law_pick, _, _, [], [], PySem.W.mg_of X NG a_law_pick, k_law_pick, o_law_pick, F_law_pick.binds fun _ _ _ _ _ _ us hl => match us, hl with | [_, _], _ => rfl, .nil, fun _ _ _ => .nil⟩
  have F_is_list := fun_mk (st := st_is_list) l_is_list c_is_list k_is_list
  have o_is_list := ok_is_list (G := GG) F_is_list b_isinstance b_list b_tuple
  have d_c_is_list_0 : CF GG "is_list" 1 1 M_is_list [] := ⟨f_is_list, _, _, [], [], PySem.W.mg_of X NG a_is_list, k_is_list, o_is_list, F_is_list.binds fun _ _ _ _ _ _ us hl => match us, hl with | [_], _ => rfl, .nil, fun _ _ _ => .nil⟩
  have F_told_letters := fun_mk (st := st_told_letters) l_told_letters c_told_letters k_told_letters
  have o_told_letters := ok_told_letters (G := GG) F_told_letters b_all b_tuple fl_prime x_BadNumber d_c_is_list_0 d_c_is_between_0
  have d_c_told_letters_0 : CF GG "told_letters" 3 2 M_told_letters [] := ⟨f_told_letters, _, _, [], [], PySem.W.mg_of X NG a_told_letters, k_told_letters, o_told_letters, F_told_letters.binds fun _ _ _ _ _ _ us hl => match us, hl with | [_, _], _ => rfl, .nil, fun _ _ _ => .nil⟩
  have F_value_at := fun_mk (st := st_value_at) l_value_at c_value_at k_value_at
  have o_value_at := ok_value_at (G := GG) F_value_at b_reversed
  have d_c_value_at_0 : CF GG "value_at" 1 3 M_value_at [] := ⟨f_value_at, _, _, [], [], PySem.W.mg_of X NG a_value_at, k_value_at, o_value_at, F_value_at.binds fun _ _ _ _ _ _ us hl => match us, hl with | [_, _, _], _ => rfl, .nil, fun _ _ _ => .nil⟩
  have F_groups_of := fun_mk (st := st_groups_of) l_groups_of c_groups_of k_groups_of
  have o_groups_of := ok_groups_of (G := GG) F_groups_of b_len b_list b_range
  have d_c_groups_of_0 : CF GG "groups_of" 1 2 M_groups_of [] := ⟨f_groups_of, _, _, [], [], PySem.W.mg_of X NG a_groups_of, k_groups_of, o_groups_of, F_groups_of.binds fun _ _ _ _ _ _ us hl => match us, hl with | [_, _], _ => rfl, .nil, fun _ _ _ => .nil⟩
  have F_piece_at := fun_mk (st := st_piece_at) l_piece_at c_piece_at k_piece_at
  have o_piece_at := ok_piece_at (G := GG) F_piece_at b_tuple fl_k fl_prime d_c_groups_of_0 d_c_value_at_0
  have d_c_piece_at_0 : CF GG "piece_at" 2 3 M_piece_at [] := ⟨f_piece_at, _, _, [], [], PySem.W.mg_of X NG a_piece_at, k_piece_at, o_piece_at, F_piece_at.binds fun _ _ _ _ _ _ us hl => match us, hl with | [_, _, _], _ => rfl, .nil, fun _ _ _ => .nil⟩
  have F_piece_of := fun_mk (st := st_piece_of) l_piece_of c_piece_of k_piece_of
  have o_piece_of := ok_piece_of (G := GG) F_piece_of fl_shelves x_BadNumber d_c_told_letters_0 d_c_is_between_0 d_c_piece_at_0
  have d_c_piece_of_0 : CF GG "piece_of" 4 3 M_piece_of [] := ⟨f_piece_of, _, _, [], [], PySem.W.mg_of X NG a_piece_of, k_piece_of, o_piece_of, F_piece_of.binds fun _ _ _ _ _ _ us hl => match us, hl with | [_, _, _], _ => rfl, .nil, fun _ _ _ => .nil⟩
  have F_pieces_of := fun_mk (st := st_pieces_of) l_pieces_of c_pieces_of k_pieces_of
  have o_pieces_of := ok_pieces_of (G := GG) F_pieces_of b_range b_tuple fl_shelves d_c_told_letters_0 d_c_piece_at_0
  have d_c_pieces_of_0 : CF GG "pieces_of" 4 2 M_pieces_of [] := ⟨f_pieces_of, _, _, [], [], PySem.W.mg_of X NG a_pieces_of, k_pieces_of, o_pieces_of, F_pieces_of.binds fun _ _ _ _ _ _ us hl => match us, hl with | [_, _], _ => rfl, .nil, fun _ _ _ => .nil⟩
  have F_inverse := fun_mk (st := st_inverse) l_inverse c_inverse k_inverse
  have o_inverse := ok_inverse (G := GG) F_inverse 
  have d_c_inverse_0 : CF GG "inverse" 1 2 M_inverse [] := ⟨f_inverse, _, _, [], [], PySem.W.mg_of X NG a_inverse, k_inverse, o_inverse, F_inverse.binds fun _ _ _ _ _ _ us hl => match us, hl with | [_, _], _ => rfl, .nil, fun _ _ _ => .nil⟩
  have F_basis_at := fun_mk (st := st_basis_at) l_basis_at c_basis_at k_basis_at
  have o_basis_at := ok_basis_at (G := GG) F_basis_at b_enumerate d_c_inverse_0
  have d_c_basis_at_0 : CF GG "basis_at" 2 3 M_basis_at [] := ⟨f_basis_at, _, _, [], [], PySem.W.mg_of X NG a_basis_at, k_basis_at, o_basis_at, F_basis_at.binds fun _ _ _ _ _ _ us hl => match us, hl with | [_, _, _], _ => rfl, .nil, fun _ _ _ => .nil⟩
  have F_letters_at := fun_mk (st := st_letters_at) l_letters_at c_letters_at k_letters_at
  have o_letters_at := ok_letters_at (G := GG) F_letters_at b_len b_range b_sum b_tuple b_zip fl_k fl_prime d_c_basis_at_0
  have d_c_letters_at_0 : CF GG "letters_at" 3 3 M_letters_at [] := ⟨f_letters_at, _, _, [], [], PySem.W.mg_of X NG a_letters_at, k_letters_at, o_letters_at, F_letters_at.binds fun _ _ _ _ _ _ us hl => match us, hl with | [_, _, _], _ => rfl, .nil, fun _ _ _ => .nil⟩
  have F_is_count := fun_mk (st := st_is_count) l_is_count c_is_count k_is_count
  have o_is_count := ok_is_count (G := GG) F_is_count d_c_is_whole_0
  have d_c_is_count_0 : CF GG "is_count" 2 1 M_is_count [] := ⟨f_is_count, _, _, [], [], PySem.W.mg_of X NG a_is_count, k_is_count, o_is_count, F_is_count.binds fun _ _ _ _ _ _ us hl => match us, hl with | [_], _ => rfl, .nil, fun _ _ _ => .nil⟩
  have F_is_pair := fun_mk (st := st_is_pair) l_is_pair c_is_pair k_is_pair
  have o_is_pair := ok_is_pair (G := GG) F_is_pair b_all b_isinstance b_len b_tuple fl_prime fl_shelves d_c_is_between_0
  have d_c_is_pair_0 : CF GG "is_pair" 3 3 M_is_pair [] := ⟨f_is_pair, _, _, [], [], PySem.W.mg_of X NG a_is_pair, k_is_pair, o_is_pair, F_is_pair.binds fun _ _ _ _ _ _ us hl => match us, hl with | [_, _, _], _ => rfl, .nil, fun _ _ _ => .nil⟩
  have F_told_pieces := fun_mk (st := st_told_pieces) l_told_pieces c_told_pieces k_told_pieces
  have o_told_pieces := ok_told_pieces (G := GG) F_told_pieces b_len b_set b_sorted fl_k x_BadNumber d_c_is_count_0 d_c_is_list_0 d_c_is_pair_0
  have d_c_told_pieces_0 : CF GG "told_pieces" 4 3 M_told_pieces [] := ⟨f_told_pieces, _, _, [], [], PySem.W.mg_of X NG a_told_pieces, k_told_pieces, o_told_pieces, F_told_pieces.binds fun _ _ _ _ _ _ us hl => match us, hl with | [_, _, _], _ => rfl, .nil, fun _ _ _ => .nil⟩
  have F_letters_of := fun_mk (st := st_letters_of) l_letters_of c_letters_of k_letters_of
  have o_letters_of := ok_letters_of (G := GG) F_letters_of d_c_letters_at_0 d_c_told_pieces_0
  have d_c_letters_of_0 : CF GG "letters_of" 5 3 M_letters_of [] := ⟨f_letters_of, _, _, [], [], PySem.W.mg_of X NG a_letters_of, k_letters_of, o_letters_of, F_letters_of.binds fun _ _ _ _ _ _ us hl => match us, hl with | [_, _, _], _ => rfl, .nil, fun _ _ _ => .nil⟩
  have F_agree_on := fun_mk (st := st_agree_on) l_agree_on c_agree_on k_agree_on
  have o_agree_on := ok_agree_on (G := GG) F_agree_on b_all d_c_told_pieces_0 d_c_letters_at_0 d_c_piece_at_0
  have d_c_agree_on_0 : CF GG "agree_on" 5 3 M_agree_on [] := ⟨f_agree_on, _, _, [], [], PySem.W.mg_of X NG a_agree_on, k_agree_on, o_agree_on, F_agree_on.binds fun _ _ _ _ _ _ us hl => match us, hl with | [_, _, _], _ => rfl, .nil, fun _ _ _ => .nil⟩
  have F_law_told := fun_mk (st := st_law_told) l_law_told c_law_told k_law_told
  have o_law_told := ok_law_told (G := GG) F_law_told b_repr h_BadNumber xf_BadNumber_number xf_BadNumber_what d_c_piece_of_0 d_c_pieces_of_0 d_c_letters_of_0 d_c_agree_on_0
  have d_c_law_told_0 : CF GG "_law_told" 6 4 M_law_told [] := ⟨f_law_told, _, _, [], [], PySem.W.mg_of X NG a_law_told, k_law_told, o_law_told, F_law_told.binds fun _ _ _ _ _ _ us hl => match us, hl with | [_, _, _, _], _ => rfl, .nil, fun _ _ _ => .nil⟩
  have F_law := fun_mk (st := st_law) l_law c_law k_law
  have o_law := ok_law (G := GG) F_law b_len b_repr d_c_law_pen_0 d_c_Settings_init_0 d_c_law_pick_0 d_c_law_told_0 d_c_law_draw_0 d_c_agree_on_0 d_c_letters_of_0
  exact o_law.imp fun vs H Q E z => z cA
theorem walk {l : PySem.W.OpenLaw} {q : Program} {loose : List Str} {XP : (Str → Option Value) → Heap → Prop} {YP : World → Heap → Prop} {d : DefRec} {K : Params → PySem.W.Frag} (hn : l.most = some 63) (hdf : d.params.defaults = []) (hY : ∀ (w : World) (h : Heap), YP w h → (K w.params).In h)
    (F : ∀ (w : World) (mg : Str → Option Value) (fa : Addr) (h : Heap), (K w.params).In h → h.Ns mainGlobals mg → mg d.name = some (.ref fa) → ∃ fd : FuncData, (∀ (s : Shared) (v : Value), BindsTo s fd ⟨[v], []⟩ [("_law_script", v)]) ∧ ∀ base : Heap, (K w.params).In base → base.Ns mainGlobals mg → FnG l.prog w (K w.params) mg base (L2.CX l.prog w) 7 fa fd ["_law_script"] (spL (K w.params) M_law)) :
    PySem.W.WalkO q loose XP YP l.row.toRowW d [] (fun f vs => PySem.call f vs) :=
  Kf.walk_G (n := 63) (k := 7) (x := "_law_script") (CX := fun w => L2.CX l.prog w) (sp := fun w => spL (K w.params) M_law) hn (by decide) hdf ⟨⟨rfl, by decide, by decide⟩, rfl⟩ hY F (fun _ H a ns hl hO hS cA => Kf.law_sp law_sp H a ns hl hO hS) fun _ _ _ _ _ z => by
    obtain ⟨_, _, _, _, _, _, _, _, _, _, _, _, z⟩ := z
    exact z
end Kq
end
section
open PySem PySem.W PyProof.Rows in
set_option maxRecDepth 100000 in
set_option maxHeartbeats 0 in
theorem PySem.Challenge.cw_keptfiles_k30_code_refused_holds : PySem.Challenge.rw_keptfiles_k30_code_refused.Holds := by
  w_on; o_law; k_head; (case hw => w_witness2)
  k_fill
  refine Kq.walk (l := PySem.Challenge.rw_keptfiles_k30_code_refused) rfl rfl (fun w h Y => PySem.W.kIn_of Y) ?F
  case F =>
    intro w mg fa h KX NG hmg
    refine' Kq.all_mk KX NG hmg ?aC_Settings ?aC_BadNumber ?pg_Settings ?hd_Settings ?po_Settings ?sa_Settings ?mk_Settings ?kc_Settings ?n_Settings_e ?n_Settings_f ?n_Settings_k ?n_Settings_need ?n_Settings_prime ?n_Settings_servers ?n_Settings_shelves ?n_Settings_size ?n_Settings_width ?x_BadNumber ?r_BadNumber ?sa_BadNumber ?kc_BadNumber ?a_BadNumber_init ?l_BadNumber_init ?c_BadNumber_init ?k_BadNumber_init ?t_BadNumber_init ?n_BadNumber_what ?n_BadNumber_number ?e_BadNumber ?ty_BadNumber ?ic_BadNumber ?ga_BadNumber ?gg_BadNumber ?hd_BadNumber ?s_BadNumber_BadNumber ?a_law_pen ?l_law_pen ?c_law_pen ?k_law_pen ?a_is_whole ?l_is_whole ?c_is_whole ?k_is_whole ?a_is_between ?l_is_between ?c_is_between ?k_is_between ?a_is_prime ?l_is_prime ?c_is_prime ?k_is_prime ?a_Settings_init ?l_Settings_init ?c_Settings_init ?k_Settings_init ?i_Settings_init ?a_law_draw ?l_law_draw ?c_law_draw ?k_law_draw ?a_law_pick ?l_law_pick ?c_law_pick ?k_law_pick ?a_is_list ?l_is_list ?c_is_list ?k_is_list ?a_told_letters ?l_told_letters ?c_told_letters ?k_told_letters ?a_value_at ?l_value_at ?c_value_at ?k_value_at ?a_groups_of ?l_groups_of ?c_groups_of ?k_groups_of ?a_piece_at ?l_piece_at ?c_piece_at ?k_piece_at ?a_piece_of ?l_piece_of ?c_piece_of ?k_piece_of ?a_pieces_of ?l_pieces_of ?c_pieces_of ?k_pieces_of ?a_inverse ?l_inverse ?c_inverse ?k_inverse ?a_basis_at ?l_basis_at ?c_basis_at ?k_basis_at ?a_letters_at ?l_letters_at ?c_letters_at ?k_letters_at ?a_is_count ?l_is_count ?c_is_count ?k_is_count ?a_is_pair ?l_is_pair ?c_is_pair ?k_is_pair ?a_told_pieces ?l_told_pieces ?c_told_pieces ?k_told_pieces ?a_letters_of ?l_letters_of ?c_letters_of ?k_letters_of ?a_agree_on ?l_agree_on ?c_agree_on ?k_agree_on ?a_law_told ?l_law_told ?c_law_told ?k_law_told ?a_law ?l_law ?c_law ?k_law ?z_int ?z_list ?z_bool ?z_isinstance ?z_len ?z_tuple ?z_all ?z_reversed ?z_range ?z_enumerate ?z_sum ?z_zip ?z_set ?z_sorted ?z_repr
    (case aC_Settings => k_is)
    (case aC_BadNumber => k_is)
    (case pg_Settings => k_is)
    (case hd_Settings => k_is)
    (case po_Settings => k_is)
    (case sa_Settings => k_is)
    (case mk_Settings => k_is)
    (case kc_Settings => k_is)
    (case n_Settings_e => k_is)
    (case n_Settings_f => k_is)
    (case n_Settings_k => k_is)
    (case n_Settings_need => k_is)
    (case n_Settings_prime => k_is)
    (case n_Settings_servers => k_is)
    (case n_Settings_shelves => k_is)
    (case n_Settings_size => k_is)
    (case n_Settings_width => k_is)
    (case x_BadNumber => k_is)
    (case r_BadNumber => decide +kernel)
    (case sa_BadNumber => k_is)
    (case kc_BadNumber => k_is)
    (case a_BadNumber_init => k_is)
    (case l_BadNumber_init => k_is)
    (case c_BadNumber_init => k_is)
    (case k_BadNumber_init => k_is)
    (case t_BadNumber_init => k_is)
    (case n_BadNumber_what => k_is)
    (case n_BadNumber_number => k_is)
    (case e_BadNumber => k_is)
    (case ty_BadNumber => k_is)
    (case ic_BadNumber => k_is)
    (case ga_BadNumber => k_is)
    (case gg_BadNumber => k_is)
    (case hd_BadNumber => k_is)
    (case s_BadNumber_BadNumber => k_is)
    (case a_law_pen => k_is)
    (case l_law_pen => k_is)
    (case c_law_pen => k_is)
    (case k_law_pen => k_is)
    (case a_is_whole => k_is)
    (case l_is_whole => k_is)
    (case c_is_whole => k_is)
    (case k_is_whole => k_is)
    (case a_is_between => k_is)
    (case l_is_between => k_is)
    (case c_is_between => k_is)
    (case k_is_between => k_is)
    (case a_is_prime => k_is)
    (case l_is_prime => k_is)
    (case c_is_prime => k_is)
    (case k_is_prime => k_is)
    (case a_Settings_init => k_is)
    (case l_Settings_init => k_is)
    (case c_Settings_init => k_is)
    (case k_Settings_init => k_is)
    (case i_Settings_init => k_is)
    (case a_law_draw => k_is)
    (case l_law_draw => k_is)
    (case c_law_draw => k_is)
    (case k_law_draw => k_is)
    (case a_law_pick => k_is)
    (case l_law_pick => k_is)
    (case c_law_pick => k_is)
    (case k_law_pick => k_is)
    (case a_is_list => k_is)
    (case l_is_list => k_is)
    (case c_is_list => k_is)
    (case k_is_list => k_is)
    (case a_told_letters => k_is)
    (case l_told_letters => k_is)
    (case c_told_letters => k_is)
    (case k_told_letters => k_is)
    (case a_value_at => k_is)
    (case l_value_at => k_is)
    (case c_value_at => k_is)
    (case k_value_at => k_is)
    (case a_groups_of => k_is)
    (case l_groups_of => k_is)
    (case c_groups_of => k_is)
    (case k_groups_of => k_is)
    (case a_piece_at => k_is)
    (case l_piece_at => k_is)
    (case c_piece_at => k_is)
    (case k_piece_at => k_is)
    (case a_piece_of => k_is)
    (case l_piece_of => k_is)
    (case c_piece_of => k_is)
    (case k_piece_of => k_is)
    (case a_pieces_of => k_is)
    (case l_pieces_of => k_is)
    (case c_pieces_of => k_is)
    (case k_pieces_of => k_is)
    (case a_inverse => k_is)
    (case l_inverse => k_is)
    (case c_inverse => k_is)
    (case k_inverse => k_is)
    (case a_basis_at => k_is)
    (case l_basis_at => k_is)
    (case c_basis_at => k_is)
    (case k_basis_at => k_is)
    (case a_letters_at => k_is)
    (case l_letters_at => k_is)
    (case c_letters_at => k_is)
    (case k_letters_at => k_is)
    (case a_is_count => k_is)
    (case l_is_count => k_is)
    (case c_is_count => k_is)
    (case k_is_count => k_is)
    (case a_is_pair => k_is)
    (case l_is_pair => k_is)
    (case c_is_pair => k_is)
    (case k_is_pair => k_is)
    (case a_told_pieces => k_is)
    (case l_told_pieces => k_is)
    (case c_told_pieces => k_is)
    (case k_told_pieces => k_is)
    (case a_letters_of => k_is)
    (case l_letters_of => k_is)
    (case c_letters_of => k_is)
    (case k_letters_of => k_is)
    (case a_agree_on => k_is)
    (case l_agree_on => k_is)
    (case c_agree_on => k_is)
    (case k_agree_on => k_is)
    (case a_law_told => k_is)
    (case l_law_told => k_is)
    (case c_law_told => k_is)
    (case k_law_told => k_is)
    (case a_law => k_is)
    (case l_law => k_is)
    (case c_law => k_is)
    (case k_law => k_is)
    (case z_int => k_is)
    (case z_list => k_is)
    (case z_bool => k_is)
    (case z_isinstance => k_is)
    (case z_len => k_is)
    (case z_tuple => k_is)
    (case z_all => k_is)
    (case z_reversed => k_is)
    (case z_range => k_is)
    (case z_enumerate => k_is)
    (case z_sum => k_is)
    (case z_zip => k_is)
    (case z_set => k_is)
    (case z_sorted => k_is)
    (case z_repr => k_is)
end
