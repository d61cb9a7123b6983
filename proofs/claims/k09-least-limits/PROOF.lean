import PyProof.Rows.All
import Wide.All
import OpenK.AllK
import Wide.FinOn
import HandS.ForMost
import HandS.ForExc
import HandS.TupAny
import HandS.Lambda
import KE.KDictKeyed
import PyProof.DictFindH
import HandS.Conv
import KE.SortData
import KE.KDictSum
import HandS.IsInst
import HandS.Style
import HandS.TupMul
import PyProof.Rows.IntBool
import KE.DataMinMax
import HandS.CallSlots
import HandS.Zip
import HandS.WordsExc
import HandS.ExcOwn
import HandS.Text
import HandS.Deep
import HandS.TryMany
import HandS.ExcField
import HandS.ExcInit
import HandS.EndTab
import KE.KNestM
import PySem.Challenge.RW_proxybids_k09_whole_least_limits_that_wi
set_option Elab.async false
set_option linter.all false
set_option maxRecDepth 100000
set_option maxHeartbeats 4000000
/-! dicts whose keys are None and tuples (nested, of numbers, texts, None): look-up and store, keys told as they are -/
namespace Pb
open PySem PySem.Spec L2
open Sem (wp)
abbrev NK := PySem.NestedKey
def VIs (h : Heap) (k : NK) (v : Value) : Prop := NestedIs h k v ∧ k.depth ≤ 8
def entV (w : World) (x : NK × Value × Value) : DictEntry := ⟨x.1.hash w, x.2.1, x.2.2⟩
def DictV (w : World) (h : Heap) (d : Addr) (xs : List (NK × Value × Value)) : Prop :=
  ∃ o es ep, h.get? d = some o ∧ o.ExactDict ∧ o.data = .dict es ep ∧ es.toList = xs.map (entV w) ∧ (∀ x ∈ xs, VIs h x.1 x.2.1) ∧ (xs.map (·.1)).Nodup
def atV (xs : List (NK × Value × Value)) (k : NK) : Option Value := (xs.find? fun x => decide (x.1 = k)).map (·.2.2)
section
variable {prog : Program} {w : World} {A : Around} {E : Value → Shared → Prop} {s : Shared}
theorem ent_at {es : Array DictEntry} {xs : List (NK × Value × Value)} (he : es.toList = xs.map (entV w)) (j : Nat) : es[j]? = (xs[j]?).map (entV w) := by
  rw [← Array.getElem?_toList, he, List.getElem?_map]
theorem ent_size {es : Array DictEntry} {xs : List (NK × Value × Value)} (he : es.toList = xs.map (entV w)) : es.size = xs.length := by
  rw [← Array.length_toList, he, List.length_map]
theorem VIs.quiet {k : NK} {v : Value} {Q : Bool → Shared → Prop} (h : VIs s.heap k v) (q : Q true s) : wpAny (model prog w) A (eqIsQuiet 8 v) Q E s := quiet_key k v 8 s h.1 h.2 A E Q q
theorem VIs.same {x y : NK} {a b : Value} {Q : Bool → Shared → Prop} (hu : A.units + 8 < cLine) (hx : VIs s.heap x a) (hy : VIs s.heap y b) (q : Q (decide (x = y)) s) : wpAny (model prog w) A (eqBool a b) Q E s :=
  eqAt_key x y A s _ _ hx.1 hy.1 (by have := hx.2; have := hy.2; omega) _ _ _ _ (by rw [← NestedKey.decide_eq]; exact q)
theorem VIs.hash {k : NK} {v : Value} {Q : Int → Shared → Prop} (hu : A.units + 8 < cLine) (h : VIs s.heap k v) (q : Q (k.hash w) { s with toks := s.toks + k.draws }) : wpAny (model prog w) A (pyHash v) Q E s :=
  pyHash_key _ _ _ _ _ h.1 (by have := h.2; omega) q
theorem tells_no {key : Value} {k : NK} {stored : List Value} {Q : Bool → Shared → Prop} (hk : VIs s.heap k key) (hst : ∀ v ∈ stored, ∃ k', VIs s.heap k' v) (q : Q false s) : wpAny (model prog w) A (tableMayTell key stored) Q E s := by
  unfold tableMayTell
  split
  · exact wpAny_pure q
  · refine wpAny_bind (hk.quiet ?_)
    simp only [Bool.not_true, Bool.false_eq_true, if_false]
    refine wpAny_bind ?_
    refine wpAny_forIn_list _ (fun rest r s' => s' = s ∧ r = (none, ()) ∧ ∀ v ∈ rest, ∃ k', VIs s.heap k' v) _ ?_ ?_ _ _ ⟨rfl, rfl, hst⟩
    · rintro x rest r s' ⟨rfl, rfl, hr⟩
      obtain ⟨k', hb⟩ := hr x List.mem_cons_self
      refine wpAny_bind (hb.quiet ?_)
      simp only [Bool.not_true, Bool.false_eq_true, if_false]
      exact wpAny_pure ⟨rfl, rfl, fun v hv => hr v (List.mem_cons_of_mem _ hv)⟩
    · rintro r s' ⟨rfl, rfl, _⟩
      exact wpAny_pure q
/-- the places at which a key may stand -/
abbrev plc (w : World) (es : Array DictEntry) (k : NK) : List Nat := placesWithHash es.size (fun i => es[i]?.map (·.hash)) (k.hash w)
theorem plc_mem {es : Array DictEntry} {k : NK} {i : Nat} : i ∈ plc w es k ↔ i < es.size ∧ es[i]?.map (·.hash) = some (k.hash w) := by
  unfold plc placesWithHash
  rw [List.mem_filter, List.mem_range, beq_iff_eq]
theorem plc_nd {es : Array DictEntry} {k : NK} : (plc w es k).Nodup := by
  unfold plc placesWithHash
  exact List.Pairwise.filter _ List.nodup_range
theorem plc_at {es : Array DictEntry} {xs : List (NK × Value × Value)} {k : NK} (he : es.toList = xs.map (entV w)) {j : Nat} {p : Value × Value} (h : xs[j]? = some (k, p)) : j ∈ plc w es k := by
  have hj : j < xs.length := (List.getElem?_eq_some_iff.mp h).1
  refine plc_mem.mpr ⟨by rw [ent_size he]; exact hj, ?_⟩
  rw [ent_at he, h]
  rfl
theorem plc_get {es : Array DictEntry} {xs : List (NK × Value × Value)} {k : NK} (he : es.toList = xs.map (entV w)) {j : Nat} (h : j ∈ plc w es k) : ∃ x, xs[j]? = some x ∧ es[j]? = some (entV w x) := by
  have hj := (plc_mem.mp h).1
  rw [ent_size he] at hj
  exact ⟨xs[j], List.getElem?_eq_getElem hj, by rw [ent_at he, List.getElem?_eq_getElem hj]; rfl⟩
theorem one_place {xs : List (NK × Value × Value)} {k : NK} (hn : (xs.map (·.1)).Nodup) {i j : Nat} {p q : Value × Value} (hi : xs[i]? = some (k, p)) (hj : xs[j]? = some (k, q)) : i = j := by
  have a : (xs.map (·.1))[i]? = some k := by rw [List.getElem?_map, hi]; rfl
  have b : (xs.map (·.1))[j]? = some k := by rw [List.getElem?_map, hj]; rfl
  exact (List.getElem?_inj (List.getElem?_eq_some_iff.mp a).1 hn).mp (a.trans b.symm)
/-- the keys so far are other keys, or one is the key -/
def Seen (xs : List (NK × Value × Value)) (k : NK) (done : List Nat) (hit : Option Nat) : Prop :=
  (hit = none ∧ ∀ j ∈ done, ∀ p, xs[j]? ≠ some (k, p)) ∨ ∃ j p, hit = some j ∧ j ∈ done ∧ xs[j]? = some (k, p)
theorem find_V {d : Addr} {key : Value} {o : Obj} {es : Array DictEntry} {ep : Nat} {xs : List (NK × Value × Value)} {k : NK} {Q : Option Nat → Shared → Prop} (hu : A.units + 8 < cLine) (hk : VIs s.heap k key) (hkey : key = .none ∨ ∃ a, key = .ref a)
    (ho : s.heap.get? d = some o) (hd : o.data = .dict es ep) (he : es.toList = xs.map (entV w)) (his : ∀ x ∈ xs, VIs s.heap x.1 x.2.1) (hn : (xs.map (·.1)).Nodup)
    (hnone : (∀ (j : Nat) p, xs[j]? ≠ some (k, p)) → Q none s) (hsome : ∀ (j : Nat) p, xs[j]? = some (k, p) → Q (some j) s) : wpAny (model prog w) A (dictFind d key (k.hash w)) Q E s := by
  have hst : ∀ v ∈ (plc w es k).filterMap (fun i => es[i]?.map (·.key)), ∃ k', VIs s.heap k' v := fun v hv => by
    obtain ⟨i, hi, hv⟩ := List.mem_filterMap.mp hv
    obtain ⟨x, hx, hex⟩ := plc_get he hi
    rw [hex] at hv
    cases hv
    exact ⟨x.1, his x (List.mem_of_getElem? hx)⟩
  have hlast : ∀ {hit : Option Nat}, Seen xs k (plc w es k) hit → Q hit s := fun {hit} h => by
    rcases h with ⟨rfl, h⟩ | ⟨j, p, rfl, _, h⟩
    · exact hnone fun j p hj => h j (plc_at he hj) p hj
    · exact hsome j p h
  have hnext : ∀ {done rest : List Nat} {x : Nat} {hit : Option Nat} {y : NK × Value × Value}, plc w es k = done ++ x :: rest → Seen xs k done hit → xs[x]? = some y → y.1 ≠ k → Seen xs k (done ++ [x]) hit := fun {done rest x hit y} e h hy hne => by
    rcases h with ⟨rfl, h⟩ | ⟨j, p, rfl, hj, h⟩
    · refine .inl ⟨rfl, fun j hj p hp => ?_⟩
      rcases List.mem_append.mp hj with hj | hj
      · exact h j hj p hp
      · rw [List.mem_singleton.mp hj, hy] at hp
        cases hp
        exact hne rfl
    · exact .inr ⟨j, p, rfl, List.mem_append_left _ hj, h⟩
  unfold dictFind
  try with_reducible refine wpAny_holding ?_
  refine wpAny_bind (wpAny_dictEntries ho hd ?_)
  have hitem : ∀ {done rest : List Nat} {x : Nat}, plc w es k = done ++ x :: rest → ∃ (k' : NK) (kv v : Value), xs[x]? = some (k', kv, v) ∧ es[x]? = some ⟨k'.hash w, kv, v⟩ ∧ VIs s.heap k' kv ∧ (k'.hash w == k.hash w) = true := fun {done rest x} e => by
    have hm : x ∈ plc w es k := by rw [e]; simp
    obtain ⟨⟨k', kv, v⟩, hx, hex⟩ := plc_get he hm
    have hh := (plc_mem.mp hm).2
    rw [hex] at hh
    exact ⟨k', kv, v, hx, hex, his _ (List.mem_of_getElem? hx), by simpa [entV] using hh⟩
  have hfresh : ∀ {done rest : List Nat} {x : Nat} {hit : Option Nat} {p : Value × Value}, plc w es k = done ++ x :: rest → Seen xs k done hit → xs[x]? = some (k, p) → hit = none := fun {done rest x hit p} e h hx => by
    rcases h with ⟨h, _⟩ | ⟨j, q, _, hj, h⟩
    · exact h
    · have := one_place hn h hx
      subst this
      have nd := plc_nd (w := w) (es := es) (k := k)
      rw [e] at nd
      exact absurd rfl ((List.nodup_append.mp nd).2.2 j hj j (by simp))
  by_cases hall : ((key :: (plc w es k).filterMap (fun i => es[i]?.map (·.key))).all carriedByValue) = true
  · rcases hkey with rfl | ⟨a, rfl⟩
    · dsimp only
      rw [if_pos hall]
      unfold dictWalkPlain
      refine wpAny_bind ?_
      refine wpAny_forIn_list _ (fun rest r s' => s' = s ∧ r = (none, ()) ∧ ∃ done, plc w es k = done ++ rest ∧ Seen xs k done none) _ ?_ ?_ _ _ ⟨rfl, rfl, [], rfl, .inl ⟨rfl, fun j hj => nomatch hj⟩⟩
      · rintro x rest r s' ⟨rfl, rfl, done, e, h⟩
        obtain ⟨k', kv, v', hx, hex, hv, hh⟩ := hitem e
        rw [hex]
        dsimp only
        rw [if_pos hh]
        refine wpAny_bind (wpAny_dictEpoch ho hd (wpAny_bind (hv.same hu hk (wpAny_bind (wpAny_dictEpoch ho hd ?_)))))
        rw [if_neg (by simp)]
        by_cases hkk : k' = k
        · subst hkk
          rw [if_pos (decide_eq_true rfl)]
          exact wpAny_bind (wpAny_rule (wpAny_pure (wpAny_pure (hsome x _ hx))))
        · rw [if_neg (by simpa using hkk)]
          exact wpAny_bind (wpAny_rule (wpAny_pure ⟨rfl, rfl, done ++ [x], by rw [e]; simp, hnext e h hx hkk⟩))
      · rintro r s' ⟨rfl, rfl, done, e, h⟩
        rw [List.append_nil] at e
        rw [e] at hlast
        exact wpAny_pure (hlast h)
    · simp [carriedByValue] at hall
  · have hany : ∀ a, key = .ref a → ¬ (es.any fun e => e.key == Value.ref a && e.hash != k.hash w) = true := fun a hka hc => by
      rw [← Array.any_toList, he, List.any_eq_true] at hc
      obtain ⟨_, hin, hc⟩ := hc
      obtain ⟨x, hx, rfl⟩ := List.mem_map.mp hin
      simp only [entV, Bool.and_eq_true, beq_iff_eq, bne_iff_ne] at hc
      have h1 := (his x hx).1
      rw [hc.1, ← hka] at h1
      exact hc.2 (by rw [NestedIs.inj _ _ _ h1 hk.1])
    by_cases hone : ((plc w es k).filterMap (fun i => es[i]?.map (·.key)) == [key]) = true
    all_goals
      rcases hkey with rfl | ⟨a, rfl⟩
      all_goals
        dsimp only
        rw [if_neg hall]
        try rw [if_neg (hany _ rfl)]
        first | rw [if_pos hone] | rw [if_neg hone]
        first | refine wpAny_bind (wpAny_pure ?_) | refine wpAny_bind (tells_no hk hst ?_)
        rw [if_neg (by simp)]
        refine wpAny_bind ?_
        refine wpAny_forIn_list _ (fun rest r s' => s' = s ∧ ∃ hit done, r = (none, hit) ∧ plc w es k = done ++ rest ∧ Seen xs k done hit) _ ?_ ?_ _ _ ⟨rfl, none, [], rfl, rfl, .inl ⟨rfl, fun j hj => nomatch hj⟩⟩
        · rintro x rest r s' ⟨rfl, hit, done, rfl, e, h⟩
          obtain ⟨k', kv, v', hx, hex, hv, hh⟩ := hitem e
          rw [hex]
          dsimp only
          rw [if_pos hh]
          refine wpAny_bind (wpAny_dictEpoch ho hd (wpAny_bind (hv.same hu hk (wpAny_bind (wpAny_dictEpoch ho hd ?_)))))
          rw [if_neg (by simp)]
          by_cases hkk : k' = k
          · subst hkk
            have hf := hfresh e h hx
            subst hf
            rw [if_pos (decide_eq_true rfl), if_neg (by simp)]
            refine wpAny_bind (wpAny_rule ?_)
            split
            · exact wpAny_pure (wpAny_pure (hsome x _ hx))
            · exact wpAny_pure ⟨rfl, some x, done ++ [x], rfl, by rw [e]; simp, .inr ⟨x, _, rfl, by simp, hx⟩⟩
          · rw [if_neg (by simpa using hkk)]
            refine wpAny_bind (wpAny_rule ?_)
            rw [if_neg (by simp)]
            exact wpAny_pure ⟨rfl, hit, done ++ [x], rfl, by rw [e]; simp, hnext e h hx hkk⟩
        · rintro r s' ⟨rfl, hit, done, rfl, e, h⟩
          rw [List.append_nil] at e
          rw [e] at hlast
          exact wpAny_pure (hlast h)
theorem VIs.stays {h h' : Heap} {k : NK} {v : Value} {d : Addr} {o : Obj} {es : Array DictEntry} {ep : Nat} (x : VIs h k v) (ho : h.get? d = some o) (hd : o.data = .dict es ep) (hs : Heap.SameBut d h h') : VIs h' k v :=
  ⟨NestedIs.at (fun b ob vs n hb hc => (hs.2 b fun e => by
    rw [e, ho] at hb
    cases hb
    rw [hd] at hc
    cases hc).trans hb) k v x.1, x.2⟩
theorem atV_none {xs : List (NK × Value × Value)} {k : NK} (h : ∀ (j : Nat) p, xs[j]? ≠ some (k, p)) : atV xs k = none := by
  unfold atV
  rw [Option.map_eq_none_iff, List.find?_eq_none]
  intro x hx e
  obtain ⟨j, hj⟩ := List.getElem?_of_mem hx
  obtain ⟨a, b⟩ := x
  have e : a = k := of_decide_eq_true e
  subst e
  exact h j b hj
theorem atV_some {xs : List (NK × Value × Value)} {k : NK} (hn : (xs.map (·.1)).Nodup) {j : Nat} {p : Value × Value} (h : xs[j]? = some (k, p)) : atV xs k = some p.2 := by
  unfold atV
  cases hf : xs.find? fun x => decide (x.1 = k) with
  | none =>
    rw [List.find?_eq_none] at hf
    exact absurd (decide_eq_true rfl) (hf _ (List.mem_of_getElem? h))
  | some y =>
    obtain ⟨a, b⟩ := y
    have e : a = k := of_decide_eq_true (List.find?_some (p := fun x : NK × Value × Value => decide (x.1 = k)) hf)
    subst e
    obtain ⟨i, hi⟩ := List.getElem?_of_mem (List.mem_of_find?_eq_some hf)
    have := one_place hn h hi
    subst this
    rw [h] at hi
    cases hi
    rfl
theorem get_V {d : Addr} {key : Value} {xs : List (NK × Value × Value)} {k : NK} {Q : Option Value → Shared → Prop} (hu : A.units + 8 < cLine) (hk : VIs s.heap k key) (hkey : key = .none ∨ ∃ a, key = .ref a) (hm : DictV w s.heap d xs)
    (q : Q (atV xs k) { s with toks := s.toks + k.draws }) : wpAny (model prog w) A (dictGet d key) Q E s := by
  obtain ⟨o, es, ep, ho, _, hd, he, his, hn⟩ := hm
  unfold dictGet
  try with_reducible refine wpAny_holding ?_
  refine wpAny_bind (hk.hash hu (wpAny_bind (find_V (s := { s with toks := s.toks + k.draws }) hu hk hkey ho hd he his hn ?_ ?_)))
  · intro hno
    rw [atV_none hno] at q
    exact wpAny_pure q
  · intro j p hj
    rw [atV_some hn hj] at q
    refine wpAny_bind (wpAny_dictEntries (s := { s with toks := s.toks + k.draws }) ho hd ?_)
    rw [ent_at he j, hj]
    exact wpAny_pure q
def putV (k : NK) (v : Value) (x : NK × Value × Value) : NK × Value × Value := if x.1 = k then (x.1, x.2.1, v) else x
def storV (xs : List (NK × Value × Value)) (k : NK) (kv v : Value) : List (NK × Value × Value) := if (atV xs k).isSome then xs.map (putV k v) else xs ++ [(k, kv, v)]
theorem putV_keys {k : NK} {v : Value} {xs : List (NK × Value × Value)} : (xs.map (putV k v)).map (·.1) = xs.map (·.1) := by
  rw [List.map_map]
  refine List.map_congr_left fun x _ => ?_
  show (putV k v x).1 = x.1
  unfold putV
  split <;> rfl
theorem putV_other {k : NK} {v : Value} {xs : List (NK × Value × Value)} (h : k ∉ xs.map (·.1)) : xs.map (putV k v) = xs := by
  conv => rhs; rw [← List.map_id xs]
  refine List.map_congr_left fun x hx => ?_
  unfold putV
  rw [if_neg fun e : x.1 = k => h (e ▸ List.mem_map_of_mem hx)]
  rfl
theorem ent_modify {k : NK} {v : Value} : ∀ {xs : List (NK × Value × Value)} {j : Nat} {p : Value × Value}, (xs.map (·.1)).Nodup → xs[j]? = some (k, p) → (xs.map (entV w)).modify j (fun e => { e with val := v }) = (xs.map (putV k v)).map (entV w)
  | [], j, p, _, h => by simp at h
  | x :: xs, 0, p, hn, h => by
    rw [List.map_cons, List.nodup_cons] at hn
    simp only [List.getElem?_cons_zero, Option.some.injEq] at h
    subst h
    rw [List.map_cons, List.map_cons, putV_other hn.1]
    simp [putV, entV]
  | x :: xs, j + 1, p, hn, h => by
    rw [List.map_cons, List.nodup_cons] at hn
    have hne : x.1 ≠ k := fun e => hn.1 (e ▸ List.mem_map.mpr ⟨(k, p), List.mem_of_getElem? (i := j) (by simpa using h), rfl⟩)
    have ih := ent_modify (v := v) (j := j) hn.2 (by simpa using h)
    rw [List.map_cons, List.map_cons, List.map_cons, List.modify_succ_cons, ih, putV, if_neg hne]
theorem set_V {d : Addr} {key v : Value} {xs : List (NK × Value × Value)} {k : NK} {Q : Unit → Shared → Prop} (hu : A.units + 8 < cLine) (hk : VIs s.heap k key) (hkey : key = .none ∨ ∃ a, key = .ref a) (hm : DictV w s.heap d xs) (hz : xs.length ≤ sizeLine)
    (q : ∀ h', DictV w h' d (storV xs k key v) → Heap.SameBut d s.heap h' → Q () { s with heap := h', toks := s.toks + k.draws }) : wpAny (model prog w) A (dictSet d key v) Q E s := by
  obtain ⟨o, es, ep, ho, hc, hd, he, his, hn⟩ := hm
  unfold dictSet
  try with_reducible refine wpAny_holding ?_
  refine wpAny_bind (hk.hash hu ?_)
  unfold dictSetHashed
  try with_reducible refine wpAny_holding ?_
  refine wpAny_bind (find_V (s := { s with toks := s.toks + k.draws }) hu hk hkey ho hd he his hn ?_ ?_)
  · intro hno
    have e0 : storV xs k key v = xs ++ [(k, key, v)] := by unfold storV; rw [atV_none hno]; rfl
    have hnot : k ∉ xs.map (·.1) := fun hin => by
      obtain ⟨⟨a, b⟩, hx, e⟩ := List.mem_map.mp hin
      have e : a = k := e
      subst e
      obtain ⟨j, hj⟩ := List.getElem?_of_mem hx
      exact hno j b hj
    refine wpAny_bind (wpAny_rule (wpAny_updateDictKeys (hz := by have e := ent_size he; omega) (s := { s with toks := s.toks + k.draws }) ho hd (q _ ⟨_, _, ep + 1, Heap.get?_update_self _ ho (Obj.isFreed_of_dict (Obj.data_mapDictKeys hd _)), hc.mapDictKeys _, Obj.data_mapDictKeys hd _, ?_, ?_, ?_⟩ (Heap.SameBut.update ..))))
    · rw [e0]
      simp [he, entV]
    · rw [e0]
      intro x hx
      rcases List.mem_append.mp hx with hx | hx
      · exact (his x hx).stays ho hd (Heap.SameBut.update ..)
      · rw [List.mem_singleton.mp hx]
        exact hk.stays ho hd (Heap.SameBut.update ..)
    · rw [e0, List.map_append, List.nodup_append]
      refine ⟨hn, by simp, fun x hx y hy e => ?_⟩
      have hy : y = k := by simpa using hy
      rw [e, hy] at hx
      exact hnot hx
  · intro j p hj
    have e0 : storV xs k key v = xs.map (putV k v) := by unfold storV; rw [atV_some hn hj]; rfl
    refine wpAny_bind (wpAny_rule (wpAny_bind (wpAny_updateDict (s := { s with toks := s.toks + k.draws }) ho hd (wpAny_point (q _ ⟨_, _, ep, Heap.get?_update_self _ ho (Obj.isFreed_of_dict (Obj.data_mapDict hd _)), hc.mapDict _, Obj.data_mapDict hd _, ?_, ?_, ?_⟩ (Heap.SameBut.update ..))))))
    · have := ent_modify (w := w) (v := v) hn hj
      rw [← he] at this
      rw [e0]
      obtain ⟨l⟩ := es
      simpa using this
    · rw [e0]
      intro x hx
      obtain ⟨y, hy, rfl⟩ := List.mem_map.mp hx
      unfold putV
      split <;> exact (his y hy).stays ho hd (Heap.SameBut.update ..)
    · rw [e0, putV_keys]
      exact hn
theorem DictV.isDict {d : Addr} {xs : List (NK × Value × Value)} (hm : DictV w s.heap d xs) : s.TypeIs (.ref d) "dict" := by
  obtain ⟨o, _, _, ho, hc, _⟩ := hm
  exact ⟨o, ho, hc.1⟩
theorem DictV.new {h : Heap} : DictV w (h.push { cls := .type "dict", data := .dict #[] }) h.objs.size [] :=
  ⟨_, #[], 0, Heap.get?_push_size _ rfl, ⟨rfl, rfl, rfl⟩, rfl, rfl, fun _ hx => (nomatch hx), List.nodup_nil⟩
theorem in_V {d : Addr} {key : Value} {xs : List (NK × Value × Value)} {k : NK} {Q : Value → Shared → Prop} (hu : A.in1.units + 8 < cLine) (hk : VIs s.heap k key) (hkey : key = .none ∨ ∃ a, key = .ref a) (hd : (d == sysModules) = false) (hm : DictV w s.heap d xs)
    (q : Q (.bool (atV xs k).isSome) { s with toks := s.toks + k.draws }) : wpAny (model prog w) A (compareOp .In key (.ref d)) Q E s := by
  show wpAny _ _ (do return .bool (← contains (.ref d) key)) Q E s
  refine wpAny_bind ?_
  unfold contains
  try with_reducible refine wpAny_holding ?_
  refine wpAny_bind (wpAny_specialOf hm.isDict slot_dict_contains.lookup ?_)
  show wpAny _ _ (if (some (Value.builtin "dict.__contains__") == some Value.none) = true then _ else _) _ E s
  rw [if_neg (by rw [beq_builtin_none]; exact Bool.false_ne_true)]
  refine wpAny_bind (wpAny_callSpecialUnlessNone?_slot (name := Str.ofString "__contains__") hm.isDict slot_dict_contains (wpAny_call_entry slot_dict_contains hm.isDict entry_dict_contains ?_ (args_dict_contains _ _)))
  show wpAny _ _ (dictGet d key >>= _) _ _ s
  refine wpAny_bind (get_V hu hk hkey hm ?_)
  cases hf : atV xs k with
  | some p =>
    rw [hf] at q
    exact wpAny_pure ⟨_, rfl, wpAny_truthy_bool (wpAny_pure q)⟩
  | none =>
    rw [hf] at q
    show wpAny _ _ (Builtin.Dict.pendingKey? d key >>= _) _ _ _
    exact wpAny_bind (wpAny_pendingKey_other hd (wpAny_pure ⟨_, rfl, wpAny_truthy_bool (wpAny_pure q)⟩))
theorem notin_V {d : Addr} {key : Value} {xs : List (NK × Value × Value)} {k : NK} {Q : Value → Shared → Prop} (hu : A.in1.units + 8 < cLine) (hk : VIs s.heap k key) (hkey : key = .none ∨ ∃ a, key = .ref a) (hd : (d == sysModules) = false) (hm : DictV w s.heap d xs)
    (q : Q (.bool (!(atV xs k).isSome)) { s with toks := s.toks + k.draws }) : wpAny (model prog w) A (compareOp .NotIn key (.ref d)) Q E s := by
  show wpAny _ _ (do return .bool (!(← contains (.ref d) key))) Q E s
  refine wpAny_bind ?_
  unfold contains
  try with_reducible refine wpAny_holding ?_
  refine wpAny_bind (wpAny_specialOf hm.isDict slot_dict_contains.lookup ?_)
  show wpAny _ _ (if (some (Value.builtin "dict.__contains__") == some Value.none) = true then _ else _) _ E s
  rw [if_neg (by rw [beq_builtin_none]; exact Bool.false_ne_true)]
  refine wpAny_bind (wpAny_callSpecialUnlessNone?_slot (name := Str.ofString "__contains__") hm.isDict slot_dict_contains (wpAny_call_entry slot_dict_contains hm.isDict entry_dict_contains ?_ (args_dict_contains _ _)))
  show wpAny _ _ (dictGet d key >>= _) _ _ s
  refine wpAny_bind (get_V hu hk hkey hm ?_)
  cases hf : atV xs k with
  | some p =>
    rw [hf] at q
    exact wpAny_pure ⟨_, rfl, wpAny_truthy_bool (wpAny_pure q)⟩
  | none =>
    rw [hf] at q
    show wpAny _ _ (Builtin.Dict.pendingKey? d key >>= _) _ _ _
    exact wpAny_bind (wpAny_pendingKey_other hd (wpAny_pure ⟨_, rfl, wpAny_truthy_bool (wpAny_pure q)⟩))
theorem item_V {d : Addr} {key v : Value} {xs : List (NK × Value × Value)} {k : NK} {Q : Value → Shared → Prop} (hu : A.in1.units + 8 < cLine) (hk : VIs s.heap k key) (hkey : key = .none ∨ ∃ a, key = .ref a) (hm : DictV w s.heap d xs) (hv : atV xs k = some v)
    (q : Q v { s with toks := s.toks + k.draws }) : wpAny (model prog w) A (getItem (.ref d) key) Q E s := by
  unfold getItem
  try with_reducible refine wpAny_holding ?_
  refine wpAny_bind (wpAny_sequenceKey hm.isDict (by decide) ?_)
  refine wpAny_bind (wpAny_callSpecial?_slot (name := Str.ofString "__getitem__") hm.isDict slot_dict_getitem (wpAny_call_entry slot_dict_getitem hm.isDict entry_dict_getitem ?_ (args_dict_getitem _ _)))
  show wpAny _ _ (dictGet d key >>= _) _ _ s
  refine wpAny_bind (get_V hu hk hkey hm ?_)
  rw [hv]
  exact wpAny_pure ⟨v, rfl, wpAny_pure q⟩
theorem store_V {d : Addr} {key v : Value} {xs : List (NK × Value × Value)} {k : NK} {Q : Unit → Shared → Prop} (hu : A.in1.units + 8 < cLine) (hk : VIs s.heap k key) (hkey : key = .none ∨ ∃ a, key = .ref a) (hm : DictV w s.heap d xs) (hz : xs.length ≤ sizeLine)
    (q : ∀ h', DictV w h' d (storV xs k key v) → Heap.SameBut d s.heap h' → Q () { s with heap := h', toks := s.toks + k.draws }) : wpAny (model prog w) A (setItem (.ref d) key v) Q E s := by
  unfold setItem
  try with_reducible refine wpAny_holding ?_
  refine wpAny_bind (wpAny_sequenceKey hm.isDict (by decide) ?_)
  refine wpAny_bind (wpAny_callSpecial?_slot (name := Str.ofString "__setitem__") hm.isDict slot_dict_setitem (wpAny_call_entry slot_dict_setitem hm.isDict entry_dict_setitem ?_ (args_dict_setitem _ _ _)))
  show wpAny _ _ (Builtin.Dict.notOrdered "__setitem__" ⟨[.ref d, key, v], []⟩ >>= _) _ _ s
  refine wpAny_bind (wpAny_notOrdered_dict hm.isDict ?_)
  show wpAny _ _ (dictSet d key v >>= _) _ _ s
  exact wpAny_bind (set_V hu hk hkey hm hz fun h' hm' hs' => wpAny_pure ⟨.none, rfl, wpAny_pure (q h' hm' hs')⟩)
theorem meets_getD {d : Addr} {key dflt : Value} (hkey : key = .none ∨ ∃ a, key = .ref a) (hd : (d == sysModules) = false) :
    MeetsIn prog w (Builtin.«dict.get» ⟨[.ref d, key, dflt], []⟩) (fun A R s => A.in1.units + 8 < cLine ∧ ∃ k xs, VIs s.heap k key ∧ DictV w s.heap d xs ∧ R (.ok (.ret ((atV xs k).getD dflt))) { s with toks := s.toks + k.draws }) :=
  .of_wp fun A R s ⟨hu, k, xs, hk, hm, h⟩ => by
    show wpAny _ _ (dictGet d key >>= _) _ _ s
    refine wpAny_bind (get_V hu hk hkey hm ?_)
    cases hf : atV xs k with
    | some v =>
      rw [hf] at h
      exact wpAny_pure ⟨v, rfl, h⟩
    | none =>
      rw [hf] at h
      show wpAny _ _ (Builtin.Dict.missed d key >>= _) _ _ _
      exact wpAny_bind (wpAny_missed_other hd (wpAny_pure ⟨dflt, rfl, h⟩))
end
end Pb

/-! dicts with None and nested tuples as keys, as things of the abstract heap -/
namespace Pb
open PySem PySem.Spec L2
open Sem (wp)
mutual
/-- the key that a datum is -/
def nkD : PyData → Option NK
  | .none => some .none
  | .bool b => some (.num (if b = true then 1 else 0))
  | .int i => some (.num i)
  | .str x => some (.text x)
  | .tuple ds => (nkDs ds).map .tup
  | _ => none
def nkDs : List PyData → Option (List NK)
  | [] => some []
  | d :: ds => (nkD d).bind fun k => (nkDs ds).map (k :: ·)
end
section
variable {X : Cx} {pins : List (Addr × Obj)} {σ : St} {H : Hp} {s : Shared}
mutual
theorem nk_is (I : Inv X pins σ H s) : ∀ (d : PyData) (v : V) (u : Value) (k : NK), Dp X.K H v d → RelV v u → nkD d = some k → NestedIs s.heap k u
  | .none, _, _, _, h, r, e => by
    cases h
    cases r
    cases e
    exact .none
  | .bool b, _, _, _, h, r, e => by
    cases h
    cases r
    cases e
    exact .bool rfl
  | .int i, _, _, _, h, r, e => by
    cases h
    obtain ⟨t, rfl⟩ := r
    cases e
    exact .int i t
  | .str x, _, _, _, h, r, e => by
    cases h
    obtain ⟨t, rfl⟩ := r
    cases e
    exact .text x t
  | .tuple ds, _, _, _, h, r, e => by
    cases h with
    | tup hs ha =>
      cases r
      obtain ⟨ks, ek, rfl⟩ := Option.map_eq_some_iff.mp e
      obtain ⟨its, rv, ⟨o, ho, hc, n, hd⟩, _⟩ := I.tuple hs
      exact .tup ho hc hd (nk_all I ds _ its ks ha rv ek)
  | .list _, _, _, _, _, _, e => by cases e
  | .dict _, _, _, _, _, _, e => by cases e
theorem nk_all (I : Inv X pins σ H s) : ∀ (ds : List PyData) (vs : List V) (us : List Value) (ks : List NK), DpAll X.K H vs ds → Vals vs us → nkDs ds = some ks → NestedAll s.heap ks us
  | [], _, _, _, h, r, e => by
    cases h
    cases r
    cases e
    exact .nil
  | d :: ds, _, _, _, h, r, e => by
    cases h with
    | cons h1 h2 =>
      cases r with
      | cons r1 r2 =>
        obtain ⟨k, ek, e⟩ := Option.bind_eq_some_iff.mp e
        obtain ⟨ks, eks, rfl⟩ := Option.map_eq_some_iff.mp e
        exact .cons (nk_is I d _ _ k h1 r1 ek) (nk_all I ds _ _ ks h2 r2 eks)
end
/-- the entries: key, its value, what is stored -/
abbrev Ent := NK × V × V
def entR (w : World) (x : Ent) (e : DictEntry) : Prop := e.hash = x.1.hash w ∧ RelV x.2.1 e.key ∧ RelV x.2.2 e.val
inductive EntsR (w : World) : List Ent → List DictEntry → Prop
  | nil : EntsR w [] []
  | cons {x : Ent} {e : DictEntry} {xs : List Ent} {es : List DictEntry} : entR w x e → EntsR w xs es → EntsR w (x :: xs) (e :: es)
def DctH (w : World) (d : Addr) (o : Obj) (xs : List Ent) (h : Heap) : Prop := ∃ es ep, h.get? d = some o ∧ o.ExactDict ∧ o.data = .dict es ep ∧ EntsR w xs es.toList ∧ (xs.map (·.1)).Nodup ∧ xs.length ≤ 100000 ∧ (d == sysModules) = false
def DctO (w : World) (d : Addr) (o : Obj) (xs : List Ent) : HO := .ext (DctH w d o xs)
theorem dctO_new {P : Program} {w : World} {h : Heap} {d : Addr} {o : Obj} {xs : List Ent} (r : DctH w d o xs h) : ObjOk P w H h d (DctO w d o xs) := by
  have r0 := r
  obtain ⟨es, ep, ho, _⟩ := r0
  refine ⟨r, ⟨o, ho⟩, fun h1 h2 p k => ?_⟩
  obtain ⟨es1, ep1, ho1, q⟩ := p
  exact ⟨es1, ep1, k o ho1, q⟩
theorem dctO_get {d : Addr} {o : Obj} {xs : List Ent} (I : Inv X pins σ H s) (h : H d = some (DctO X.w d o xs)) : DctH X.w d o xs s.heap := (I.hok d _ h).1
/-- each key is a datum that stands -/
def KeysR (K : PySem.W.Frag) (H : Hp) (xs : List Ent) : Prop := ∀ x ∈ xs, ∃ d : PyData, Dp K H x.2.1 d ∧ nkD d = some x.1 ∧ x.1.depth ≤ 8
theorem ents_vals {w : World} : ∀ {xs : List Ent} {es : List DictEntry}, EntsR w xs es → ∃ ys : List (NK × Value × Value), es = ys.map (entV w) ∧ ys.map (·.1) = xs.map (·.1) ∧ PySem.W.EachIs (fun (x : Ent) (y : NK × Value × Value) => y.1 = x.1 ∧ RelV x.2.1 y.2.1 ∧ RelV x.2.2 y.2.2) xs ys
  | _, _, .nil => ⟨[], rfl, rfl, .nil⟩
  | _, _, .cons (x := x) (e := e) h t => by
    obtain ⟨ys, e1, e2, e3⟩ := ents_vals t
    refine ⟨(x.1, e.key, e.val) :: ys, ?_, by simp [e2], .cons ⟨rfl, h.2.1, h.2.2⟩ e3⟩
    rw [List.map_cons, ← e1]
    congr 1
    obtain ⟨a, b, c⟩ := e
    have := h.1
    simp only at this
    subst this
    rfl
theorem each_left {α β : Type} {R : α → β → Prop} : ∀ {as : List α} {bs : List β}, PySem.W.EachIs R as bs → ∀ b ∈ bs, ∃ a ∈ as, R a b
  | _, _, .nil, _, h => nomatch h
  | _, _, .cons r t, b, h => by
    rcases List.mem_cons.mp h with rfl | h
    · exact ⟨_, by simp, r⟩
    · obtain ⟨a, ha, hr⟩ := each_left t b h
      exact ⟨a, by simp [ha], hr⟩
/-- the dict as the look-up wants it -/
theorem dct_V {d : Addr} {ob : Obj} {xs : List Ent} (I : Inv X pins σ H s) (h : H d = some (DctO X.w d ob xs)) (hk : KeysR X.K H xs) : ∃ ys, DictV X.w s.heap d ys ∧ PySem.W.EachIs (fun (x : Ent) (y : NK × Value × Value) => y.1 = x.1 ∧ RelV x.2.1 y.2.1 ∧ RelV x.2.2 y.2.2) xs ys := by
  obtain ⟨es, ep, ho, hc, hd, he, hn, _, _⟩ := dctO_get I h
  obtain ⟨ys, e1, e2, e3⟩ := ents_vals he
  refine ⟨ys, ⟨ob, es, ep, ho, hc, hd, e1, fun y hy => ?_, by rw [e2]; exact hn⟩, e3⟩
  obtain ⟨x, hx, q1, q2, _⟩ := each_left e3 y hy
  obtain ⟨dk, a1, a2, a3⟩ := hk x hx
  rw [q1]
  exact ⟨nk_is I dk _ _ _ a1 q2 a2, a3⟩
def atE (xs : List Ent) (k : NK) : Option V := (xs.find? fun x => decide (x.1 = k)).map (·.2.2)
def putE (k : NK) (v : V) (x : Ent) : Ent := if x.1 = k then (x.1, x.2.1, v) else x
def storE (xs : List Ent) (k : NK) (kv v : V) : List Ent := if (atE xs k).isSome then xs.map (putE k v) else xs ++ [(k, kv, v)]
abbrev ER (x : Ent) (y : NK × Value × Value) : Prop := y.1 = x.1 ∧ RelV x.2.1 y.2.1 ∧ RelV x.2.2 y.2.2
theorem each_at {k : NK} : ∀ {xs : List Ent} {ys : List (NK × Value × Value)}, PySem.W.EachIs ER xs ys → (atE xs k = none ∧ atV ys k = none) ∨ ∃ v u, atE xs k = some v ∧ atV ys k = some u ∧ RelV v u
  | _, _, .nil => .inl ⟨rfl, rfl⟩
  | x :: xs, y :: ys, .cons r t => by
    unfold atE atV
    rw [List.find?_cons, List.find?_cons, r.1]
    by_cases h : x.1 = k
    · simp only [h, decide_true]
      exact .inr ⟨_, _, rfl, rfl, r.2.2⟩
    · simp only [h, decide_false]
      exact each_at t
theorem each_put {k : NK} {v : V} {u : Value} (h : RelV v u) : ∀ {xs : List Ent} {ys : List (NK × Value × Value)}, PySem.W.EachIs ER xs ys → PySem.W.EachIs ER (xs.map (putE k v)) (ys.map (putV k u))
  | _, _, .nil => .nil
  | x :: xs, y :: ys, .cons r t => by
    refine .cons ?_ (each_put h t)
    unfold putE putV
    rw [r.1]
    by_cases e : x.1 = k
    · rw [if_pos e, if_pos e]
      exact ⟨rfl, r.2.1, h⟩
    · rw [if_neg e, if_neg e]
      exact r
theorem each_snoc {x : Ent} {y : NK × Value × Value} (h : ER x y) : ∀ {xs : List Ent} {ys : List (NK × Value × Value)}, PySem.W.EachIs ER xs ys → PySem.W.EachIs ER (xs ++ [x]) (ys ++ [y])
  | _, _, .nil => .cons h .nil
  | _, _, .cons r t => .cons r (each_snoc h t)
theorem each_stor {k : NK} {kv v : V} {ku u : Value} (hk : RelV kv ku) (h : RelV v u) {xs : List Ent} {ys : List (NK × Value × Value)} (r : PySem.W.EachIs ER xs ys) : PySem.W.EachIs ER (storE xs k kv v) (storV ys k ku u) := by
  unfold storE storV
  rcases each_at (k := k) r with ⟨e1, e2⟩ | ⟨a, b, e1, e2, _⟩
  · rw [e1, e2]
    exact each_snoc ⟨rfl, hk, h⟩ r
  · rw [e1, e2]
    exact each_put h r
theorem ents_of {w : World} : ∀ {xs : List Ent} {ys : List (NK × Value × Value)}, PySem.W.EachIs ER xs ys → EntsR w xs (ys.map (entV w))
  | _, _, .nil => .nil
  | _, _, .cons r t => .cons ⟨by show NestedKey.hash w _ = NestedKey.hash w _; rw [r.1], r.2.1, r.2.2⟩ (ents_of t)
theorem each_keys : ∀ {xs : List Ent} {ys : List (NK × Value × Value)}, PySem.W.EachIs ER xs ys → ys.map (·.1) = xs.map (·.1)
  | _, _, .nil => rfl
  | _, _, .cons r t => by rw [List.map_cons, List.map_cons, r.1, each_keys t]
theorem each_len : ∀ {xs : List Ent} {ys : List (NK × Value × Value)}, PySem.W.EachIs ER xs ys → ys.length = xs.length
  | _, _, .nil => rfl
  | _, _, .cons r t => by rw [List.length_cons, List.length_cons, each_len t]
/-- a key at the top: None or a tuple -/
def topD : PyData → Bool
  | .none => true
  | .tuple _ => true
  | _ => false
theorem top_val {K : PySem.W.Frag} {H : Hp} {d : PyData} {v : V} {u : Value} (h : Dp K H v d) (r : RelV v u) (t : topD d = true) : u = .none ∨ ∃ a, u = .ref a := by
  cases h with
  | non => cases r; exact .inl rfl
  | tup _ _ => cases r; exact .inr ⟨_, rfl⟩
  | _ => cases t
/-- a key that may be asked for -/
def KeyR (K : PySem.W.Frag) (H : Hp) (v : V) (k : NK) : Prop := ∃ d : PyData, Dp K H v d ∧ nkD d = some k ∧ k.depth ≤ 8 ∧ topD d = true
def rInV (K : PySem.W.Frag) (w : World) : R2 := fun x y H Q => ∃ d ob xs k, y = .ref d ∧ H d = some (DctO w d ob xs) ∧ KeysR K H xs ∧ KeyR K H x k ∧ Q (.bl (atE xs k).isSome) H
theorem op_inV (hu : X.A.units + 65 < cLine) : OpR X (compareOp .In) (rInV X.K X.w) := by
  intro pins s σ H x y v u Q I rx ry h
  obtain ⟨d, ob, xs, k, rfl, ha, hks, ⟨dk, h1, h2, h3, h4⟩, q⟩ := h
  cases ry
  obtain ⟨ys, hm, he⟩ := dct_V I ha hks
  obtain ⟨_, _, _, _, _, _, _, _, hsys⟩ := dctO_get I ha
  refine in_V (by show X.A.units + 1 + 8 < cLine; omega) ⟨nk_is I dk _ _ _ h1 rx h2, h3⟩ (top_val h1 rx h4) hsys hm ?_
  rcases each_at (k := k) he with ⟨e1, e2⟩ | ⟨a, b, e1, e2, _⟩
  · rw [e1] at q
    rw [e2]
    exact ⟨.bl _, H, I.tok _, rfl, q⟩
  · rw [e1] at q
    rw [e2]
    exact ⟨.bl _, H, I.tok _, rfl, q⟩
/-- {} -/
def tDct0 (w : World) : TE := fun _ H Q => ∀ p o, H p = none → Q (.ref p) (upd H p (DctO w p o []))
theorem dct_new0 {w : World} {h : Heap} (hb : sysModules < h.objs.size) : DctH w h.objs.size { cls := .type "dict", data := .dict #[] } [] (h.push { cls := .type "dict", data := .dict #[] }) :=
  ⟨#[], 0, Heap.get?_push_size _ rfl, ⟨rfl, rfl, rfl⟩, rfl, .nil, List.nodup_nil, Nat.zero_le _, beq_eq_false_iff_ne.mpr (Ne.symm (Nat.ne_of_lt hb))⟩
theorem pe_dct0 {pos : Pos} : PE X (.Dict [] [] pos) (tDct0 X.w) := ⟨fun pins s σ H Q I h =>
  wpAny_Dict_empty ⟨.ref s.heap.objs.size, _, I.laid (a := s.heap.objs.size) (o := DctO X.w s.heap.objs.size { cls := .type "dict", data := .dict #[] } []) (t' := s.toks) (fun _ _ q => Heap.get?_push_of_some _ q) (Nat.le_refl _) (dctO_new (dct_new0 I.big)), rfl, h _ _ (I.hok.fresh (Nat.le_refl _))⟩⟩
/-- d[k] = v -/
def rSetV (K : PySem.W.Frag) (w : World) : TSet := fun o i v H Q => ∃ d ob xs k, o = .ref d ∧ H d = some (DctO w d ob xs) ∧ KeysR K H xs ∧ KeyR K H i k ∧ xs.length < 100000 ∧ ∀ ob2, Q (upd H d (DctO w d ob2 (storE xs k i v)))
theorem storE_len {xs : List Ent} {k : NK} {kv v : V} : (storE xs k kv v).length ≤ xs.length + 1 := by
  unfold storE
  split
  · rw [List.length_map]
    omega
  · rw [List.length_append]
    exact Nat.le_refl _
theorem set_dctV (hu : X.A.units + 65 < cLine) : PSet X (rSetV X.K X.w) := by
  intro pins s σ H o i v ov iv u Q I ro ri rv h
  obtain ⟨d, ob, xs, k, rfl, ha, hks, ⟨dk, h1, h2, h3, h4⟩, hz, q⟩ := h
  cases ro
  obtain ⟨ys, hm, he⟩ := dct_V I ha hks
  obtain ⟨_, _, _, _, _, _, _, _, hsys⟩ := dctO_get I ha
  refine store_V (by show X.A.units + 1 + 8 < cLine; omega) ⟨nk_is I dk _ _ _ h1 ri h2, h3⟩ (top_val h1 ri h4) hm (by rw [each_len he, sizeLine_eq]; omega) fun h' hm' sb => ?_
  obtain ⟨o2, es2, ep2, ho2, hc2, hd2, he2, _, hn2⟩ := hm'
  have hst := each_stor (k := k) ri rv he
  have hz2 := storE_len (xs := xs) (k := k) (kv := i) (v := v)
  have new : DctH X.w d o2 (storE xs k i v) h' := ⟨es2, ep2, ho2, hc2, hd2, by rw [he2]; exact ents_of hst, by rw [← each_keys hst]; exact hn2, by omega, hsys⟩
  exact ⟨_, I.write (e := d) (by rw [ha]; trivial) (.inl rfl) (fun b u hb hu => (sb.2 b hb).trans hu) ⟨o2, ho2⟩ (dctO_new new), q _⟩
/-- d[k] -/
def rIxV (K : PySem.W.Frag) (w : World) : R2 := fun x y H Q => ∃ d ob xs k v, x = .ref d ∧ H d = some (DctO w d ob xs) ∧ KeysR K H xs ∧ KeyR K H y k ∧ atE xs k = some v ∧ Q v H
theorem item_dctV (hu : X.A.units + 65 < cLine) (pins : List (Addr × Obj)) (s : Shared) (σ : St) (H : Hp) (x y : V) (v u : Value) (Q : VK) (I : Inv X pins σ H s) (rx : RelV x v) (ry : RelV y u) (h : rIxV X.K X.w x y H Q) : wpAny (model X.prog X.w) X.A (getItem v u) (EP X pins σ Q) X.xe s := by
  obtain ⟨d, ob, xs, k, z, rfl, ha, hks, ⟨dk, h1, h2, h3, h4⟩, hz, q⟩ := h
  cases rx
  obtain ⟨ys, hm, he⟩ := dct_V I ha hks
  rcases each_at (k := k) he with ⟨e1, _⟩ | ⟨a, b, e1, e2, r⟩
  · rw [hz] at e1
    cases e1
  · rw [hz] at e1
    cases e1
    exact item_V (by show X.A.units + 1 + 8 < cLine; omega) ⟨nk_is I dk _ _ _ h1 ry h2, h3⟩ (top_val h1 ry h4) hm e2 ⟨_, H, I.tok _, r, q⟩
/-- d.get(k, x) -/
def rGetV (K : PySem.W.Frag) (w : World) : V → List V → Hp → VK → Prop := fun x xs H Q => ∃ d ob ents k i z, x = .ref d ∧ xs = [i, z] ∧ H d = some (DctO w d ob ents) ∧ KeysR K H ents ∧ KeyR K H i k ∧ Q ((atE ents k).getD z) H
theorem mt_getV (hu : X.A.units + 65 < cLine) : MtR X "dict.get" (rGetV X.K X.w) := by
  intro pins s σ H x xs v us Q I rx rxs h
  obtain ⟨d, ob, ents, k, i, z, rfl, rfl, ha, hks, ⟨dk, h1, h2, h3, h4⟩, q⟩ := h
  cases rx
  obtain ⟨ku, zu, rfl, ri, rz⟩ := Vals.two rxs
  obtain ⟨ys, hm, he⟩ := dct_V I ha hks
  obtain ⟨_, _, _, _, _, _, _, _, hsys⟩ := dctO_get I ha
  refine call_meetsIn PySem.F.slot_dict_get hm.isDict PySem.F.entry_dict_get (PySem.F.args_dict_get_3 _ _ _) (meets_getD (top_val h1 ri h4) hsys) ⟨by show X.A.units + 1 + 8 < cLine; omega, k, ys, ⟨nk_is I dk _ _ _ h1 ri h2, h3⟩, hm, ?_⟩
  rcases each_at (k := k) he with ⟨e1, e2⟩ | ⟨a, b, e1, e2, r⟩
  · rw [e1] at q
    rw [e2]
    exact ⟨_, H, I.tok _, rz, q⟩
  · rw [e1] at q
    rw [e2]
    exact ⟨_, H, I.tok _, r, q⟩
def rNinV (K : PySem.W.Frag) (w : World) : R2 := fun x y H Q => ∃ d ob xs k, y = .ref d ∧ H d = some (DctO w d ob xs) ∧ KeysR K H xs ∧ KeyR K H x k ∧ Q (.bl (!(atE xs k).isSome)) H
theorem op_ninV (hu : X.A.units + 65 < cLine) : OpR X (compareOp .NotIn) (rNinV X.K X.w) := by
  intro pins s σ H x y v u Q I rx ry h
  obtain ⟨d, ob, xs, k, rfl, ha, hks, ⟨dk, h1, h2, h3, h4⟩, q⟩ := h
  cases ry
  obtain ⟨ys, hm, he⟩ := dct_V I ha hks
  obtain ⟨_, _, _, _, _, _, _, _, hsys⟩ := dctO_get I ha
  refine notin_V (by show X.A.units + 1 + 8 < cLine; omega) ⟨nk_is I dk _ _ _ h1 rx h2, h3⟩ (top_val h1 rx h4) hsys hm ?_
  rcases each_at (k := k) he with ⟨e1, e2⟩ | ⟨a, b, e1, e2, _⟩
  · rw [e1] at q
    rw [e2]
    exact ⟨.bl _, H, I.tok _, rfl, q⟩
  · rw [e1] at q
    rw [e2]
    exact ⟨.bl _, H, I.tok _, rfl, q⟩
theorem ix_dctV (hu : X.A.units + 65 < cLine) : IxR X (rIxV X.K X.w) := by
  intro value slice pins s σ H x y v u Q I rx ry h hs
  have hh := h
  obtain ⟨d, ob, xs, k, z, rfl, ha, hks, hk, hz, q⟩ := hh
  have hT : s.TypeIs v "dict" := by
    cases rx
    obtain ⟨_, _, ho, hc, _⟩ := dctO_get I ha
    exact ⟨_, ho, hc.1⟩
  unfold PyProof.Rows.subscriptTail
  refine wpAny_bind ?_
  rw [getitemInPython_of_ne hT.not_modules]
  refine wpAny_bind (wpAny_specialOf hT PySem.F.slot_dict_getitem.lookup ?_)
  have fin : wpAny (model X.prog X.w) X.A (subscripted slice false v u) (fun r s₃ => wpAny (model X.prog X.w) X.A (letTemporaryGo value v r >>= fun _ => pure r) (EP X pins σ Q) X.xe s₃) X.xe s := by
    rw [hs]
    exact wpAny_operating (wpAny_mono (item_dctV hu pins s σ H _ y v u Q I rx ry h) (fun r s₃ h₃ => wpAny_bind (wpAny_letTemporaryGo (wpAny_pure h₃))) fun _ _ x => x)
  first
    | exact wpAny_pure (wpAny_bind fin)
    | exact wpAny_bind (wpAny_pure (wpAny_bind fin))
    | exact wpAny_bind fin
/-! the keys, walked -/
theorem EntsR.length {w : World} : ∀ {xs : List Ent} {es : List DictEntry}, EntsR w xs es → xs.length = es.length
  | _, _, .nil => rfl
  | _, _, .cons _ t => by rw [List.length_cons, List.length_cons, t.length]
theorem EntsR.get {w : World} : ∀ {xs : List Ent} {es : List DictEntry} {i : Nat} {x : Ent}, EntsR w xs es → xs[i]? = some x → ∃ e, es[i]? = some e ∧ entR w x e
  | _, _, _, _, .nil, h => by simp at h
  | _, _, 0, _, .cons r _, h => by
    simp at h
    subst h
    exact ⟨_, rfl, r⟩
  | _, _, i + 1, _, .cons _ t, h => by
    obtain ⟨e, h1, h2⟩ := t.get (i := i) (by simpa using h)
    exact ⟨e, by simpa using h1, h2⟩
def Itdk (w : World) (d : Addr) (o : Obj) (xs : List Ent) : It :=
  ⟨fun i H => H d = some (DctO w d o xs) ∧ i < xs.length, fun i H x H' => H' = H ∧ ∃ e : Ent, xs[i]? = some e ∧ x = e.2.1, fun i H => H d = some (DctO w d o xs) ∧ xs.length ≤ i⟩
theorem turn_dk {P : Program} {w : World} {K : PySem.W.Frag} {tg : Expr} {d : Addr} {o : Obj} {es : Array DictEntry} {ep : Nat} {xs : List Ent} (it : Addr) (hod : o.data = .dict es ep) : Turn P w K tg (Itdk w d o xs) [it] it (fun i h => h.IsKeyIter it d i xs.length ep) where
  mem := by simp
  obj := fun i h st b hb => by
    have e : b = it := by simpa using hb
    subst e
    obtain ⟨oi, e, c, dd⟩ := st
    exact ⟨oi, e, fun v z => by rw [dd] at z; cases z⟩
  keep := fun i h h' st k => st.at fun oi e => k it (by simp) oi e
  item := by
    intro X hP hw hK hc i pins s σ H E I hf st hg
    subst hP hw hK
    obtain ⟨hd, hi⟩ := hg
    obtain ⟨f0, f1, f2, f3, f4, f5⟩ := hf it (by simp)
    obtain ⟨es', ep', hgd, hx, hdt, he, hn, hz, hs⟩ := dctO_get I hd
    obtain ⟨rfl, rfl⟩ := dict_ep hod hdt
    obtain ⟨en, hen, _, hkey, _⟩ := he.get (List.getElem?_eq_getElem hi)
    have hsz : es'.size = xs.length := by rw [he.length, Array.length_toList]
    refine next_key_item st hgd hdt hsz (by rw [← Array.getElem?_toList]; exact hen) fun h' st' sb => ?_
    have I1 : Inv X pins σ H { s with heap := h' } := I.turned (t' := s.toks) (fun b ob hb e => (sb.2 b hb).trans e) f0 f1 f3 f4 f5
    obtain ⟨oi, e, c, dd⟩ := id st'
    exact ⟨en.key, rfl, go_of (s := { s with heap := h' }) e c dd (by decide) ⟨_, H, I1, hkey, ⟨rfl, _, List.getElem?_eq_getElem hi, rfl⟩, st', fun b hb => (hf b hb).1⟩⟩
  done := by
    intro X hP hw hK hc i pins s σ H E I hf st hg
    subst hP hw hK
    obtain ⟨hd, hi⟩ := hg
    obtain ⟨f0, f1, f2, f3, f4, f5⟩ := hf it (by simp)
    obtain ⟨es', ep', hgd, hx, hdt, he, hn, hz, hs⟩ := dctO_get I hd
    obtain ⟨rfl, rfl⟩ := dict_ep hod hdt
    have hsz : es'.size = xs.length := by rw [he.length, Array.length_toList]
    exact next_key_end (I.ok.hd hc) st hgd hdt hsz hi fun h' eb => ⟨rfl, I.turned (t' := s.toks) (fun b ob hb e => eb b ob hb e) f0 f1 f3 f4 f5⟩
  self := fun A i s Q E st h => wpAny_pyIter_keyiter st h
def iDk (w : World) (td : TE) : TI := fun σ H R => td σ H fun x H1 => ∃ d o xs, x = .ref d ∧ H1 d = some (DctO w d o xs) ∧ R (Itdk w d o xs) H1
theorem pi_dk {tg e : Expr} {td : TE} (he : PE X e td) : PI X tg e (iDk X.w td) := by
  refine ⟨fun pins s σ H R I h => ?_⟩
  refine thn (he.run pins s σ H _ I h) fun u s1 ⟨x, H1, I1, rx, d, o, xs, ex, hd, q⟩ => ?_
  subst ex
  obtain rfl : u = Value.ref d := rx
  obtain ⟨es, ep, hgd, hx, hdt, hr, hn, hz, hs⟩ := dctO_get I1 hd
  have hsz : es.size = xs.length := by rw [hr.length, Array.length_toList]
  refine iter_keys hs hgd hx hdt (pi_one (tk := s1.toks) I1 _ (turn_dk _ hdt) ⟨_, Heap.get?_push_size _ rfl, rfl, ?_⟩ q)
  rw [hsz] <;> rfl
/-! sorted(d) -/
mutual
theorem reads_lt {h : Heap} : ∀ (d : PyData) (v : Value) (as : List Addr), PySem.W.alike d d = true → Reads h v d as → ∀ a ∈ as, a < h.objs.size
  | .none, _, _, _, r => by cases r; exact fun a h => nomatch h
  | .bool _, _, _, _, r => by cases r; exact fun a h => nomatch h
  | .int _, _, _, _, r => by cases r; exact fun a h => nomatch h
  | .str _, _, _, _, r => by cases r; exact fun a h => nomatch h
  | .list xs, _, _, hal, r => by
    cases r with
    | list h1 h2 h3 h4 =>
      intro a ha
      rcases List.mem_cons.mp ha with rfl | ha
      · exact Heap.lt_size h1
      · exact readsAll_lt xs _ _ (by simpa [PySem.W.alike] using hal) h4 a ha
  | .tuple xs, _, _, hal, r => by
    cases r with
    | tuple h1 h2 h3 h4 => exact readsAll_lt xs _ _ (by simpa [PySem.W.alike] using hal) h4
  | .dict _, _, _, hal, _ => absurd hal (by simp [PySem.W.alike])
theorem readsAll_lt {h : Heap} : ∀ (ds : List PyData) (vs : List Value) (as : List Addr), PySem.W.alikeAll ds ds = true → ReadsAll h vs ds as → ∀ a ∈ as, a < h.objs.size
  | [], _, _, _, r => by cases r; exact fun a h => nomatch h
  | d :: ds, _, _, hal, r => by
    cases r with
    | cons h1 h2 =>
      intro a ha
      rcases List.mem_append.mp ha with ha | ha
      · exact reads_lt d _ _ (PySem.W.alike_all_cons hal).1 h1 a ha
      · exact readsAll_lt ds _ _ (PySem.W.alike_all_cons hal).2 h2 a ha
end
theorem ents_keys {w : World} : ∀ {xs : List Ent} {es : List DictEntry}, EntsR w xs es → Vals (xs.map (·.2.1)) (es.map (·.key))
  | _, _, .nil => .nil
  | _, _, .cons h t => .cons h.2.1 (ents_keys t)
def rSrtDk (K : PySem.W.Frag) (w : World) : List V → Hp → VK → Prop := fun vs H Q => ∃ (d : Addr) (o : Obj) (xs : List Ent) (ds : List PyData), vs = [V.ref d] ∧ H d = some (DctO w d o xs) ∧ DpAll K H (xs.map (·.2.1)) ds ∧ PySem.W.AllAlike ds ∧ PySem.W.Sortable ds ∧ PyData.depthAll ds ≤ 60 ∧ ds.length ≤ 4000 ∧
  ∀ p, H p = none → Q (.ref p) (upd H p (.lst (((ds.zip (xs.map (·.2.1))).mergeSort (PySem.W.dataLe false Prod.fst)).map Prod.snd)))
theorem eachk_zip {h : Heap} : ∀ {xs : List V} {us : List Value} {ds : List PyData} {as : List Addr}, (∀ d ∈ ds, PySem.W.alike d d = true) → Vals xs us → ReadsAll h us ds as → PySem.W.EachIs (fun v (b : PyData × V) => RelV b.2 v) us (ds.zip xs) ∧ PySem.W.EachIs (fun v (b : PyData × V) => ∃ as, Reads h v b.1 as ∧ ∀ a ∈ as, a < h.objs.size) us (ds.zip xs)
  | _, _, _, _, _, r, .nil => by
    have := r.length
    cases r
    exact ⟨.nil, .nil⟩
  | _, _, _, _, al, r, .cons r1 rs => by
    cases r with
    | cons r0 r =>
      obtain ⟨h1, h2⟩ := eachk_zip (fun d hd => al d (List.mem_cons_of_mem _ hd)) r rs
      exact ⟨.cons r0 h1, .cons ⟨_, r1, reads_lt _ _ _ (al _ List.mem_cons_self) r1⟩ h2⟩
theorem eachk_vals : ∀ {us : List Value} {bs : List (PyData × V)}, PySem.W.EachIs (fun v (b : PyData × V) => RelV b.2 v) us bs → Vals (bs.map Prod.snd) us
  | _, _, .nil => .nil
  | _, _, .cons h t => .cons h (eachk_vals t)
theorem zipk_fst : ∀ {ds : List PyData} {xs : List V}, ds.length = xs.length → (ds.zip xs).map Prod.fst = ds
  | [], [], _ => rfl
  | d :: ds, x :: xs, h => by
    simp at h
    simp [zipk_fst h]
theorem DpAll.lengthk {K : PySem.W.Frag} {H : Hp} : ∀ {ds : List PyData} {xs : List V}, DpAll K H xs ds → ds.length = xs.length
  | _, _, .nil => rfl
  | _, _, .cons _ t => by simp [DpAll.lengthk t]
theorem cr_sortedDk (hc : X.calm = true) (hu : X.A.units + 65 < cLine) : CallR X (.builtin "sorted") (rSrtDk X.K X.w) := by
  intro pins s σ H vs us Q I r h
  obtain ⟨d, o, xs, ds, rfl, hd, hp, ha, hk, hz, hlen, q⟩ := h
  obtain ⟨u, rfl, rx⟩ := r.one
  cases rx
  obtain ⟨es, ep, ho, hx, hdt, he, hn, hl, hs⟩ := dctO_get I hd
  have hl1 := DpAll.lengthk hp
  have hsz : es.size = xs.length := by rw [he.length, Array.length_toList]
  have hlx : ds.length = xs.length := by rw [hl1, List.length_map]
  refine Calls.call_function_entry PyProof.Rows.kind_sorted PyProof.Rows.plain_sorted PyProof.Rows.entry_sorted (PyProof.Rows.args_sorted1 _) ?_
  unfold Builtin.«sorted»
  refine wpAny_bind (m := checkCount "sorted" 1 1 _) (wpAny_pure ?_)
  refine wpAny_bind (PySem.W.kdu_collect (A := X.A.in1) (kdl_raw hs hx hdt) (I.ok.hd hc) ho (by rw [sizeLine_eq]; omega) fun h' tk acc keep hacc => ?_)
  have hacl : acc.toList = es.toList.map (·.key) := by
    have hll : acc.toList.length = es.size := by rw [Array.length_toList]; exact hacc.1
    apply List.ext_getElem?
    intro j
    rw [List.getElem?_map]
    cases hj : acc.toList[j]? with
    | none =>
      have h1 := List.getElem?_eq_none_iff.mp hj
      rw [List.getElem?_eq_none (by rw [Array.length_toList]; omega)]
      rfl
    | some v =>
      obtain ⟨en, hen, hv⟩ := hacc.2 j v (by rw [← Array.getElem?_toList]; exact hj)
      rw [Array.getElem?_toList, hen, hv]
      rfl
  have I2 : Inv X pins σ H { s with heap := h', toks := tk } := I.kept keep
  have rv : Vals (xs.map (·.2.1)) acc.toList := by rw [hacl]; exact ents_keys he
  obtain ⟨as, hr⟩ := Dp.readsAll I2 ds _ _ hp rv
  have ef := zipk_fst hl1
  obtain ⟨e1, e2⟩ := eachk_zip (fun d hd => ha d hd d hd) rv hr
  have hzl : (ds.zip (xs.map (·.2.1))).length = xs.length := by rw [List.length_zip, List.length_map]; omega
  have hacs : acc.toList.length = xs.length := by rw [hacl, List.length_map, Array.length_toList, hsz]
  refine wpAny_bind (wpAny_newList ?_ (by rw [hacs, sizeLine_eq]; omega))
  have hat : (h'.push (PyProof.Rows.seqObj "list" acc.toList.toArray 0)).get? h'.objs.size = some (PyProof.Rows.seqObj "list" acc.toList.toArray 0) := Heap.get?_push_size _ rfl
  refine wpAny_bind (wpAny_holding (PySem.W.list_sort_data (s := { s with heap := h'.push (PyProof.Rows.seqObj "list" acc.toList.toArray 0), toks := tk }) (A := X.A.in1) (a := h'.objs.size) (enc := Prod.fst) (bs := ds.zip (xs.map (·.2.1))) hat e1
    (e2.mono fun v b ⟨as, h1, h2⟩ => ⟨as, PyProof.Rows.Reads.keeps (fun _ _ z => Heap.get?_push_of_some _ z) h1, fun z => Nat.lt_irrefl _ (h2 _ z)⟩) (by rw [ef]; exact ha) (by rw [ef]; exact hk) (by rw [hzl, sizeLine_eq]; omega) (fun b hb => ?_) fun out h1 h2 => ?_))
  · have := PyData.depth_le_depthAll _ _ (List.of_mem_zip hb).1
    show X.A.units + 1 + 1 + _ < cLine
    omega
  · obtain ⟨ep', he'⟩ := PyProof.Rows.sortedHeap_at (out := out.toArray) hat
    have hlen2 : (((ds.zip (xs.map (·.2.1))).mergeSort (PySem.W.dataLe false Prod.fst)).map Prod.snd).length ≤ sizeLine := by
      rw [List.length_map, List.length_mergeSort, hzl, sizeLine_eq]
      omega
    exact wpAny_pure ⟨_, rfl, .ref _, upd H h'.objs.size (.lst (((ds.zip (xs.map (·.2.1))).mergeSort (PySem.W.dataLe false Prod.fst)).map Prod.snd)), I2.laid (t' := tk) (fun b ob z => by
      have lt : b < h'.objs.size := Heap.lt_size z
      rw [PyProof.Rows.sortedHeap_old (Nat.ne_of_lt lt) (by rw [PyProof.Rows.size_push']; exact Nat.lt_succ_of_lt lt)]
      exact Heap.get?_push_of_some _ z) (Nat.le_refl _) ⟨hlen2, out, ep', eachk_vals h2, by simpa using he'⟩, rfl, q _ (I2.hok.fresh (Nat.le_refl _))⟩
end
end Pb

namespace Pb
open PySem PySem.Spec L2

abbrev D := PyData
abbrev Sg := L2.St

/-! ### outcomes, contents, slots -/
structure Exc where
  name : Str
  lim : Option Int
inductive Ob where
  | lst (ds : List D)
  | dct (kvs : List (D × D))
inductive Sl where
  | non
  | val (d : D)
  | own (o : Ob)
  | inn (o : Ob)
  | frd (kvs : List (D × D))
abbrev En := List Sl
inductive RV where
  | val (d : D)
  | fresh (o : Ob)
  | slot (i : Nat)
inductive Res (α : Type) where
  | ok (a : α)
  | exc (c : Exc) (env : En)
  | bad
namespace Res
variable {α β : Type}
def bind (x : Res α) (f : α → Res β) : Res β := match x with
  | ok a => f a
  | exc c e => exc c e
  | bad => bad
@[simp] theorem bind_ok (a : α) (f : α → Res β) : (ok a).bind f = f a := rfl
@[simp] theorem bind_exc (c : Exc) (e : En) (f : α → Res β) : (exc c e : Res α).bind f = exc c e := rfl
@[simp] theorem bind_bad (f : α → Res β) : (bad : Res α).bind f = bad := rfl
end Res
inductive Flow where
  | nx
  | brk
  | ct
  | ret (r : RV)

/-! ### data in an abstract heap -/
def Sub (A B : Hp) : Prop := ∀ a o, A a = some o → B a = some o
theorem Sub.refl (A : Hp) : Sub A A := fun _ _ h => h
theorem Sub.trans {A B C : Hp} (h : Sub A B) (g : Sub B C) : Sub A C := fun a o e => g a o (h a o e)
theorem Sub.upd {A B : Hp} {a : Addr} {o : HO} (h : Sub A B) (n : A a = none) : Sub A (upd B a o) := fun b u e => by
  rw [upd_ne (ne_of_none e n)]
  exact h b u e
theorem Sub.new {A : Hp} {a : Addr} {o : HO} (n : A a = none) : Sub A (L2.upd A a o) := (Sub.refl A).upd n
theorem Sub.left {A B : Hp} {a : Addr} {o : HO} (h : Sub A B) (e : B a = some o) : Sub (L2.upd A a o) B := fun b u q => by
  by_cases hb : b = a
  · subst hb
    rw [upd_same] at q
    rw [e]
    exact q
  · rw [upd_ne hb] at q
    exact h b u q
theorem Sub.ne {G G2 : Hp} (h : Sub G G2) (a : Addr) (n : G a ≠ none) : G2 a ≠ none := by
  cases e : G a with
  | none => exact absurd e n
  | some u =>
    rw [h a u e]
    exact fun z => by cases z
theorem Sub.none {G G2 : Hp} (h : Sub G G2) {a : Addr} (n : G2 a = none) : G a = none := by
  cases e : G a with
  | none => rfl
  | some u =>
    rw [h a u e] at n
    cases n
/-- no tables within -/
def NoTb (G : Hp) : Prop := ∀ a ps, G a ≠ some (.tbl ps)
theorem NoTb.upd {G : Hp} {a : Addr} {o : HO} (h : NoTb G) (n : ∀ ps, o ≠ .tbl ps) : NoTb (upd G a o) := fun b ps e => by
  by_cases hb : b = a
  · subst hb
    rw [upd_same] at e
    exact n ps (Option.some.inj e)
  · rw [upd_ne hb] at e
    exact h b ps e

theorem Sub.rdl {A B : Hp} {a : Addr} {xs : List V} (h : Sub A B) (r : Rd A a (.lst xs)) : Rd B a (.lst xs) := by
  rcases r with r | ⟨o, r⟩
  · exact .inl (h _ _ r)
  · exact .inr ⟨o, h _ _ r⟩
theorem Sub.rdt {K : PySem.W.Frag} {A B : Hp} {a : Addr} {xs : List V} (h : Sub A B) (r : SqT K A a xs) : SqT K B a xs := by
  rcases r with (r | ⟨o, r⟩) | r
  · exact .inl (.inl (h _ _ r))
  · exact .inl (.inr ⟨o, h _ _ r⟩)
  · exact .inr r

mutual
/-- the value v stands for the data d in the heap F -/
def Rp (K : PySem.W.Frag) (F : Hp) : D → V → Prop
  | .none, v => v = .non
  | .bool b, v => v = .bl b
  | .int i, v => v = .int i
  | .str x, v => v = .str x ∧ PyData.strOk x = true
  | .list ds, v => ∃ a xs, v = .ref a ∧ Rd F a (.lst xs) ∧ RpAll K F ds xs
  | .tuple ds, v => ∃ a xs, v = .ref a ∧ SqT K F a xs ∧ RpAll K F ds xs
  | .dict _, _ => False
def RpAll (K : PySem.W.Frag) (F : Hp) : List D → List V → Prop
  | [], vs => vs = []
  | d :: ds, vs => ∃ v r, vs = v :: r ∧ Rp K F d v ∧ RpAll K F ds r
end
mutual
theorem Rp.mono {K : PySem.W.Frag} {F F' : Hp} (h : Sub F F') : ∀ (d : D) (v : V), Rp K F d v → Rp K F' d v
  | .none, _, r => r
  | .bool _, _, r => r
  | .int _, _, r => r
  | .str _, _, r => r
  | .list ds, _, ⟨a, xs, e, r, q⟩ => ⟨a, xs, e, h.rdl r, RpAll.mono h ds xs q⟩
  | .tuple ds, _, ⟨a, xs, e, r, q⟩ => ⟨a, xs, e, h.rdt r, RpAll.mono h ds xs q⟩
  | .dict _, _, r => r
theorem RpAll.mono {K : PySem.W.Frag} {F F' : Hp} (h : Sub F F') : ∀ (ds : List D) (vs : List V), RpAll K F ds vs → RpAll K F' ds vs
  | [], _, r => r
  | d :: ds, _, ⟨v, r, e, q, w⟩ => ⟨v, r, e, Rp.mono h d v q, RpAll.mono h ds r w⟩
end
mutual
theorem Rp.dp {K : PySem.W.Frag} {F : Hp} : ∀ (d : D) (v : V), Rp K F d v → Dp K F v d
  | .none, _, r => by cases r; exact .non
  | .bool _, _, r => by cases r; exact .bl _
  | .int _, _, r => by cases r; exact .int _
  | .str _, _, r => by obtain ⟨r, _⟩ := r; cases r; exact .str _
  | .list ds, _, ⟨a, xs, e, r, q⟩ => by cases e; exact .lst (.inl r) (RpAll.dp ds xs q)
  | .tuple ds, _, ⟨a, xs, e, r, q⟩ => by cases e; exact .tup r (RpAll.dp ds xs q)
  | .dict _, _, r => r.elim
theorem RpAll.dp {K : PySem.W.Frag} {F : Hp} : ∀ (ds : List D) (vs : List V), RpAll K F ds vs → DpAll K F vs ds
  | [], _, r => by cases r; exact .nil
  | d :: ds, _, ⟨v, r, e, q, w⟩ => by cases e; exact .cons (Rp.dp d v q) (RpAll.dp ds r w)
end
mutual
theorem Rp.can {K : PySem.W.Frag} {F : Hp} : ∀ (d : D) (v : V), Rp K F d v → d.canLay0 = true
  | .none, _, r => by simp [PyData.canLay0]
  | .bool _, _, r => by simp [PyData.canLay0]
  | .int _, _, r => by simp [PyData.canLay0]
  | .str _, _, r => by simp [PyData.canLay0, (show _ ∧ _ from r).2]
  | .list ds, _, ⟨a, xs, e, r, q⟩ => by simp [PyData.canLay0, RpAll.can ds xs q]
  | .tuple ds, _, ⟨a, xs, e, r, q⟩ => by simp [PyData.canLay0, RpAll.can ds xs q]
  | .dict _, _, r => r.elim
theorem RpAll.can {K : PySem.W.Frag} {F : Hp} : ∀ (ds : List D) (vs : List V), RpAll K F ds vs → PyData.canLayAll0 ds = true
  | [], _, r => by simp [PyData.canLayAll0]
  | d :: ds, _, ⟨v, r, e, q, w⟩ => by simp [PyData.canLayAll0, Rp.can d v q, RpAll.can ds r w]
end
section
variable {K : PySem.W.Frag} {F : Hp}
theorem RpAll.length : ∀ {ds : List D} {vs : List V}, RpAll K F ds vs → vs.length = ds.length
  | [], _, r => by
    have e : _ = [] := r
    rw [e]
    rfl
  | d :: ds, _, ⟨v, r, e, _, w⟩ => by
    rw [e, List.length_cons, List.length_cons, RpAll.length w]
theorem RpAll.nil : RpAll K F [] [] := rfl
theorem RpAll.cons {d : D} {ds : List D} {v : V} {vs : List V} (h : Rp K F d v) (t : RpAll K F ds vs) : RpAll K F (d :: ds) (v :: vs) := ⟨v, vs, rfl, h, t⟩
theorem RpAll.append : ∀ {ds es : List D} {vs us : List V}, RpAll K F ds vs → RpAll K F es us → RpAll K F (ds ++ es) (vs ++ us)
  | [], _, _, _, r, q => by
    have e : _ = [] := r
    rw [e]
    exact q
  | d :: ds, _, _, _, ⟨v, r, e, w, t⟩, q => by
    rw [e]
    exact ⟨v, _, rfl, w, RpAll.append t q⟩
theorem RpAll.one {d : D} {v : V} (h : Rp K F d v) : RpAll K F [d] [v] := ⟨v, [], rfl, h, rfl⟩
theorem RpAll.get : ∀ {ds : List D} {vs : List V} {i : Nat} {d : D}, RpAll K F ds vs → ds[i]? = some d → ∃ v, vs[i]? = some v ∧ Rp K F d v
  | [], _, i, d, _, h => by simp at h
  | d :: ds, _, 0, d', ⟨v, r, e, w, t⟩, h => by
    simp at h
    subst h
    exact ⟨v, by rw [e]; rfl, w⟩
  | d :: ds, _, i + 1, d', ⟨v, r, e, w, t⟩, h => by
    obtain ⟨u, h1, h2⟩ := RpAll.get (i := i) t (by simpa using h)
    exact ⟨u, by rw [e]; simpa using h1, h2⟩
theorem RpAll.get' : ∀ {ds : List D} {vs : List V} {i : Nat} {v : V}, RpAll K F ds vs → vs[i]? = some v → ∃ d, ds[i]? = some d ∧ Rp K F d v
  | [], vs, i, d, r, h => by
    have e : vs = [] := r
    rw [e] at h
    simp at h
  | d :: ds, _, 0, d', ⟨v, r, e, w, t⟩, h => by
    rw [e] at h
    simp at h
    subst h
    exact ⟨d, rfl, w⟩
  | d :: ds, _, i + 1, d', ⟨v, r, e, w, t⟩, h => by
    rw [e] at h
    obtain ⟨u, h1, h2⟩ := RpAll.get' (i := i) t (by simpa using h)
    exact ⟨u, by simpa using h1, h2⟩
theorem RpAll.take : ∀ {ds : List D} {vs : List V} (n : Nat), RpAll K F ds vs → RpAll K F (ds.take n) (vs.take n)
  | _, _, 0, _ => by simp [RpAll]
  | [], vs, n + 1, r => by
    have e : vs = [] := r
    rw [e]
    simp [RpAll]
  | d :: ds, _, n + 1, ⟨v, r, e, w, t⟩ => by
    rw [e]
    exact ⟨v, _, rfl, w, RpAll.take n t⟩
theorem RpAll.drop : ∀ {ds : List D} {vs : List V} (n : Nat), RpAll K F ds vs → RpAll K F (ds.drop n) (vs.drop n)
  | _, _, 0, r => by simpa using r
  | [], vs, n + 1, r => by
    have e : vs = [] := r
    rw [e]
    simp [RpAll]
  | d :: ds, _, n + 1, ⟨v, r, e, w, t⟩ => by
    rw [e]
    simpa using RpAll.drop n t
theorem RpAll.set : ∀ {ds : List D} {vs : List V} {d : D} {v : V} (i : Nat), RpAll K F ds vs → Rp K F d v → RpAll K F (ds.set i d) (vs.set i v)
  | [], vs, d, v, i, r, q => by
    have e : vs = [] := r
    rw [e]
    simp [RpAll]
  | d :: ds, _, d', v', 0, ⟨v, r, e, w, t⟩, q => by
    rw [e]
    exact ⟨v', r, rfl, q, t⟩
  | d :: ds, _, d', v', i + 1, ⟨v, r, e, w, t⟩, q => by
    rw [e]
    exact ⟨v, _, rfl, w, RpAll.set i t q⟩
theorem RpAll.erase : ∀ {ds : List D} {vs : List V} (i : Nat), RpAll K F ds vs → RpAll K F (ds.eraseIdx i) (vs.eraseIdx i)
  | [], vs, i, r => by
    have e : vs = [] := r
    rw [e]
    simp [RpAll]
  | d :: ds, _, 0, ⟨v, r, e, w, t⟩ => by
    rw [e]
    exact t
  | d :: ds, _, i + 1, ⟨v, r, e, w, t⟩ => by
    rw [e]
    exact ⟨v, _, rfl, w, RpAll.erase i t⟩
theorem RpAll.reverse : ∀ {ds : List D} {vs : List V}, RpAll K F ds vs → RpAll K F ds.reverse vs.reverse
  | [], vs, r => by
    have e : vs = [] := r
    rw [e]
    exact RpAll.nil
  | d :: ds, _, ⟨v, r, e, w, t⟩ => by
    rw [e, List.reverse_cons, List.reverse_cons]
    exact (RpAll.reverse t).append (.one w)
end

/-! ### the parameters that stay; contents of mutable objects -/
structure Pm where
  K : PySem.W.Frag
  w : World
  mg : Str → Option Value
  Tb : List (Addr × Str)
/-- the entries stand for these pairs -/
def EntP (K : PySem.W.Frag) (F : Hp) : List (D × D) → List Ent → Prop
  | [], es => es = []
  | q :: r, es => ∃ e es', es = e :: es' ∧ nkD q.1 = some e.1 ∧ e.1.depth ≤ 8 ∧ Rp K F q.1 e.2.1 ∧ Rp K F q.2 e.2.2 ∧ EntP K F r es'
theorem EntP.mono {K : PySem.W.Frag} {F F' : Hp} (s : Sub F F') : ∀ {kvs : List (D × D)} {es : List Ent}, EntP K F kvs es → EntP K F' kvs es
  | [], _, h => h
  | _ :: _, _, ⟨e, es', h0, h1, h2, h3, h4, h5⟩ => ⟨e, es', h0, h1, h2, Rp.mono s _ _ h3, Rp.mono s _ _ h4, EntP.mono s h5⟩
theorem EntP.length {K : PySem.W.Frag} {F : Hp} : ∀ {kvs : List (D × D)} {es : List Ent}, EntP K F kvs es → es.length = kvs.length
  | [], _, h => by
    have e : _ = [] := h
    rw [e]
    rfl
  | _ :: _, _, ⟨e, es', h0, _, _, _, _, h5⟩ => by rw [h0, List.length_cons, List.length_cons, EntP.length h5]
theorem EntP.keysR {K : PySem.W.Frag} {F : Hp} : ∀ {kvs : List (D × D)} {es : List Ent}, EntP K F kvs es → KeysR K F es
  | [], _, h => by
    have e : _ = [] := h
    rw [e]
    exact fun x hx => nomatch hx
  | q :: r, _, ⟨e, es', h0, h1, h2, h3, h4, h5⟩ => by
    rw [h0]
    intro x hx
    rcases List.mem_cons.mp hx with rfl | hx
    · exact ⟨q.1, Rp.dp _ _ h3, h1, h2⟩
    · exact EntP.keysR h5 x hx
theorem EntP.keys {K : PySem.W.Frag} {F : Hp} : ∀ {kvs : List (D × D)} {es : List Ent}, EntP K F kvs es → RpAll K F (kvs.map (·.1)) (es.map (·.2.1))
  | [], _, h => by
    have e : _ = [] := h
    rw [e]
    exact RpAll.nil
  | _ :: _, _, ⟨e, es', h0, h1, h2, h3, h4, h5⟩ => by
    rw [h0]
    exact RpAll.cons h3 (EntP.keys h5)
/-- what stands at a key -/
def dcAt (kvs : List (D × D)) (k : NK) : Option D := match kvs with
  | [] => none
  | q :: r => if nkD q.1 = some k then some q.2 else dcAt r k
def dcSet (k : NK) (d : D) (q : D × D) : D × D := if nkD q.1 = some k then (q.1, d) else q
def dcPut (kvs : List (D × D)) (k : NK) (kd d : D) : List (D × D) := if (dcAt kvs k).isSome then kvs.map (dcSet k d) else kvs ++ [(kd, d)]
theorem EntP.at {K : PySem.W.Frag} {F : Hp} {k : NK} : ∀ {kvs : List (D × D)} {es : List Ent}, EntP K F kvs es → (dcAt kvs k = none ∧ atE es k = none) ∨ ∃ d v, dcAt kvs k = some d ∧ atE es k = some v ∧ Rp K F d v
  | [], _, h => by
    have e : _ = [] := h
    rw [e]
    exact .inl ⟨rfl, rfl⟩
  | q :: r, _, ⟨e, es', h0, h1, h2, h3, h4, h5⟩ => by
    rw [h0]
    unfold dcAt atE
    rw [List.find?_cons, h1]
    by_cases hk : e.1 = k
    · rw [if_pos (by rw [hk])]
      simp only [hk, decide_true]
      exact .inr ⟨_, _, rfl, rfl, h4⟩
    · rw [if_neg (fun z => hk (Option.some.inj z))]
      simp only [hk, decide_false]
      exact EntP.at h5
theorem EntP.set {K : PySem.W.Frag} {F : Hp} {k : NK} {d : D} {v : V} (hd : Rp K F d v) : ∀ {kvs : List (D × D)} {es : List Ent}, EntP K F kvs es → EntP K F (kvs.map (dcSet k d)) (es.map (putE k v))
  | [], _, h => by
    have e : _ = [] := h
    rw [e]
    exact rfl
  | q :: r, _, ⟨e, es', h0, h1, h2, h3, h4, h5⟩ => by
    rw [h0, List.map_cons, List.map_cons]
    refine ⟨_, _, rfl, ?_⟩
    unfold dcSet putE
    by_cases hk : e.1 = k
    · rw [if_pos (by rw [h1, hk]), if_pos hk]
      exact ⟨h1, h2, h3, hd, EntP.set hd h5⟩
    · rw [if_neg (fun z => hk (Option.some.inj (h1 ▸ z))), if_neg hk]
      exact ⟨h1, h2, h3, h4, EntP.set hd h5⟩
theorem EntP.snoc {K : PySem.W.Frag} {F : Hp} {k : NK} {kd d : D} {kv v : V} (h1 : nkD kd = some k) (h2 : k.depth ≤ 8) (h3 : Rp K F kd kv) (h4 : Rp K F d v) : ∀ {kvs : List (D × D)} {es : List Ent}, EntP K F kvs es → EntP K F (kvs ++ [(kd, d)]) (es ++ [(k, kv, v)])
  | [], _, h => by
    have e : _ = [] := h
    rw [e]
    exact ⟨_, _, rfl, h1, h2, h3, h4, rfl⟩
  | q :: r, _, ⟨e, es', h0, g1, g2, g3, g4, g5⟩ => by
    rw [h0]
    exact ⟨e, _, rfl, g1, g2, g3, g4, EntP.snoc h1 h2 h3 h4 g5⟩
theorem EntP.put {K : PySem.W.Frag} {F : Hp} {k : NK} {kd d : D} {kv v : V} (h1 : nkD kd = some k) (h2 : k.depth ≤ 8) (h3 : Rp K F kd kv) (h4 : Rp K F d v) {kvs : List (D × D)} {es : List Ent} (h : EntP K F kvs es) : EntP K F (dcPut kvs k kd d) (storE es k kv v) := by
  unfold dcPut storE
  rcases h.at (k := k) with ⟨e1, e2⟩ | ⟨a, b, e1, e2, _⟩
  · rw [e1, e2]
    exact EntP.snoc h1 h2 h3 h4 h
  · rw [e1, e2]
    exact EntP.set h4 h
/-- a dict at a, as it is now, with these pairs -/
def DcR (p : Pm) (F H : Hp) (a : Addr) (kvs : List (D × D)) : Prop := ∃ o es, H a = some (DctO p.w a o es) ∧ EntP p.K F kvs es
theorem DcR.mono {p : Pm} {F F' H H' : Hp} {a : Addr} {kvs : List (D × D)} (s : Sub F F') (k : ∀ u, H a = some u → H' a = some u) (h : DcR p F H a kvs) : DcR p F' H' a kvs := by
  obtain ⟨o, es, e, r⟩ := h
  exact ⟨o, es, k _ e, r.mono s⟩
def ObR (p : Pm) (F H : Hp) (a : Addr) : Ob → Prop
  | .lst ds => ∃ xs, H a = some (.lst xs) ∧ RpAll p.K F ds xs
  | .dct kvs => DcR p F H a kvs
theorem ObR.mono {p : Pm} {F F' H : Hp} {a : Addr} {o : Ob} (s : Sub F F') (h : ObR p F H a o) : ObR p F' H a o := by
  cases o with
  | lst ds =>
    obtain ⟨xs, e, r⟩ := h
    exact ⟨xs, e, RpAll.mono s _ _ r⟩
  | dct kvs => exact DcR.mono s (fun _ e => e) h
/-- the object itself stays -/
theorem ObR.stay {p : Pm} {F H H' : Hp} {a : Addr} {o : Ob} (k : ∀ u, H a = some u → H' a = some u) (h : ObR p F H a o) : ObR p F H' a o := by
  cases o with
  | lst ds =>
    obtain ⟨xs, e, r⟩ := h
    exact ⟨xs, k _ e, r⟩
  | dct kvs => exact DcR.mono (.refl F) k h
theorem ObR.here {p : Pm} {F H : Hp} {a : Addr} {o : Ob} (h : ObR p F H a o) : ∃ u, H a = some u ∧ (∀ ps, u ≠ .tbl ps) := by
  cases o with
  | lst ds =>
    obtain ⟨xs, e, r⟩ := h
    exact ⟨_, e, fun _ z => by cases z⟩
  | dct kvs =>
    obtain ⟨o, es, e, r⟩ := h
    exact ⟨_, e, fun _ z => by unfold DctO at z; cases z⟩

def isOwn : Option Sl → Prop
  | some (.own _) => True
  | some (.inn _) => True
  | _ => False

/-- the slots at the start, and which of them stay as they are -/
structure S0 where
  v : Sg
  fx : Nat → Bool
  cd : List (Addr × Str)
structure Rel (p : Pm) (σ0 : S0) (G F : Hp) (env : En) (σ : Sg) (H : Hp) : Prop where
  gs : Sub G H
  fs : Sub F H
  gn : NoTb G
  fn : NoTb F
  tb : LamX.Tabs p.Tb H
  len : env.length = σ.length
  val : ∀ (i : Nat) d, env[i]? = some (Sl.val d) → ∃ v, σ[i]? = some (some v) ∧ Rp p.K F d v
  own : ∀ (i : Nat) o, (env[i]? = some (Sl.own o) ∨ env[i]? = some (Sl.inn o)) → ∃ a, σ[i]? = some (some (V.ref a)) ∧ ObR p F H a o ∧ F a = none ∧ G a = none
  inj : ∀ (i j : Nat) a, isOwn env[i]? → isOwn env[j]? → σ[i]? = some (some (V.ref a)) → σ[j]? = some (some (V.ref a)) → i = j
  inn : ∀ (i : Nat) o, env[i]? = some (Sl.inn o) → σ[i]? = σ0.v[i]?
  fix : ∀ (i : Nat), σ0.fx i = true → σ[i]? = σ0.v[i]?
  cds : ∀ q ∈ σ0.cd, H q.1 = some (LamX.CodeO q.1 q.2)
  frd : ∀ (i : Nat) kvs, env[i]? = some (Sl.frd kvs) → ∃ a, σ[i]? = some (some (V.ref a)) ∧ DcR p F F a kvs
theorem Rel.frdm {p : Pm} {σ0 : S0} {G F F' : Hp} {env : En} {σ : Sg} {H : Hp} (R : Rel p σ0 G F env σ H) (s : Sub F F') : ∀ (i : Nat) kvs, env[i]? = some (Sl.frd kvs) → ∃ a, σ[i]? = some (some (V.ref a)) ∧ DcR p F' F' a kvs := fun i kvs h => by
  obtain ⟨a, e1, e2⟩ := R.frd i kvs h
  exact ⟨a, e1, e2.mono s fun u q => s a u q⟩

/-- F grows; where G knows an object, F stays as it is -/
structure Grow (G F F' : Hp) : Prop where
  sub : Sub F F'
  old : ∀ a, G a ≠ none → F' a = F a
theorem Grow.refl (G F : Hp) : Grow G F F := ⟨Sub.refl F, fun _ _ => rfl⟩
theorem Grow.trans {G F F1 F2 : Hp} (a : Grow G F F1) (b : Grow G F1 F2) : Grow G F F2 := ⟨a.sub.trans b.sub, fun c h => (b.old c h).trans (a.old c h)⟩
theorem Grow.less {G G' F F' : Hp} (h : Grow G F F') (s : ∀ a, G' a ≠ none → G a ≠ none) : Grow G' F F' := ⟨h.sub, fun a n => h.old a (s a n)⟩
theorem Grow.new {G F : Hp} {a : Addr} {o : HO} (n : F a = none) (g : G a = none) : Grow G F (upd F a o) := ⟨Sub.new n, fun b h => by
  by_cases hb : b = a
  · subst hb
    exact absurd g h
  · exact upd_ne hb⟩

/-- what a result of an expression is -/
def RR (p : Pm) (G F : Hp) (env : En) (σ : Sg) (H : Hp) (r : RV) (v : V) : Prop := match r with
  | .val d => Rp p.K F d v
  | .fresh o => ∃ a, v = .ref a ∧ ObR p F H a o ∧ F a = none ∧ G a = none ∧ ∀ (i : Nat), isOwn env[i]? → σ[i]? ≠ some (some (V.ref a))
  | .slot i => σ[i]? = some (some v)

def ExcR (p : Pm) (c : Exc) (cls : Value) (d : Option Addr) (H : Hp) : Prop :=
  (∃ C, cls = .ref C ∧ p.mg c.name = some (.ref C)) ∧ ∀ i, c.lim = some i → ∃ dx, d = some dx ∧ H dx = some (.xd [("limit", .int i)])

/-! ### readings -/
/-- what is wanted of a run from (G, F) at the slots σ: Ok of what comes out, W of an exception -/
def GoodB {β : Type} (p : Pm) (σ0 : S0) (G F : Hp) (σ : Sg) (W : WX) (Ok : β → En → Hp → Hp → Prop) : Res (β × En) → Prop
  | .ok (r, env') => ∀ H' F', Grow G F F' → Rel p σ0 G F' env' σ H' → Ok r env' F' H'
  | .exc c env' => ∀ cls d H' F', Grow G F F' → Rel p σ0 G F' env' σ H' → ExcR p c cls d H' → W cls d σ H'
  | .bad => False
abbrev OkE (p : Pm) (G : Hp) (σ : Sg) (Q : VK) : RV → En → Hp → Hp → Prop := fun r env' F' H' => ∀ v, RR p G F' env' σ H' r v → Q v H'
abbrev OkT (Q : Bool → Hp → Prop) : Bool → En → Hp → Hp → Prop := fun b _ _ H' => Q b H'
def tE (p : Pm) (σ0 : S0) (W : WX) (ev : En → Res (RV × En)) : TE := fun σ H Q => ∃ G F env, Rel p σ0 G F env σ H ∧ GoodB p σ0 G F σ W (OkE p G σ Q) (ev env)
def tT (p : Pm) (σ0 : S0) (W : WX) (ev : En → Res (Bool × En)) : TT := fun σ H Q => ∃ G F env, Rel p σ0 G F env σ H ∧ GoodB p σ0 G F σ W (OkT Q) (ev env)

theorem PE.mono {X : Cx} {e : Expr} {t t' : TE} (h : PE X e t) (s : ∀ σ H Q, t' σ H Q → t σ H Q) : PE X e t' := ⟨fun pins sh σ H Q I q => h.run pins sh σ H Q I (s σ H Q q)⟩
theorem PT.mono {X : Cx} {e : Expr} {t t' : TT} (h : PT X e t) (s : ∀ σ H Q, t' σ H Q → t σ H Q) : PT X e t' := ⟨fun pins sh σ H Q I q => h.run pins sh σ H Q I (s σ H Q q)⟩
theorem PW.mono {X : Cx} {e : Expr} {t t' : TT} (h : PW X e t) (s : ∀ σ H Q, t' σ H Q → t σ H Q) : PW X e t' := ⟨fun wh pins sh σ H Q I q => h.run wh pins sh σ H Q I (s σ H Q q)⟩
theorem PA.mono {X : Cx} {e : List Expr} {t t' : TA} (h : PA X e t) (s : ∀ σ H Q, t' σ H Q → t σ H Q) : PA X e t' := ⟨fun pos pins sh σ H Q I q => h.run pos pins sh σ H Q I (s σ H Q q)⟩
theorem PS.mono {X : Cx} {e : Stmt} {t t' : TS} (h : PS X e t) (s : ∀ D σ H, t' D σ H → t D σ H) : PS X e t' := ⟨fun pins sh σ H D I q => h.run pins sh σ H D I (s D σ H q)⟩
theorem PSs.mono {X : Cx} {e : List Stmt} {t t' : TS} (h : PSs X e t) (s : ∀ D σ H, t' D σ H → t D σ H) : PSs X e t' := ⟨fun pins sh σ H D I q => h.run pins sh σ H D I (s D σ H q)⟩
end Pb

namespace Pb
open PySem PySem.Spec L2

/-! ### the relation, moved -/
theorem Grow.ls {G G2 F F' : Hp} (l : Sub G G2) (h : Grow G2 F F') : Grow G F F' := h.less l.ne

theorem isOwn_iff {x : Option Sl} : isOwn x ↔ ∃ o, x = some (Sl.own o) ∨ x = some (Sl.inn o) := by
  cases x with
  | none => exact ⟨fun h => h.elim, fun ⟨o, h⟩ => by rcases h with h | h <;> cases h⟩
  | some s =>
    cases s with
    | non => exact ⟨fun h => h.elim, fun ⟨o, h⟩ => by rcases h with h | h <;> cases h⟩
    | val d => exact ⟨fun h => h.elim, fun ⟨o, h⟩ => by rcases h with h | h <;> cases h⟩
    | own o => exact ⟨fun _ => ⟨o, .inl rfl⟩, fun _ => trivial⟩
    | inn o => exact ⟨fun _ => ⟨o, .inr rfl⟩, fun _ => trivial⟩
    | frd k => exact ⟨fun h => h.elim, fun ⟨o, h⟩ => by rcases h with h | h <;> cases h⟩

section
variable {p : Pm} {σ0 : S0} {σ : Sg} {G G2 F F' H H' : Hp} {env env' : En}

theorem Rel.less (l : Sub G G2) (R : Rel p σ0 G2 F env σ H) : Rel p σ0 G F env σ H where
  gs := l.trans R.gs
  fs := R.fs
  gn := fun a ps e => R.gn a ps (l a _ e)
  fn := R.fn
  tb := R.tb
  len := R.len
  val := R.val
  own := fun i o h => let ⟨a, e1, e2, e3, e4⟩ := R.own i o h; ⟨a, e1, e2, e3, l.none e4⟩
  inj := R.inj
  inn := R.inn
  fix := R.fix
  cds := R.cds
  frd := R.frd
theorem RR.less (l : Sub G G2) {r : RV} {v : V} (h : RR p G2 F env σ H r v) : RR p G F env σ H r v := by
  cases r with
  | val d => exact h
  | fresh o => obtain ⟨a, e, b, f, g, i⟩ := h; exact ⟨a, e, b, f, l.none g, i⟩
  | slot i => exact h

/-- a result that waits is put into the frame -/
theorem RR.frame (R : Rel p σ0 G F env σ H) {r : RV} {v : V} (h : RR p G F env σ H r v) :
    ∃ G2, Sub G G2 ∧ Rel p σ0 G2 F env σ H ∧ (∀ o a, r = .fresh o → v = .ref a → G2 a ≠ none) ∧ ∀ F2 env2 H2, Grow G2 F F2 → Rel p σ0 G2 F2 env2 σ H2 → RR p G F2 env2 σ H2 r v := by
  cases r with
  | val d => exact ⟨G, .refl G, R, (fun _ _ z => by cases z), fun F2 _ _ g _ => Rp.mono g.sub d v h⟩
  | slot i => exact ⟨G, .refl G, R, (fun _ _ z => by cases z), fun F2 env2 _ g R2 => h⟩
  | fresh o =>
    obtain ⟨a, e, b, f, g, i⟩ := h
    obtain ⟨u, hu, nt⟩ := b.here
    refine ⟨upd G a u, fun c w q => ?_, ⟨R.gs.left hu, R.fs, R.gn.upd nt, R.fn, R.tb, R.len, R.val, fun j o' hj => ?_, R.inj, R.inn, R.fix, R.cds, R.frd⟩, fun o' a' _ e' => ?_, fun F2 env2 H2 gr R2 => ?_⟩
    · rw [upd_ne (ne_of_none q g)]
      exact q
    · obtain ⟨c, e1, e2, e3, e4⟩ := R.own j o' hj
      have hc : c ≠ a := fun z => i j (isOwn_iff.mpr ⟨o', hj⟩) (by rw [e1, z])
      exact ⟨c, e1, e2, e3, by rw [upd_ne hc]; exact e4⟩
    · rw [e] at e'
      cases e'
      rw [upd_same]
      exact fun z => by cases z
    · refine ⟨a, e, ?_, ?_, g, fun j hj z => ?_⟩
      · refine (b.mono gr.sub).stay fun w q => ?_
        rw [hu] at q
        cases q
        exact R2.gs a u upd_same
      · rw [gr.old a (by rw [upd_same]; exact fun z => by cases z)]
        exact f
      · obtain ⟨o', hj'⟩ := isOwn_iff.mp hj
        obtain ⟨c, e1, e2, e3, e4⟩ := R2.own j o' hj'
        rw [e1] at z
        cases z
        rw [upd_same] at e4
        cases e4

/-- the heap gets a new object, or whatever the relation does not look at -/
theorem Rel.heap (R : Rel p σ0 G F env σ H) (k : ∀ b u, H b = some u → H' b = some u) : Rel p σ0 G F env σ H' where
  gs := fun a o e => k a o (R.gs a o e)
  fs := fun a o e => k a o (R.fs a o e)
  gn := R.gn
  fn := R.fn
  tb := R.tb.ext k
  len := R.len
  val := R.val
  own := fun i o h => let ⟨a, e1, e2, e3, e4⟩ := R.own i o h; ⟨a, e1, e2.stay fun u q => k a u q, e3, e4⟩
  inj := R.inj
  inn := R.inn
  fix := R.fix
  cds := fun q hq => k _ _ (R.cds q hq)
  frd := R.frd
theorem keep_new {H : Hp} {q : Addr} {u : HO} (n : H q = none) : ∀ b o, H b = some o → upd H q u b = some o := fun b o e => by
  rw [upd_ne (ne_of_none e n)]
  exact e
theorem Rel.newObj {q : Addr} {u : HO} (R : Rel p σ0 G F env σ H) (n : H q = none) : Rel p σ0 G F env σ (upd H q u) := R.heap (keep_new n)
/-- F takes over an object that is no slot's -/
theorem Rel.take {a : Addr} {u : HO} (R : Rel p σ0 G F env σ H) (hu : H a = some u) (f : F a = none) (g : G a = none) (nt : ∀ ps, u ≠ .tbl ps) (ni : ∀ (i : Nat), isOwn env[i]? → σ[i]? ≠ some (some (V.ref a))) :
    Rel p σ0 G (upd F a u) env σ H ∧ Grow G F (upd F a u) := by
  have gr : Grow G F (upd F a u) := .new f g
  refine ⟨⟨R.gs, R.fs.left hu, R.gn, R.fn.upd nt, R.tb, R.len, fun i d h => ?_, fun i o h => ?_, R.inj, R.inn, R.fix, R.cds, R.frdm gr.sub⟩, gr⟩
  · obtain ⟨v, e1, e2⟩ := R.val i d h
    exact ⟨v, e1, Rp.mono gr.sub d v e2⟩
  · obtain ⟨c, e1, e2, e3, e4⟩ := R.own i o h
    have hc : c ≠ a := fun z => ni i (isOwn_iff.mpr ⟨o, h⟩) (by rw [e1, z])
    exact ⟨c, e1, e2.mono gr.sub, by rw [upd_ne hc]; exact e3, e4⟩

/-- a slot's object is frozen -/
def obD : Ob → Option D
  | .lst ds => some (.list ds)
  | .dct _ => none
theorem frd_set {i j : Nat} {x : Sl} {kvs : List (D × D)} (h : (env.set i x)[j]? = some (Sl.frd kvs)) (hx : x ≠ .frd kvs) : j ≠ i ∧ env[j]? = some (Sl.frd kvs) := by
  by_cases e : j = i
  · subst e
    by_cases hl : j < env.length
    · rw [List.getElem?_set_self hl] at h
      exact absurd (Option.some.inj h) hx
    · rw [List.getElem?_eq_none (by simpa using hl)] at h
      cases h
  · rw [List.getElem?_set_ne (Ne.symm e)] at h
    exact ⟨e, h⟩
theorem ObR.data {a : Addr} {o : Ob} {d : D} (h : ObR p F H a o) (e : obD o = some d) : ∃ (xs : List V) (ds : List D), H a = some (HO.lst xs) ∧ d = .list ds ∧ RpAll p.K F ds xs := by
  cases o with
  | lst ds =>
    obtain ⟨xs, h1, h2⟩ := h
    cases e
    exact ⟨xs, ds, h1, rfl, h2⟩
  | dct kvs => cases e
theorem fx_ne {f : Nat → Bool} {i j : Nat} (h : f i = false) (g : f j = true) : i ≠ j := fun z => by rw [z, g] at h; cases h
theorem set_get {α : Type} {l : List α} {i j : Nat} {x y : α} (h : (l.set i x)[j]? = some y) : (j = i ∧ y = x) ∨ (j ≠ i ∧ l[j]? = some y) := by
  by_cases e : j = i
  · subst e
    by_cases hl : j < l.length
    · rw [List.getElem?_set_self hl] at h
      exact .inl ⟨rfl, (Option.some.inj h).symm⟩
    · rw [List.getElem?_eq_none (by simpa using hl)] at h
      cases h
  · rw [List.getElem?_set_ne (Ne.symm e)] at h
    exact .inr ⟨e, h⟩
theorem isOwn_set {i j : Nat} {x : Sl} (h : isOwn (env.set i x)[j]?) : (j = i ∧ isOwn (some x)) ∨ (j ≠ i ∧ isOwn env[j]?) := by
  obtain ⟨o, h⟩ := isOwn_iff.mp h
  rcases h with h | h <;> rcases set_get h with ⟨e1, e2⟩ | ⟨e1, e2⟩
  · exact .inl ⟨e1, by rw [← e2]; trivial⟩
  · exact .inr ⟨e1, isOwn_iff.mpr ⟨o, .inl e2⟩⟩
  · exact .inl ⟨e1, by rw [← e2]; trivial⟩
  · exact .inr ⟨e1, isOwn_iff.mpr ⟨o, .inr e2⟩⟩

theorem Rel.freeze {i : Nat} {o : Ob} {d : D} (R : Rel p σ0 G F env σ H) (hi : env[i]? = some (Sl.own o)) (e : obD o = some d) :
    ∃ F', Grow G F F' ∧ Rel p σ0 G F' (env.set i (.val d)) σ H ∧ (∀ b, F b = none → (∀ (j : Nat), isOwn env[j]? → σ[j]? ≠ some (some (V.ref b))) → F' b = none) ∧ ∀ v, σ[i]? = some (some v) → Rp p.K F' d v := by
  obtain ⟨a, e1, e2, e3, e4⟩ := R.own i o (.inl hi)
  obtain ⟨xs, ds, h1, h2, h3⟩ := e2.data e
  subst h2
  have gr : Grow G F (upd F a (.lst xs)) := .new e3 e4
  have rp : Rp p.K (upd F a (.lst xs)) (.list ds) (.ref a) := ⟨a, xs, rfl, .inl upd_same, RpAll.mono gr.sub _ _ h3⟩
  refine ⟨upd F a (.lst xs), gr, ⟨R.gs, R.fs.left h1, R.gn, R.fn.upd (fun _ z => by cases z), R.tb, by simpa using R.len, fun j d' h => ?_, fun j o' h => ?_, fun j k b hj hk => ?_, fun j o' h => ?_, R.fix, R.cds, fun j kvs h => R.frdm gr.sub j kvs (frd_set h (fun z => by cases z)).2⟩, fun b hb hn => ?_, fun v hv => ?_⟩
  · rcases set_get h with ⟨q1, q2⟩ | ⟨q1, q2⟩
    · subst q1
      cases q2
      exact ⟨.ref a, e1, rp⟩
    · obtain ⟨v, w1, w2⟩ := R.val j d' q2
      exact ⟨v, w1, Rp.mono gr.sub _ _ w2⟩
  · have h' : j ≠ i ∧ (env[j]? = some (Sl.own o') ∨ env[j]? = some (Sl.inn o')) := by
      rcases h with h | h <;> rcases set_get h with ⟨q1, q2⟩ | ⟨q1, q2⟩
      · cases q2
      · exact ⟨q1, .inl q2⟩
      · cases q2
      · exact ⟨q1, .inr q2⟩
    obtain ⟨c, w1, w2, w3, w4⟩ := R.own j o' h'.2
    have hc : c ≠ a := fun z => h'.1 (R.inj j i a (isOwn_iff.mpr ⟨o', h'.2⟩) (isOwn_iff.mpr ⟨o, .inl hi⟩) (by rw [w1, z]) e1)
    exact ⟨c, w1, w2.mono gr.sub, by rw [upd_ne hc]; exact w3, w4⟩
  · rcases isOwn_set hj with ⟨_, z⟩ | ⟨_, hj'⟩
    · exact z.elim
    · rcases isOwn_set hk with ⟨_, z⟩ | ⟨_, hk'⟩
      · exact z.elim
      · exact R.inj j k b hj' hk'
  · rcases set_get h with ⟨_, q2⟩ | ⟨_, q2⟩
    · cases q2
    · exact R.inn j o' q2
  · have hba : b ≠ a := fun z => hn i (isOwn_iff.mpr ⟨o, .inl hi⟩) (by rw [e1, z])
    rw [upd_ne hba]
    exact hb
  · rw [e1] at hv
    cases hv
    exact rp

/-- a slot's dict is frozen -/
theorem Rel.freezeD {i : Nat} {kvs : List (D × D)} (R : Rel p σ0 G F env σ H) (hi : env[i]? = some (Sl.own (.dct kvs))) :
    ∃ F', Grow G F F' ∧ Rel p σ0 G F' (env.set i (.frd kvs)) σ H := by
  obtain ⟨a, e1, ⟨o, es, h1, h3⟩, e3, e4⟩ := R.own i _ (.inl hi)
  have gr : Grow G F (upd F a (DctO p.w a o es)) := .new e3 e4
  refine ⟨_, gr, ⟨R.gs, R.fs.left h1, R.gn, R.fn.upd (fun _ z => by unfold DctO at z; cases z), R.tb, by simpa using R.len, fun j d' h => ?_, fun j o' h => ?_, fun j k b hj hk => ?_, fun j o' h => ?_, R.fix, R.cds, fun j kv h => ?_⟩⟩
  · rcases set_get h with ⟨q1, q2⟩ | ⟨q1, q2⟩
    · cases q2
    · obtain ⟨v, w1, w2⟩ := R.val j d' q2
      exact ⟨v, w1, Rp.mono gr.sub _ _ w2⟩
  · have h' : j ≠ i ∧ (env[j]? = some (Sl.own o') ∨ env[j]? = some (Sl.inn o')) := by
      rcases h with h | h <;> rcases set_get h with ⟨q1, q2⟩ | ⟨q1, q2⟩
      · cases q2
      · exact ⟨q1, .inl q2⟩
      · cases q2
      · exact ⟨q1, .inr q2⟩
    obtain ⟨c, w1, w2, w3, w4⟩ := R.own j o' h'.2
    have hc : c ≠ a := fun z => h'.1 (R.inj j i a (isOwn_iff.mpr ⟨o', h'.2⟩) (isOwn_iff.mpr ⟨_, .inl hi⟩) (by rw [w1, z]) e1)
    exact ⟨c, w1, w2.mono gr.sub, by rw [upd_ne hc]; exact w3, w4⟩
  · rcases isOwn_set hj with ⟨_, z⟩ | ⟨_, hj'⟩
    · exact z.elim
    · rcases isOwn_set hk with ⟨_, z⟩ | ⟨_, hk'⟩
      · exact z.elim
      · exact R.inj j k b hj' hk'
  · rcases set_get h with ⟨_, q2⟩ | ⟨_, q2⟩
    · cases q2
    · exact R.inn j o' q2
  · rcases set_get h with ⟨q1, q2⟩ | ⟨q1, q2⟩
    · cases q2
      subst q1
      exact ⟨a, e1, o, es, upd_same, h3.mono gr.sub⟩
    · exact R.frdm gr.sub j kv q2

/-- a slot gets data -/
theorem Rel.setVal {i : Nat} {d : D} {v : V} (R : Rel p σ0 G F env σ H) (hk : σ0.fx i = false) (hn : ∀ o, env[i]? ≠ some (Sl.inn o)) (r : Rp p.K F d v) : Rel p σ0 G F (env.set i (.val d)) (σ.set i (some v)) H where
  cds := R.cds
  frd := fun j kvs h => by
    obtain ⟨e, h⟩ := frd_set h (fun z => by cases z)
    rw [List.getElem?_set_ne (Ne.symm e)]
    exact R.frd j kvs h
  fix := fun j hj => by rw [List.getElem?_set_ne (fx_ne hk hj)]; exact R.fix j hj
  gs := R.gs
  fs := R.fs
  gn := R.gn
  fn := R.fn
  tb := R.tb
  len := by simpa using R.len
  val := fun j d' h => by
    rcases set_get h with ⟨q1, q2⟩ | ⟨q1, q2⟩
    · subst q1
      cases q2
      have hl : j < env.length := by
        have := (List.getElem?_eq_some_iff.mp h).1
        simpa using this
      exact ⟨v, List.getElem?_set_self (by rw [← R.len]; exact hl), r⟩
    · obtain ⟨u, w1, w2⟩ := R.val j d' q2
      exact ⟨u, by rw [List.getElem?_set_ne (Ne.symm q1)]; exact w1, w2⟩
  own := fun j o h => by
    have h' : j ≠ i ∧ (env[j]? = some (Sl.own o) ∨ env[j]? = some (Sl.inn o)) := by
      rcases h with h | h <;> rcases set_get h with ⟨q1, q2⟩ | ⟨q1, q2⟩
      · cases q2
      · exact ⟨q1, .inl q2⟩
      · cases q2
      · exact ⟨q1, .inr q2⟩
    obtain ⟨c, w1, w2⟩ := R.own j o h'.2
    exact ⟨c, by rw [List.getElem?_set_ne (Ne.symm h'.1)]; exact w1, w2⟩
  inj := fun j k b hj hk => by
    rcases isOwn_set hj with ⟨_, z⟩ | ⟨nj, hj'⟩
    · exact z.elim
    · rcases isOwn_set hk with ⟨_, z⟩ | ⟨nk, hk'⟩
      · exact z.elim
      · rw [List.getElem?_set_ne (Ne.symm nj), List.getElem?_set_ne (Ne.symm nk)]
        exact R.inj j k b hj' hk'
  inn := fun j o h => by
    rcases set_get h with ⟨_, q2⟩ | ⟨q1, q2⟩
    · cases q2
    · rw [List.getElem?_set_ne (Ne.symm q1)]
      exact R.inn j o q2
/-- a slot gets a new object -/
theorem Rel.setOwn {i : Nat} {o : Ob} {v : V} (R : Rel p σ0 G F env σ H) (hk : σ0.fx i = false) (hn : ∀ o, env[i]? ≠ some (Sl.inn o)) (r : RR p G F env σ H (.fresh o) v) : Rel p σ0 G F (env.set i (.own o)) (σ.set i (some v)) H := by
  obtain ⟨a, e, b, f, g, ni⟩ := r
  subst e
  refine ⟨R.gs, R.fs, R.gn, R.fn, R.tb, by simpa using R.len, fun j d' h => ?_, fun j o' h => ?_, fun j k b hj hk => ?_, fun j o' h => ?_, fun j hj => by rw [List.getElem?_set_ne (fx_ne hk hj)]; exact R.fix j hj, R.cds, fun j kvs h => by
    obtain ⟨e, h⟩ := frd_set h (fun z => by cases z)
    rw [List.getElem?_set_ne (Ne.symm e)]
    exact R.frd j kvs h⟩
  · rcases set_get h with ⟨q1, q2⟩ | ⟨q1, q2⟩
    · cases q2
    · obtain ⟨u, w1, w2⟩ := R.val j d' q2
      exact ⟨u, by rw [List.getElem?_set_ne (Ne.symm q1)]; exact w1, w2⟩
  · by_cases hj : j = i
    · subst hj
      have hl : j < env.length := by
        rcases h with h | h <;> (have := (List.getElem?_eq_some_iff.mp h).1; simpa using this)
      have eo : o' = o := by
        rcases h with h | h <;> (rw [List.getElem?_set_self hl] at h; cases h)
        rfl
      subst eo
      exact ⟨a, List.getElem?_set_self (by rw [← R.len]; exact hl), b, f, g⟩
    · have h' : env[j]? = some (Sl.own o') ∨ env[j]? = some (Sl.inn o') := by
        rw [List.getElem?_set_ne (Ne.symm hj)] at h
        exact h
      obtain ⟨c, w1, w2⟩ := R.own j o' h'
      exact ⟨c, by rw [List.getElem?_set_ne (Ne.symm hj)]; exact w1, w2⟩
  · have key : ∀ {x y : Nat}, x = i → y ≠ i → isOwn env[y]? → (σ.set i (some (V.ref a)))[x]? = some (some (V.ref b)) → (σ.set i (some (V.ref a)))[y]? = some (some (V.ref b)) → False := fun {x y} hx hy oy e1 e2 => by
      subst hx
      rw [List.getElem?_set_ne (Ne.symm hy)] at e2
      by_cases hl : x < σ.length
      · rw [List.getElem?_set_self hl] at e1
        cases e1
        exact ni y oy e2
      · rw [List.getElem?_eq_none (by simpa using hl)] at e1
        cases e1
    intro e1 e2
    rcases isOwn_set hj with ⟨q1, _⟩ | ⟨q1, hj'⟩
    · rcases isOwn_set hk with ⟨q2, _⟩ | ⟨q2, hk'⟩
      · rw [q1, q2]
      · exact (key q1 q2 hk' e1 e2).elim
    · rcases isOwn_set hk with ⟨q2, _⟩ | ⟨q2, hk'⟩
      · exact (key q2 q1 hj' e2 e1).elim
      · rw [List.getElem?_set_ne (Ne.symm q1)] at e1
        rw [List.getElem?_set_ne (Ne.symm q2)] at e2
        exact R.inj j k b hj' hk' e1 e2
  · rcases set_get h with ⟨_, q2⟩ | ⟨q1, q2⟩
    · cases q2
    · rw [List.getElem?_set_ne (Ne.symm q1)]
      exact R.inn j o' q2

/-- the object of a slot is written -/
def putOb (s : Sl) (o : Ob) : Sl := match s with
  | .inn _ => .inn o
  | _ => .own o
def slOb : Sl → Option Ob
  | .own o => some o
  | .inn o => some o
  | _ => none
theorem slOb_or {i : Nat} {s : Sl} {o : Ob} (hi : env[i]? = some s) (h : slOb s = some o) : env[i]? = some (Sl.own o) ∨ env[i]? = some (Sl.inn o) := by
  cases s with
  | own o' => cases h; exact .inl hi
  | inn o' => cases h; exact .inr hi
  | non => cases h
  | val d => cases h
  | frd k => cases h
theorem putOb_frd {s : Sl} {o : Ob} {k : List (D × D)} : putOb s o ≠ .frd k := by
  cases s <;> exact fun z => by cases z
theorem heap_n : ∀ n : Nat, ∃ h : Heap, h.objs.size = n
  | 0 => ⟨{ objs := #[] }, rfl⟩
  | n + 1 => by
    obtain ⟨h, e⟩ := heap_n n
    exact ⟨h.push { cls := .none, data := .fields #[] }, by rw [PyProof.Rows.size_push', e]⟩
theorem codeO_dct {w : World} {a : Addr} {x : Str} {o : Obj} {es : List Ent} (h : LamX.CodeO a x = DctO w a o es) : False := by
  unfold LamX.CodeO DctO at h
  injection h with h
  obtain ⟨g, rfl⟩ := heap_n a
  have q := congrFun h (g.push { cls := .none, data := .fields #[.none, .str x 0] })
  have l : ∃ (oc : Obj) (vs : Array Value) (t : Tok), (g.push { cls := .none, data := .fields #[.none, .str x 0] }).get? g.objs.size = some oc ∧ oc.data = .fields vs ∧ vs[1]? = some (.str x t) := ⟨_, _, 0, Heap.get?_push_size _ rfl, rfl, rfl⟩
  rw [q] at l
  obtain ⟨es, ep, ho, _, hd, _⟩ := l
  rw [Heap.get?_push_size _ rfl] at ho
  cases ho
  cases hd
theorem Rel.write {i : Nat} {s : Sl} {o o' : Ob} {a : Addr} {u : HO} (R : Rel p σ0 G F env σ H) (hi : env[i]? = some s) (hs : slOb s = some o) (ha : σ[i]? = some (some (V.ref a))) (hb : ObR p F (upd H a u) a o') (nt : ∀ ps, H a ≠ some (.tbl ps)) :
    Rel p σ0 G F (env.set i (putOb s o')) σ (upd H a u) := by
  have ow := slOb_or hi hs
  obtain ⟨a', e1, e2, e3, e4⟩ := R.own i o ow
  have ea : a' = a := by
    rw [ha] at e1
    cases e1
    rfl
  subst ea
  have hl : i < env.length := (List.getElem?_eq_some_iff.mp hi).1
  refine ⟨R.gs.upd e4, R.fs.upd e3, R.gn, R.fn, fun q hq => ?_, by simpa using R.len, fun j d' h => ?_, fun j w h => ?_, fun j k b hj hk => ?_, fun j w h => ?_, R.fix, fun q hq => ?_, fun j kvs h => R.frd j kvs (frd_set h putOb_frd).2⟩
  · obtain ⟨ps, h1, h2, h3⟩ := R.tb q hq
    have hne : q.1 ≠ a' := fun z => nt ps (by rw [← z]; exact h1)
    refine ⟨ps, by rw [upd_ne hne]; exact h1, h2, fun pos cv hc => ?_⟩
    obtain ⟨c, w1, w2⟩ := h3 pos cv hc
    refine ⟨c, w1, ?_⟩
    have hne2 : c ≠ a' := fun z => by
      rw [z] at w2
      cases o with
      | lst ds =>
        obtain ⟨xs, x1, _⟩ := e2
        rw [w2] at x1
        unfold LamX.CodeO at x1
        cases x1
      | dct kvs =>
        obtain ⟨oo, es, x1, _⟩ := e2
        rw [w2] at x1
        exact codeO_dct (Option.some.inj x1)
    rw [upd_ne hne2]
    exact w2
  · rcases set_get h with ⟨q1, q2⟩ | ⟨q1, q2⟩
    · cases s <;> cases q2
    · exact R.val j d' q2
  · by_cases hj : j = i
    · subst hj
      have ew : w = o' := by
        rcases h with h | h <;> (rw [List.getElem?_set_self hl] at h; cases s <;> cases h <;> rfl)
      subst ew
      exact ⟨a', ha, hb, e3, e4⟩
    · rw [List.getElem?_set_ne (Ne.symm hj)] at h
      obtain ⟨c, w1, w2, w3, w4⟩ := R.own j w h
      have hc : c ≠ a' := fun z => hj (R.inj j i a' (isOwn_iff.mpr ⟨w, h⟩) (isOwn_iff.mpr ⟨o, ow⟩) (by rw [w1, z]) ha)
      exact ⟨c, w1, w2.stay fun v q => by rw [upd_ne hc]; exact q, w3, w4⟩
  · have back : ∀ {x : Nat}, isOwn (env.set i (putOb s o'))[x]? → isOwn env[x]? := fun {x} h => by
      rcases isOwn_set h with ⟨q1, _⟩ | ⟨_, q2⟩
      · rw [q1]
        exact isOwn_iff.mpr ⟨o, ow⟩
      · exact q2
    exact R.inj j k b (back hj) (back hk)
  · by_cases hj : j = i
    · subst hj
      rw [List.getElem?_set_self hl] at h
      cases s with
      | inn o2 => exact R.inn j o2 hi
      | own o2 => cases h
      | non => cases hs
      | val d => cases hs
      | frd k => cases hs
    · rw [List.getElem?_set_ne (Ne.symm hj)] at h
      exact R.inn j w h
  · have w2 := R.cds q hq
    have hne2 : q.1 ≠ a' := fun z => by
      rw [z] at w2
      cases o with
      | lst ds =>
        obtain ⟨xs, x1, _⟩ := e2
        rw [w2] at x1
        unfold LamX.CodeO at x1
        cases x1
      | dct kvs =>
        obtain ⟨oo, es, x1, _⟩ := e2
        rw [w2] at x1
        exact codeO_dct (Option.some.inj x1)
    rw [upd_ne hne2]
    exact w2
end

/-! ### reading a result -/
/-- the top of the data is read in H, what is within stands in F -/
def Rt (K : PySem.W.Frag) (F H : Hp) : D → V → Prop
  | .list ds, v => ∃ a xs, v = .ref a ∧ Rd H a (.lst xs) ∧ RpAll K F ds xs
  | d, v => Rp K F d v
theorem Rt.of {K : PySem.W.Frag} {F H : Hp} (s : Sub F H) {d : D} {v : V} (h : Rp K F d v) : Rt K F H d v := by
  cases d with
  | list ds =>
    obtain ⟨a, xs, e, r, q⟩ := h
    exact ⟨a, xs, e, s.rdl r, q⟩
  | _ => exact h
/-- .. everything in H -/
theorem Rt.rp {K : PySem.W.Frag} {F H : Hp} (s : Sub F H) {d : D} {v : V} (h : Rt K F H d v) : Rp K H d v := by
  cases d with
  | list ds =>
    obtain ⟨a, xs, e, r, q⟩ := h
    exact ⟨a, xs, e, r, RpAll.mono s _ _ q⟩
  | _ => exact Rp.mono s _ _ h
def obRd : Ob → Option D
  | .lst ds => some (.list ds)
  | .dct _ => none
def rd (env : En) : RV → Option D
  | .val d => some d
  | .fresh o => obRd o
  | .slot i => match env[i]? with
    | some (.val d) => some d
    | some (.own o) => obRd o
    | some (.inn o) => obRd o
    | _ => none
section
variable {p : Pm} {σ0 : S0} {σ : Sg} {G G2 F F' H H' : Hp} {env env' : En}
theorem obRd_ok {a : Addr} {o : Ob} {d : D} (h : ObR p F H a o) (e : obRd o = some d) : Rt p.K F H d (.ref a) := by
  cases o with
  | lst ds =>
    cases e
    obtain ⟨xs, h1, h2⟩ := h
    exact ⟨a, xs, rfl, .inl h1, h2⟩
  | dct kvs => cases e
theorem rd_ok {r : RV} {v : V} {d : D} (R : Rel p σ0 G F env σ H) (h : RR p G F env σ H r v) (e : rd env r = some d) : Rt p.K F H d v := by
  cases r with
  | val d' =>
    cases e
    exact .of R.fs h
  | fresh o =>
    obtain ⟨a, q, b, _⟩ := h
    subst q
    exact obRd_ok b e
  | slot i =>
    have hv : σ[i]? = some (some v) := h
    cases hs : env[i]? with
    | none => simp [rd, hs] at e
    | some s =>
      cases s with
      | non => simp [rd, hs] at e
      | frd k => simp [rd, hs] at e
      | val d' =>
        simp [rd, hs] at e
        subst e
        obtain ⟨u, w1, w2⟩ := R.val i d' hs
        rw [hv] at w1
        cases w1
        exact .of R.fs w2
      | own o =>
        simp [rd, hs] at e
        obtain ⟨a, w1, w2, _⟩ := R.own i o (.inl hs)
        rw [hv] at w1
        cases w1
        exact obRd_ok w2 e
      | inn o =>
        simp [rd, hs] at e
        obtain ⟨a, w1, w2, _⟩ := R.own i o (.inr hs)
        rw [hv] at w1
        cases w1
        exact obRd_ok w2 e
/-- a result becomes data for good -/
def frz (env : En) : RV → Option (D × En)
  | .val d => some (d, env)
  | .fresh o => (obD o).map (·, env)
  | .slot i => match env[i]? with
    | some (.val d) => some (d, env)
    | some (.own o) => (obD o).map fun d => (d, env.set i (.val d))
    | _ => none
theorem frz_ok {r : RV} {v : V} {d : D} (R : Rel p σ0 G F env σ H) (h : RR p G F env σ H r v) (e : frz env r = some (d, env')) : ∃ F', Grow G F F' ∧ Rel p σ0 G F' env' σ H ∧ Rp p.K F' d v := by
  cases r with
  | val d' =>
    cases e
    exact ⟨F, .refl G F, R, h⟩
  | fresh o =>
    obtain ⟨a, q, b, f, g, ni⟩ := h
    subst q
    cases ho : obD o with
    | none => simp [frz, ho] at e
    | some d' =>
      simp [frz, ho] at e
      obtain ⟨rfl, rfl⟩ := e
      obtain ⟨xs, ds, h1, h2, h3⟩ := b.data ho
      obtain ⟨R', gr⟩ := R.take h1 f g (fun _ z => by cases z) ni
      subst h2
      exact ⟨_, gr, R', a, xs, rfl, .inl upd_same, RpAll.mono gr.sub _ _ h3⟩
  | slot i =>
    have hv : σ[i]? = some (some v) := h
    cases hs : env[i]? with
    | none => simp [frz, hs] at e
    | some s =>
      cases s with
      | non => simp [frz, hs] at e
      | frd k => simp [frz, hs] at e
      | inn o => simp [frz, hs] at e
      | val d' =>
        simp [frz, hs] at e
        obtain ⟨rfl, rfl⟩ := e
        obtain ⟨u, w1, w2⟩ := R.val i d' hs
        rw [hv] at w1
        cases w1
        exact ⟨F, .refl G F, R, w2⟩
      | own o =>
        cases ho : obD o with
        | none => simp [frz, hs, ho] at e
        | some d' =>
          simp [frz, hs, ho] at e
          obtain ⟨rfl, rfl⟩ := e
          obtain ⟨F', gr, R', _, q⟩ := R.freeze hs ho
          exact ⟨F', gr, R', q v hv⟩
end

/-! ### two, one operands -/
inductive OV where
  | dat (d : D)
  | ntup (ds : List D)
  | nlst (ds : List D)
def OV.rv : OV → RV
  | .dat d => .val d
  | .ntup ds => .val (.tuple ds)
  | .nlst ds => .fresh (.lst ds)
/-- what an operation on values gives -/
def OVR (K : PySem.W.Frag) (F H : Hp) (o : OV) (v : V) (H' : Hp) : Prop := match o with
  | .dat d => H' = H ∧ Rp K F d v
  | .ntup ds => (H' = H ∧ Rp K F (.tuple ds) v) ∨ (∃ q xs, H q = none ∧ H' = upd H q (.tup xs) ∧ v = .ref q ∧ RpAll K F ds xs)
  | .nlst ds => (∃ q xs, H q = none ∧ H' = upd H q (.lst xs) ∧ v = .ref q ∧ RpAll K F ds xs)

/-! ### one after another -/
theorem pend {p : Pm} {σ0 : S0} {σ : Sg} {G F H : Hp} {env : En} (R : Rel p σ0 G F env σ H) : ∀ {L : List (RV × V)}, (∀ q ∈ L, RR p G F env σ H q.1 q.2) →
    ∃ G2, Sub G G2 ∧ Rel p σ0 G2 F env σ H ∧ ∀ F2 env2 H2, Grow G2 F F2 → Rel p σ0 G2 F2 env2 σ H2 → ∀ q ∈ L, RR p G F2 env2 σ H2 q.1 q.2
  | [], _ => ⟨G, .refl G, R, fun _ _ _ _ _ q hq => absurd hq (by simp)⟩
  | (r, v) :: L, h => by
    obtain ⟨G1, l1, R1, k1⟩ := pend R (L := L) fun q hq => h q (List.mem_cons_of_mem _ hq)
    have h0 : RR p G F env σ H r v := h (r, v) List.mem_cons_self
    have fin : ∀ {G2 : Hp}, Sub G1 G2 → Rel p σ0 G2 F env σ H → (∀ F2 env2 H2, Grow G2 F F2 → Rel p σ0 G2 F2 env2 σ H2 → RR p G F2 env2 σ H2 r v) →
        ∃ G2, Sub G G2 ∧ Rel p σ0 G2 F env σ H ∧ ∀ F2 env2 H2, Grow G2 F F2 → Rel p σ0 G2 F2 env2 σ H2 → ∀ q ∈ (r, v) :: L, RR p G F2 env2 σ H2 q.1 q.2 := fun {G2} l R2 k =>
      ⟨G2, l1.trans l, R2, fun F2 env2 H2 gr Rn q hq => by
        rcases List.mem_cons.mp hq with e | hq
        · rw [e]
          exact k F2 env2 H2 gr Rn
        · exact k1 F2 env2 H2 (gr.ls l) (Rn.less l) q hq⟩
    cases r with
    | val d => exact fin (.refl G1) R1 fun F2 _ _ gr _ => Rp.mono gr.sub d v h0
    | slot i => exact fin (.refl G1) R1 fun _ _ _ _ _ => h0
    | fresh o =>
      obtain ⟨a, e, b, f, g, i⟩ := h0
      cases ha : G1 a with
      | none =>
        obtain ⟨G2, l2, R2, _, k2⟩ := RR.frame (v := v) R1 (r := .fresh o) ⟨a, e, b, f, ha, i⟩
        exact fin l2 R2 fun F2 env2 H2 gr Rn => (k2 F2 env2 H2 gr Rn).less l1
      | some u =>
        refine fin (.refl G1) R1 fun F2 env2 H2 gr Rn => ⟨a, e, ?_, ?_, g, fun j hj z => ?_⟩
        · refine (b.mono gr.sub).stay fun w q => ?_
          have e1 := R1.gs a u ha
          rw [q] at e1
          cases e1
          exact Rn.gs a _ ha
        · rw [gr.old a (by rw [ha]; exact fun z => by cases z)]
          exact f
        · obtain ⟨o', hj'⟩ := isOwn_iff.mp hj
          obtain ⟨c, e1, e2, e3, e4⟩ := Rn.own j o' hj'
          rw [e1] at z
          cases z
          rw [ha] at e4
          cases e4
section
variable {p : Pm} {σ0 : S0} {σ : Sg} {G F H H' : Hp} {env env' : En} {W : WX} {β γ : Type} {Ok : β → En → Hp → Hp → Prop}
theorem GoodB.shift {x : Res (β × En)} {F' : Hp} (g : Grow G F F') (h : GoodB p σ0 G F σ W Ok x) : GoodB p σ0 G F' σ W Ok x := by
  cases x with
  | ok r => exact fun H' F2 g2 R => h H' F2 (g.trans g2) R
  | exc c e => exact fun cls d H' F2 g2 R x => h cls d H' F2 (g.trans g2) R x
  | bad => exact h
/-- the first part of a run, in a wider frame -/
theorem GoodB.part {α : Type} {x : Res (α × En)} {k : α × En → Res (β × En)} {Ok1 : α → En → Hp → Hp → Prop} {G2 : Hp} (l : Sub G G2) (h : GoodB p σ0 G F σ W Ok (x.bind k))
    (hk : ∀ a env2 F2 H2, Grow G2 F F2 → Rel p σ0 G2 F2 env2 σ H2 → GoodB p σ0 G F2 σ W Ok (k (a, env2)) → Ok1 a env2 F2 H2) : GoodB p σ0 G2 F σ W Ok1 x := by
  cases x with
  | ok r =>
    obtain ⟨a, env2⟩ := r
    exact fun H2 F2 g2 R2 => hk a env2 F2 H2 g2 R2 (GoodB.shift (g2.ls l) h)
  | exc c e => exact fun cls d H' F2 g2 R x => h cls d H' F2 (g2.ls l) (R.less l) x
  | bad => exact h
/-- the next operand, others waiting -/
theorem next {L : List (RV × V)} {ev : En → Res (RV × En)} {k : RV × En → Res (β × En)} {Q1 : VK} (R : Rel p σ0 G F env σ H) (hL : ∀ q ∈ L, RR p G F env σ H q.1 q.2) (g : GoodB p σ0 G F σ W Ok ((ev env).bind k))
    (hk : ∀ r v F2 env2 H2, Grow G F F2 → Rel p σ0 G F2 env2 σ H2 → RR p G F2 env2 σ H2 r v → (∀ q ∈ L, RR p G F2 env2 σ H2 q.1 q.2) → GoodB p σ0 G F2 σ W Ok (k (r, env2)) → Q1 v H2) : tE p σ0 W ev σ H Q1 := by
  obtain ⟨G2, l, R2, kp⟩ := pend R hL
  refine ⟨G2, F, env, R2, g.part l fun r env2 F2 H2 gr Rn gk v hv => ?_⟩
  exact hk r v F2 env2 H2 (gr.ls l) (Rn.less l) (hv.less l) (kp F2 env2 H2 gr Rn) gk
theorem nextT {L : List (RV × V)} {ev : En → Res (Bool × En)} {k : Bool × En → Res (β × En)} {Q1 : Bool → Hp → Prop} (R : Rel p σ0 G F env σ H) (hL : ∀ q ∈ L, RR p G F env σ H q.1 q.2) (g : GoodB p σ0 G F σ W Ok ((ev env).bind k))
    (hk : ∀ b F2 env2 H2, Grow G F F2 → Rel p σ0 G F2 env2 σ H2 → (∀ q ∈ L, RR p G F2 env2 σ H2 q.1 q.2) → GoodB p σ0 G F2 σ W Ok (k (b, env2)) → Q1 b H2) : tT p σ0 W ev σ H Q1 := by
  obtain ⟨G2, l, R2, kp⟩ := pend R hL
  refine ⟨G2, F, env, R2, g.part l fun b env2 F2 H2 gr Rn gk => ?_⟩
  exact hk b F2 env2 H2 (gr.ls l) (Rn.less l) (kp F2 env2 H2 gr Rn) gk
/-- an operation's outcome -/
theorem ov_out {o : OV} {Q : VK} (R : Rel p σ0 G F env σ H) (g : GoodB p σ0 G F σ W (OkE p G σ Q) (.ok (o.rv, env))) {v : V} (h : OVR p.K F H o v H') : Q v H' := by
  cases o with
  | dat d =>
    obtain ⟨e, r⟩ := h
    subst e
    exact g H' F (.refl G F) R v r
  | ntup ds =>
    rcases h with ⟨e, r⟩ | ⟨q, xs, n, e, ev, r⟩
    · subst e
      exact g H' F (.refl G F) R v r
    subst e ev
    have n1 : F q = none := R.fs.none n
    have n2 : G q = none := R.gs.none n
    obtain ⟨R2, gr⟩ := (R.newObj (u := .tup xs) n).take upd_same n1 n2 (fun _ z => by cases z) fun i hi z => by
      obtain ⟨o, ho⟩ := isOwn_iff.mp hi
      obtain ⟨a, e1, e2, _⟩ := R.own i o ho
      obtain ⟨u, hu, _⟩ := e2.here
      rw [e1] at z
      cases z
      rw [n] at hu
      cases hu
    exact g _ _ gr R2 _ ⟨q, xs, rfl, .inl (.inl upd_same), RpAll.mono gr.sub _ _ r⟩
  | nlst ds =>
    obtain ⟨q, xs, n, e, ev, r⟩ := h
    subst e ev
    refine g _ F (.refl G F) (R.newObj n) _ ⟨q, rfl, ⟨xs, upd_same, r⟩, R.fs.none n, R.gs.none n, fun i hi z => ?_⟩
    obtain ⟨o, ho⟩ := isOwn_iff.mp hi
    obtain ⟨a, e1, e2, _⟩ := R.own i o ho
    obtain ⟨u, hu, _⟩ := e2.here
    rw [e1] at z
    cases z
    rw [n] at hu
    cases hu
end
/-- an operation on two data, as a reading's part takes it -/
def Op2Ok (K : PySem.W.Frag) (f : D → D → Option OV) (r : R2) : Prop :=
  ∀ F H d1 d2 v1 v2 o Q, Sub F H → Rt K F H d1 v1 → Rt K F H d2 v2 → f d1 d2 = some o → (∀ v' H', OVR K F H o v' H' → Q v' H') → r v1 v2 H Q
def Op1Ok (K : PySem.W.Frag) (f : D → Option OV) (r : V → Hp → VK → Prop) : Prop :=
  ∀ F H d v o Q, Sub F H → Rt K F H d v → f d = some o → (∀ v' H', OVR K F H o v' H' → Q v' H') → r v H Q
def Op3Ok (K : PySem.W.Frag) (f : D → D → D → Option OV) (r : V → V → V → Hp → VK → Prop) : Prop :=
  ∀ F H d1 d2 d3 v1 v2 v3 o Q, Sub F H → Rt K F H d1 v1 → Rt K F H d2 v2 → Rt K F H d3 v3 → f d1 d2 d3 = some o → (∀ v' H', OVR K F H o v' H' → Q v' H') → r v1 v2 v3 H Q
def resOV (o : Option OV) (env : En) : Res (RV × En) := match o with
  | some o => .ok (o.rv, env)
  | none => .bad
def ap1 (f : D → Option OV) (r : RV) (env : En) : Res (RV × En) := resOV ((rd env r).bind f) env
def ap2 (f : D → D → Option OV) (r s : RV) (env : En) : Res (RV × En) := resOV ((rd env r).bind fun x => (rd env s).bind fun y => f x y) env
def ap3 (f : D → D → D → Option OV) (r s t : RV) (env : En) : Res (RV × En) := resOV ((rd env r).bind fun x => (rd env s).bind fun y => (rd env t).bind fun z => f x y z) env
section
variable {p : Pm} {σ0 : S0} {σ : Sg} {G F H H' : Hp} {env env' : En} {W : WX} {Q : VK}
theorem ap1_out {f : D → Option OV} {rr : V → Hp → VK → Prop} (ok : Op1Ok p.K f rr) {r : RV} {v : V} (R : Rel p σ0 G F env σ H) (hr : RR p G F env σ H r v) (g : GoodB p σ0 G F σ W (OkE p G σ Q) (ap1 f r env)) : rr v H Q := by
  unfold ap1 at g
  cases h1 : rd env r with
  | none => rw [h1] at g; exact g.elim
  | some x =>
    rw [h1] at g
    cases h2 : f x with
    | none => simp only [Option.bind, h2] at g; exact g.elim
    | some o =>
      simp only [Option.bind, h2] at g
      exact ok F H x v o Q R.fs (rd_ok R hr h1) h2 fun v' H' h => ov_out R g h
theorem ap2_out {f : D → D → Option OV} {rr : R2} (ok : Op2Ok p.K f rr) {r s : RV} {v u : V} (R : Rel p σ0 G F env σ H) (hr : RR p G F env σ H r v) (hs : RR p G F env σ H s u) (g : GoodB p σ0 G F σ W (OkE p G σ Q) (ap2 f r s env)) : rr v u H Q := by
  unfold ap2 at g
  cases h1 : rd env r with
  | none => rw [h1] at g; exact g.elim
  | some x =>
    rw [h1] at g
    cases h2 : rd env s with
    | none => simp only [Option.bind, h2] at g; exact g.elim
    | some y =>
      cases h3 : f x y with
      | none => simp only [Option.bind, h2, h3] at g; exact g.elim
      | some o =>
        simp only [Option.bind, h2, h3] at g
        exact ok F H x y v u o Q R.fs (rd_ok R hr h1) (rd_ok R hs h2) h3 fun v' H' h => ov_out R g h
theorem ap3_out {f : D → D → D → Option OV} {rr : V → V → V → Hp → VK → Prop} (ok : Op3Ok p.K f rr) {r s t : RV} {v u w : V} (R : Rel p σ0 G F env σ H) (hr : RR p G F env σ H r v) (hs : RR p G F env σ H s u) (ht : RR p G F env σ H t w)
    (g : GoodB p σ0 G F σ W (OkE p G σ Q) (ap3 f r s t env)) : rr v u w H Q := by
  unfold ap3 at g
  cases h1 : rd env r with
  | none => rw [h1] at g; exact g.elim
  | some x =>
    rw [h1] at g
    cases h2 : rd env s with
    | none => simp only [Option.bind, h2] at g; exact g.elim
    | some y =>
      cases h3 : rd env t with
      | none => simp only [Option.bind, h2, h3] at g; exact g.elim
      | some z =>
        cases h4 : f x y z with
        | none => simp only [Option.bind, h2, h3, h4] at g; exact g.elim
        | some o =>
          simp only [Option.bind, h2, h3, h4] at g
          exact ok F H x y z v u w o Q R.fs (rd_ok R hr h1) (rd_ok R hs h2) (rd_ok R ht h3) h4 fun v' H' h => ov_out R g h
def ev1 (f : D → Option OV) (e1 : En → Res (RV × En)) : En → Res (RV × En) := fun env => (e1 env).bind fun x => ap1 f x.1 x.2
def ev2 (f : D → D → Option OV) (e1 e2 : En → Res (RV × En)) : En → Res (RV × En) := fun env => (e1 env).bind fun x => (e2 x.2).bind fun y => ap2 f x.1 y.1 y.2
def ev3 (f : D → D → D → Option OV) (e1 e2 e3 : En → Res (RV × En)) : En → Res (RV × En) := fun env => (e1 env).bind fun x => (e2 x.2).bind fun y => (e3 y.2).bind fun z => ap3 f x.1 y.1 z.1 z.2
theorem noL {q : RV × V} {P : Prop} (h : q ∈ ([] : List (RV × V))) : P := by cases h
theorem one_t {f : D → Option OV} {rr : V → Hp → VK → Prop} (ok : Op1Ok p.K f rr) {e1 : En → Res (RV × En)} (h : tE p σ0 W (ev1 f e1) σ H Q) : tE p σ0 W e1 σ H (fun v H1 => rr v H1 Q) := by
  obtain ⟨G, F, env, R, g⟩ := h
  exact next (L := []) R (fun _ => noL) g fun r v F2 env2 H2 _ R2 hr _ g2 => ap1_out ok R2 hr g2
theorem two_t {f : D → D → Option OV} {rr : R2} (ok : Op2Ok p.K f rr) {e1 e2 : En → Res (RV × En)} (h : tE p σ0 W (ev2 f e1 e2) σ H Q) : tOp rr (tE p σ0 W e1) (tE p σ0 W e2) σ H Q := by
  obtain ⟨G, F, env, R, g⟩ := h
  exact next (L := []) R (fun _ => noL) g fun r v F2 env2 H2 _ R2 hr _ g2 => next (L := [(r, v)]) R2 (fun q hq => by simp at hq; rw [hq]; exact hr) g2 fun s u F3 env3 H3 _ R3 hs hL g3 =>
    ap2_out ok R3 (hL (r, v) (by simp)) hs g3
theorem three_t {f : D → D → D → Option OV} {rr : V → V → V → Hp → VK → Prop} (ok : Op3Ok p.K f rr) {e1 e2 e3 : En → Res (RV × En)} (h : tE p σ0 W (ev3 f e1 e2 e3) σ H Q) :
    tE p σ0 W e1 σ H fun v H1 => tE p σ0 W e2 σ H1 fun u H2 => tE p σ0 W e3 σ H2 fun w H3 => rr v u w H3 Q := by
  obtain ⟨G, F, env, R, g⟩ := h
  refine next (L := []) R (fun _ => noL) g fun r v F2 env2 H2 _ R2 hr _ g2 => next (L := [(r, v)]) R2 (fun q hq => by simp at hq; rw [hq]; exact hr) g2 fun s u F3 env3 H3 _ R3 hs hL g3 => ?_
  refine next (L := [(s, u), (r, v)]) R3 (fun q hq => ?_) g3 fun t w F4 env4 H4 _ R4 ht hL4 g4 => ap3_out ok R4 (hL4 (r, v) (by simp)) (hL4 (s, u) (by simp)) ht g4
  simp at hq
  rcases hq with hq | hq
  · rw [hq]
    exact hs
  · rw [hq]
    exact hL (r, v) (by simp)
end
end Pb

namespace Pb
open PySem PySem.Spec L2

/-! ### operations on data -/
def big : Nat := 100000
theorem big_le {n : Nat} (h : n ≤ big) : n ≤ sizeLine := Nat.le_trans h (by decide)
theorem big_lt {n : Nat} (h : n < big) : n < sizeLine := Nat.lt_of_lt_of_le h (by decide)
def oInt (i : Int) : Option OV := some (.dat (.int i))
def oBl (b : Bool) : Option OV := some (.dat (.bool b))
def b2I (b : Bool) : Int := if b = true then 1 else 0
def fAdd : D → D → Option OV
  | .bool a, .int j => oInt (b2I a + j)
  | .int i, .int j => oInt (i + j)
  | .str a, .str b => if a.length + b.length ≤ big then some (.dat (.str (a ++ b))) else none
  | .list a, .list b => if a.length + b.length ≤ big then some (.nlst (a ++ b)) else none
  | .tuple a, .tuple b => if a.length + b.length ≤ big then some (.ntup (a ++ b)) else none
  | _, _ => none
def fSub : D → D → Option OV
  | .bool a, .int j => oInt (b2I a - j)
  | .int i, .int j => oInt (i - j)
  | _, _ => none
def fMul : D → D → Option OV
  | .int i, .int j => if (-(2 ^ 64) < i ∧ i < 2 ^ 64) ∨ (-(2 ^ 64) < j ∧ j < 2 ^ 64) then oInt (i * j) else none
  | .tuple a, .int k => if 2 ≤ k ∧ k ≤ 1000 ∧ a.length ≤ 1000 ∧ a ≠ [] then some (.ntup (List.replicate k.toNat a).flatten) else none
  | _, _ => none
def fMod : D → D → Option OV
  | .int i, .int j => if 0 < j then oInt (i % j) else none
  | _, _ => none
def fDiv : D → D → Option OV
  | .int i, .int j => if 0 < j ∧ j < 1073741824 then oInt (i / j) else none
  | _, _ => none
def fPow : D → D → Option OV
  | .int i, .int j => if 0 ≤ j ∧ j ≤ 1000000 ∧ i.natAbs < 2 ^ 64 then oInt (i ^ j.toNat) else none
  | _, _ => none
def fEq (a b : D) : Option OV := if a.depth ≤ 64 ∧ b.depth ≤ 64 then oBl (PyData.eqv a b) else none
def fNe (a b : D) : Option OV := if a.depth ≤ 64 ∧ b.depth ≤ 64 then oBl (!PyData.eqv a b) else none
def sLt (a b : Str) : Bool := decide (a.cps.toList < b.cps.toList)
def fLt : D → D → Option OV
  | .int i, .int j => oBl (decide (i < j))
  | .str a, .str b => oBl (sLt a b)
  | _, _ => none
def fLe : D → D → Option OV
  | .int i, .int j => oBl (decide (i ≤ j))
  | .str a, .str b => oBl (!sLt b a)
  | _, _ => none
def fGt : D → D → Option OV
  | .int i, .int j => oBl (decide (j < i))
  | .str a, .str b => oBl (sLt b a)
  | _, _ => none
def fGe : D → D → Option OV
  | .int i, .int j => oBl (decide (j ≤ i))
  | .str a, .str b => oBl (!sLt a b)
  | _, _ => none
def isNn : D → Bool
  | .none => true
  | _ => false
def fIs : D → D → Option OV
  | a, .none => oBl (isNn a)
  | .bool a, .bool b => oBl (a == b)
  | _, _ => none
def fIsn : D → D → Option OV
  | a, .none => oBl (!isNn a)
  | .bool a, .bool b => oBl (!(a == b))
  | _, _ => none
def flatD : D → Bool
  | .none => true
  | .bool _ => true
  | .int _ => true
  | .str _ => true
  | _ => false
def inD (d : D) (ds : List D) : Bool := ds.any fun z => PyData.eqv z d
def fIn (neg : Bool) : D → D → Option OV
  | .str x, .str z => match x.cps.toList with
    | [c] => oBl (if neg then !decide (c ∈ z.cps.toList) else decide (c ∈ z.cps.toList))
    | _ => none
  | d, .list ds => if d.depth ≤ 64 ∧ (PyData.list ds).depth ≤ 64 then oBl (if neg then !inD d ds else inD d ds) else none
  | d, .tuple ds => if flatD d ∧ ds.all flatD then oBl (if neg then !inD d ds else inD d ds) else none
  | _, _ => none
def fIx : D → D → Option OV
  | .list ds, .int i => (atI ds i).map .dat
  | .tuple ds, .int i => (atI ds i).map .dat
  | _, _ => none
def fNeg : D → Option OV
  | .bool b => oInt (-(b2I b))
  | .int i => oInt (-i)
  | _ => none
def fNot : D → Option OV
  | .bool b => oBl (!b)
  | _ => none

section
variable {X : Cx}
/-- list + list, read through any lock -/
def rCatL : R2 := fun x y H Q => ∃ l b xs zs, x = .ref l ∧ y = .ref b ∧ Rd H l (.lst xs) ∧ Rd H b (.lst zs) ∧ xs.length + zs.length ≤ sizeLine ∧ ∀ p, H p = none → Q (.ref p) (upd H p (.lst (xs ++ zs)))
theorem op_catL : OpR X (binaryOp .Add) rCatL := by
  intro pins s σ H x y v u Q I rx ry h
  obtain ⟨l, b, xs, zs, rfl, rfl, hl, hb, hz, q⟩ := h
  cases rx
  cases ry
  obtain ⟨_, its, n, r, e⟩ := hl.ok I.hok
  obtain ⟨_, its2, n2, r2, e2⟩ := hb.ok I.hok
  have k1 := r.length
  have k2 := r2.length
  refine PySem.P.add_list e e2 ?_ (by simp only [List.size_toArray]; omega)
  have J := I.lnew (t' := s.toks) (r.append r2) (by rw [List.length_append]; omega)
  simp only [List.append_toArray]
  exact ⟨V.ref s.heap.objs.size, _, J, rfl, q _ I.fresh⟩
def rBi (g : Int → Int → Int) : R2 := fun x y H Q => ∃ k j, x = .bl k ∧ y = .int j ∧ Q (.int (g (b2I k) j)) H
theorem op_addBi : OpR X (binaryOp .Add) (rBi fun k j => k + j) := by
  intro pins s σ H x y v u Q I rx ry h
  obtain ⟨k, j, rfl, rfl, q⟩ := h
  cases rx
  obtain ⟨t, rfl⟩ := ry
  exact PySem.IntBool.add_bool_int ⟨.int (b2I k + j), H, I.tok _, ⟨_, rfl⟩, q⟩
theorem op_subBi : OpR X (binaryOp .Sub) (rBi fun k j => k - j) := by
  intro pins s σ H x y v u Q I rx ry h
  obtain ⟨k, j, rfl, rfl, q⟩ := h
  cases rx
  obtain ⟨t, rfl⟩ := ry
  exact PySem.IntBool.sub_bool_int ⟨.int (b2I k - j), H, I.tok _, ⟨_, rfl⟩, q⟩
abbrev rSubA : R2 := fun x y H Q => rI0 (fun i j => .int (i - j)) x y H Q ∨ rBi (fun k j => k - j) x y H Q
theorem op_subA : OpR X (binaryOp .Sub) rSubA := op_sub.or op_subBi
abbrev rAddA (K : PySem.W.Frag) : R2 := fun x y H Q => rI0 (fun i j => .int (i + j)) x y H Q ∨ (∃ i j, x = .str i ∧ y = .str j ∧ i.length + j.length ≤ sizeLine ∧ Q (.str (i ++ j)) H) ∨ rCatL x y H Q ∨ rCatA K x y H Q ∨ rBi (fun k j => k + j) x y H Q
theorem op_addA : OpR X (binaryOp .Add) (rAddA X.K) := op_add.or (op_add_str.or (op_catL.or (op_catA.or op_addBi)))
theorem neg_bl {X : Cx} {k : Bool} {s : Shared} {Q : Value → Shared → Prop} (h : Q (.int (-(b2I k)) s.toks) { s with toks := s.toks + 1 }) : wpAny (model X.prog X.w) X.A (unaryOp .USub (.bool k)) Q X.xe s :=
  have g : Gives (Builtin.«int.__neg__» ⟨[.bool k], []⟩) (.int (-(b2I k))) := .of_eq (by cases k <;> rfl)
  unaryOp_gives (op := .USub) (show s.TypeIs (.bool k) "bool" from rfl) rfl F.slot_bool_neg F.entry_int_neg (F.args_int_neg_1 _) g h
abbrev rNegA : V → Hp → VK → Prop := fun x H Q => rU (fun i => .int (-i)) x H Q ∨ ∃ k, x = .bl k ∧ Q (.int (-(b2I k))) H
theorem un_negA : UnR X (unaryOp .USub) rNegA := by
  intro pins s σ H x v Q I rx h
  rcases h with h | ⟨k, rfl, q⟩
  · exact un_neg pins s σ H x v Q I rx h
  · cases rx
    exact neg_bl ⟨.int (-(b2I k)), H, I.tok _, ⟨_, rfl⟩, q⟩
abbrev rMulA (K : PySem.W.Frag) : R2 := fun x y H Q => rI CMul (fun i j => .int (i * j)) x y H Q ∨ rRepT K x y H Q
theorem op_mulA : OpR X (binaryOp .Mult) (rMulA X.K) := op_mul.or op_repT
end

theorem Rp.int_of {K : PySem.W.Frag} {F : Hp} {i : Int} {v : V} (h : Rp K F (.int i) v) : v = .int i := h
theorem strOk_append {a b : Str} (ha : PyData.strOk a = true) (hb : PyData.strOk b = true) : PyData.strOk (a ++ b) = true := by
  have ha' : ∀ x ∈ a.cps, x < 0x110000 := by
    have := (Array.all_eq_true_iff_forall_mem.mp ha)
    simpa using this
  have hb' : ∀ x ∈ b.cps, x < 0x110000 := by
    have := (Array.all_eq_true_iff_forall_mem.mp hb)
    simpa using this
  show (a.cps ++ b.cps).all (· < 0x110000) = true
  rw [Array.all_eq_true_iff_forall_mem]
  intro x hx
  rcases Array.mem_append.mp hx with h | h
  · simpa using ha' x h
  · simpa using hb' x h

section
variable {K : PySem.W.Frag}
theorem okAdd : Op2Ok K fAdd (rAddA K) := by
  intro F H d1 d2 v1 v2 o Q s h1 h2 e q
  cases d1 <;> cases d2 <;> try (cases e; done)
  · cases h1; cases h2; cases e
    exact .inr (.inr (.inr (.inr ⟨_, _, rfl, rfl, q _ _ ⟨rfl, rfl⟩⟩)))
  · cases h1; cases h2; cases e
    exact .inl ⟨_, _, rfl, rfl, q _ _ ⟨rfl, rfl⟩⟩
  · obtain ⟨h1, k1⟩ := h1; obtain ⟨h2, k2⟩ := h2
    cases h1; cases h2
    simp only [fAdd] at e
    split at e <;> cases e
    rename_i hz
    exact .inr (.inl ⟨_, _, rfl, rfl, big_le hz, q _ _ ⟨rfl, rfl, strOk_append k1 k2⟩⟩)
  · obtain ⟨a, xs, ev, r, w⟩ := h1
    obtain ⟨b, zs, ev2, r2, w2⟩ := h2
    subst ev ev2
    simp only [fAdd] at e
    split at e <;> cases e
    rename_i hz
    exact .inr (.inr (.inl ⟨a, b, xs, zs, rfl, rfl, r, r2, by rw [w.length, w2.length]; exact big_le hz, fun p n => q _ _ ⟨p, _, n, rfl, rfl, w.append w2⟩⟩))
  · obtain ⟨a, xs, ev, r, w⟩ := h1
    obtain ⟨b, zs, ev2, r2, w2⟩ := h2
    subst ev ev2
    simp only [fAdd] at e
    split at e <;> cases e
    rename_i hz
    refine .inr (.inr (.inr (.inl ⟨a, b, xs, zs, rfl, rfl, s.rdt r, s.rdt r2, by rw [w.length, w2.length]; exact big_le hz, fun hx => ?_, fun _ hy => ?_, fun _ _ p n => q _ _ (.inr ⟨p, _, n, rfl, rfl, w.append w2⟩)⟩)))
    · subst hx
      exact q _ _ (.inl ⟨rfl, b, zs, rfl, r2, w.append w2⟩)
    · subst hy
      refine q _ _ (.inl ⟨rfl, a, xs, rfl, r, ?_⟩)
      have := w.append w2
      rwa [List.append_nil] at this
theorem okSub : Op2Ok K fSub rSubA := by
  intro F H d1 d2 v1 v2 o Q s h1 h2 e q
  cases d1 <;> cases d2 <;> try (cases e; done)
  · cases h1; cases h2; cases e
    exact .inr ⟨_, _, rfl, rfl, q _ _ ⟨rfl, rfl⟩⟩
  · cases h1; cases h2; cases e
    exact .inl ⟨_, _, rfl, rfl, q _ _ ⟨rfl, rfl⟩⟩
theorem flat_rep {F : Hp} {ds : List D} {xs : List V} (w : RpAll K F ds xs) : ∀ n : Nat, RpAll K F (List.replicate n ds).flatten (List.replicate n xs).flatten
  | 0 => rfl
  | n + 1 => by
    rw [List.replicate_succ, List.replicate_succ, List.flatten_cons, List.flatten_cons]
    exact w.append (flat_rep w n)
theorem okMul : Op2Ok K fMul (rMulA K) := by
  intro F H d1 d2 v1 v2 o Q s h1 h2 e q
  cases d1 <;> cases d2 <;> try (cases e; done)
  · cases h1; cases h2
    simp only [fMul] at e
    split at e <;> cases e
    rename_i hz
    exact .inl ⟨_, _, rfl, rfl, hz, q _ _ ⟨rfl, rfl⟩⟩
  · obtain ⟨a, xs, ev, r, w⟩ := h1
    cases h2
    subst ev
    simp only [fMul] at e
    split at e <;> cases e
    rename_i hz
    obtain ⟨z1, z2, z3, z4⟩ := hz
    refine .inr ⟨a, _, xs, rfl, rfl, s.rdt r, fun z => z4 ?_, z1, z2, by rw [w.length]; exact z3, fun p n => q _ _ (.inr ⟨p, _, n, rfl, rfl, flat_rep w _⟩)⟩
    have := w.length
    rw [z] at this
    exact List.eq_nil_of_length_eq_zero this.symm
theorem okMod : Op2Ok K fMod (rI (fun _ j => 0 < j) fun i j => .int (i % j)) := by
  intro F H d1 d2 v1 v2 o Q s h1 h2 e q
  cases d1 <;> cases d2 <;> try (cases e; done)
  cases h1; cases h2
  simp only [fMod] at e
  split at e <;> cases e
  rename_i hz
  exact ⟨_, _, rfl, rfl, hz, q _ _ ⟨rfl, rfl⟩⟩
theorem okDiv : Op2Ok K fDiv (rI CDiv fun i j => .int (i / j)) := by
  intro F H d1 d2 v1 v2 o Q s h1 h2 e q
  cases d1 <;> cases d2 <;> try (cases e; done)
  cases h1; cases h2
  simp only [fDiv] at e
  split at e <;> cases e
  rename_i hz
  exact ⟨_, _, rfl, rfl, hz, q _ _ ⟨rfl, rfl⟩⟩
theorem okPow : Op2Ok K fPow (rI CPow fun i j => .int (i ^ j.toNat)) := by
  intro F H d1 d2 v1 v2 o Q s h1 h2 e q
  cases d1 <;> cases d2 <;> try (cases e; done)
  cases h1; cases h2
  simp only [fPow] at e
  split at e <;> cases e
  rename_i hz
  exact ⟨_, _, rfl, rfl, hz, q _ _ ⟨rfl, rfl⟩⟩
theorem shp {F H : Hp} {d : D} {v : V} (s : Sub F H) (h : Rt K F H d v) (z : d.depth ≤ 64) : SeqAt.shaped d = true := by
  unfold SeqAt.shaped
  rw [Rp.can d v (h.rp s), decide_eq_true z]
  rfl
theorem okEq : Op2Ok K fEq (rEqD K) := by
  intro F H d1 d2 v1 v2 o Q s h1 h2 e q
  unfold fEq at e
  split at e <;> cases e
  rename_i hz
  exact ⟨d1, d2, Rp.dp _ _ (h1.rp s), Rp.dp _ _ (h2.rp s), shp s h1 hz.1, shp s h2 hz.2, q _ _ ⟨rfl, rfl⟩⟩
theorem okNe : Op2Ok K fNe (rNeD K) := by
  intro F H d1 d2 v1 v2 o Q s h1 h2 e q
  unfold fNe at e
  split at e <;> cases e
  rename_i hz
  exact ⟨d1, d2, Rp.dp _ _ (h1.rp s), Rp.dp _ _ (h2.rp s), shp s h1 hz.1, shp s h2 hz.2, q _ _ ⟨rfl, rfl⟩⟩
abbrev rCmpA (g : Int → Int → Bool) (h : Str → Str → Bool) : R2 := fun x y H Q => rI0 (fun i j => .bl (g i j)) x y H Q ∨ (∃ i j, x = .str i ∧ y = .str j ∧ Q (.bl (h i j)) H)
theorem okCmp {f : D → D → Option OV} {g : Int → Int → Bool} {h : Str → Str → Bool} (hf : ∀ a b o, f a b = some o → (∃ i j, a = .int i ∧ b = .int j ∧ o = .dat (.bool (g i j))) ∨ (∃ i j, a = .str i ∧ b = .str j ∧ o = .dat (.bool (h i j)))) : Op2Ok K f (rCmpA g h) := by
  intro F H d1 d2 v1 v2 o Q s h1 h2 e q
  rcases hf _ _ _ e with ⟨i, j, rfl, rfl, rfl⟩ | ⟨i, j, rfl, rfl, rfl⟩
  · cases h1; cases h2
    exact .inl ⟨_, _, rfl, rfl, q _ _ ⟨rfl, rfl⟩⟩
  · obtain ⟨h1, _⟩ := h1; obtain ⟨h2, _⟩ := h2
    cases h1; cases h2
    exact .inr ⟨_, _, rfl, rfl, q _ _ ⟨rfl, rfl⟩⟩
theorem okLt : Op2Ok K fLt (rCmpA (fun i j => decide (i < j)) sLt) := okCmp fun a b o e => by
  cases a <;> cases b <;> cases e
  · exact .inl ⟨_, _, rfl, rfl, rfl⟩
  · exact .inr ⟨_, _, rfl, rfl, rfl⟩
theorem okLe : Op2Ok K fLe (rCmpA (fun i j => decide (i ≤ j)) fun i j => !sLt j i) := okCmp fun a b o e => by
  cases a <;> cases b <;> cases e
  · exact .inl ⟨_, _, rfl, rfl, rfl⟩
  · exact .inr ⟨_, _, rfl, rfl, rfl⟩
theorem okGt : Op2Ok K fGt (rCmpA (fun i j => decide (j < i)) fun i j => sLt j i) := okCmp fun a b o e => by
  cases a <;> cases b <;> cases e
  · exact .inl ⟨_, _, rfl, rfl, rfl⟩
  · exact .inr ⟨_, _, rfl, rfl, rfl⟩
theorem okGe : Op2Ok K fGe (rCmpA (fun i j => decide (j ≤ i)) fun i j => !sLt i j) := okCmp fun a b o e => by
  cases a <;> cases b <;> cases e
  · exact .inl ⟨_, _, rfl, rfl, rfl⟩
  · exact .inr ⟨_, _, rfl, rfl, rfl⟩
theorem Rt.nn {F H : Hp} {d : D} {v : V} (h : Rt K F H d v) : decide (v = .non) = isNn d := by
  cases d with
  | none => cases h; rfl
  | bool b => cases h; rfl
  | int i => cases h; rfl
  | str x => obtain ⟨h, _⟩ := h; cases h; rfl
  | list ds => obtain ⟨a, xs, e, _⟩ := h; cases e; rfl
  | tuple ds => obtain ⟨a, xs, e, _⟩ := h; cases e; rfl
  | dict _ => exact h.elim
abbrev rIsA : R2 := fun x y H Q => (y = .non ∧ Q (.bl (decide (x = .non))) H) ∨ rIsB x y H Q
abbrev rIsnA : R2 := fun x y H Q => (y = .non ∧ Q (.bl (!decide (x = .non))) H) ∨ rNotB x y H Q
theorem decB (a b : Bool) : decide (a = b) = (a == b) := by cases a <;> cases b <;> rfl
theorem okIs : Op2Ok K fIs rIsA := by
  intro F H d1 d2 v1 v2 o Q s h1 h2 e q
  cases d2 with
  | none =>
    cases h2
    have e' : oBl (isNn d1) = some o := by cases d1 <;> exact e
    cases e'
    exact .inl ⟨rfl, q _ _ ⟨rfl, by rw [h1.nn]; rfl⟩⟩
  | bool b =>
    cases d1 <;> cases e
    cases h1; cases h2
    exact .inr ⟨_, _, rfl, rfl, q _ _ ⟨rfl, by rw [decB]; rfl⟩⟩
  | _ => cases d1 <;> cases e
theorem okIsn : Op2Ok K fIsn rIsnA := by
  intro F H d1 d2 v1 v2 o Q s h1 h2 e q
  cases d2 with
  | none =>
    cases h2
    have e' : oBl (!isNn d1) = some o := by cases d1 <;> exact e
    cases e'
    exact .inl ⟨rfl, q _ _ ⟨rfl, by rw [h1.nn]; rfl⟩⟩
  | bool b =>
    cases d1 <;> cases e
    cases h1; cases h2
    exact .inr ⟨_, _, rfl, rfl, q _ _ ⟨rfl, by rw [decB]; rfl⟩⟩
  | _ => cases d1 <;> cases e
/-! in -/
theorem flat_rp {F : Hp} {d : D} {v : V} (h : Rp K F d v) (f : flatD d = true) : flatV v = true := by
  cases d with
  | none => cases h; rfl
  | bool b => cases h; rfl
  | int i => cases h; rfl
  | str x => obtain ⟨h, _⟩ := h; cases h; rfl
  | _ => cases f
theorem eqV_rp {F : Hp} {d e : D} {v w : V} (h : Rp K F d v) (g : Rp K F e w) (f : flatD d = true) (f2 : flatD e = true) : eqV v w = PyData.eqv d e := by
  cases d with
  | none => cases h; cases e with
    | none => cases g; simp [eqV, PyData.eqv]
    | bool b => cases g; simp [eqV, PyData.eqv]
    | int i => cases g; simp [eqV, PyData.eqv]
    | str x => obtain ⟨g, _⟩ := g; cases g; simp [eqV, PyData.eqv]
    | _ => cases f2
  | bool b => cases h; cases e with
    | none => cases g; simp [eqV, PyData.eqv]
    | bool b => cases g; simp [eqV, PyData.eqv]
    | int i => cases g; simp [eqV, PyData.eqv]
    | str x => obtain ⟨g, _⟩ := g; cases g; simp [eqV, PyData.eqv]
    | _ => cases f2
  | int i => cases h; cases e with
    | none => cases g; simp [eqV, PyData.eqv]
    | bool b => cases g; simp [eqV, PyData.eqv]
    | int i => cases g; simp [eqV, PyData.eqv]
    | str x => obtain ⟨g, _⟩ := g; cases g; simp [eqV, PyData.eqv]
    | _ => cases f2
  | str x => obtain ⟨h, _⟩ := h; cases h; cases e with
    | none => cases g; simp [eqV, PyData.eqv]
    | bool b => cases g; simp [eqV, PyData.eqv]
    | int i => cases g; simp [eqV, PyData.eqv]
    | str x => obtain ⟨g, _⟩ := g; cases g; simp [eqV, PyData.eqv]
    | _ => cases f2
  | _ => cases f
theorem flat_all {F : Hp} : ∀ {ds : List D} {xs : List V}, RpAll K F ds xs → ds.all flatD = true → xs.all flatV = true
  | [], _, r, _ => by
    have e : _ = [] := r
    rw [e]
    rfl
  | d :: ds, _, ⟨v, r, e, w, t⟩, f => by
    rw [List.all_cons, Bool.and_eq_true] at f
    rw [e, List.all_cons, flat_rp w f.1, flat_all t f.2]
    rfl
theorem inV_rp {F : Hp} {d : D} {v : V} (h : Rp K F d v) (f : flatD d = true) : ∀ {ds : List D} {xs : List V}, RpAll K F ds xs → ds.all flatD = true → inV v xs = inD d ds
  | [], _, r, _ => by
    have e : _ = [] := r
    rw [e]
    rfl
  | e :: ds, _, ⟨w, r, q, g, t⟩, f2 => by
    rw [List.all_cons, Bool.and_eq_true] at f2
    have ih := inV_rp h f t f2.2
    unfold inV inD at ih ⊢
    rw [q, List.any_cons, List.any_cons, ih, eqV_rp g h f2.1 f]
abbrev rInA (K : PySem.W.Frag) (neg : Bool) : R2 := fun x y H Q => (∃ (c : Nat) (z : Str), x = .str ⟨#[c]⟩ ∧ y = .str z ∧ Q (.bl (if neg then !decide (c ∈ z.cps.toList) else decide (c ∈ z.cps.toList))) H) ∨
  (∃ d ds, Dp K H x d ∧ Dp K H y (.list ds) ∧ SeqAt.shaped d = true ∧ SeqAt.shaped (.list ds) = true ∧ Q (.bl (if neg then !inD d ds else inD d ds)) H) ∨ rIn K neg x y H Q
theorem one_sign {x : Str} {c : Nat} (h : x.cps.toList = [c]) : x = ⟨#[c]⟩ := by
  cases x with
  | mk a =>
    have : a = #[c] := Array.toList_inj.mp (by rw [h])
    rw [this]
theorem Rt.flat {F H : Hp} {d : D} {v : V} (h : Rt K F H d v) (f : flatD d = true) : Rp K F d v := by
  cases d with
  | list ds => cases f
  | _ => exact h
theorem okIn {neg : Bool} : Op2Ok K (fIn neg) (rInA K neg) := by
  intro F H d1 d2 v1 v2 o Q s h1 h2 e q
  cases d2 with
  | str z =>
    cases d1 with
    | str x =>
      obtain ⟨h1, _⟩ := h1; obtain ⟨h2, _⟩ := h2
      cases h1; cases h2
      simp only [fIn] at e
      split at e <;> cases e
      rename_i c hc
      exact .inl ⟨c, z, by rw [one_sign hc], rfl, q _ _ ⟨rfl, rfl⟩⟩
    | _ => cases e
  | list ds =>
    have e' : (if d1.depth ≤ 64 ∧ (PyData.list ds).depth ≤ 64 then oBl (if neg then !inD d1 ds else inD d1 ds) else none) = some o := by cases d1 <;> exact e
    split at e' <;> cases e'
    rename_i hz
    exact .inr (.inl ⟨d1, ds, Rp.dp _ _ (h1.rp s), Rp.dp _ _ (h2.rp s), shp s h1 hz.1, shp s h2 hz.2, q _ _ ⟨rfl, rfl⟩⟩)
  | tuple ds =>
    have e' : (if flatD d1 ∧ ds.all flatD then oBl (if neg then !inD d1 ds else inD d1 ds) else none) = some o := by cases d1 <;> exact e
    split at e' <;> cases e'
    rename_i hz
    obtain ⟨a, xs, ev, r, w⟩ := h2
    subst ev
    refine .inr (.inr ⟨a, xs, rfl, .inr (s.rdt r), flat_rp (h1.flat hz.1) hz.1, flat_all w hz.2, ?_⟩)
    rw [inV_rp (h1.flat hz.1) hz.1 w hz.2]
    exact q _ _ ⟨rfl, rfl⟩
  | _ => cases d1 <;> cases e
abbrev rIxA (K : PySem.W.Frag) : R2 := fun x y H Q => rIxL K x y H Q ∨ rIxT K x y H Q
theorem atI_rp {F : Hp} {ds : List D} {xs : List V} {i : Int} {d : D} (w : RpAll K F ds xs) (h : atI ds i = some d) : ∃ v, atI xs i = some v ∧ Rp K F d v := by
  unfold atI at h ⊢
  rw [w.length]
  cases hj : ixN ds.length i with
  | none => rw [hj] at h; cases h
  | some j =>
    rw [hj] at h
    exact w.get h
theorem okIx : Op2Ok K fIx (rIxA K) := by
  intro F H d1 d2 v1 v2 o Q s h1 h2 e q
  cases d1 <;> cases d2 <;> try (cases e; done)
  · obtain ⟨a, xs, ev, r, w⟩ := h1
    cases h2
    subst ev
    obtain ⟨d, hd, eo⟩ := Option.map_eq_some_iff.mp e
    subst eo
    obtain ⟨v, hv, rv⟩ := atI_rp w hd
    exact .inl ⟨a, xs, _, v, rfl, rfl, .inl r, hv, q _ _ ⟨rfl, rv⟩⟩
  · obtain ⟨a, xs, ev, r, w⟩ := h1
    cases h2
    subst ev
    obtain ⟨d, hd, eo⟩ := Option.map_eq_some_iff.mp e
    subst eo
    obtain ⟨v, hv, rv⟩ := atI_rp w hd
    exact .inr ⟨a, xs, _, v, rfl, rfl, s.rdt r, hv, q _ _ ⟨rfl, rv⟩⟩
theorem okNeg : Op1Ok K fNeg rNegA := by
  intro F H d v o Q s h e q
  cases d <;> cases e
  · cases h
    exact .inr ⟨_, rfl, q _ _ ⟨rfl, rfl⟩⟩
  · cases h
    exact .inl ⟨_, rfl, q _ _ ⟨rfl, rfl⟩⟩
end
end Pb

namespace Pb
open PySem PySem.Spec L2

/-! ### further operations -/
def asInts : List D → Option (List Int)
  | [] => some []
  | .int i :: r => (asInts r).map (i :: ·)
  | _ => none
def asBls : List D → Option (List Bool)
  | [] => some []
  | .bool b :: r => (asBls r).map (b :: ·)
  | _ => none
def asStrs : List D → Option (List Str)
  | [] => some []
  | .str b :: r => (asStrs r).map (b :: ·)
  | _ => none
def mx : List Int → Int
  | [] => 0
  | [i] => i
  | i :: r => if mx r > i then mx r else i
def mn : List Int → Int
  | [] => 0
  | [i] => i
  | i :: r => if mn r < i then mn r else i
def fLen : D → Option OV
  | .str x => if x.length ≤ big then oInt x.length else none
  | .list ds => oInt ds.length
  | .tuple ds => oInt ds.length
  | _ => none
def fAbs : D → Option OV
  | .int i => oInt (if i < 0 then -i else i)
  | _ => none
def fList : D → Option OV
  | .list ds => some (.nlst ds)
  | .tuple ds => some (.nlst ds)
  | _ => none
def fTup : D → Option OV
  | .list ds => some (.ntup ds)
  | .tuple ds => some (.ntup ds)
  | _ => none
def fAll : D → Option OV
  | .list ds => (asBls ds).map fun bs => .dat (.bool (bs.all id))
  | _ => none
def fSum : D → Option OV
  | .list ds => (asInts ds).map fun ns => .dat (.int ns.sum)
  | _ => none
def fMax : D → Option OV
  | .list (d :: ds) => (asInts (d :: ds)).map fun ns => .dat (.int (mx ns))
  | _ => none
def fMin : D → Option OV
  | .list (d :: ds) => (asInts (d :: ds)).map fun ns => .dat (.int (mn ns))
  | _ => none
def fIntc : D → Option OV
  | .int i => oInt i
  | .bool b => oInt (if b then 1 else 0)
  | _ => none
def fMax2 : D → D → Option OV
  | .int i, .int j => oInt (if j > i then j else i)
  | _, _ => none
def fMin2 : D → D → Option OV
  | .int i, .int j => oInt (if j < i then j else i)
  | _, _ => none
inductive Ty where
  | int | bool | str | tuple | list
def Ty.nm : Ty → String
  | .int => "int" | .bool => "bool" | .str => "str" | .tuple => "tuple" | .list => "list"
def isiF : Ty → D → Bool
  | .int, .int _ => true
  | .int, .bool _ => true
  | .bool, .bool _ => true
  | .str, .str _ => true
  | .tuple, .tuple _ => true
  | .list, .list _ => true
  | _, _ => false
def cutD {α : Type} (ds : List α) (lo hi : Option Int) : List α := (ds.drop (HT.sIx ds.length 0 lo)).take (HT.sIx ds.length ds.length hi - HT.sIx ds.length 0 lo)
def fSlc (lo hi : Option Int) : D → Option OV
  | .list ds => some (.nlst (cutD ds lo hi))
  | .tuple ds => some (.ntup (cutD ds lo hi))
  | .str x => if x.length ≤ big then some (.dat (.str (cutS x lo hi))) else none
  | _ => none
def fUp : D → Option OV
  | .str x => if x.length ≤ big ∧ x.cps.toList.all (· < 128) then some (.dat (.str ⟨x.cps.map PyProof.Rows.up1⟩)) else none
  | _ => none
def fStr : D → Option OV
  | .int i => if i.natAbs.log2 < 1920 then some (.dat (.str (toString i : Str))) else none
  | .bool b => some (.dat (.str (if b = true then "True" else "False")))
  | _ => none
def fSlcL : D → D → Option OV
  | d, .int i => fSlc (some i) none d
  | _, _ => none
def fSlcH : D → D → Option OV
  | d, .int i => fSlc none (some i) d
  | _, _ => none
def fRev : D → Option OV
  | .list ds => some (.nlst ds.reverse)
  | _ => none

/-- into a strictly ascending list -/
def insD (x : Int) : List Int → List Int
  | [] => [x]
  | y :: l => if x < y then x :: y :: l else if x = y then y :: l else y :: insD x l
def srtI : List Int → List Int
  | [] => []
  | x :: l => insD x (srtI l)
def fSrtSet : D → Option OV
  | .list ds => (asInts ds).bind fun ns => if ns.length ≤ 4000 ∧ (srtI ns).length < 64 then some (.nlst ((srtI ns).map .int)) else none
  | _ => none

section
variable {K : PySem.W.Frag}
theorem ints_rp {F : Hp} : ∀ {ds : List D} {xs : List V} {ns : List Int}, RpAll K F ds xs → asInts ds = some ns → xs = ns.map V.int
  | [], _, _, r, e => by
    cases e
    exact r
  | d :: ds, _, ns, ⟨v, r, q, w, t⟩, e => by
    cases d <;> try (cases e; done)
    obtain ⟨ms, h1, h2⟩ := Option.map_eq_some_iff.mp (show (asInts ds).map _ = some ns from e)
    cases w
    rw [q, ← h2, ints_rp t h1]
    rfl
theorem bls_rp {F : Hp} : ∀ {ds : List D} {xs : List V} {ns : List Bool}, RpAll K F ds xs → asBls ds = some ns → xs = ns.map V.bl
  | [], _, _, r, e => by
    cases e
    exact r
  | d :: ds, _, ns, ⟨v, r, q, w, t⟩, e => by
    cases d <;> try (cases e; done)
    obtain ⟨ms, h1, h2⟩ := Option.map_eq_some_iff.mp (show (asBls ds).map _ = some ns from e)
    cases w
    rw [q, ← h2, bls_rp t h1]
    rfl
theorem mx_spec : ∀ (ns : List Int), ns ≠ [] → mx ns ∈ ns ∧ ∀ y ∈ ns, y ≤ mx ns
  | [], h => absurd rfl h
  | [i], _ => by simp [mx]
  | i :: j :: r, _ => by
    obtain ⟨h1, h2⟩ := mx_spec (j :: r) (by simp)
    have e : mx (i :: j :: r) = if mx (j :: r) > i then mx (j :: r) else i := rfl
    rw [e]
    split
    · rename_i hi
      refine ⟨List.mem_cons_of_mem _ h1, fun y hy => ?_⟩
      rcases List.mem_cons.mp hy with z | hy
      · rw [z]; omega
      · exact h2 y hy
    · rename_i hi
      refine ⟨List.mem_cons_self, fun y hy => ?_⟩
      rcases List.mem_cons.mp hy with z | hy
      · rw [z]; omega
      · have := h2 y hy
        omega
theorem mn_spec : ∀ (ns : List Int), ns ≠ [] → mn ns ∈ ns ∧ ∀ y ∈ ns, mn ns ≤ y
  | [], h => absurd rfl h
  | [i], _ => by simp [mn]
  | i :: j :: r, _ => by
    obtain ⟨h1, h2⟩ := mn_spec (j :: r) (by simp)
    have e : mn (i :: j :: r) = if mn (j :: r) < i then mn (j :: r) else i := rfl
    rw [e]
    split
    · rename_i hi
      refine ⟨List.mem_cons_of_mem _ h1, fun y hy => ?_⟩
      rcases List.mem_cons.mp hy with z | hy
      · rw [z]; omega
      · exact h2 y hy
    · rename_i hi
      refine ⟨List.mem_cons_self, fun y hy => ?_⟩
      rcases List.mem_cons.mp hy with z | hy
      · rw [z]; omega
      · have := h2 y hy
        omega
theorem okLen : Op1Ok K fLen (fun v H Q => ∃ x n, [v] = [x] ∧ LenV K x H n ∧ Q (.int n) H) := by
  intro F H d v o Q s h e q
  cases d with
  | str x =>
    obtain ⟨h, _⟩ := h
    subst h
    simp only [fLen] at e
    split at e <;> cases e
    rename_i hz
    exact ⟨_, x.length, rfl, ⟨big_le hz, rfl⟩, q _ _ ⟨rfl, rfl⟩⟩
  | list ds =>
    obtain ⟨a, xs, ev, r, w⟩ := h
    subst ev
    cases e
    exact ⟨_, xs.length, rfl, .inl ⟨xs, .inl r, rfl⟩, q _ _ ⟨rfl, by rw [w.length]; rfl⟩⟩
  | tuple ds =>
    obtain ⟨a, xs, ev, r, w⟩ := h
    subst ev
    cases e
    exact ⟨_, xs.length, rfl, .inr ⟨xs, s.rdt r, rfl⟩, q _ _ ⟨rfl, by rw [w.length]; rfl⟩⟩
  | _ => cases e
theorem okAbs : Op1Ok K fAbs (fun v H Q => ∃ i, [v] = [V.int i] ∧ Q (.int (if i < 0 then -i else i)) H) := by
  intro F H d v o Q s h e q
  cases d <;> cases e
  cases h
  exact ⟨_, rfl, q _ _ ⟨rfl, rfl⟩⟩
theorem okIntc : Op1Ok K fIntc (fun v H Q => (∃ i, [v] = [V.int i] ∧ Q (.int i) H) ∨ ∃ k : Bool, [v] = [V.bl k] ∧ Q (.int (if k then 1 else 0)) H) := by
  intro F H d v o Q s h e q
  cases d <;> cases e <;> cases h
  · exact .inr ⟨_, rfl, q _ _ ⟨rfl, rfl⟩⟩
  · exact .inl ⟨_, rfl, q _ _ ⟨rfl, rfl⟩⟩
theorem okList : Op1Ok K fList (fun v H Q => ∃ p ys, [v] = [V.ref p] ∧ (SqL K H p ys ∨ SqT K H p ys) ∧ ∀ l, H l = none → Q (.ref l) (upd H l (.lst ys))) := by
  intro F H d v o Q s h e q
  cases d <;> cases e
  · obtain ⟨a, xs, ev, r, w⟩ := h
    subst ev
    exact ⟨a, xs, rfl, .inl (.inl r), fun l n => q _ _ ⟨l, xs, n, rfl, rfl, w⟩⟩
  · obtain ⟨a, xs, ev, r, w⟩ := h
    subst ev
    exact ⟨a, xs, rfl, .inr (s.rdt r), fun l n => q _ _ ⟨l, xs, n, rfl, rfl, w⟩⟩
theorem okTup : Op1Ok K fTup (fun v H Q => ∃ p ys, [v] = [V.ref p] ∧ ((SqL K H p ys ∧ ∀ l, H l = none → Q (.ref l) (upd H l (.tup ys))) ∨ (SqT K H p ys ∧ Q (.ref p) H))) := by
  intro F H d v o Q s h e q
  cases d <;> cases e
  · obtain ⟨a, xs, ev, r, w⟩ := h
    subst ev
    exact ⟨a, xs, rfl, .inl ⟨.inl r, fun l n => q _ _ (.inr ⟨l, xs, n, rfl, rfl, w⟩)⟩⟩
  · obtain ⟨a, xs, ev, r, w⟩ := h
    subst ev
    exact ⟨a, xs, rfl, .inr ⟨s.rdt r, q _ _ (.inl ⟨rfl, a, xs, rfl, r, w⟩)⟩⟩
theorem okAll : Op1Ok K fAll (fun v => rAll K [v]) := by
  intro F H d v o Q s h e q
  cases d <;> try (cases e; done)
  obtain ⟨a, xs, ev, r, w⟩ := h
  obtain ⟨bs, hb, eo⟩ := Option.map_eq_some_iff.mp e
  subst ev eo
  exact ⟨a, bs, rfl, by rw [← bls_rp w hb]; exact .inl r, q _ _ ⟨rfl, rfl⟩⟩
theorem okSum : Op1Ok K fSum (fun v => rSum K [v]) := by
  intro F H d v o Q s h e q
  cases d <;> try (cases e; done)
  obtain ⟨a, xs, ev, r, w⟩ := h
  obtain ⟨bs, hb, eo⟩ := Option.map_eq_some_iff.mp e
  subst ev eo
  exact ⟨a, bs, rfl, by rw [← ints_rp w hb]; exact .inl r, q _ _ ⟨rfl, rfl⟩⟩
theorem ints_len {ds : List D} : ∀ {ns : List Int}, asInts ds = some ns → ns.length = ds.length := by
  induction ds with
  | nil => intro ns e; cases e; rfl
  | cons d ds ih =>
    intro ns e
    cases d <;> try (cases e; done)
    obtain ⟨ms, h1, h2⟩ := Option.map_eq_some_iff.mp (show (asInts ds).map _ = some ns from e)
    rw [← h2, List.length_cons, List.length_cons, ih h1]
theorem okMax : Op1Ok K fMax (fun v => rMax K [v]) := by
  intro F H d v o Q s h e q
  cases d with
  | list ds =>
    cases ds with
    | nil => cases e
    | cons d ds =>
      obtain ⟨a, xs, ev, r, w⟩ := h
      obtain ⟨bs, hb, eo⟩ := Option.map_eq_some_iff.mp e
      subst ev eo
      have hl := ints_len hb
      have hne : bs ≠ [] := fun z => by rw [z] at hl; simp at hl
      obtain ⟨m1, m2⟩ := mx_spec bs hne
      refine ⟨a, bs, rfl, by rw [← ints_rp w hb]; exact .inl r, by rw [hl]; simp, fun m hm hle => q _ _ ⟨rfl, ?_⟩⟩
      have : m = mx bs := Int.le_antisymm (m2 m hm) (hle _ m1)
      rw [this]
      rfl
  | _ => cases e
theorem okMin : Op1Ok K fMin (fun v => rMin K [v]) := by
  intro F H d v o Q s h e q
  cases d with
  | list ds =>
    cases ds with
    | nil => cases e
    | cons d ds =>
      obtain ⟨a, xs, ev, r, w⟩ := h
      obtain ⟨bs, hb, eo⟩ := Option.map_eq_some_iff.mp e
      subst ev eo
      have hl := ints_len hb
      have hne : bs ≠ [] := fun z => by rw [z] at hl; simp at hl
      obtain ⟨m1, m2⟩ := mn_spec bs hne
      refine ⟨a, bs, rfl, by rw [← ints_rp w hb]; exact .inl r, by rw [hl]; simp, fun m hm hle => q _ _ ⟨rfl, ?_⟩⟩
      have : m = mn bs := Int.le_antisymm (hle _ m1) (m2 m hm)
      rw [this]
      rfl
  | _ => cases e
theorem okMax2 : Op2Ok K fMax2 (fun x y H Q => ∃ i j, [x, y] = [V.int i, V.int j] ∧ Q (.int (if j > i then j else i)) H) := by
  intro F H d1 d2 v1 v2 o Q s h1 h2 e q
  cases d1 <;> cases d2 <;> cases e
  cases h1; cases h2
  exact ⟨_, _, rfl, q _ _ ⟨rfl, rfl⟩⟩
theorem okMin2 : Op2Ok K fMin2 (fun x y H Q => ∃ i j, [x, y] = [V.int i, V.int j] ∧ Q (.int (if j < i then j else i)) H) := by
  intro F H d1 d2 v1 v2 o Q s h1 h2 e q
  cases d1 <;> cases d2 <;> cases e
  cases h1; cases h2
  exact ⟨_, _, rfl, q _ _ ⟨rfl, rfl⟩⟩
/-! isinstance -/
def tyD : D → String
  | .none => "NoneType"
  | .bool _ => "bool"
  | .int _ => "int"
  | .str _ => "str"
  | .list _ => "list"
  | .tuple _ => "tuple"
  | .dict _ => "dict"
theorem tyx {F H : Hp} {d : D} {v : V} (s : Sub F H) (h : Rt K F H d v) : TyX K H v (.type (tyD d)) := by
  cases d with
  | none => cases h; exact .base .non
  | bool b => cases h; exact .base (.bl b)
  | int i => cases h; exact .base (.int i)
  | str x => obtain ⟨h, _⟩ := h; cases h; exact .base (.str x)
  | list ds =>
    obtain ⟨a, xs, ev, r, _⟩ := h
    subst ev
    rcases r with r | ⟨o, r⟩
    · exact .base (.lst r)
    · exact .base (.frz r)
  | tuple ds =>
    obtain ⟨a, xs, ev, r, _⟩ := h
    subst ev
    rcases s.rdt r with (r | ⟨o, r⟩) | ⟨o, its, n, h1, h2, _⟩
    · exact .base (.tup r)
    · exact .fTuple r
    · exact .kTuple h1 h2
  | dict _ => exact h.elim
theorem kit_all (t : Ty) (d : D) (hd : ∀ k, d ≠ .dict k) : PySem.W.kitOne K (.type (tyD d)) (.type t.nm) = some (isiF t d) := by
  refine kit_ty ?_
  cases d with
  | dict k => exact absurd rfl (hd k)
  | _ => cases t <;> simp only [tyD, Ty.nm, isiF] <;> decide +kernel
theorem okIsi (t : Ty) : Op1Ok K (fun d => oBl (isiF t d)) (fun v => rIsi K [v, .ty t.nm]) := by
  intro F H d v o Q s h e q
  cases e
  refine ⟨v, .ty t.nm, _, _, _, rfl, .ty _, tyx s h, kit_all t d (fun k z => by rw [z] at h; exact h.elim), q _ _ ⟨rfl, rfl⟩⟩
/-! slices -/
theorem cut_rp {F : Hp} {ds : List D} {xs : List V} (w : RpAll K F ds xs) (lo hi : Option Int) : RpAll K F (cutD ds lo hi) (cutV xs lo hi) := by
  unfold cutD cutV
  rw [w.length]
  exact (w.drop _).take _
abbrev rSlAll (K : PySem.W.Frag) : V → Option Int → Option Int → Hp → VK → Prop := fun x lo hi H Q => (∃ a xs, x = .ref a ∧ Rd H a (.lst xs) ∧ ∀ p, H p = none → Q (.ref p) (upd H p (.lst (cutV xs lo hi)))) ∨ rSlA K x lo hi H Q ∨ rSlS x lo hi H Q
theorem strOk_mem {x : Str} : PyData.strOk x = true ↔ ∀ c ∈ x.cps.toList, c < 0x110000 := by
  constructor
  · intro h c hc
    have := (Array.all_eq_true_iff_forall_mem.mp h)
    simpa using this c (Array.mem_toList_iff.mp hc)
  · intro h
    show x.cps.all (· < 0x110000) = true
    rw [Array.all_eq_true_iff_forall_mem]
    intro c hc
    simpa using h c (Array.mem_toList_iff.mpr hc)
theorem strOk_cut {x : Str} {lo hi : Option Int} (h : PyData.strOk x = true) : PyData.strOk (cutS x lo hi) = true := by
  rw [strOk_mem] at h ⊢
  intro c hc
  refine h c ?_
  have : c ∈ (x.cps.toList.drop (HT.sIx x.length 0 lo)).take (HT.sIx x.length x.length hi - HT.sIx x.length 0 lo) := by simpa [cutS] using hc
  exact List.mem_of_mem_drop (List.mem_of_mem_take this)
theorem strOk_up {x : Str} (h : x.cps.toList.all (· < 128) = true) : PyData.strOk ⟨x.cps.map PyProof.Rows.up1⟩ = true := by
  rw [strOk_mem]
  intro c hc
  simp at hc
  obtain ⟨a, ha, e⟩ := hc
  have := List.all_eq_true.mp h a (Array.mem_toList_iff.mpr ha)
  simp at this
  subst e
  unfold PyProof.Rows.up1
  split <;> omega
theorem strOk_of (s : String) : PyData.strOk (Str.ofString s) = true := by
  rw [strOk_mem, Str.ofString_eq_toList]
  intro c hc
  simp at hc
  obtain ⟨a, _, e⟩ := hc
  subst e
  have := a.valid
  rcases this with h | h
  · exact Nat.lt_trans h (by decide)
  · exact h.2
theorem okSlc (lo hi : Option Int) : Op1Ok K (fSlc lo hi) (fun v => rSlAll K v lo hi) := by
  intro F H d v o Q s r e q
  by_cases hstr : ∃ x, d = .str x
  · obtain ⟨x, rfl⟩ := hstr
    simp only [fSlc] at e
    split at e <;> cases e
    rename_i hz
    obtain ⟨ev, hk⟩ := r
    subst ev
    exact .inr (.inr ⟨x, rfl, big_le hz, q _ _ ⟨rfl, rfl, strOk_cut hk⟩⟩)
  cases d <;> try (first | (cases e; done) | exact absurd ⟨_, rfl⟩ hstr)
  all_goals cases e
  · obtain ⟨a, xs, ev, r, w⟩ := r
    subst ev
    exact .inl ⟨a, xs, rfl, r, fun p n => q _ _ ⟨p, _, n, rfl, rfl, cut_rp w lo hi⟩⟩
  · obtain ⟨a, xs, ev, r, w⟩ := r
    subst ev
    refine .inr (.inl ⟨a, xs, rfl, s.rdt r, fun hw => q _ _ (.inl ⟨rfl, a, xs, rfl, r, ?_⟩), fun _ p n => q _ _ (.inr ⟨p, _, n, rfl, rfl, cut_rp w lo hi⟩)⟩)
    have := cut_rp w lo hi
    have ec : cutV xs lo hi = xs := by
      unfold cutV
      rw [hw.1, hw.2]
      simp
    rw [ec] at this
    exact this
theorem call_str_bl {X : Cx} : CallR X (.type "str") (fun xs H Q => ∃ k : Bool, xs = [.bl k] ∧ Q (.str (if k = true then "True" else "False")) H) := by
  intro pins s σ H xs us Q I r h
  obtain ⟨k, rfl, q⟩ := h
  obtain ⟨u, rfl, r1⟩ := vals1 r
  cases r1
  exact PySem.P.str_of_bool ⟨.str _, H, I.tok _, ⟨_, rfl⟩, q⟩
abbrev rStr : List V → Hp → VK → Prop := fun xs H Q => (∃ i, xs = [.int i] ∧ i.natAbs.log2 < 1920 ∧ Q (.str (toString i)) H) ∨ ∃ k : Bool, xs = [.bl k] ∧ Q (.str (if k = true then "True" else "False")) H
theorem call_strA {X : Cx} : CallR X (.type "str") rStr := call_str_int.or call_str_bl
theorem okStr : Op1Ok K fStr (fun v => rStr [v]) := by
  intro F H d v o Q s h e q
  cases d with
  | int i =>
    simp only [fStr] at e
    split at e <;> cases e
    rename_i hz
    cases h
    exact .inl ⟨i, rfl, hz, q _ _ ⟨rfl, rfl, strOk_of _⟩⟩
  | bool b =>
    cases e
    cases h
    exact .inr ⟨b, rfl, q _ _ ⟨rfl, rfl, by cases b <;> exact strOk_of _⟩⟩
  | _ => cases e
theorem okUp : Op1Ok K fUp (fun v H Q => (∃ a, v = .str a) ∧ ∃ a, v = .str a ∧ ([] : List V) = [] ∧ a.length ≤ 5592405 ∧ Q (.str (Txt.upper a)) H) := by
  intro F H d v o Q s h e q
  cases d with
  | str x =>
    simp only [fUp] at e
    split at e <;> cases e
    rename_i hz
    obtain ⟨ev, hk⟩ := h
    subst ev
    have e2 : Txt.upper x = ⟨x.cps.map PyProof.Rows.up1⟩ := PyProof.Rows.upper_ascii fun c hc => by
      have := List.all_eq_true.mp hz.2 c hc
      simpa using this
    exact ⟨⟨x, rfl⟩, x, rfl, rfl, Nat.le_trans hz.1 (by decide), by rw [e2]; exact q _ _ ⟨rfl, rfl, strOk_up hz.2⟩⟩
  | _ => cases e
theorem okSlcL : Op2Ok K fSlcL (fun x y H Q => ∃ i, y = .int i ∧ rSlAll K x (some i) none H Q) := by
  intro F H d1 d2 v1 v2 o Q s h1 h2 e q
  cases d2 <;> try (cases d1 <;> cases e; done)
  cases h2
  exact ⟨_, rfl, okSlc _ _ F H d1 v1 o Q s h1 e q⟩
theorem okSlcH : Op2Ok K fSlcH (fun x y H Q => ∃ i, y = .int i ∧ rSlAll K x none (some i) H Q) := by
  intro F H d1 d2 v1 v2 o Q s h1 h2 e q
  cases d2 <;> try (cases d1 <;> cases e; done)
  cases h2
  exact ⟨_, rfl, okSlc _ _ F H d1 v1 o Q s h1 e q⟩
theorem okRev : Op1Ok K fRev (fun v H Q => ∃ a xs, v = .ref a ∧ SqL K H a xs ∧ ∀ p, H p = none → Q (.ref p) (upd H p (.lst xs.reverse))) := by
  intro F H d v o Q s h e q
  cases d <;> cases e
  obtain ⟨a, xs, ev, r, w⟩ := h
  subst ev
  exact ⟨a, xs, rfl, .inl r, fun p n => q _ _ ⟨p, _, n, rfl, rfl, w.reverse⟩⟩
end
section
variable {X : Cx}
theorem sl_all : SlR X (rSlAll X.K) := by
  have h0 : SlR X (fun x lo hi H Q => ∃ a xs, x = .ref a ∧ Rd H a (.lst xs) ∧ ∀ p, H p = none → Q (.ref p) (upd H p (.lst (cutV xs lo hi)))) := by
    intro pins s σ H x v vl vu lo hi sl Q I rx hs pl pu h
    obtain ⟨a, xs, e, r, q⟩ := h
    exact sl_list pins s σ H x v vl vu lo hi sl Q I rx hs pl pu ⟨a, xs, e, .inl r, q⟩
  exact h0.or (sl_tupA.or sl_str)
end
/-! min and sorted over data -/
def alikeB (ds : List D) : Bool := ds.all fun x => ds.all fun y => PySem.W.alike x y
def fMinD : D → Option OV
  | .list (d :: ds) => if alikeB (d :: ds) = true ∧ ((d :: ds).all fun x => !isNn x) = true ∧ PyData.depthAll (d :: ds) ≤ 60 then some (.dat (PySem.W.minD d ds)) else none
  | _ => none
def tupB : D → Bool
  | .tuple (_ :: _) => true
  | _ => false
def notTupB : D → Bool
  | .tuple _ => false
  | .none => false
  | _ => true
def fSrtD : D → Option OV
  | .list ds => if alikeB ds = true ∧ (ds.all tupB || ds.all notTupB) = true ∧ PyData.depthAll ds ≤ 60 ∧ ds.length ≤ 4000 then some (.nlst (ds.mergeSort (PySem.W.dataLe false id))) else none
  | _ => none
theorem alikeB_at {ds : List D} (h : alikeB ds = true) : ∀ x ∈ ds, ∀ y ∈ ds, PySem.W.alike x y = true := fun x hx y hy => by
  unfold alikeB at h
  rw [List.all_eq_true] at h
  have := h x hx
  rw [List.all_eq_true] at this
  exact this y hy

def rMinD (K : PySem.W.Frag) : List V → Hp → VK → Prop := fun vs H Q => ∃ (a : Addr) (xs : List V) (d : PyData) (ds : List PyData), vs = [V.ref a] ∧ SqL K H a xs ∧ DpAll K H xs (d :: ds) ∧ PySem.W.AlikeAll (d :: ds) ∧ PyData.depthAll (d :: ds) ≤ 60 ∧ PyData.canLayAll0 (d :: ds) = true ∧
  ∀ (i : Nat) x, xs[i]? = some x → (d :: ds)[i]? = some (PySem.W.minD d ds) → Q x H
theorem readsAll_get {h : Heap} : ∀ {vs : List Value} {ds : List PyData} {as : List Addr} {i : Nat} {v : Value}, ReadsAll h vs ds as → vs[i]? = some v → ∃ d bs, ds[i]? = some d ∧ Reads h v d bs ∧ d ∈ ds
  | _, _, _, i, v, .nil, e => by simp at e
  | _, _, _, 0, v, .cons r rs, e => by
    simp at e
    subst e
    exact ⟨_, _, rfl, r, by simp⟩
  | _, _, _, i + 1, v, .cons r rs, e => by
    obtain ⟨d, bs, h1, h2, h3⟩ := readsAll_get (i := i) rs (by simpa using e)
    exact ⟨d, bs, h1, h2, by simp [h3]⟩
theorem Vals.get2 : ∀ {xs : List V} {us : List Value} {i : Nat} {u : Value}, Vals xs us → us[i]? = some u → ∃ x, xs[i]? = some x ∧ RelV x u := fun {xs us i u} r e => by
  cases h : xs[i]? with
  | none => rw [Vals.none_of r h] at e; cases e
  | some x =>
    obtain ⟨w, e2, rl⟩ := Vals.get r h
    rw [e2] at e
    cases e
    exact ⟨x, rfl, rl⟩
theorem canAll_mem : ∀ {ds : List PyData} {d : PyData}, PyData.canLayAll0 ds = true → d ∈ ds → d.canLay0 = true
  | x :: ds, d, h, hd => by
    unfold PyData.canLayAll0 at h
    rw [Bool.and_eq_true] at h
    rcases List.mem_cons.mp hd with rfl | hd
    · exact h.1
    · exact canAll_mem h.2 hd
theorem cr_minD {X : Cx} (hc : X.calm = true) (hu : X.A.units + 65 < cLine) : CallR X (.builtin "min") (rMinD X.K) := by
  intro pins s σ H vs us Q I r h
  obtain ⟨a, xs, d, ds, rfl, hs, hd, ha, hz, hcan, q⟩ := h
  obtain ⟨its, rv, hl, _⟩ := I.list hs
  rw [Vals.ref1 r]
  obtain ⟨as, hr⟩ := Dp.readsAll I (d :: ds) xs its hd rv
  refine PySem.W.min_list_data (I.ok.hd hc) hl.isList (vs := its.toArray) (by simpa using hr) ha (by omega) fun i v h' tk bs hi hrd hk => ?_
  have hi' : its[i]? = some v := by simpa using hi
  obtain ⟨x, hx, rl⟩ := Vals.get2 rv hi'
  obtain ⟨e, cs, he, hre, hme⟩ := readsAll_get hr hi'
  have := SeqAt.Reads.unique e _ v cs bs (canAll_mem hcan hme) (PySem.W.reads_keeps hk hre) hrd
  subst this
  exact ⟨x, H, I.kept hk, rl, q i x hx he⟩
theorem okMinD {K : PySem.W.Frag} : Op1Ok K fMinD (fun v => rMinD K [v]) := by
  intro F H d v o Q s h e q
  cases d with
  | list ds =>
    cases ds with
    | nil => cases e
    | cons d ds =>
      obtain ⟨a, xs, ev, r, w⟩ := h
      simp only [fMinD] at e
      split at e <;> cases e
      rename_i hz
      subst ev
      refine ⟨a, xs, d, ds, rfl, .inl r, RpAll.dp _ _ (RpAll.mono s _ _ w), ⟨alikeB_at hz.1, fun x hx => ?_⟩, hz.2.2, RpAll.can _ _ w, fun i x hx hi => q _ _ ⟨rfl, ?_⟩⟩
      · have := (List.all_eq_true.mp hz.2.1) x hx
        rintro rfl
        cases this
      · obtain ⟨e, he, hr⟩ := RpAll.get' w hx
        rw [hi] at he
        cases he
        exact hr
  | _ => cases e
/-! sorted -/
def rSrtD (K : PySem.W.Frag) : List V → Hp → VK → Prop := fun vs H Q => ∃ (a : Addr) (xs : List V) (ds : List PyData), vs = [V.ref a] ∧ SqL K H a xs ∧ DpAll K H xs ds ∧ PySem.W.AllAlike ds ∧ PySem.W.Sortable ds ∧ PyData.depthAll ds ≤ 60 ∧ ds.length ≤ 4000 ∧
  ∀ p, H p = none → Q (.ref p) (upd H p (.lst (((ds.zip xs).mergeSort (PySem.W.dataLe false Prod.fst)).map Prod.snd)))
theorem each_zip {h : Heap} : ∀ {xs : List V} {us : List Value} {ds : List PyData} {as : List Addr}, Vals xs us → ReadsAll h us ds as → PySem.W.EachIs (fun v (b : PyData × V) => RelV b.2 v) us (ds.zip xs) ∧ PySem.W.EachIs (fun v (b : PyData × V) => ∃ as, Reads h v b.1 as) us (ds.zip xs)
  | _, _, _, _, r, .nil => by
    have := r.length
    cases r
    exact ⟨.nil, .nil⟩
  | _, _, _, _, r, .cons r1 rs => by
    cases r with
    | cons r0 r =>
      obtain ⟨h1, h2⟩ := each_zip r rs
      exact ⟨.cons r0 h1, .cons ⟨_, r1⟩ h2⟩
theorem each_vals : ∀ {us : List Value} {bs : List (PyData × V)}, PySem.W.EachIs (fun v (b : PyData × V) => RelV b.2 v) us bs → Vals (bs.map Prod.snd) us
  | _, _, .nil => .nil
  | _, _, .cons h t => .cons h (each_vals t)
theorem zip_fst : ∀ {ds : List PyData} {xs : List V}, ds.length = xs.length → (ds.zip xs).map Prod.fst = ds
  | [], [], _ => rfl
  | d :: ds, x :: xs, h => by
    simp at h
    simp [zip_fst h]
theorem DpAll.length {K : PySem.W.Frag} {H : Hp} : ∀ {ds : List PyData} {xs : List V}, DpAll K H xs ds → ds.length = xs.length
  | _, _, .nil => rfl
  | _, _, .cons _ t => by simp [DpAll.length t]
theorem cr_sortedD {X : Cx} (hu : X.A.units + 65 < cLine) : CallR X (.builtin "sorted") (rSrtD X.K) := by
  intro pins s σ H vs us Q I r h
  obtain ⟨a, xs, ds, rfl, hs, hd, ha, hk, hz, hlen, q⟩ := h
  obtain ⟨its, rv, hl, _⟩ := I.list hs
  rw [Vals.ref1 r]
  obtain ⟨as, hr⟩ := Dp.readsAll I ds xs its hd rv
  have hl1 := DpAll.length hd
  have ef := zip_fst hl1
  obtain ⟨e1, e2⟩ := each_zip rv hr
  have hsz : (ds.zip xs).length ≤ sizeLine := by
    rw [sizeLine_eq, List.length_zip]
    omega
  refine PySem.W.sorted_data (enc := Prod.fst) (bs := ds.zip xs) hl.isList e1 e2 (by rw [ef]; exact ha) (by rw [ef]; exact hk) hsz (fun b hb => ?_) fun out h1 h2 => ?_
  · have := PyData.depth_le_depthAll _ _ (List.of_mem_zip hb).1
    omega
  · obtain ⟨ep, he'⟩ := PyProof.Rows.sortedAll_at s.heap its out.toArray
    have hlen2 : (((ds.zip xs).mergeSort (PySem.W.dataLe false Prod.fst)).map Prod.snd).length ≤ sizeLine := by
      rw [List.length_map, List.length_mergeSort]
      exact hsz
    exact ⟨.ref _, upd H (s.heap.objs.size + 1) (.lst (((ds.zip xs).mergeSort (PySem.W.dataLe false Prod.fst)).map Prod.snd)), I.laid (t' := s.toks) (fun _ _ => PyProof.Rows.sortedAll_old) (Nat.le_succ _) ⟨hlen2, out, ep, each_vals h2, by simpa using he'⟩, rfl, q _ (I.hok.fresh (Nat.le_succ _))⟩
theorem rpAll_of {K : PySem.W.Frag} {F : Hp} : ∀ {bs : List (D × V)}, (∀ b ∈ bs, Rp K F b.1 b.2) → RpAll K F (bs.map Prod.fst) (bs.map Prod.snd)
  | [], _ => rfl
  | b :: bs, h => ⟨b.2, _, rfl, h b (by simp), rpAll_of fun c hc => h c (by simp [hc])⟩
theorem rpAll_zip {K : PySem.W.Frag} {F : Hp} : ∀ {ds : List D} {xs : List V}, RpAll K F ds xs → ∀ b ∈ ds.zip xs, Rp K F b.1 b.2
  | [], _, _, b, hb => by simp at hb
  | d :: ds, _, ⟨v, r, rfl, h, t⟩, b, hb => by
    simp only [List.zip_cons_cons, List.mem_cons] at hb
    rcases hb with rfl | hb
    · exact h
    · exact rpAll_zip t b hb
theorem srtable {ds : List D} (h : (ds.all tupB || ds.all notTupB) = true) : PySem.W.Sortable ds := by
  rcases Bool.or_eq_true _ _ |>.mp h with h1 | h1
  · refine .inl fun d hd => ?_
    have := List.all_eq_true.mp h1 d hd
    cases d with
    | tuple ys =>
      cases ys with
      | nil => cases this
      | cons y ys => exact ⟨y, ys, rfl⟩
    | _ => cases this
  · refine .inr fun d hd => ?_
    have := List.all_eq_true.mp h1 d hd
    refine ⟨?_, fun ys e => ?_⟩
    · rintro rfl
      cases this
    · subst e
      cases this
theorem srt_rp {K : PySem.W.Frag} {F : Hp} {ds : List D} {xs : List V} (w : RpAll K F ds xs) : RpAll K F (ds.mergeSort (PySem.W.dataLe false id)) (((ds.zip xs).mergeSort (PySem.W.dataLe false Prod.fst)).map Prod.snd) := by
  have e1 : ((ds.zip xs).mergeSort (PySem.W.dataLe false Prod.fst)).map Prod.fst = ds.mergeSort (PySem.W.dataLe false id) := by
    have := List.map_mergeSort (r := PySem.W.dataLe false Prod.fst) (s := PySem.W.dataLe false id) (f := Prod.fst) (l := ds.zip xs) (fun a _ b _ => rfl)
    rw [zip_fst (RpAll.length w).symm] at this
    exact this
  rw [← e1]
  exact rpAll_of fun b hb => rpAll_zip w b ((List.mergeSort_perm _ _).mem_iff.mp hb)
theorem okSrtD {K : PySem.W.Frag} : Op1Ok K fSrtD (fun v => rSrtD K [v]) := by
  intro F H d v o Q s h e q
  cases d with
  | list ds =>
    obtain ⟨a, xs, ev, r, w⟩ := h
    simp only [fSrtD] at e
    split at e <;> cases e
    rename_i hz
    subst ev
    refine ⟨a, xs, ds, rfl, .inl r, RpAll.dp _ _ (RpAll.mono s _ _ w), alikeB_at hz.1, ?_, hz.2.2.1, hz.2.2.2, fun p hp => q _ _ ⟨p, _, hp, rfl, rfl, ?_⟩⟩
    · rcases Bool.or_eq_true _ _ |>.mp hz.2.1 with h1 | h1
      · refine .inl fun d hd => ?_
        have := List.all_eq_true.mp h1 d hd
        cases d with
        | tuple ys =>
          cases ys with
          | nil => cases this
          | cons y ys => exact ⟨y, ys, rfl⟩
        | _ => cases this
      · refine .inr fun d hd => ?_
        have := List.all_eq_true.mp h1 d hd
        refine ⟨?_, fun ys e => ?_⟩
        · rintro rfl
          cases this
        · subst e
          cases this
    · have e1 : ((ds.zip xs).mergeSort (PySem.W.dataLe false Prod.fst)).map Prod.fst = ds.mergeSort (PySem.W.dataLe false id) := by
        have := List.map_mergeSort (r := PySem.W.dataLe false Prod.fst) (s := PySem.W.dataLe false id) (f := Prod.fst) (l := ds.zip xs) (fun a _ b _ => rfl)
        rw [zip_fst (RpAll.length w).symm] at this
        exact this
      rw [← e1]
      exact rpAll_of fun b hb => rpAll_zip w b ((List.mergeSort_perm _ _).mem_iff.mp hb)
  | _ => cases e
/-! sorted, of a tuple -/
def rSrtDT (K : PySem.W.Frag) : List V → Hp → VK → Prop := fun vs H Q => ∃ (a : Addr) (xs : List V) (ds : List PyData), vs = [V.ref a] ∧ SqT K H a xs ∧ DpAll K H xs ds ∧ PySem.W.AllAlike ds ∧ PySem.W.Sortable ds ∧ PyData.depthAll ds ≤ 60 ∧ ds.length ≤ 4000 ∧
  ∀ p, H p = none → Q (.ref p) (upd H p (.lst (((ds.zip xs).mergeSort (PySem.W.dataLe false Prod.fst)).map Prod.snd)))
theorem cr_sortedT {X : Cx} (hu : X.A.units + 65 < cLine) : CallR X (.builtin "sorted") (rSrtDT X.K) := by
  intro pins s σ H vs us Q I r h
  obtain ⟨a, xs, ds, rfl, hs, hd, ha, hk, hz, hlen, q⟩ := h
  obtain ⟨its, rv, ⟨o, ho, hc, n, hdt⟩, _⟩ := I.tuple hs
  rw [Vals.ref1 r]
  have hl1 := DpAll.length hd
  have hl2 : xs.length = its.length := rv.length
  refine Calls.call_function_entry PyProof.Rows.kind_sorted PyProof.Rows.plain_sorted PyProof.Rows.entry_sorted (PyProof.Rows.args_sorted1 _) ?_
  unfold Builtin.«sorted»
  refine wpAny_bind (m := checkCount "sorted" 1 1 _) (wpAny_pure ?_)
  refine wpAny_bind (wpAny_collect_seq a (.inr rfl) ho hc hdt (fun h' keep => ?_) (by rw [List.size_toArray, sizeLine_eq]; omega))
  rw [List.toList_toArray]
  have I2 : Inv X pins σ H { s with heap := h' } := I.kept (t' := s.toks) keep
  obtain ⟨as, hr⟩ := Dp.readsAll I2 ds _ _ hd rv
  have ef := zip_fst hl1
  obtain ⟨e1, e2⟩ := eachk_zip (fun d hd => ha d hd d hd) rv hr
  have hzl : (ds.zip xs).length = xs.length := by rw [List.length_zip]; omega
  refine wpAny_bind (wpAny_newList ?_ (by rw [sizeLine_eq]; omega))
  have hat : (h'.push (PyProof.Rows.seqObj "list" its.toArray 0)).get? h'.objs.size = some (PyProof.Rows.seqObj "list" its.toArray 0) := Heap.get?_push_size _ rfl
  refine wpAny_bind (wpAny_holding (PySem.W.list_sort_data (s := { s with heap := h'.push (PyProof.Rows.seqObj "list" its.toArray 0) }) (A := X.A.in1) (a := h'.objs.size) (enc := Prod.fst) (bs := ds.zip xs) hat e1
    (e2.mono fun v b ⟨as, h1, h2⟩ => ⟨as, PyProof.Rows.Reads.keeps (fun _ _ z => Heap.get?_push_of_some _ z) h1, fun z => Nat.lt_irrefl _ (h2 _ z)⟩) (by rw [ef]; exact ha) (by rw [ef]; exact hk) (by rw [hzl, sizeLine_eq]; omega) (fun b hb => ?_) fun out h1 h2 => ?_))
  · have := PyData.depth_le_depthAll _ _ (List.of_mem_zip hb).1
    show X.A.units + 1 + 1 + _ < cLine
    omega
  · obtain ⟨ep', he'⟩ := PyProof.Rows.sortedHeap_at (out := out.toArray) hat
    have hlen2 : (((ds.zip xs).mergeSort (PySem.W.dataLe false Prod.fst)).map Prod.snd).length ≤ sizeLine := by
      rw [List.length_map, List.length_mergeSort, hzl, sizeLine_eq]
      omega
    exact wpAny_pure ⟨_, rfl, .ref _, upd H h'.objs.size (.lst (((ds.zip xs).mergeSort (PySem.W.dataLe false Prod.fst)).map Prod.snd)), I2.laid (t' := s.toks) (fun b ob z => by
      have lt : b < h'.objs.size := Heap.lt_size z
      rw [PyProof.Rows.sortedHeap_old (Nat.ne_of_lt lt) (by rw [PyProof.Rows.size_push']; exact Nat.lt_succ_of_lt lt)]
      exact Heap.get?_push_of_some _ z) (Nat.le_refl _) ⟨hlen2, out, ep', eachk_vals h2, by simpa using he'⟩, rfl, q _ (I2.hok.fresh (Nat.le_refl _))⟩
def fSrtDT : D → Option OV
  | .tuple ds => fSrtD (.list ds)
  | _ => none
theorem okSrtDT {K : PySem.W.Frag} : Op1Ok K fSrtDT (fun v => rSrtDT K [v]) := by
  intro F H d v o Q s h e q
  cases d with
  | tuple ds =>
    obtain ⟨a, xs, ev, r, w⟩ := h
    simp only [fSrtDT, fSrtD] at e
    split at e <;> cases e
    rename_i hz
    subst ev
    exact ⟨a, xs, ds, rfl, s.rdt r, RpAll.dp _ _ (RpAll.mono s _ _ w), alikeB_at hz.1, srtable hz.2.1, hz.2.2.1, hz.2.2.2, fun p hp => q _ _ ⟨p, _, hp, rfl, rfl, srt_rp w⟩⟩
  | _ => cases e
def rngOk (i : Int) : Bool := decide (-40000 ≤ i ∧ i ≤ 40000)
def rngD (i j : Int) : List D := (List.range (j - i).toNat).map fun k => .int (i + (k : Nat))
def fTupRg : D → Option OV
  | .int n => if rngOk n then some (.ntup (rngD 0 n)) else none
  | _ => none
/-- the texts, each once, in order -/
def srtT (l : List Str) : List Str := l.eraseDups.mergeSort fun a b => decide (a.cps.toList ≤ b.cps.toList)
theorem leT_trans (a b c : Str) (h : decide (a.cps.toList ≤ b.cps.toList) = true) (g : decide (b.cps.toList ≤ c.cps.toList) = true) : decide (a.cps.toList ≤ c.cps.toList) = true :=
  decide_eq_true (List.le_trans (of_decide_eq_true h) (of_decide_eq_true g))
theorem leT_total (a b : Str) : (decide (a.cps.toList ≤ b.cps.toList) || decide (b.cps.toList ≤ a.cps.toList)) = true := by
  rw [Bool.or_eq_true]
  rcases List.le_total a.cps.toList b.cps.toList with h | h
  · exact .inl (decide_eq_true h)
  · exact .inr (decide_eq_true h)
theorem leT_anti {a b : Str} (h : a.cps.toList ≤ b.cps.toList) (g : b.cps.toList ≤ a.cps.toList) : a = b := by
  have e := List.le_antisymm h g
  cases a
  cases b
  simp at e
  rw [e]
theorem mem_srtT {l : List Str} {x : Str} : x ∈ srtT l ↔ x ∈ l := by
  unfold srtT
  rw [(List.mergeSort_perm _ _).mem_iff, List.mem_eraseDups]
theorem srtT_pw (l : List Str) : (srtT l).Pairwise fun a b => a.cps.toList ≤ b.cps.toList := (List.pairwise_mergeSort leT_trans leT_total _).imp of_decide_eq_true
theorem nd_dups : ∀ (n : Nat) (l : List Str), l.length ≤ n → l.eraseDups.Nodup
  | 0, l, h => by
    cases l with
    | nil => simp
    | cons a l => simp at h
  | n + 1, l, h => by
    cases l with
    | nil => simp
    | cons a l =>
      rw [List.eraseDups_cons, List.nodup_cons]
      refine ⟨fun z => ?_, nd_dups n _ ?_⟩
      · have := List.mem_eraseDups.mp z
        simp at this
      · have := List.length_filter_le (fun b => !b == a) l
        simp at h
        omega
theorem srtT_nd (l : List Str) : (srtT l).Nodup := (List.mergeSort_perm _ _).nodup_iff.mpr (nd_dups _ l (Nat.le_refl _))
theorem srtT_one {l m : List Str} (hp : m.Pairwise fun a b => a.cps.toList ≤ b.cps.toList) (hn : m.Nodup) (h : ∀ x, x ∈ m ↔ x ∈ l) : m = srtT l :=
  List.Perm.eq_of_pairwise (le := fun a b : Str => a.cps.toList ≤ b.cps.toList) (fun _ _ _ _ => leT_anti) hp (srtT_pw l) ((List.perm_ext_iff_of_nodup hn (srtT_nd l)).mpr fun x => (h x).trans mem_srtT.symm)
def fSrtTx : D → Option OV
  | .list ds => match asStrs ds with
    | some ns => if ns.length ≤ 4000 then some (.nlst ((srtT ns).map .str)) else none
    | none => none
  | _ => none
end Pb

namespace Pb
open PySem PySem.Spec L2

/-! ### the little language -/
inductive O1 where
  | neg | up | str_ | len | abs | list | tup | all | sum | max | min | intc | rev | srtSet | minD | srtD | tupRg | srtTx | srtDT
inductive O2 where
  | add | sub | mul | mod | div | pow | eq | ne | lt | le | gt | ge | is_ | isn | in_ | nin | ix | max2 | min2 | slcL | slcH
def O1.f : O1 → D → Option OV
  | .neg => fNeg | .up => fUp | .str_ => fStr | .len => fLen | .abs => fAbs | .list => fList | .tup => fTup | .all => fAll | .sum => fSum | .max => fMax | .min => fMin | .intc => fIntc | .rev => fRev | .srtSet => fSrtSet | .minD => fMinD | .srtD => fSrtD | .tupRg => fTupRg | .srtTx => fSrtTx | .srtDT => fSrtDT
def O2.f : O2 → D → D → Option OV
  | .add => fAdd | .sub => fSub | .mul => fMul | .mod => fMod | .div => fDiv | .pow => fPow | .eq => fEq | .ne => fNe | .lt => fLt | .le => fLe | .gt => fGt | .ge => fGe
  | .is_ => fIs | .isn => fIsn | .in_ => fIn false | .nin => fIn true | .ix => fIx | .max2 => fMax2 | .min2 => fMin2 | .slcL => fSlcL | .slcH => fSlcH
inductive Tg where
  | nm (i : Nat)
  | tp (is : List Nat)
mutual
inductive E where
  | var (i : Nat)
  | con (d : D)
  | glob (x : Str) (d : D)
  | op1 (o : O1) (a : E)
  | op2 (o : O2) (a b : E)
  | ch2 (o1 o2 : O2) (a b c : E)
  | ch3 (o1 o2 o3 : O2) (a b c d : E)
  | and_ (a b : E)
  | or_ (a b : E)
  | not_ (a : E)
  | ite (c a b : E)
  | isi (t : Ty) (a : E)
  | isi2 (t u : Ty) (a : E)
  | tup (es : Es)
  | lst (es : Es)
  | slcB (a lo hi : E)
  | rep (a k : E)
  | call (f : Nat) (es : Es)
  | callr (f i : Nat) (es : Es)
  | comp (elt : E) (tg : Tg) (it : It) (cond : E) (vs : List Nat)
  | pop (i : Nat) (a : E)
  | blk (j : Nat) (es : Es)
  | dct0
  | dct1 (k v : E)
  | dIn (neg : Bool) (a : E) (i : Nat)
  | dIx (i : Nat) (a : E)
  | dGet (i : Nat) (a x : E)
  | dSrt (e : E)
inductive Es where
  | nil
  | cons (e : E) (es : Es)
inductive It where
  | datL (e : E)
  | datT (e : E)
  | datS (e : E)
  | rng1 (e : E)
  | rng2 (a b : E)
  | zipL (a b : E)
  | zipT (a b : E)
  | zipLT (a b : E)
  | enm (a : E)
  | enmT (a : E)
  | dctK (i : Nat)
end
inductive FR where
  | ok (r : RV) (io : Option Ob)
  | exc (c : Exc) (io : Option Ob)
  | bad
/-- what is called: defs, and blocks (bodies that run over the caller's slots) -/
structure Cl where
  f : Nat → Option Ob → List D → FR
  b : Nat → List D → En → Res (RV × En)
instance : CoeFun Cl (fun _ => Nat → Option Ob → List D → FR) := ⟨Cl.f⟩

/-! ### its meaning -/
def isInn : Option Sl → Bool
  | some (.inn _) => true
  | _ => false
def isOwnB : Option Sl → Bool
  | some (.inn _) => true
  | some (.own _) => true
  | _ => false
def setAll : List Nat → List D → En → Option En
  | [], [], env => some env
  | i :: is, d :: ds, env => if isInn env[i]? then none else setAll is ds (env.set i (.val d))
  | _, _, _ => none
def asgT : Tg → D → En → Option En
  | .nm i, d, env => if isInn env[i]? then none else some (env.set i (.val d))
  | .tp is, .tuple ds, env => setAll is ds env
  | .tp _, _, _ => none
def Tg.sl : Tg → List Nat
  | .nm i => [i]
  | .tp is => is
def wipeE (env : En) : List Nat → En
  | [] => env
  | v :: vs => (wipeE env vs).set v .non
def backE (env saved : En) : List Nat → En
  | [] => env
  | v :: vs => (backE env saved vs).set v (saved.getD v .non)
def fz (x : Res (RV × En)) : Res (D × En) := x.bind fun y => match frz y.2 y.1 with
  | some z => .ok z
  | none => .bad
def tst (x : Res (RV × En)) : Res (Bool × En) := x.bind fun y => match y.1 with
  | .val (.bool b) => .ok (b, y.2)
  | _ => .bad
def compL (t : D → En → Res (Bool × En)) (elt : En → Res (D × En)) (vs : List Nat) : List D → En → Res (List D × En)
  | [], env => .ok ([], env)
  | d :: ds, env => match t d env with
    | .ok (true, e1) => match elt e1 with
      | .ok (y, e2) => match compL t elt vs ds (wipeE e2 vs) with
        | .ok (r, e3) => .ok (y :: r, e3)
        | _ => .bad
      | _ => .bad
    | .ok (false, e1) => compL t elt vs ds (wipeE e1 vs)
    | _ => .bad
/-- lists that stand in a comprehension's own slots become data -/
def frzVs : List Nat → En → Option En
  | [], env => some env
  | v :: vs, env => match env[v]? with
    | some (.own o) => match obD o with
      | some d => frzVs vs (env.set v (.val d))
      | none => none
    | some (.inn _) => none
    | _ => frzVs vs env
def runComp1 (t : D → En → Res (Bool × En)) (elt : En → Res (D × En)) (vs : List Nat) (ds : List D) (env : En) : Res (RV × En) :=
  if vs.any fun v => isOwnB env[v]? then .bad else
  match compL t elt vs ds (wipeE env vs) with
  | .ok (r, e) => .ok (.fresh (.lst r), backE e env vs)
  | _ => .bad
def runComp (t : D → En → Res (Bool × En)) (elt : En → Res (D × En)) (vs : List Nat) (ds : List D) (env : En) : Res (RV × En) :=
  match frzVs vs env with
  | some e => runComp1 t elt vs ds e
  | none => .bad
def itL : D → Option (List D)
  | .list ds => some ds
  | _ => none
def itT : D → Option (List D)
  | .tuple ds => some ds
  | _ => none
def itS : D → Option (List D)
  | .str x => if x.length ≤ big then some (x.cps.toList.map fun c => .str ⟨#[c]⟩) else none
  | _ => none
def enmD (n : Nat) : List D → List D
  | [] => []
  | d :: ds => .tuple [.int n, d] :: enmD (n + 1) ds
def zipD : List D → List D → List D
  | d :: ds, e :: es => .tuple [d, e] :: zipD ds es
  | _, _ => []
def mayB {α β : Type} (x : Option α) (f : α → Res β) : Res β := match x with
  | some a => f a
  | none => .bad
def repE (r s : RV) (env : En) : Res (RV × En) := match r, rd env s with
  | .fresh (.lst ds), some (.int k) => if 0 ≤ k ∧ k ≤ 1000 ∧ ds.length ≤ 50 then .ok (.fresh (.lst (List.replicate k.toNat ds).flatten), env) else .bad
  | _, _ => .bad
/-- dicts -/
def dcOf : Option Sl → Option (List (D × D))
  | some (.own (.dct kvs)) => some kvs
  | some (.inn (.dct kvs)) => some kvs
  | some (.frd kvs) => some kvs
  | _ => none
def dcRd (env : En) : RV → Option (List (D × D))
  | .fresh (.dct kvs) => some kvs
  | .slot i => dcOf env[i]?
  | _ => none
def keyD (d : D) : Option NK := match nkD d with
  | some k => if k.depth ≤ 8 ∧ topD d = true then some k else none
  | none => none
def dct1E (k d : D) (env : En) : Res (RV × En) := match keyD k with
  | some _ => .ok (.fresh (.dct [(k, d)]), env)
  | none => .bad
def dInE (neg : Bool) (i : Nat) (k : D) (env : En) : Res (RV × En) := match dcOf env[i]?, keyD k with
  | some kvs, some nk => .ok (.val (.bool (if neg then !(dcAt kvs nk).isSome else (dcAt kvs nk).isSome)), env)
  | _, _ => .bad
def dIxE (i : Nat) (k : D) (env : En) : Res (RV × En) := match dcOf env[i]?, keyD k with
  | some kvs, some nk => match dcAt kvs nk with
    | some d => .ok (.val d, env)
    | none => .bad
  | _, _ => .bad
def dGetE (i : Nat) (k x : D) (env : En) : Res (RV × En) := match dcOf env[i]?, keyD k with
  | some kvs, some nk => .ok (.val ((dcAt kvs nk).getD x), env)
  | _, _ => .bad
def dSrtE (r : RV) (env : En) : Res (RV × En) := match dcRd env r with
  | some kvs => resOV (fSrtD (.list (kvs.map (·.1)))) env
  | none => .bad
def dKeys (i : Nat) (env : En) : Res (List D × En) := match env[i]? with
  | some (.own (.dct kvs)) => .ok (kvs.map (·.1), env.set i (.frd kvs))
  | some (.frd kvs) => .ok (kvs.map (·.1), env)
  | _ => .bad
def lstAt (env : En) (i : Nat) : Option (Sl × List D) := match env[i]? with
  | some (.own (.lst ds)) => some (.own (.lst ds), ds)
  | some (.inn (.lst ds)) => some (.inn (.lst ds), ds)
  | _ => none
def popE (i : Nat) (r : RV) (env : En) : Res (RV × En) := match r, lstAt env i with
  | .val (.int k), some (s, ds) => if ds.length ≤ big then match ixN ds.length k with
      | some j => match ds[j]? with
        | some d => .ok (.val d, env.set i (putOb s (.lst (ds.eraseIdx j))))
        | none => .bad
      | none => .bad
    else .bad
  | _, _ => .bad
def callE (cl : Cl) (f : Nat) (ds : List D) (env : En) : Res (RV × En) := match cl f none ds with
  | .ok (.val d) none => .ok (.val d, env)
  | .ok (.fresh o) none => .ok (.fresh o, env)
  | .exc c none => .exc c env
  | _ => .bad
def callR (cl : Cl) (f i : Nat) (ds : List D) (env : En) : Res (RV × En) := match (env[i]?).bind fun s => (slOb s).map (s, ·) with
  | some (s, o) => match cl f (some o) ds with
    | .ok (.val d) (some o') => .ok (.val d, env.set i (putOb s o'))
    | .ok (.fresh q) (some o') => .ok (.fresh q, env.set i (putOb s o'))
    | .exc c (some o') => .exc c (env.set i (putOb s o'))
    | _ => .bad
  | none => .bad
def evAnd (e1 e2 : En → Res (RV × En)) : En → Res (RV × En) := fun env => (tst (e1 env)).bind fun x => if x.1 then e2 x.2 else .ok (.val (.bool false), x.2)
def evOr (e1 e2 : En → Res (RV × En)) : En → Res (RV × En) := fun env => (tst (e1 env)).bind fun x => if x.1 then .ok (.val (.bool true), x.2) else e2 x.2
def evNot (e1 : En → Res (RV × En)) : En → Res (RV × En) := fun env => (tst (e1 env)).bind fun x => .ok (.val (.bool (!x.1)), x.2)
def evIte (c e1 e2 : En → Res (RV × En)) : En → Res (RV × En) := fun env => (tst (c env)).bind fun x => if x.1 then e1 x.2 else e2 x.2
def evSlcB (e1 e2 e3 : En → Res (RV × En)) : En → Res (RV × En) := fun env => (e1 env).bind fun x => (e2 x.2).bind fun l => match l.1 with
  | .val (.int i) => (e3 l.2).bind fun h => match h.1 with
    | .val (.int j) => ap1 (fSlc (some i) (some j)) x.1 h.2
    | _ => .bad
  | _ => .bad
/-- a op b op' c, b once -/
def lnk (f : D → D → Option OV) (r s : RV) (env : En) : Res (Bool × En) := tst (ap2 f r s env)
def evCh2 (f g : D → D → Option OV) (e1 e2 e3 : En → Res (RV × En)) : En → Res (RV × En) := fun env => (e1 env).bind fun x => (e2 x.2).bind fun y => (lnk f x.1 y.1 y.2).bind fun b =>
  if b.1 then (e3 b.2).bind fun z => ap2 g y.1 z.1 z.2 else .ok (.val (.bool false), b.2)
def evCh3 (f g h : D → D → Option OV) (e1 e2 e3 e4 : En → Res (RV × En)) : En → Res (RV × En) := fun env => (e1 env).bind fun x => (e2 x.2).bind fun y => (lnk f x.1 y.1 y.2).bind fun b =>
  if b.1 then (e3 b.2).bind fun z => (lnk g y.1 z.1 z.2).bind fun c => if c.1 then (e4 c.2).bind fun w => ap2 h z.1 w.1 w.2 else .ok (.val (.bool false), c.2) else .ok (.val (.bool false), b.2)
mutual
def evE (cl : Cl) : E → En → Res (RV × En)
  | .var i, env => match env[i]? with
    | some (.val d) => .ok (.val d, env)
    | some (.own _) => .ok (.slot i, env)
    | some (.inn _) => .ok (.slot i, env)
    | some (.frd _) => .ok (.slot i, env)
    | _ => .bad
  | .con d, env => .ok (.val d, env)
  | .glob _ d, env => .ok (.val d, env)
  | .op1 o a, env => ev1 o.f (evE cl a) env
  | .op2 o a b, env => ev2 o.f (evE cl a) (evE cl b) env
  | .ch2 o1 o2 a b c, env => evCh2 o1.f o2.f (evE cl a) (evE cl b) (evE cl c) env
  | .ch3 o1 o2 o3 a b c d, env => evCh3 o1.f o2.f o3.f (evE cl a) (evE cl b) (evE cl c) (evE cl d) env
  | .and_ a b, env => evAnd (evE cl a) (evE cl b) env
  | .or_ a b, env => evOr (evE cl a) (evE cl b) env
  | .not_ a, env => evNot (evE cl a) env
  | .ite c a b, env => evIte (evE cl c) (evE cl a) (evE cl b) env
  | .isi t a, env => ev1 (fun d => oBl (isiF t d)) (evE cl a) env
  | .isi2 t u a, env => ev1 (fun d => oBl (isiF t d || isiF u d)) (evE cl a) env
  | .tup es, env => (evEs cl es env).bind fun x => if x.1.length ≤ big then .ok (.val (.tuple x.1), x.2) else .bad
  | .lst es, env => (evEs cl es env).bind fun x => if x.1.length ≤ big then .ok (.fresh (.lst x.1), x.2) else .bad
  | .slcB a lo hi, env => evSlcB (evE cl a) (evE cl lo) (evE cl hi) env
  | .rep a k, env => (evE cl a env).bind fun x => (evE cl k x.2).bind fun y => repE x.1 y.1 y.2
  | .call f es, env => (evEs cl es env).bind fun x => callE cl f x.1 x.2
  | .callr f i es, env => if isOwnB env[i]? then (evEs cl es env).bind fun x => callR cl f i x.1 x.2 else .bad
  | .comp elt tg it cond vs, env => (evI cl it env).bind fun x =>
      runComp (fun d e => mayB (asgT tg d e) fun e => tst (evE cl cond e)) (fun e => fz (evE cl elt e)) vs x.1 x.2
  | .blk j es, env => (evEs cl es env).bind fun x => cl.b j x.1 x.2
  | .dct0, env => .ok (.fresh (.dct []), env)
  | .dct1 k v, env => (fz (evE cl k env)).bind fun x => (fz (evE cl v x.2)).bind fun y => dct1E x.1 y.1 y.2
  | .dIn neg a i, env => (fz (evE cl a env)).bind fun x => dInE neg i x.1 x.2
  | .dIx i a, env => if (dcOf env[i]?).isSome then (fz (evE cl a env)).bind fun x => dIxE i x.1 x.2 else .bad
  | .dGet i a x, env => if (dcOf env[i]?).isSome then (fz (evE cl a env)).bind fun k => (fz (evE cl x k.2)).bind fun y => dGetE i k.1 y.1 y.2 else .bad
  | .dSrt e, env => (evE cl e env).bind fun x => dSrtE x.1 x.2
  | .pop i a, env => if (lstAt env i).isSome then (evE cl a env).bind fun x => popE i x.1 x.2 else .bad
def evEs (cl : Cl) : Es → En → Res (List D × En)
  | .nil, env => .ok ([], env)
  | .cons e es, env => (fz (evE cl e env)).bind fun x => (evEs cl es x.2).bind fun y => .ok (x.1 :: y.1, y.2)
def evI (cl : Cl) : It → En → Res (List D × En)
  | .datL e, env => (fz (evE cl e env)).bind fun x => mayB (itL x.1) fun ds => .ok (ds, x.2)
  | .datT e, env => (fz (evE cl e env)).bind fun x => mayB (itT x.1) fun ds => .ok (ds, x.2)
  | .datS e, env => (fz (evE cl e env)).bind fun x => mayB (itS x.1) fun ds => .ok (ds, x.2)
  | .rng1 e, env => (fz (evE cl e env)).bind fun x => match x.1 with
    | .int j => if rngOk j then .ok (rngD 0 j, x.2) else .bad
    | _ => .bad
  | .rng2 a b, env => (fz (evE cl a env)).bind fun x => (fz (evE cl b x.2)).bind fun y => match x.1, y.1 with
    | .int i, .int j => if rngOk i && rngOk j then .ok (rngD i j, y.2) else .bad
    | _, _ => .bad
  | .zipL a b, env => (fz (evE cl a env)).bind fun x => (fz (evE cl b x.2)).bind fun y => mayB (itL x.1) fun ds => mayB (itL y.1) fun es => .ok (zipD ds es, y.2)
  | .zipT a b, env => (fz (evE cl a env)).bind fun x => (fz (evE cl b x.2)).bind fun y => mayB (itT x.1) fun ds => mayB (itT y.1) fun es => .ok (zipD ds es, y.2)
  | .zipLT a b, env => (fz (evE cl a env)).bind fun x => (fz (evE cl b x.2)).bind fun y => mayB (itL x.1) fun ds => mayB (itT y.1) fun es => .ok (zipD ds es, y.2)
  | .enm a, env => (fz (evE cl a env)).bind fun x => mayB (itL x.1) fun ds => .ok (enmD 0 ds, x.2)
  | .enmT a, env => (fz (evE cl a env)).bind fun x => mayB (itT x.1) fun ds => .ok (enmD 0 ds, x.2)
  | .dctK i, env => dKeys i env
end
example (cl : Cl) (a b : E) : evE cl (.op2 .add a b) = ev2 fAdd (evE cl a) (evE cl b) := by rfl
end Pb

namespace Pb
open PySem PySem.Spec L2

abbrev pm (X : Cx) (Tb : List (Addr × Str)) : Pm := ⟨X.K, X.w, X.mg, Tb⟩
/-- an expression runs as the little language says; a test; the values of arguments -/
abbrev SE (X : Cx) (Tb : List (Addr × Str)) (σ0 : S0) (W : WX) (cl : Cl) (e : Expr) (i : E) : Prop := PE X e (tE (pm X Tb) σ0 W (evE cl i))
def evT (cl : Cl) (i : E) : En → Res (Bool × En) := fun env => tst (evE cl i env)
abbrev ST (X : Cx) (Tb : List (Addr × Str)) (σ0 : S0) (W : WX) (cl : Cl) (e : Expr) (i : E) : Prop := PT X e (tT (pm X Tb) σ0 W (evT cl i))
abbrev SW (X : Cx) (Tb : List (Addr × Str)) (σ0 : S0) (W : WX) (cl : Cl) (e : Expr) (i : E) : Prop := PW X e (tT (pm X Tb) σ0 W (evT cl i))
def tA (p : Pm) (σ0 : S0) (W : WX) (ev : En → Res (List D × En)) : TA := fun σ H Q => ∃ G F env, Rel p σ0 G F env σ H ∧ GoodB p σ0 G F σ W (fun ds _ F' H' => ∀ vs, RpAll p.K F' ds vs → Q vs H') (ev env)
abbrev SA (X : Cx) (Tb : List (Addr × Str)) (σ0 : S0) (W : WX) (cl : Cl) (e : List Expr) (i : Es) : Prop := PA X e (tA (pm X Tb) σ0 W (evEs cl i))

section
variable {p : Pm} {σ0 : S0} {σ : Sg} {G F H : Hp} {env : En} {W : WX}
/-- a run in a wider frame -/
theorem GoodB.ok_in {β : Type} {Ok : β → En → Hp → Hp → Prop} {b : β} {env' : En} (g : GoodB p σ0 G F σ W Ok (.ok (b, env'))) (R : Rel p σ0 G F env' σ H) : Ok b env' F H := g H F (.refl G F) R
theorem tst_e {ev : En → Res (RV × En)} {Q : Bool → Hp → Prop} (h : tT p σ0 W (fun env => tst (ev env)) σ H Q) : tE p σ0 W ev σ H (fun x H' => ∃ k, x = .bl k ∧ Q k H') := by
  obtain ⟨G, F, env, R, g⟩ := h
  refine next (L := []) R (fun _ => noL) g fun r v F2 env2 H2 _ R2 hr _ g2 => ?_
  cases r with
  | val d =>
    cases d with
    | bool b => exact ⟨b, hr, g2.ok_in R2⟩
    | _ => exact (show False from g2).elim
  | _ => exact (show False from g2).elim
/-- a test's outcome, then something -/
theorem nextB {β : Type} {Ok : β → En → Hp → Hp → Prop} {ev : En → Res (RV × En)} {k : Bool × En → Res (β × En)} {Q1 : VK} (R : Rel p σ0 G F env σ H) (g : GoodB p σ0 G F σ W Ok ((tst (ev env)).bind k))
    (hk : ∀ b F2 env2 H2, Grow G F F2 → Rel p σ0 G F2 env2 σ H2 → GoodB p σ0 G F2 σ W Ok (k (b, env2)) → Q1 (.bl b) H2) : tE p σ0 W ev σ H Q1 := by
  have e : (tst (ev env)).bind k = (ev env).bind fun y => (match y.1 with | .val (.bool b) => Res.ok (b, y.2) | _ => Res.bad : Res (Bool × En)).bind k := by
    unfold tst
    cases ev env <;> rfl
  rw [e] at g
  refine next (L := []) R (fun _ => noL) g fun r v F2 env2 H2 gr R2 hr _ g2 => ?_
  cases r with
  | val d =>
    cases d with
    | bool b =>
      have hv : v = .bl b := hr
      rw [hv]
      exact hk b F2 env2 H2 gr R2 g2
    | _ => exact (show False from g2).elim
  | _ => exact (show False from g2).elim
theorem and_t {e1 e2 : En → Res (RV × En)} {Q : VK} (h : tE p σ0 W (evAnd e1 e2) σ H Q) : tAndV (tE p σ0 W e1) (tE p σ0 W e2) σ H Q := by
  obtain ⟨G, F, env, R, g⟩ := h
  refine nextB R g fun b F2 env2 H2 gr R2 g2 => ⟨b, rfl, ?_⟩
  cases b with
  | true => exact ⟨G, F2, env2, R2, g2⟩
  | false => exact g2.ok_in R2 _ rfl
theorem or_t {e1 e2 : En → Res (RV × En)} {Q : VK} (h : tE p σ0 W (evOr e1 e2) σ H Q) : tOrV (tE p σ0 W e1) (tE p σ0 W e2) σ H Q := by
  obtain ⟨G, F, env, R, g⟩ := h
  refine nextB R g fun b F2 env2 H2 gr R2 g2 => ⟨b, rfl, ?_⟩
  cases b with
  | false => exact ⟨G, F2, env2, R2, g2⟩
  | true => exact g2.ok_in R2 _ rfl
theorem ite_t {c e1 e2 : En → Res (RV × En)} {Q : VK} (h : tE p σ0 W (evIte c e1 e2) σ H Q) : tIf (tT p σ0 W fun env => tst (c env)) (tE p σ0 W e1) (tE p σ0 W e2) σ H Q := by
  obtain ⟨G, F, env, R, g⟩ := h
  refine nextT (ev := fun env => tst (c env)) (L := []) R (fun _ => noL) g fun b F2 env2 H2 gr R2 _ g2 => ?_
  cases b with
  | true => exact ⟨G, F2, env2, R2, g2⟩
  | false => exact ⟨G, F2, env2, R2, g2⟩
theorem tst_and {e1 e2 : En → Res (RV × En)} {Q : Bool → Hp → Prop} (h : tT p σ0 W (fun env => tst (evAnd e1 e2 env)) σ H Q) : tAnd (tT p σ0 W fun env => tst (e1 env)) (tT p σ0 W fun env => tst (e2 env)) σ H Q := by
  obtain ⟨G, F, env, R, g⟩ := h
  have e : tst (evAnd e1 e2 env) = (tst (e1 env)).bind fun x => if x.1 then tst (e2 x.2) else .ok (false, x.2) := by
    unfold evAnd
    cases tst (e1 env) with
    | ok x =>
      obtain ⟨b, env2⟩ := x
      cases b <;> rfl
    | _ => rfl
  replace g : GoodB p σ0 G F σ W (OkT Q) (tst (evAnd e1 e2 env)) := g
  rw [e] at g
  refine nextT (ev := fun env => tst (e1 env)) (L := []) R (fun _ => noL) g fun b F2 env2 H2 gr R2 _ g2 => ?_
  cases b with
  | true => exact ⟨G, F2, env2, R2, g2⟩
  | false => exact g2.ok_in R2
theorem tst_or {e1 e2 : En → Res (RV × En)} {Q : Bool → Hp → Prop} (h : tT p σ0 W (fun env => tst (evOr e1 e2 env)) σ H Q) : tOr (tT p σ0 W fun env => tst (e1 env)) (tT p σ0 W fun env => tst (e2 env)) σ H Q := by
  obtain ⟨G, F, env, R, g⟩ := h
  have e : tst (evOr e1 e2 env) = (tst (e1 env)).bind fun x => if x.1 then .ok (true, x.2) else tst (e2 x.2) := by
    unfold evOr
    cases tst (e1 env) with
    | ok x =>
      obtain ⟨b, env2⟩ := x
      cases b <;> rfl
    | _ => rfl
  replace g : GoodB p σ0 G F σ W (OkT Q) (tst (evOr e1 e2 env)) := g
  rw [e] at g
  refine nextT (ev := fun env => tst (e1 env)) (L := []) R (fun _ => noL) g fun b F2 env2 H2 gr R2 _ g2 => ?_
  cases b with
  | false => exact ⟨G, F2, env2, R2, g2⟩
  | true => exact g2.ok_in R2
theorem tst_not {e1 : En → Res (RV × En)} {Q : Bool → Hp → Prop} (h : tT p σ0 W (fun env => tst (evNot e1 env)) σ H Q) : tNot (tT p σ0 W fun env => tst (e1 env)) σ H Q := by
  obtain ⟨G, F, env, R, g⟩ := h
  have e : tst (evNot e1 env) = (tst (e1 env)).bind fun x => .ok (!x.1, x.2) := by
    unfold evNot
    cases tst (e1 env) <;> rfl
  replace g : GoodB p σ0 G F σ W (OkT Q) (tst (evNot e1 env)) := g
  rw [e] at g
  exact nextT (ev := fun env => tst (e1 env)) (L := []) R (fun _ => noL) g fun b F2 env2 H2 gr R2 _ g2 => g2.ok_in R2
theorem not_t {e1 : En → Res (RV × En)} {Q : VK} (h : tE p σ0 W (evNot e1) σ H Q) : tNotV (tE p σ0 W e1) σ H Q := by
  obtain ⟨G, F, env, R, g⟩ := h
  exact nextB R g fun b F2 env2 H2 gr R2 g2 => ⟨b, rfl, g2.ok_in R2 _ rfl⟩
/-- chains -/
theorem lnk_out {f : D → D → Option OV} {rr : R2} (ok : Op2Ok p.K f rr) {β : Type} {Ok : β → En → Hp → Hp → Prop} {k : Bool × En → Res (β × En)} {r s : RV} {v u : V} {Q1 : VK} (R : Rel p σ0 G F env σ H) (hr : RR p G F env σ H r v) (hs : RR p G F env σ H s u)
    (g : GoodB p σ0 G F σ W Ok ((lnk f r s env).bind k)) (hk : ∀ b, GoodB p σ0 G F σ W Ok (k (b, env)) → Q1 (.bl b) H) : rr v u H Q1 := by
  unfold lnk ap2 at g
  cases h1 : rd env r with
  | none => rw [h1] at g; exact (show False from g).elim
  | some x =>
    rw [h1] at g
    cases h2 : rd env s with
    | none => simp only [Option.bind, h2] at g; exact (show False from g).elim
    | some y =>
      cases h3 : f x y with
      | none => simp only [Option.bind, h2, h3] at g; exact (show False from g).elim
      | some o =>
        simp only [Option.bind, h2, h3] at g
        cases o with
        | dat d =>
          cases d with
          | bool b =>
            refine ok F H x y v u _ Q1 R.fs (rd_ok R hr h1) (rd_ok R hs h2) h3 fun v' H' h => ?_
            obtain ⟨e1, e2⟩ := h
            have e2' : v' = .bl b := e2
            rw [e1, e2']
            exact hk b g
          | _ => exact (show False from g).elim
        | _ => exact (show False from g).elim
theorem ch2_t {f g : D → D → Option OV} {rr rs : R2} (ok : Op2Ok p.K f rr) (ok2 : Op2Ok p.K g rs) {e1 e2 e3 : En → Res (RV × En)} {Q : VK} (h : tE p σ0 W (evCh2 f g e1 e2 e3) σ H Q) : tChain rr rs (tE p σ0 W e1) (tE p σ0 W e2) (tE p σ0 W e3) σ H Q := by
  obtain ⟨G, F, env, R, h⟩ := h
  refine next (L := []) R (fun _ => noL) h fun r v F2 env2 H2 _ R2 hr _ g2 => next (L := [(r, v)]) R2 (fun q hq => by simp at hq; rw [hq]; exact hr) g2 fun s u F3 env3 H3 _ R3 hs hL g3 => ?_
  have hr3 := hL (r, v) (by simp)
  refine lnk_out ok R3 hr3 hs g3 fun b g4 => ⟨b, rfl, ?_⟩
  cases b with
  | false => exact g4.ok_in R3 _ rfl
  | true =>
    refine next (L := [(s, u)]) R3 (fun q hq => by simp at hq; rw [hq]; exact hs) g4 fun t w F4 env4 H4 _ R4 ht hL4 g5 => ?_
    exact ap2_out ok2 R4 (hL4 (s, u) (by simp)) ht g5
/-- data for good -/
theorem nextF {β : Type} {Ok : β → En → Hp → Hp → Prop} {ev : En → Res (RV × En)} {k : D × En → Res (β × En)} {Q1 : VK} (R : Rel p σ0 G F env σ H) (g : GoodB p σ0 G F σ W Ok ((fz (ev env)).bind k))
    (hk : ∀ d v F2 env2 H2, Grow G F F2 → Rel p σ0 G F2 env2 σ H2 → Rp p.K F2 d v → GoodB p σ0 G F2 σ W Ok (k (d, env2)) → Q1 v H2) : tE p σ0 W ev σ H Q1 := by
  have e : (fz (ev env)).bind k = (ev env).bind fun y => (match frz y.2 y.1 with | some z => Res.ok z | none => Res.bad : Res (D × En)).bind k := by
    unfold fz
    cases ev env <;> rfl
  rw [e] at g
  refine next (L := []) R (fun _ => noL) g fun r v F2 env2 H2 gr R2 hr _ g2 => ?_
  cases h1 : frz env2 r with
  | none => simp only [h1] at g2; exact (show False from g2).elim
  | some z =>
    obtain ⟨d, env3⟩ := z
    simp only [h1] at g2
    obtain ⟨F3, gr3, R3, rp⟩ := frz_ok R2 hr h1
    exact hk d v F3 env3 H2 (gr.trans gr3) R3 rp (g2.shift gr3)
theorem nil_t {Q : List V → Hp → Prop} {cl : Cl} (h : tA p σ0 W (evEs cl .nil) σ H Q) : tNil σ H Q := by
  obtain ⟨G, F, env, R, g⟩ := h
  exact g.ok_in R [] rfl
theorem cons_t {Q : List V → Hp → Prop} {cl : Cl} {i : E} {is : Es} (h : tA p σ0 W (evEs cl (.cons i is)) σ H Q) : tCons (tE p σ0 W (evE cl i)) (tA p σ0 W (evEs cl is)) σ H Q := by
  obtain ⟨G, F, env, R, g⟩ := h
  refine nextF R g fun d v F2 env2 H2 gr R2 rp g2 => ⟨G, F2, env2, R2, ?_⟩
  refine g2.part (.refl G) fun ds env3 F3 H3 gr3 R3 g3 vs hvs => ?_
  exact g3.ok_in R3 (v :: vs) ⟨v, vs, rfl, Rp.mono gr3.sub _ _ rp, hvs⟩
end

/-! ### the rules: expressions -/
section
variable {X : Cx} {Tb : List (Addr × Str)} {σ0 : S0} {W : WX} {cl : Cl} {a b c d e : Expr} {i j k : E} {es : List Expr} {is : Es} {pos pos' : Pos}
theorem sa_nil : SA X Tb σ0 W cl [] .nil := PA.mono pa_nil fun _ _ _ h => nil_t h
theorem sa_cons (ha : SE X Tb σ0 W cl a i) (hr : SA X Tb σ0 W cl es is) (hs : starEach (a :: es) X.env = (false, eval a X.env) :: starEach es X.env := by rfl) : SA X Tb σ0 W cl (a :: es) (.cons i is) :=
  PA.mono (pa_cons ha hr hs) fun _ _ _ h => cons_t h
theorem se_var (n : Nat) {x : Str} (hN : X.N[n]? = some x := by rfl) (hv : Vis X.env.scope x := by first | exact Or.inl rfl | exact Or.inr (Or.inl rfl) | exact Or.inr (Or.inr rfl)) (hd : (x == ("__debug__" : Str)) = false := by decide)
    (hcd : (x == ("__classdict__" : Str)) = false := by decide) : SE X Tb σ0 W cl (.Name x pos) (.var n) := by
  refine PE.mono (pe_var hN hv hd hcd) fun σ H Q h => ?_
  obtain ⟨G, F, env, R, g⟩ := h
  have g' : GoodB (pm X Tb) σ0 G F σ W (OkE (pm X Tb) G σ Q) (match env[n]? with
    | some (.val d) => .ok (.val d, env)
    | some (.own _) => .ok (.slot n, env)
    | some (.inn _) => .ok (.slot n, env)
    | some (.frd _) => .ok (.slot n, env)
    | _ => .bad) := g
  cases hs : env[n]? with
  | none => rw [hs] at g'; exact (show False from g').elim
  | some s =>
    rw [hs] at g'
    cases s with
    | non => exact (show False from g').elim
    | val d =>
      obtain ⟨v, e1, e2⟩ := R.val n d hs
      exact ⟨v, e1, g'.ok_in R v e2⟩
    | own o =>
      obtain ⟨v, e1, _⟩ := R.own n o (.inl hs)
      exact ⟨_, e1, g'.ok_in R _ e1⟩
    | inn o =>
      obtain ⟨v, e1, _⟩ := R.own n o (.inr hs)
      exact ⟨_, e1, g'.ok_in R _ e1⟩
    | frd k =>
      obtain ⟨v, e1, _⟩ := R.frd n k hs
      exact ⟨_, e1, g'.ok_in R _ e1⟩
theorem se_int {n : Int} {m : Nat} : SE X Tb σ0 W cl (.Constant (.int n) m pos) (.con (.int n)) := PE.mono pe_int fun _ _ _ ⟨_, _, _, R, g⟩ => GoodB.ok_in g R _ rfl
theorem se_bl {n : Bool} {m : Nat} : SE X Tb σ0 W cl (.Constant (.bool n) m pos) (.con (.bool n)) := PE.mono pe_bl fun _ _ _ ⟨_, _, _, R, g⟩ => GoodB.ok_in g R _ rfl
theorem se_non {m : Nat} : SE X Tb σ0 W cl (.Constant .none m pos) (.con .none) := PE.mono pe_non fun _ _ _ ⟨_, _, _, R, g⟩ => GoodB.ok_in g R _ rfl
theorem se_str {x : Str} {m : Nat} (h : PyData.strOk x = true := by decide +kernel) : SE X Tb σ0 W cl (.Constant (.str x) m pos) (.con (.str x)) := PE.mono pe_str fun _ _ _ ⟨_, _, _, R, g⟩ => GoodB.ok_in g R _ ⟨rfl, h⟩
/-- a constant of the module -/
structure Gk (X : Cx) (x : Str) (d : D) : Prop where
  ex : ∃ u v, X.mg x = some u ∧ RelV v u ∧ ∀ F, Rp X.K F d v
theorem se_glob {x : Str} {d : D} (k : Gk X x d) (hg : Gl X x := by rfl) (hd : (x == ("__debug__" : Str)) = false := by decide) : SE X Tb σ0 W cl (.Name x pos) (.glob x d) := by
  obtain ⟨u, v, h1, h2, h3⟩ := k.ex
  exact PE.mono (pe_glob hg h1 h2 hd) fun _ _ _ ⟨_, F, _, R, g⟩ => GoodB.ok_in g R _ (h3 F)
theorem se_bin {o : O2} {op : Operator} {r : R2} (h : OpR X (binaryOp op) r) (ok : Op2Ok X.K o.f r) (ha : SE X Tb σ0 W cl a i) (hb : SE X Tb σ0 W cl b j) : SE X Tb σ0 W cl (.BinOp a op b pos) (.op2 o i j) :=
  PE.mono (pe_op h ha hb) fun _ _ _ q => two_t (p := pm X Tb) ok q
theorem se_cmp {o : O2} {op : CmpOp} {r : R2} (h : OpR X (compareOp op) r) (ok : Op2Ok X.K o.f r) (ha : SE X Tb σ0 W cl a i) (hb : SE X Tb σ0 W cl b j) (hm : behindInMarks op b = false) : SE X Tb σ0 W cl (.Compare a [op] [b] pos) (.op2 o i j) :=
  PE.mono (pe_cmpR h ha hb hm) fun _ _ _ q => two_t (p := pm X Tb) ok q
theorem st_cmp {o : O2} {op : CmpOp} {r : R2} (h : OpR X (compareOp op) r) (ok : Op2Ok X.K o.f r) (ha : SE X Tb σ0 W cl a i) (hb : SE X Tb σ0 W cl b j) (hm : behindInMarks op b = false) : ST X Tb σ0 W cl (.Compare a [op] [b] pos) (.op2 o i j) :=
  PT.mono (pt_cmpR h ha hb hm) fun _ _ _ q => two_t (p := pm X Tb) ok (tst_e q)
theorem se_ch2 {o o2 : O2} {op op2 : CmpOp} {r r2 : R2} (h : OpR X (compareOp op) r) (ok : Op2Ok X.K o.f r) (h2 : OpR X (compareOp op2) r2) (ok2 : Op2Ok X.K o2.f r2) (ha : SE X Tb σ0 W cl a i) (hb : SE X Tb σ0 W cl b j) (hc : SE X Tb σ0 W cl c k)
    (hm : lastMarks [op, op2] [b, c] = false := by with_unfolding_all rfl) : SE X Tb σ0 W cl (.Compare a [op, op2] [b, c] pos) (.ch2 o o2 i j k) :=
  PE.mono (pe_chain h h2 ha hb hc hm) fun _ _ _ q => ch2_t (p := pm X Tb) ok ok2 q
theorem st_ch2 {o o2 : O2} {op op2 : CmpOp} {r r2 : R2} (h : OpR X (compareOp op) r) (ok : Op2Ok X.K o.f r) (h2 : OpR X (compareOp op2) r2) (ok2 : Op2Ok X.K o2.f r2) (ha : SE X Tb σ0 W cl a i) (hb : SE X Tb σ0 W cl b j) (hc : SE X Tb σ0 W cl c k)
    (hm : lastMarks [op, op2] [b, c] = false := by with_unfolding_all rfl) : ST X Tb σ0 W cl (.Compare a [op, op2] [b, c] pos) (.ch2 o o2 i j k) :=
  PT.mono (pt_chain h h2 ha hb hc hm) fun _ _ _ q => ch2_t (p := pm X Tb) ok ok2 (tst_e q)
theorem se_neg (ha : SE X Tb σ0 W cl a i) : SE X Tb σ0 W cl (.UnaryOp .USub a pos) (.op1 .neg i) := PE.mono (pe_un un_negA ha) fun _ _ _ q => one_t (p := pm X Tb) okNeg q
theorem se_not (ha : SE X Tb σ0 W cl a i) : SE X Tb σ0 W cl (.UnaryOp .Not a pos) (.not_ i) := PE.mono (pe_not ha) fun _ _ _ q => not_t q
theorem st_not (ha : ST X Tb σ0 W cl a i) : ST X Tb σ0 W cl (.UnaryOp .Not a pos) (.not_ i) := PT.mono (pt_not ha) fun _ _ _ q => tst_not q
theorem se_one {op} (ha : SE X Tb σ0 W cl a i) : SE X Tb σ0 W cl (.BoolOp op [a] pos) i := pe_one ha
theorem se_and {r : List Expr} (ha : SE X Tb σ0 W cl a i) (hb : SE X Tb σ0 W cl (.BoolOp .And (b :: r) pos) j) : SE X Tb σ0 W cl (.BoolOp .And (a :: b :: r) pos) (.and_ i j) := PE.mono (pe_and ha hb) fun _ _ _ q => and_t q
theorem se_or {r : List Expr} (ha : SE X Tb σ0 W cl a i) (hb : SE X Tb σ0 W cl (.BoolOp .Or (b :: r) pos) j) : SE X Tb σ0 W cl (.BoolOp .Or (a :: b :: r) pos) (.or_ i j) := PE.mono (pe_or ha hb) fun _ _ _ q => or_t q
theorem sw_and1 (ha : ST X Tb σ0 W cl a i) : SW X Tb σ0 W cl (.BoolOp .And [a] pos) i := pw_and1 ha
theorem sw_or1 (ha : ST X Tb σ0 W cl a i) : SW X Tb σ0 W cl (.BoolOp .Or [a] pos) i := pw_or1 ha
theorem sw_and {r : List Expr} (ha : ST X Tb σ0 W cl a i) (hb : SW X Tb σ0 W cl (.BoolOp .And (b :: r) pos) j) : SW X Tb σ0 W cl (.BoolOp .And (a :: b :: r) pos) (.and_ i j) := PW.mono (pw_and ha hb) fun _ _ _ q => tst_and q
theorem sw_or {r : List Expr} (ha : ST X Tb σ0 W cl a i) (hb : SW X Tb σ0 W cl (.BoolOp .Or (b :: r) pos) j) : SW X Tb σ0 W cl (.BoolOp .Or (a :: b :: r) pos) (.or_ i j) := PW.mono (pw_or ha hb) fun _ _ _ q => tst_or q
theorem st_w (h : SW X Tb σ0 W cl a i) : ST X Tb σ0 W cl a i := h.pt
/-- a name, a call as a test -/
theorem st_val (ha : SE X Tb σ0 W cl a i) (he : ∀ whole, isTrue a X.env whole = (do let v ← whole; standAt a.pos; holding [v] (truthy v)) := by intro _; rfl) : ST X Tb σ0 W cl a i := PT.mono (pt_val ha he) fun _ _ _ q => tst_e q
theorem se_ite (hc : ST X Tb σ0 W cl c k) (ha : SE X Tb σ0 W cl a i) (hb : SE X Tb σ0 W cl b j) : SE X Tb σ0 W cl (.IfExp c a b pos) (.ite k i j) := PE.mono (pe_ifExp hc ha hb) fun _ _ _ q => ite_t q
theorem se_ix (ha : SE X Tb σ0 W cl a i) (hb : SE X Tb σ0 W cl b j) (hs : PlainIx b := by intro _ _; rfl) : SE X Tb σ0 W cl (.Subscript a b pos) (.op2 .ix i j) :=
  PE.mono (pe_ix (ix_list.or ix_tup) ha hb hs) fun _ _ _ q => two_t (p := pm X Tb) okIx q
theorem se_tup {m} (h : SA X Tb σ0 W cl es is) : SE X Tb σ0 W cl (.Tuple es m pos) (.tup is) := by
  refine PE.mono (pe_tup h) fun σ H Q q => ?_
  obtain ⟨G, F, env, R, g⟩ := q
  refine ⟨G, F, env, R, GoodB.part (.refl G) g fun ds env2 F2 H2 gr R2 g2 vs hvs => ?_⟩
  simp only at g2
  split at g2
  · rename_i hz
    exact ⟨by rw [hvs.length]; exact big_le hz, fun p n => ov_out (o := .ntup ds) R2 g2 (.inr ⟨p, vs, n, rfl, rfl, hvs⟩)⟩
  · exact (show False from g2).elim
theorem se_lst (h : SA X Tb σ0 W cl es is) : SE X Tb σ0 W cl (.List es pos) (.lst is) := by
  refine PE.mono (pe_lst h) fun σ H Q q => ?_
  obtain ⟨G, F, env, R, g⟩ := q
  refine ⟨G, F, env, R, GoodB.part (.refl G) g fun ds env2 F2 H2 gr R2 g2 vs hvs => ?_⟩
  simp only at g2
  split at g2
  · rename_i hz
    exact ⟨by rw [hvs.length]; exact big_le hz, fun p n => ov_out (o := .nlst ds) R2 g2 ⟨p, vs, n, rfl, rfl, hvs⟩⟩
  · exact (show False from g2).elim
/-- a built-in function of one value, of two -/
theorem se_b1 {o : O1} {id : String} {x : Str} {r : List V → Hp → VK → Prop} {p1 : Pos} (hc : CallR X (.builtin id) r) (ok : Op1Ok X.K o.f (fun v => r [v])) (hm : X.mg x = none) (hv : bootBuiltins x = some (.builtin id)) (ha : SE X Tb σ0 W cl a i)
    (hg : Gl X x := by rfl) (hn : x ≠ "__name__" := by decide) (hdb : (x == ("__debug__" : Str)) = false := by decide) (he : starEach [a] X.env = (false, eval a X.env) :: starEach [] X.env := by rfl) : SE X Tb σ0 W cl (.Call (.Name x p1) [a] [] pos) (.op1 o i) :=
  PE.mono (pe_callB hc hg hm hv (pa_cons ha pa_nil he) hn hdb he) fun _ _ _ q => one_t (p := pm X Tb) ok q
theorem se_t1 {o : O1} {id : String} {x : Str} {r : List V → Hp → VK → Prop} {p1 : Pos} (hc : CallR X (.type id) r) (ok : Op1Ok X.K o.f (fun v => r [v])) (hm : X.mg x = none) (hv : bootBuiltins x = some (.type id)) (ha : SE X Tb σ0 W cl a i)
    (hg : Gl X x := by rfl) (hn : x ≠ "__name__" := by decide) (hdb : (x == ("__debug__" : Str)) = false := by decide) (he : starEach [a] X.env = (false, eval a X.env) :: starEach [] X.env := by rfl) : SE X Tb σ0 W cl (.Call (.Name x p1) [a] [] pos) (.op1 o i) :=
  PE.mono (pe_callTy hc hg hm hv (pa_cons ha pa_nil he) hn hdb he) fun _ _ _ q => one_t (p := pm X Tb) ok q
theorem se_b2 {o : O2} {id : String} {x : Str} {r : List V → Hp → VK → Prop} {p1 : Pos} (hc : CallR X (.builtin id) r) (ok : Op2Ok X.K o.f (fun v u => r [v, u])) (hm : X.mg x = none) (hv : bootBuiltins x = some (.builtin id)) (ha : SE X Tb σ0 W cl a i) (hb : SE X Tb σ0 W cl b j)
    (hg : Gl X x := by rfl) (hn : x ≠ "__name__" := by decide) (hdb : (x == ("__debug__" : Str)) = false := by decide) (he : starEach [a, b] X.env = (false, eval a X.env) :: starEach [b] X.env := by rfl) (he2 : starEach [b] X.env = (false, eval b X.env) :: starEach [] X.env := by rfl) 
    (hpl : (backTo pos (starEach [b] X.env)).any (·.1) = false := by rfl) : SE X Tb σ0 W cl (.Call (.Name x p1) [a, b] [] pos) (.op2 o i j) :=
  PE.mono (pe_callB hc hg hm hv (pa_cons ha (pa_cons hb pa_nil he2) he) hn hdb he hpl) fun _ _ _ q => two_t (p := pm X Tb) ok q
theorem se_isi {t : Ty} {x y : Str} {p1 p2 : Pos} (hm : X.mg x = none) (hm2 : X.mg y = none) (hv : bootBuiltins x = some (.builtin "isinstance")) (hv2 : bootBuiltins y = some (.type t.nm)) (ha : SE X Tb σ0 W cl a i)
    (hg : Gl X x := by rfl) (hg2 : Gl X y := by rfl) (hn : x ≠ "__name__" := by decide) (hn2 : y ≠ "__name__" := by decide) (hdb : (x == ("__debug__" : Str)) = false := by decide) (hdb2 : (y == ("__debug__" : Str)) = false := by decide)
    (he : starEach [a, .Name y p2] X.env = (false, eval a X.env) :: starEach [.Name y p2] X.env := by rfl) : SE X Tb σ0 W cl (.Call (.Name x p1) [a, .Name y p2] [] pos) (.isi t i) := by
  refine PE.mono (pe_callB call_isi hg hm hv (pa_cons ha (pa_cons (pe_bltn (v := .ty t.nm) hg2 hm2 hv2 rfl hn2 hdb2) pa_nil) he) hn hdb he) fun _ _ _ q => ?_
  exact one_t (p := pm X Tb) (f := fun d => oBl (isiF t d)) (rr := fun v => rIsi X.K [v, .ty t.nm]) (okIsi t) q
/-- isinstance(x, (T, U)) -/
theorem se_isi2 {t t2 : Ty} {x y z : Str} {p1 p2 p3 p4 : Pos} {kk : Nat} (hm : X.mg x = none) (hm2 : X.mg y = none) (hm3 : X.mg z = none) (hv : bootBuiltins x = some (.builtin "isinstance")) (hv2 : bootBuiltins y = some (.type t.nm)) (hv3 : bootBuiltins z = some (.type t2.nm)) (ha : SE X Tb σ0 W cl a i)
    (hg : Gl X x := by rfl) (hg2 : Gl X y := by rfl) (hg3 : Gl X z := by rfl) (hn : x ≠ "__name__" := by decide) (hn2 : y ≠ "__name__" := by decide) (hn3 : z ≠ "__name__" := by decide) (hdb : (x == ("__debug__" : Str)) = false := by decide) (hdb2 : (y == ("__debug__" : Str)) = false := by decide) (hdb3 : (z == ("__debug__" : Str)) = false := by decide)
    (he : starEach [a, .Tuple [.Name y p2, .Name z p3] kk p4] X.env = (false, eval a X.env) :: starEach [.Tuple [.Name y p2, .Name z p3] kk p4] X.env := by rfl) (he2 : starEach [.Name y p2, .Name z p3] X.env = (false, eval (.Name y p2) X.env) :: starEach [.Name z p3] X.env := by rfl) :
    SE X Tb σ0 W cl (.Call (.Name x p1) [a, .Tuple [.Name y p2, .Name z p3] kk p4] [] pos) (.isi2 t t2 i) := by
  refine PE.mono (pe_callB call_isiT hg hm hv (pa_cons ha (pa_cons (pe_tup (pa_cons (pe_bltn (v := .ty t.nm) hg2 hm2 hv2 rfl hn2 hdb2) (pa_cons (pe_bltn (v := .ty t2.nm) hg3 hm3 hv3 rfl hn3 hdb3) pa_nil) he2)) pa_nil) he) hn hdb he) fun σ H Q q => ?_
  obtain ⟨G, F, env, R, g⟩ := q
  refine next (L := []) R (fun _ => noL) g fun r v F2 env2 H2 gr R2 hr _ g2 => ?_
  refine ⟨by show 2 ≤ sizeLine; decide, fun q nq => ?_⟩
  obtain ⟨G2, l, R3, _, kp⟩ := RR.frame R2 hr
  have R4 := R3.newObj (q := q) (u := .tup [V.ty t.nm, V.ty t2.nm]) nq
  have hr4 := kp _ _ _ (.refl G2 F2) R4
  have g3 : GoodB (pm X Tb) σ0 G F2 σ W (OkE (pm X Tb) G σ Q) (resOV ((rd env2 r).bind fun d => oBl (isiF t d || isiF t2 d)) env2) := g2
  cases hd : rd env2 r with
  | none => rw [hd] at g3; exact (show False from g3).elim
  | some d =>
    rw [hd] at g3
    have rt := rd_ok (R4.less l) hr4 hd
    have nd : ∀ k, d ≠ .dict k := fun k z => by rw [z] at rt; exact rt.elim
    have k1 := kit_all (K := X.K) t d nd
    have k2 := kit_all (K := X.K) t2 d nd
    refine ⟨v, q, [V.ty t.nm, V.ty t2.nm], _, [.type t.nm, .type t2.nm], isiF t d || isiF t2 d, rfl, upd_same, (.cons (.ty _) (.cons (.ty _) .nil)), tyx R4.fs rt, ?_, g3 _ F2 (.refl G F2) (R4.less l) _ rfl⟩
    unfold PySem.W.kitAny
    rw [k1]
    cases isiF t d with
    | true => rfl
    | false =>
      unfold PySem.W.kitAny
      simp only [k2]
      cases isiF t2 d <;> rfl
/-- s.upper() -/
theorem se_up {p1 p2 : Pos} (ha : SE X Tb σ0 W cl a i) (hbase : attributeBase a "upper" X.env (eval a X.env) = eval a X.env := by rfl) (hline : (p1.endLine == p2.line) = true := by rfl) : SE X Tb σ0 W cl (.Call (.Attribute a "upper" p1) [] [] p2) (.op1 .up i) :=
  PE.mono (pe_upper ha hbase hline) fun _ _ _ q => one_t (p := pm X Tb) okUp q
/-- slices -/
theorem se_slcL {lo : Expr} {p2 : Pos} (ha : SE X Tb σ0 W cl a i) (hl : SE X Tb σ0 W cl lo j) : SE X Tb σ0 W cl (.Subscript a (.Slice (some lo) none none p2) pos) (.op2 .slcL i j) := by
  refine PE.mono (pe_slice sl_all ha (po_some hl) po_none) fun σ H Q q => ?_
  exact two_t (p := pm X Tb) okSlcL q
theorem se_slcH {hi : Expr} {p2 : Pos} (ha : SE X Tb σ0 W cl a i) (hl : SE X Tb σ0 W cl hi j) : SE X Tb σ0 W cl (.Subscript a (.Slice none (some hi) none p2) pos) (.op2 .slcH i j) := by
  refine PE.mono (pe_slice sl_all ha po_none (po_some hl)) fun σ H Q q => ?_
  exact two_t (p := pm X Tb) okSlcH q
theorem se_slcB {lo hi : Expr} {p2 : Pos} (ha : SE X Tb σ0 W cl a i) (hl : SE X Tb σ0 W cl lo j) (hh : SE X Tb σ0 W cl hi k) : SE X Tb σ0 W cl (.Subscript a (.Slice (some lo) (some hi) none p2) pos) (.slcB i j k) := by
  refine PE.mono (pe_slice sl_all ha (po_some hl) (po_some hh)) fun σ H Q q => ?_
  obtain ⟨G, F, env, R, g⟩ := q
  refine next (L := []) R (fun _ => noL) g fun r v F2 env2 H2 _ R2 hr _ g2 => next (L := [(r, v)]) R2 (fun q hq => by simp at hq; rw [hq]; exact hr) g2 fun s u F3 env3 H3 _ R3 hs hL g3 => ?_
  cases s with
  | val d =>
    cases d with
    | int n =>
      refine ⟨n, hs, ?_⟩
      refine next (L := [(r, v)]) R3 (fun q hq => by simp at hq; rw [hq]; exact hL (r, v) (by simp)) g3 fun t w F4 env4 H4 _ R4 ht hL4 g4 => ?_
      cases t with
      | val d =>
        cases d with
        | int m => exact ⟨m, ht, ap1_out (p := pm X Tb) (okSlc _ _) R4 (hL4 (r, v) (by simp)) g4⟩
        | _ => exact (show False from g4).elim
      | _ => exact (show False from g4).elim
    | _ => exact (show False from g3).elim
  | _ => exact (show False from g3).elim
theorem se_rev {m : Nat} {p1 p2 p3 : Pos} (ha : SE X Tb σ0 W cl a i) : SE X Tb σ0 W cl (.Subscript a (.Slice none none (some (.UnaryOp .USub (.Constant (.int 1) m p1) p2)) p3) pos) (.op1 .rev i) :=
  PE.mono (pe_revL ha) fun _ _ _ q => one_t (p := pm X Tb) okRev q
/-- a list display, times -/
theorem se_rep (ha : SE X Tb σ0 W cl a i) (hb : SE X Tb σ0 W cl b j) : SE X Tb σ0 W cl (.BinOp a .Mult b pos) (.rep i j) := by
  refine PE.mono (pe_op op_rep ha hb) fun σ H Q q => ?_
  obtain ⟨G, F, env, R, g⟩ := q
  refine next (L := []) R (fun _ => noL) g fun r v F2 env2 H2 _ R2 hr _ g2 => next (L := [(r, v)]) R2 (fun q hq => by simp at hq; rw [hq]; exact hr) g2 fun s u F3 env3 H3 _ R3 hs hL g3 => ?_
  have hr3 := hL (r, v) (by simp)
  simp only at g3
  unfold repE at g3
  split at g3
  · rename_i ds k e
    split at g3
    · rename_i hz
      obtain ⟨z1, z2, z3⟩ := hz
      obtain ⟨q, ev, ⟨xs, hx, w⟩, _⟩ := hr3
      subst ev
      have hu := rd_ok R3 hs e
      cases hu
      have hsz : xs.length * k.toNat ≤ sizeLine := by
        rw [w.length]
        have : ds.length * k.toNat ≤ 50 * 1000 := Nat.mul_le_mul z3 (by omega)
        exact big_le (Nat.le_trans this (by decide))
      exact ⟨q, k, xs, rfl, rfl, hx, by omega, by omega, hsz, fun p n => ov_out (o := .nlst _) R3 g3 ⟨p, _, n, rfl, rfl, flat_rep w _⟩⟩
    · exact (show False from g3).elim
  · exact (show False from g3).elim
/-! dicts -/
theorem dcOf_ok {p : Pm} {σ : Sg} {G F H : Hp} {env : En} {kvs : List (D × D)} {n : Nat} (R : Rel p σ0 G F env σ H) (h : dcOf env[n]? = some kvs) : ∃ a, σ[n]? = some (some (V.ref a)) ∧ DcR p F H a kvs := by
  cases hs : env[n]? with
  | none => rw [hs] at h; cases h
  | some s =>
    rw [hs] at h
    cases s with
    | non => cases h
    | val d => cases h
    | own o =>
      cases o with
      | lst ds => cases h
      | dct k =>
        cases h
        obtain ⟨a, e1, e2, _⟩ := R.own n _ (.inl hs)
        exact ⟨a, e1, e2⟩
    | inn o =>
      cases o with
      | lst ds => cases h
      | dct k =>
        cases h
        obtain ⟨a, e1, e2, _⟩ := R.own n _ (.inr hs)
        exact ⟨a, e1, e2⟩
    | frd k =>
      cases h
      obtain ⟨a, e1, e2⟩ := R.frd n _ hs
      exact ⟨a, e1, e2.mono (.refl F) fun u q => R.fs a u q⟩
theorem keyD_ok {K : PySem.W.Frag} {F H : Hp} {d : D} {v : V} {k : NK} (s : Sub F H) (h : keyD d = some k) (r : Rp K F d v) : KeyR K H v k := by
  unfold keyD at h
  cases hk : nkD d with
  | none => rw [hk] at h; cases h
  | some k' =>
    rw [hk] at h
    simp only at h
    split at h
    · rename_i q
      cases h
      exact ⟨d, Rp.dp _ _ (Rp.mono s _ _ r), hk, q.1, q.2⟩
    · cases h
theorem DcR.keysR {p : Pm} {F H : Hp} {kvs : List (D × D)} {es : List Ent} (s : Sub F H) (r : EntP p.K F kvs es) : KeysR p.K H es := (r.mono s).keysR
theorem se_dct0 : SE X Tb σ0 W cl (.Dict [] [] pos) .dct0 := by
  refine PE.mono pe_dct0 fun σ H Q q => ?_
  obtain ⟨G, F, env, R, g⟩ := q
  intro a o n
  refine g _ F (.refl G F) (R.newObj n) _ ⟨a, rfl, ⟨o, [], upd_same, rfl⟩, R.fs.none n, R.gs.none n, fun i hi z => ?_⟩
  obtain ⟨o, ho⟩ := isOwn_iff.mp hi
  obtain ⟨a, e1, e2, _⟩ := R.own i o ho
  obtain ⟨u, hu, _⟩ := e2.here
  rw [e1] at z
  cases z
  rw [n] at hu
  cases hu
theorem dIn_t {neg : Bool} {n : Nat} {σ : Sg} {H : Hp} {Q : VK} (h : tE (pm X Tb) σ0 W (evE cl (.dIn neg i n)) σ H Q) : tOp (if neg then rNinV X.K X.w else rInV X.K X.w) (tE (pm X Tb) σ0 W (evE cl i)) (tVar n) σ H Q := by
  obtain ⟨G, F, env, R, g⟩ := h
  refine nextF R g fun d v F2 env2 H2 gr R2 rp g2 => ?_
  replace g2 : GoodB (pm X Tb) σ0 G F2 σ W (OkE (pm X Tb) G σ Q) (dInE neg n d env2) := g2
  unfold dInE at g2
  cases h1 : dcOf env2[n]? with
  | none => rw [h1] at g2; exact (show False from g2).elim
  | some kvs =>
    cases h2 : keyD d with
    | none => rw [h1, h2] at g2; exact (show False from g2).elim
    | some k =>
      rw [h1, h2] at g2
      obtain ⟨b, e1, o, es, e2, r⟩ := dcOf_ok R2 h1
      cases neg with
      | false =>
        refine ⟨.ref b, e1, b, o, es, k, rfl, e2, DcR.keysR R2.fs r, keyD_ok R2.fs h2 rp, ?_⟩
        rcases r.at (k := k) with ⟨q1, q2⟩ | ⟨dd, u, q1, q2, _⟩
        · rw [q2]
          simp only [q1] at g2
          exact g2.ok_in R2 _ rfl
        · rw [q2]
          simp only [q1] at g2
          exact g2.ok_in R2 _ rfl
      | true =>
        refine ⟨.ref b, e1, b, o, es, k, rfl, e2, DcR.keysR R2.fs r, keyD_ok R2.fs h2 rp, ?_⟩
        rcases r.at (k := k) with ⟨q1, q2⟩ | ⟨dd, u, q1, q2, _⟩
        · rw [q2]
          simp only [q1] at g2
          exact g2.ok_in R2 _ rfl
        · rw [q2]
          simp only [q1] at g2
          exact g2.ok_in R2 _ rfl
theorem se_dIn {y : Str} (hu : X.A.units + 65 < cLine) (ha : SE X Tb σ0 W cl a i) (n : Nat) (hN : X.N[n]? = some y := by rfl) (hv : Vis X.env.scope y := by first | exact Or.inl rfl | exact Or.inr (Or.inl rfl) | exact Or.inr (Or.inr rfl)) (hd : (y == ("__debug__" : Str)) = false := by decide)
    (hcd : (y == ("__classdict__" : Str)) = false := by decide) (hm : behindInMarks .In (.Name y pos') = false := by rfl) : SE X Tb σ0 W cl (.Compare a [.In] [.Name y pos'] pos) (.dIn false i n) :=
  PE.mono (pe_cmpR (op_inV hu) ha (pe_var (i := n) hN hv hd hcd) hm) fun _ _ _ q => dIn_t (neg := false) q
theorem st_dIn {y : Str} (hu : X.A.units + 65 < cLine) (ha : SE X Tb σ0 W cl a i) (n : Nat) (hN : X.N[n]? = some y := by rfl) (hv : Vis X.env.scope y := by first | exact Or.inl rfl | exact Or.inr (Or.inl rfl) | exact Or.inr (Or.inr rfl)) (hd : (y == ("__debug__" : Str)) = false := by decide)
    (hcd : (y == ("__classdict__" : Str)) = false := by decide) (hm : behindInMarks .In (.Name y pos') = false := by rfl) : ST X Tb σ0 W cl (.Compare a [.In] [.Name y pos'] pos) (.dIn false i n) :=
  PT.mono (pt_cmpR (op_inV hu) ha (pe_var (i := n) hN hv hd hcd) hm) fun _ _ _ q => dIn_t (neg := false) (tst_e q)
theorem se_dNin {y : Str} (hu : X.A.units + 65 < cLine) (ha : SE X Tb σ0 W cl a i) (n : Nat) (hN : X.N[n]? = some y := by rfl) (hv : Vis X.env.scope y := by first | exact Or.inl rfl | exact Or.inr (Or.inl rfl) | exact Or.inr (Or.inr rfl)) (hd : (y == ("__debug__" : Str)) = false := by decide)
    (hcd : (y == ("__classdict__" : Str)) = false := by decide) (hm : behindInMarks .NotIn (.Name y pos') = false := by rfl) : SE X Tb σ0 W cl (.Compare a [.NotIn] [.Name y pos'] pos) (.dIn true i n) :=
  PE.mono (pe_cmpR (op_ninV hu) ha (pe_var (i := n) hN hv hd hcd) hm) fun _ _ _ q => dIn_t (neg := true) q
theorem st_dNin {y : Str} (hu : X.A.units + 65 < cLine) (ha : SE X Tb σ0 W cl a i) (n : Nat) (hN : X.N[n]? = some y := by rfl) (hv : Vis X.env.scope y := by first | exact Or.inl rfl | exact Or.inr (Or.inl rfl) | exact Or.inr (Or.inr rfl)) (hd : (y == ("__debug__" : Str)) = false := by decide)
    (hcd : (y == ("__classdict__" : Str)) = false := by decide) (hm : behindInMarks .NotIn (.Name y pos') = false := by rfl) : ST X Tb σ0 W cl (.Compare a [.NotIn] [.Name y pos'] pos) (.dIn true i n) :=
  PT.mono (pt_cmpR (op_ninV hu) ha (pe_var (i := n) hN hv hd hcd) hm) fun _ _ _ q => dIn_t (neg := true) (tst_e q)
theorem dcSlot {p : Pm} {σ : Sg} {G F H : Hp} {env : En} {n : Nat} (R : Rel p σ0 G F env σ H) (h : (dcOf env[n]?).isSome = true) : ∃ a, σ[n]? = some (some (V.ref a)) := by
  obtain ⟨k, hk⟩ := Option.isSome_iff_exists.mp h
  obtain ⟨a, e, _⟩ := dcOf_ok R hk
  exact ⟨a, e⟩
theorem se_dIx {y : Str} (hu : X.A.units + 65 < cLine) (n : Nat) (ha : SE X Tb σ0 W cl a i) (hN : X.N[n]? = some y := by rfl) (hv : Vis X.env.scope y := by first | exact Or.inl rfl | exact Or.inr (Or.inl rfl) | exact Or.inr (Or.inr rfl)) (hd : (y == ("__debug__" : Str)) = false := by decide)
    (hcd : (y == ("__classdict__" : Str)) = false := by decide) (hs : PlainIx a := by intro _ _; rfl) : SE X Tb σ0 W cl (.Subscript (.Name y pos') a pos) (.dIx n i) := by
  refine PE.mono (pe_ix (ix_dctV hu) (pe_var (i := n) hN hv hd hcd) ha hs) fun σ H Q q => ?_
  obtain ⟨G, F, env, R, g⟩ := q
  replace g : GoodB (pm X Tb) σ0 G F σ W (OkE (pm X Tb) G σ Q) (if (dcOf env[n]?).isSome then (fz (evE cl i env)).bind fun x => dIxE n x.1 x.2 else .bad) := g
  split at g
  · rename_i hw
    obtain ⟨b0, e0⟩ := dcSlot R hw
    refine ⟨_, e0, ?_⟩
    refine nextF R g fun d v F2 env2 H2 gr R2 rp g2 => ?_
    unfold dIxE at g2
    cases h1 : dcOf env2[n]? with
    | none => rw [h1] at g2; exact (show False from g2).elim
    | some kvs =>
      cases h2 : keyD d with
      | none => rw [h1, h2] at g2; exact (show False from g2).elim
      | some k =>
        rw [h1, h2] at g2
        obtain ⟨b, e1, o, es, e2, r⟩ := dcOf_ok R2 h1
        rw [e0] at e1
        cases e1
        rcases r.at (k := k) with ⟨q1, q2⟩ | ⟨dd, u, q1, q2, q3⟩
        · simp only [q1] at g2
          exact (show False from g2).elim
        · simp only [q1] at g2
          exact ⟨_, o, es, k, u, rfl, e2, DcR.keysR R2.fs r, keyD_ok R2.fs h2 rp, q2, g2.ok_in R2 _ q3⟩
  · exact (show False from g).elim
theorem se_dSrt {x : Str} {p1 : Pos} (hc : X.calm = true) (hu : X.A.units + 65 < cLine) (hm : X.mg x = none) (hv : bootBuiltins x = some (.builtin "sorted")) (ha : SE X Tb σ0 W cl a i)
    (hg : Gl X x := by rfl) (hn : x ≠ "__name__" := by decide) (hdb : (x == ("__debug__" : Str)) = false := by decide) (he : starEach [a] X.env = (false, eval a X.env) :: starEach [] X.env := by rfl) : SE X Tb σ0 W cl (.Call (.Name x p1) [a] [] pos) (.dSrt i) := by
  refine PE.mono (pe_callB (cr_sortedDk hc hu) hg hm hv (pa_cons ha pa_nil he) hn hdb he) fun σ H Q q => ?_
  obtain ⟨G, F, env, R, g⟩ := q
  refine next (L := []) R (fun _ => noL) g fun r v F2 env2 H2 gr R2 hr _ g2 => ?_
  replace g2 : GoodB (pm X Tb) σ0 G F2 σ W (OkE (pm X Tb) G σ Q) (dSrtE r env2) := g2
  unfold dSrtE at g2
  cases h1 : dcRd env2 r with
  | none => rw [h1] at g2; exact (show False from g2).elim
  | some kvs =>
    rw [h1] at g2
    obtain ⟨b, ev, o, es, e2, rr⟩ : ∃ b, v = .ref b ∧ DcR (pm X Tb) F2 H2 b kvs := by
      cases r with
      | val d => cases h1
      | fresh o =>
        cases o with
        | lst ds => cases h1
        | dct k =>
          cases h1
          obtain ⟨b, ev, h, _⟩ := hr
          exact ⟨b, ev, h⟩
      | slot j =>
        obtain ⟨b, e1, h⟩ := dcOf_ok R2 (show dcOf env2[j]? = some kvs from h1)
        rw [show σ[j]? = some (some v) from hr] at e1
        cases e1
        exact ⟨b, rfl, h⟩
    subst ev
    replace g2 : GoodB (pm X Tb) σ0 G F2 σ W (OkE (pm X Tb) G σ Q) (resOV (fSrtD (.list (kvs.map (·.1)))) env2) := g2
    cases hf : fSrtD (.list (kvs.map (·.1))) with
    | none => rw [hf] at g2; exact (show False from g2).elim
    | some ov =>
      rw [hf] at g2
      have hz : alikeB (kvs.map (·.1)) = true ∧ ((kvs.map (·.1)).all tupB || (kvs.map (·.1)).all notTupB) = true ∧ PyData.depthAll (kvs.map (·.1)) ≤ 60 ∧ (kvs.map (·.1)).length ≤ 4000 := by
        simp only [fSrtD] at hf
        split at hf
        · rename_i hz
          exact hz
        · cases hf
      have heq : ov = .nlst ((kvs.map (·.1)).mergeSort (PySem.W.dataLe false id)) := by
        simp only [fSrtD, if_pos hz] at hf
        exact (Option.some.inj hf).symm
      subst heq
      have w := rr.keys
      refine ⟨b, o, es, kvs.map (·.1), rfl, e2, RpAll.dp _ _ (RpAll.mono R2.fs _ _ w), alikeB_at hz.1, srtable hz.2.1, hz.2.2.1, hz.2.2.2, fun p n => ?_⟩
      exact ov_out (o := .nlst _) R2 g2 ⟨p, _, n, rfl, rfl, srt_rp w⟩
end
end Pb

namespace Pb
open PySem PySem.Spec L2

/-! ### calls of defs -/
/-- what a def gives back -/
def FRR (p : Pm) (G F H : Hp) (ad : Option Addr) (r : RV) (v : V) : Prop := match r with
  | .val d => Rp p.K F d v
  | .fresh o => ∃ b, v = .ref b ∧ ObR p F H b o ∧ F b = none ∧ G b = none ∧ ad ≠ some b
  | .slot _ => False
/-- the object that is handed in -/
def IoR (p : Pm) (F H : Hp) (ad : Option Addr) (o : Option Ob) : Prop := match ad, o with
  | none, none => True
  | some a, some o => ObR p F H a o ∧ F a = none
  | _, _ => False
def adV : Option Addr → List V
  | none => []
  | some a => [.ref a]
structure Grd (p : Pm) (G F H : Hp) : Prop where
  gs : Sub G H
  fs : Sub F H
  gn : NoTb G
  fn : NoTb F
  tb : LamX.Tabs p.Tb H
def FrGood (p : Pm) (G F : Hp) (ad : Option Addr) (Q : VK) (E : XK) : FR → Prop
  | .ok r io => ∀ v H' F', Grow G F F' → Grd p G F' H' → IoR p F' H' ad io → FRR p G F' H' ad r v → Q v H'
  | .exc c io => ∀ cls d H' F', Grow G F F' → Grd p G F' H' → IoR p F' H' ad io → ExcR p c cls d H' → E cls d H'
  | .bad => False
/-- the promise of a def that runs as g says -/
def spIR (p : Pm) (g : Option Ob → List D → FR) : Sp := fun vs H Q E => ∃ (G F : Hp) (ad : Option Addr) (o : Option Ob) (ds : List D) (us : List V),
  vs = adV ad ++ us ∧ Grd p G F H ∧ IoR p F H ad o ∧ (∀ a, ad = some a → G a = none) ∧ RpAll p.K F ds us ∧ FrGood p G F ad Q E (g o ds)

/-- the def of number i is called by the name x -/
structure Cal (X : Cx) (Tb : List (Addr × Str)) (n : Nat) (cl : Cl) (i : Nat) (x : Str) : Prop where
  ex : ∃ (f : Addr) (fd : FuncData) (ps : List Str), X.mg x = some (.ref f) ∧ PySem.W.keepIn X.K (.ref f) = true ∧ Binds X.K fd ps [] ∧ FnOk X.prog X.w X.K X.mg X.base (L2.CX X.prog X.w) n f fd ps (spIR (pm X Tb) (cl i))

def noT (H : Hp) : Hp := fun a => match H a with
  | some (.tbl _) => none
  | x => x
theorem noT_sub (H : Hp) : Sub (noT H) H := fun a o e => by
  unfold noT at e
  split at e
  · cases e
  · exact e
theorem noT_nt (H : Hp) : NoTb (noT H) := fun a ps e => by
  unfold noT at e
  split at e
  · cases e
  · rename_i h
    exact h ps e
theorem noT_some {H : Hp} {a : Addr} {o : HO} (e : H a = some o) (n : ∀ ps, o ≠ .tbl ps) : noT H a = some o := by
  unfold noT
  rw [e]
  cases o with
  | tbl ps => exact absurd rfl (n ps)
  | _ => rfl
theorem noT_of {G H : Hp} (s : Sub G H) (n : NoTb G) : Sub G (noT H) := fun a o e => noT_some (s a o e) fun ps z => n a ps (by rw [e, z])
/-- all but the object at a -/
def but (H : Hp) (ad : Option Addr) : Hp := fun b => if ad = some b then none else noT H b
theorem but_none (H : Hp) : but H none = noT H := by
  funext b
  unfold but
  rw [if_neg (by simp)]
theorem but_sub {H : Hp} {ad : Option Addr} : Sub (but H ad) H := fun a o e => by
  unfold but at e
  split at e
  · cases e
  · exact noT_sub H a o e
theorem but_nt {H : Hp} {ad : Option Addr} : NoTb (but H ad) := fun a ps e => by
  unfold but at e
  split at e
  · cases e
  · exact noT_nt H a ps e
theorem but_some {H : Hp} {ad : Option Addr} {a : Addr} {o : HO} (e : H a = some o) (n : ∀ ps, o ≠ .tbl ps) (h : ad ≠ some a) : but H ad a = some o := by
  unfold but
  rw [if_neg h]
  exact noT_some e n
section
variable {p : Pm} {σ0 : S0} {σ : Sg} {G F F' H H' : Hp} {env : En} {W : WX}
/-- behind a call that was handed no slot's object -/
theorem Rel.called (R : Rel p σ0 G F env σ H) (gr : Grow (but H none) F F') (g : Grd p (but H none) F' H') : Rel p σ0 G F' env σ H' ∧ Grow G F F' := by
  have sg : Sub G (but H none) := by rw [but_none]; exact noT_of R.gs R.gn
  have gr' : Grow G F F' := gr.ls sg
  refine ⟨⟨sg.trans g.gs, g.fs, R.gn, g.fn, g.tb, R.len, fun i d h => ?_, fun i o h => ?_, R.inj, R.inn, R.fix, fun q hq => g.gs _ _ (but_some (R.cds q hq) (fun ps z => by unfold LamX.CodeO at z; cases z) (by simp)), R.frdm gr.sub⟩, gr'⟩
  · obtain ⟨v, e1, e2⟩ := R.val i d h
    exact ⟨v, e1, Rp.mono gr.sub _ _ e2⟩
  · obtain ⟨a, e1, e2, e3, e4⟩ := R.own i o h
    obtain ⟨u, hu, nt⟩ := e2.here
    have hb : but H none a = some u := but_some hu nt (by simp)
    refine ⟨a, e1, (e2.mono gr.sub).stay fun w q => ?_, ?_, e4⟩
    · rw [hu] at q
      cases q
      exact g.gs a u hb
    · rw [gr.old a (by rw [hb]; exact fun z => by cases z)]
      exact e3
/-- .. and that was handed the object of slot i -/
theorem Rel.calledR {i : Nat} {s : Sl} {o o' : Ob} {a : Addr} (R : Rel p σ0 G F env σ H) (hi : env[i]? = some s) (hs : slOb s = some o) (ha : σ[i]? = some (some (V.ref a))) (gr : Grow (but H (some a)) F F') (g : Grd p (but H (some a)) F' H') (io : IoR p F' H' (some a) (some o')) :
    Rel p σ0 G F' (env.set i (putOb s o')) σ H' ∧ Grow G F F' := by
  have ow := slOb_or hi hs
  obtain ⟨a', e1, e2, e3, e4⟩ := R.own i o ow
  have ea : a' = a := by
    rw [ha] at e1
    cases e1
    rfl
  subst ea
  have hl : i < env.length := (List.getElem?_eq_some_iff.mp hi).1
  have sg : Sub G (but H (some a')) := fun b u q => by
    have hb : b ≠ a' := fun z => by rw [z, e4] at q; cases q
    exact but_some (R.gs b u q) (fun ps z => R.gn b ps (by rw [q, z])) (fun z => hb (Option.some.inj z).symm)
  have gr' : Grow G F F' := gr.ls sg
  obtain ⟨io1, io2⟩ := io
  refine ⟨⟨sg.trans g.gs, g.fs, R.gn, g.fn, g.tb, by simpa using R.len, fun j d h => ?_, fun j w h => ?_, fun j k b hj hk => ?_, fun j w h => ?_, R.fix, fun q hq => ?_, fun j kvs h => R.frdm gr.sub j kvs (frd_set h putOb_frd).2⟩, gr'⟩
  · rcases set_get h with ⟨q1, q2⟩ | ⟨q1, q2⟩
    · cases s <;> cases q2
    · obtain ⟨v, e1, e2⟩ := R.val j d q2
      exact ⟨v, e1, Rp.mono gr.sub _ _ e2⟩
  · by_cases hj : j = i
    · subst hj
      have ew : w = o' := by
        rcases h with h | h <;> (rw [List.getElem?_set_self hl] at h; cases s <;> cases h <;> rfl)
      subst ew
      exact ⟨a', ha, io1, io2, e4⟩
    · rw [List.getElem?_set_ne (Ne.symm hj)] at h
      obtain ⟨c, w1, w2, w3, w4⟩ := R.own j w h
      have hc : c ≠ a' := fun z => hj (R.inj j i a' (isOwn_iff.mpr ⟨w, h⟩) (isOwn_iff.mpr ⟨o, ow⟩) (by rw [w1, z]) ha)
      obtain ⟨u, hu, nt⟩ := w2.here
      have hb : but H (some a') c = some u := but_some hu nt (fun z => hc (Option.some.inj z).symm)
      refine ⟨c, w1, (w2.mono gr.sub).stay fun v q => ?_, ?_, w4⟩
      · rw [hu] at q
        cases q
        exact g.gs c u hb
      · rw [gr.old c (by rw [hb]; exact fun z => by cases z)]
        exact w3
  · have back : ∀ {x : Nat}, isOwn (env.set i (putOb s o'))[x]? → isOwn env[x]? := fun {x} h => by
      rcases isOwn_set h with ⟨q1, _⟩ | ⟨_, q2⟩
      · rw [q1]
        exact isOwn_iff.mpr ⟨o, ow⟩
      · exact q2
    exact R.inj j k b (back hj) (back hk)
  · by_cases hj : j = i
    · subst hj
      rw [List.getElem?_set_self hl] at h
      cases s with
      | inn o2 => exact R.inn j o2 hi
      | own o2 => cases h
      | non => cases hs
      | val d => cases hs
      | frd k => cases hs
    · rw [List.getElem?_set_ne (Ne.symm hj)] at h
      exact R.inn j w h
  · have w2 := R.cds q hq
    have hne : q.1 ≠ a' := fun z => by
      obtain ⟨u, hu, _⟩ := e2.here
      rw [z] at w2
      cases o with
      | lst ds =>
        obtain ⟨xs, x1, _⟩ := e2
        rw [w2] at x1
        unfold LamX.CodeO at x1
        cases x1
      | dct kvs =>
        obtain ⟨oo, es, x1, _⟩ := e2
        rw [w2] at x1
        exact codeO_dct (Option.some.inj x1)
    exact g.gs _ _ (but_some w2 (fun ps z => by unfold LamX.CodeO at z; cases z) (fun z => hne (Option.some.inj z).symm))
theorem Rel.own_but {ad : Option Addr} {b : Addr} (R : Rel p σ0 G F env σ H) (hb : but H ad b = none) (h : ∀ (i : Nat), isOwn env[i]? → σ[i]? = some (some (V.ref b)) → ad = some b) (hn : ad ≠ some b) : ∀ (i : Nat), isOwn env[i]? → σ[i]? ≠ some (some (V.ref b)) := fun i hi z => hn (h i hi z)
/-- no slot's object stands at a place that was free but for the one handed in -/
theorem Rel.free_slot {ad : Option Addr} {b : Addr} (R : Rel p σ0 G F env σ H) (hb : but H ad b = none) (hn : ad ≠ some b) : ∀ (i : Nat), isOwn env[i]? → σ[i]? ≠ some (some (V.ref b)) := fun i hi z => by
  obtain ⟨o, ho⟩ := isOwn_iff.mp hi
  obtain ⟨a, e1, e2, _⟩ := R.own i o ho
  obtain ⟨u, hu, nt⟩ := e2.here
  rw [e1] at z
  cases z
  rw [but_some hu nt hn] at hb
  cases hb

theorem call_t {cl : Cl} {f : Nat} {is : Es} {Q : VK} (h : tE p σ0 W (fun env => (evEs cl is env).bind fun x => callE cl f x.1 x.2) σ H Q) : tCallS (spIR p (cl f)) (WE W) (tA p σ0 W (evEs cl is)) σ H Q := by
  obtain ⟨G, F, env, R, g⟩ := h
  refine ⟨G, F, env, R, GoodB.part (.refl G) g fun ds env2 F2 H2 gr R2 g2 vs hvs => ?_⟩
  refine ⟨but H2 none, F2, none, none, ds, vs, rfl, ⟨but_sub, R2.fs, but_nt, R2.fn, R2.tb⟩, trivial, (fun a z => by cases z), hvs, ?_⟩
  have g2' : GoodB p σ0 G F2 σ W (OkE p G σ Q) (callE cl f ds env2) := g2
  unfold callE at g2'
  cases hc : cl f none ds with
  | bad => rw [hc] at g2'; exact (show False from g2').elim
  | exc c io =>
    rw [hc] at g2'
    cases io with
    | some o => exact (show False from g2').elim
    | none =>
      intro cls d H' F' gr' gd io x
      obtain ⟨R', gr2⟩ := R2.called gr' gd
      exact g2' cls d H' F' gr2 R' x
  | ok r io =>
    rw [hc] at g2'
    cases io with
    | some o => cases r <;> exact (show False from g2').elim
    | none =>
      intro v H' F' gr' gd io fr
      obtain ⟨R', gr2⟩ := R2.called gr' gd
      cases r with
      | slot j => exact (show False from g2').elim
      | val d => exact g2' H' F' gr2 R' v fr
      | fresh o =>
        obtain ⟨b, e1, e2, e3, e4, e5⟩ := fr
        have sg : Sub G (but H2 none) := by rw [but_none]; exact noT_of R2.gs R2.gn
        exact g2' H' F' gr2 R' v ⟨b, e1, e2, e3, sg.none e4, R2.free_slot e4 e5⟩
theorem isOwn_put {i : Nat} {s : Sl} {o o' : Ob} {j : Nat} (hi : env[i]? = some s) (hs : slOb s = some o) (h : isOwn (env.set i (putOb s o'))[j]?) : isOwn env[j]? := by
  rcases isOwn_set h with ⟨q1, _⟩ | ⟨_, q2⟩
  · rw [q1]
    exact isOwn_iff.mpr ⟨o, slOb_or hi hs⟩
  · exact q2
theorem callr_t {cl : Cl} {f i : Nat} {is : Es} {Q : VK} (h : tE p σ0 W (fun env => if isOwnB env[i]? then (evEs cl is env).bind fun x => callR cl f i x.1 x.2 else .bad) σ H Q) : tCallS (spIR p (cl f)) (WE W) (tCons (tVar i) (tA p σ0 W (evEs cl is))) σ H Q := by
  obtain ⟨G, F, env, R, g⟩ := h
  replace g : GoodB p σ0 G F σ W (OkE p G σ Q) (if isOwnB env[i]? then (evEs cl is env).bind fun x => callR cl f i x.1 x.2 else .bad) := g
  obtain ⟨hw, g⟩ : isOwnB env[i]? = true ∧ GoodB p σ0 G F σ W (OkE p G σ Q) ((evEs cl is env).bind fun x => callR cl f i x.1 x.2) := by
    split at g
    · rename_i hw
      exact ⟨hw, g⟩
    · exact (show False from g).elim
  obtain ⟨v0, hv0⟩ : ∃ v, σ[i]? = some (some v) := by
    cases hs : env[i]? with
    | none => rw [hs] at hw; cases hw
    | some s =>
      rw [hs] at hw
      cases s with
      | non => cases hw
      | val d => cases hw
      | frd k => cases hw
      | own o =>
        obtain ⟨a, e1, _⟩ := R.own i o (.inl hs)
        exact ⟨_, e1⟩
      | inn o =>
        obtain ⟨a, e1, _⟩ := R.own i o (.inr hs)
        exact ⟨_, e1⟩
  refine ⟨v0, hv0, G, F, env, R, GoodB.part (.refl G) g fun ds env2 F2 H2 gr R2 g2 vs hvs => ?_⟩
  have g2' : GoodB p σ0 G F2 σ W (OkE p G σ Q) (callR cl f i ds env2) := g2
  unfold callR at g2'
  cases hi : env2[i]? with
  | none => rw [hi] at g2'; exact (show False from g2').elim
  | some s =>
    rw [hi] at g2'
    cases hs : slOb s with
    | none => simp only [Option.bind, hs] at g2'; exact (show False from g2').elim
    | some o =>
      simp only [Option.bind, hs, Option.map] at g2'
      obtain ⟨a, e1, e2, e3, e4⟩ := R2.own i o (slOb_or hi hs)
      have hv1 := hv0
      rw [e1] at hv0
      cases hv0
      have nb : but H2 (some a) a = none := by unfold but; rw [if_pos rfl]
      refine ⟨but H2 (some a), F2, some a, some o, ds, vs, rfl, ⟨but_sub, R2.fs, but_nt, R2.fn, R2.tb⟩, ⟨e2, e3⟩, (fun b z => by cases z; exact nb), hvs, ?_⟩
      cases hc : cl f (some o) ds with
      | bad => simp only [hc] at g2'; exact (show False from g2').elim
      | exc c io =>
        simp only [hc] at g2'
        cases io with
        | none => exact (show False from g2').elim
        | some o' =>
          intro cls d H' F' gr' gd io x
          obtain ⟨R', gr2⟩ := R2.calledR hi hs e1 gr' gd io
          exact g2' cls d H' F' gr2 R' x
      | ok r io =>
        simp only [hc] at g2'
        cases io with
        | none => cases r <;> exact (show False from g2').elim
        | some o' =>
          intro v H' F' gr' gd io fr
          obtain ⟨R', gr2⟩ := R2.calledR hi hs e1 gr' gd io
          cases r with
          | slot j => exact (show False from g2').elim
          | val d => exact g2' H' F' gr2 R' v fr
          | fresh q =>
            obtain ⟨b, x1, x2, x3, x4, x5⟩ := fr
            have gb : G b = none := by
              cases z : G b with
              | none => rfl
              | some u =>
                have := but_some (R2.gs b u z) (fun ps y => R2.gn b ps (by rw [z, y])) x5
                rw [this] at x4
                cases x4
            exact g2' H' F' gr2 R' v ⟨b, x1, x2, x3, gb, fun j hj => R2.free_slot x4 x5 j (isOwn_put hi hs hj)⟩
end
section
variable {X : Cx} {Tb : List (Addr × Str)} {σ0 : S0} {W : WX} {cl : Cl} {e : Expr} {es : List Expr} {is : Es} {pos p1 p2 : Pos} {n f i : Nat} {x y : Str}
theorem se_call (C : Cal X Tb n cl f x) (hr : Room n X.A) (tk : Takes X W) (ha : SA X Tb σ0 W cl (e :: es) is) (hg : Gl X x := by rfl) (hdb : (x == ("__debug__" : Str)) = false := by decide)
    (he : starEach (e :: es) X.env = (false, eval e X.env) :: starEach es X.env := by rfl) (hpl : (backTo pos (starEach es X.env)).any (·.1) = false := by rfl) : SE X Tb σ0 W cl (.Call (.Name x p1) (e :: es) [] pos) (.call f is) := by
  obtain ⟨a, fd, ps, h1, h2, h3, h4⟩ := C.ex
  exact PE.mono (pe_callS h4 hr hg h1 h2 h3 (fun σ => passAt tk σ) ha hdb he hpl) fun _ _ _ q => call_t q
theorem se_callr (C : Cal X Tb n cl f x) (hr : Room n X.A) (tk : Takes X W) (ha : SA X Tb σ0 W cl es is) (hN : X.N[i]? = some y := by rfl) (hv : Vis X.env.scope y := by first | exact Or.inl rfl | exact Or.inr (Or.inl rfl) | exact Or.inr (Or.inr rfl)) (hg : Gl X x := by rfl)
    (hdb : (x == ("__debug__" : Str)) = false := by decide) (hdb2 : (y == ("__debug__" : Str)) = false := by decide) (hcd : (y == ("__classdict__" : Str)) = false := by decide)
    (he : starEach (.Name y p2 :: es) X.env = (false, eval (.Name y p2) X.env) :: starEach es X.env := by rfl) (hpl : (backTo pos (starEach es X.env)).any (·.1) = false := by rfl) : SE X Tb σ0 W cl (.Call (.Name x p1) (.Name y p2 :: es) [] pos) (.callr f i is) := by
  obtain ⟨a, fd, ps, h1, h2, h3, h4⟩ := C.ex
  exact PE.mono (pe_callS h4 hr hg h1 h2 h3 (fun σ => passAt tk σ) (pa_cons (pe_var (i := i) hN hv hdb2 hcd) ha he) hdb he hpl) fun _ _ _ q => callr_t q
end
end Pb

namespace Pb
open PySem PySem.Spec L2

/-! ### targets -/
def tG (p : Pm) (σ0 : S0) (tg : Tg) : TG := fun v σ H Q => ∃ G F env d env', Rel p σ0 G F env σ H ∧ Rp p.K F d v ∧ asgT tg d env = some env' ∧
  ∀ σ', Rel p σ0 G F env' σ' H → σ'.length = σ.length → (∀ j, j ∉ tg.sl → σ'[j]? = σ[j]?) → Q σ' H
def tGs (p : Pm) (σ0 : S0) (is : List Nat) : TGs := fun vs σ H Q => ∃ G F env ds env', Rel p σ0 G F env σ H ∧ RpAll p.K F ds vs ∧ setAll is ds env = some env' ∧
  ∀ σ', Rel p σ0 G F env' σ' H → σ'.length = σ.length → (∀ j, j ∉ is → σ'[j]? = σ[j]?) → Q σ' H
theorem PG.mono {X : Cx} {e : Expr} {t t' : TG} (h : PG X e t) (s : ∀ v σ H Q, t' v σ H Q → t v σ H Q) : PG X e t' := ⟨fun pins sh σ H v u Q I r q => h.run pins sh σ H v u Q I r (s v σ H Q q)⟩
theorem PGs.mono {X : Cx} {e : List Expr} {t t' : TGs} (h : PGs X e t) (s : ∀ v σ H Q, t' v σ H Q → t v σ H Q) : PGs X e t' := ⟨fun pins sh σ H v u Q I r q => h.run pins sh σ H v u Q I r (s v σ H Q q)⟩
theorem PI.mono {X : Cx} {tg e : Expr} {t t' : TI} (h : PI X tg e t) (s : ∀ σ H Q, t' σ H Q → t σ H Q) : PI X tg e t' := ⟨fun pins sh σ H Q I q => h.run pins sh σ H Q I (s σ H Q q)⟩
theorem PTs.mono {X : Cx} {e : List Expr} {t t' : TT} (h : PTs X e t) (s : ∀ σ H Q, t' σ H Q → t σ H Q) : PTs X e t' := ⟨fun pins sh σ H Q I q => h.run pins sh σ H Q I (s σ H Q q)⟩
theorem notInn {s : Option Sl} (h : ¬ isInn s = true) : ∀ o, s ≠ some (Sl.inn o) := fun o z => h (by rw [z]; rfl)
section
variable {X : Cx} {Tb : List (Addr × Str)} {σ0 : S0} {W : WX} {pos : Pos}
abbrev SG (X : Cx) (Tb : List (Addr × Str)) (σ0 : S0) (e : Expr) (t : Tg) : Prop := PG X e (tG (pm X Tb) σ0 t)
abbrev SGs (X : Cx) (Tb : List (Addr × Str)) (σ0 : S0) (e : List Expr) (t : List Nat) : Prop := PGs X e (tGs (pm X Tb) σ0 t)
theorem sg_nm (i : Nat) {x : Str} (hN : X.N.Nodup) (hk : σ0.fx i = false := by rfl) (hi : X.N[i]? = some x := by rfl) (hx : Loc X.env.scope x := by first | exact Or.inl rfl | exact Or.inr rfl) (hf : X.fn x = true ∨ X.env.scope.names.lookup x = some .local := by first | exact .inl rfl | exact .inr rfl | assumption) : SG X Tb σ0 (.Name x pos) (.nm i) := by
  refine PG.mono (pg_name hN hi hx hf) fun v σ H Q q => ?_
  obtain ⟨G, F, env, d, env', R, r, e, q⟩ := q
  simp only [asgT] at e
  split at e
  · cases e
  · rename_i hn
    cases e
    refine q _ (R.setVal hk (notInn hn) r) (by simp) fun j hj => ?_
    have hne : i ≠ j := fun z => hj (by simp [Tg.sl, z])
    exact List.getElem?_set_ne hne
theorem sgs_nil : SGs X Tb σ0 [] [] := by
  refine PGs.mono pgs_nil fun vs σ H Q q => ?_
  obtain ⟨G, F, env, ds, env', R, r, e, q⟩ := q
  cases ds with
  | nil =>
    cases e
    exact ⟨r, q σ R rfl fun _ _ => rfl⟩
  | cons d ds => cases e
theorem sgs_cons {e : Expr} {es : List Expr} {i : Nat} {is : List Nat} (h : SG X Tb σ0 e (.nm i)) (t : SGs X Tb σ0 es is)
    (hs : (assignEach (e :: es) X.env).map (·.2) = assign e X.env :: (assignEach es X.env).map (·.2) := by rfl) : SGs X Tb σ0 (e :: es) (i :: is) := by
  refine PGs.mono (pgs_cons h t hs) fun vs σ H Q q => ?_
  obtain ⟨G, F, env, ds, env', R, r, e, q⟩ := q
  cases ds with
  | nil => cases e
  | cons d ds =>
    obtain ⟨v, us, ev, r1, r2⟩ := r
    simp only [setAll] at e
    split at e
    · cases e
    · rename_i hn
      refine ⟨v, us, ev, G, F, env, d, _, R, r1, by simp only [asgT]; rw [if_neg hn], fun σ1 R1 l1 k1 => ?_⟩
      refine ⟨G, F, _, ds, env', R1, r2, e, fun σ2 R2 l2 k2 => q σ2 R2 (l2.trans l1) fun j hj => ?_⟩
      simp only [List.mem_cons, not_or] at hj
      exact (k2 j hj.2).trans (k1 j (by simp [Tg.sl, hj.1]))
theorem sg_tp {es : List Expr} {is : List Nat} {k : Nat} (hc : X.calm = true) (h : SGs X Tb σ0 es is) (hn : (assignEach es X.env).length = is.length := by rfl) (hst : (assignEach es X.env).findIdx? (·.1) = none := by rfl) : SG X Tb σ0 (.Tuple es k pos) (.tp is) := by
  refine PG.mono (pg_tup hc h hn hst) fun v σ H Q q => ?_
  obtain ⟨G, F, env, d, env', R, r, e, q⟩ := q
  cases d <;> try (cases e; done)
  rename_i ds
  obtain ⟨a, xs, ev, rt, w⟩ := r
  have hl : ∀ (is : List Nat) (ds : List D) (e1 e2 : En), setAll is ds e1 = some e2 → ds.length = is.length := by
    intro is
    induction is with
    | nil => intro ds e1 e2 h; cases ds with
      | nil => rfl
      | cons d ds => cases h
    | cons i is ih => intro ds e1 e2 h; cases ds with
      | nil => cases h
      | cons d ds =>
        simp only [setAll] at h
        split at h
        · cases h
        · simp only [List.length_cons, ih _ _ _ h]
  exact ⟨a, xs, ev, R.fs.rdt rt, by rw [w.length]; exact hl _ _ _ _ e, G, F, env, ds, env', R, w, e, q⟩
end

/-! ### what is walked -/
structure JOk (K : PySem.W.Frag) (F : Hp) (J : L2.It) (ds : List D) : Prop where
  go : ∀ i H, Sub F H → i < ds.length → J.go i H
  stop : ∀ i H, Sub F H → ds.length ≤ i → J.stop i H
  yld : ∀ i H x H', Sub F H → J.yld i H x H' → ∀ d, ds[i]? = some d → (H' = H ∧ Rp K F d x) ∨ (∃ T xs es, H T = none ∧ H' = upd H T (.tup xs) ∧ x = .ref T ∧ d = .tuple es ∧ RpAll K F es xs)
theorem JOk.mono {K : PySem.W.Frag} {F F' : Hp} {J : L2.It} {ds : List D} (s : Sub F F') (h : JOk K F J ds) : JOk K F' J ds where
  go := fun i H sh => h.go i H (s.trans sh)
  stop := fun i H sh => h.stop i H (s.trans sh)
  yld := fun i H x H' sh y d hd => by
    rcases h.yld i H x H' (s.trans sh) y d hd with ⟨e, r⟩ | ⟨T, xs, es, n, e, ev, ed, r⟩
    · exact .inl ⟨e, Rp.mono s _ _ r⟩
    · exact .inr ⟨T, xs, es, n, e, ev, ed, RpAll.mono s _ _ r⟩
abbrev OkI (p : Pm) (R : L2.It → Hp → Prop) : List D → En → Hp → Hp → Prop := fun ds _ F' H' => ∀ J, JOk p.K F' J ds → ds.length ≤ sizeLine → R J H'
def tI (p : Pm) (σ0 : S0) (W : WX) (ev : En → Res (List D × En)) : TI := fun σ H R => ∃ G F env, Rel p σ0 G F env σ H ∧ GoodB p σ0 G F σ W (OkI p R) (ev env)
abbrev SI (X : Cx) (Tb : List (Addr × Str)) (σ0 : S0) (W : WX) (cl : Cl) (tg e : Expr) (i : It) : Prop := PI X tg e (tI (pm X Tb) σ0 W (evI cl i))
section
variable {K : PySem.W.Frag} {F : Hp}
theorem jList {a : Addr} {xs : List V} {ds : List D} (r : Rd F a (.lst xs)) (w : RpAll K F ds xs) : JOk K F (Itl K a) ds where
  go := fun i H s h => by
    obtain ⟨v, hv, _⟩ := w.get (List.getElem?_eq_getElem h)
    exact ⟨xs, v, .inl (s.rdl r), hv⟩
  stop := fun i H s h => ⟨xs, .inl (s.rdl r), by rw [w.length]; exact h⟩
  yld := fun i H x H' s y d hd => by
    obtain ⟨e, y⟩ := y
    have hx := y xs (.inl (s.rdl r))
    obtain ⟨v, hv, rv⟩ := w.get hd
    rw [hx] at hv
    cases hv
    exact .inl ⟨e, rv⟩
theorem jTup {a : Addr} {xs : List V} {ds : List D} (r : SqT K F a xs) (w : RpAll K F ds xs) : JOk K F (Itt K a) ds where
  go := fun i H s h => by
    obtain ⟨v, hv, _⟩ := w.get (List.getElem?_eq_getElem h)
    exact ⟨xs, v, s.rdt r, hv⟩
  stop := fun i H s h => ⟨xs, s.rdt r, by rw [w.length]; exact h⟩
  yld := fun i H x H' s y d hd => by
    obtain ⟨e, y⟩ := y
    have hx := y xs (s.rdt r)
    obtain ⟨v, hv, rv⟩ := w.get hd
    rw [hx] at hv
    cases hv
    exact .inl ⟨e, rv⟩
theorem jRng {lo : Int} {n : Nat} : JOk K F (Itr lo n) ((List.range n).map fun k => PyData.int (lo + (k : Nat))) where
  go := fun i H s h => by
    have h' : i < n := by simpa using h
    exact h'
  stop := fun i H s h => by
    have h' : n ≤ i := by simpa using h
    exact h'
  yld := fun i H x H' s y d hd => by
    obtain ⟨e, y⟩ := y
    rw [List.getElem?_map] at hd
    obtain ⟨k, hk, ek⟩ := Option.map_eq_some_iff.mp hd
    have : k = i := by
      by_cases hi : i < n
      · rw [List.getElem?_range hi] at hk
        exact (Option.some.inj hk).symm
      · rw [List.getElem?_eq_none (by simpa using hi)] at hk
        cases hk
    subst this
    subst ek
    exact .inl ⟨e, y⟩
theorem jStr {x : Str} (h : PyData.strOk x = true) : JOk K F (Its x) (x.cps.toList.map fun c => PyData.str ⟨#[c]⟩) where
  go := fun i H s h => by
    have h' : i < x.cps.size := by simpa using h
    exact h'
  stop := fun i H s h => by
    have h' : x.cps.size ≤ i := by simpa using h
    exact h'
  yld := fun i H v H' s y d hd => by
    obtain ⟨e, c, hc, ev⟩ := y
    rw [List.getElem?_map, Array.getElem?_toList, hc] at hd
    cases hd
    refine .inl ⟨e, ev, ?_⟩
    have h' := Array.all_eq_true_iff_forall_mem.mp (show x.cps.all (· < 0x110000) = true from h)
    have := h' c (Array.mem_of_getElem? hc)
    simpa [PyData.strOk] using this
theorem zipD_get : ∀ {ds es : List D} {i : Nat} {d : D}, (zipD ds es)[i]? = some d → ∃ x y, ds[i]? = some x ∧ es[i]? = some y ∧ d = .tuple [x, y]
  | [], _, i, d, h => by simp [zipD] at h
  | _ :: _, [], i, d, h => by simp [zipD] at h
  | x :: ds, y :: es, 0, d, h => by
    simp [zipD] at h
    exact ⟨x, y, rfl, rfl, h.symm⟩
  | x :: ds, y :: es, i + 1, d, h => by
    obtain ⟨u, v, h1, h2, h3⟩ := zipD_get (ds := ds) (es := es) (i := i) (by simpa [zipD] using h)
    exact ⟨u, v, by simpa using h1, by simpa using h2, h3⟩
theorem zipD_len : ∀ {ds es : List D}, (zipD ds es).length = min ds.length es.length
  | [], es => by simp [zipD]
  | _ :: _, [] => by simp [zipD]
  | x :: ds, y :: es => by
    rw [zipD, List.length_cons, zipD_len, List.length_cons, List.length_cons]
    omega
theorem jZipL {a b : Addr} {xs ys : List V} {ds es : List D} (r : Rd F a (.lst xs)) (w : RpAll K F ds xs) (r2 : Rd F b (.lst ys)) (w2 : RpAll K F es ys) : JOk K F (Itz K a b) (zipD ds es) where
  go := fun i H s h => by
    rw [zipD_len] at h
    obtain ⟨v, hv, _⟩ := w.get (List.getElem?_eq_getElem (show i < ds.length by omega))
    obtain ⟨u, hu, _⟩ := w2.get (List.getElem?_eq_getElem (show i < es.length by omega))
    exact ⟨xs, ys, v, u, .inl (s.rdl r), .inl (s.rdl r2), hv, hu⟩
  stop := fun i H s h => by
    rw [zipD_len] at h
    exact ⟨xs, ys, .inl (s.rdl r), .inl (s.rdl r2), by rw [w.length, w2.length]; omega⟩
  yld := fun i H x H' s y d hd => by
    obtain ⟨T, x1, x2, ev, n, e, f1, f2⟩ := y
    obtain ⟨d1, d2, h1, h2, h3⟩ := zipD_get hd
    obtain ⟨v, hv, rv⟩ := w.get h1
    obtain ⟨u, hu, ru⟩ := w2.get h2
    have k1 := f1 xs (.inl (s.rdl r))
    have k2 := f2 ys (.inl (s.rdl r2))
    rw [hv] at k1
    rw [hu] at k2
    cases k1; cases k2
    exact .inr ⟨T, _, _, n, e, ev, h3, ⟨_, [_], rfl, rv, _, [], rfl, ru, rfl⟩⟩
theorem jZipT {a b : Addr} {xs ys : List V} {ds es : List D} (r : SqT K F a xs) (w : RpAll K F ds xs) (r2 : SqT K F b ys) (w2 : RpAll K F es ys) : JOk K F (RZ.ItzT K a b) (zipD ds es) where
  go := fun i H s h => by
    rw [zipD_len] at h
    obtain ⟨v, hv, _⟩ := w.get (List.getElem?_eq_getElem (show i < ds.length by omega))
    obtain ⟨u, hu, _⟩ := w2.get (List.getElem?_eq_getElem (show i < es.length by omega))
    exact ⟨xs, ys, v, u, s.rdt r, s.rdt r2, hv, hu⟩
  stop := fun i H s h => by
    rw [zipD_len] at h
    exact ⟨xs, ys, s.rdt r, s.rdt r2, by rw [w.length, w2.length]; omega⟩
  yld := fun i H x H' s y d hd => by
    obtain ⟨T, x1, x2, ev, n, e, f1, f2⟩ := y
    obtain ⟨d1, d2, h1, h2, h3⟩ := zipD_get hd
    obtain ⟨v, hv, rv⟩ := w.get h1
    obtain ⟨u, hu, ru⟩ := w2.get h2
    have k1 := f1 xs (s.rdt r)
    have k2 := f2 ys (s.rdt r2)
    rw [hv] at k1
    rw [hu] at k2
    cases k1; cases k2
    exact .inr ⟨T, _, _, n, e, ev, h3, ⟨_, [_], rfl, rv, _, [], rfl, ru, rfl⟩⟩
theorem enm_get : ∀ {ds : List D} {n i : Nat} {d : D}, (enmD n ds)[i]? = some d → ∃ x, ds[i]? = some x ∧ d = .tuple [.int ((n + i : Nat)), x]
  | [], n, i, d, h => by simp [enmD] at h
  | x :: ds, n, 0, d, h => by
    simp [enmD] at h
    exact ⟨x, rfl, h.symm⟩
  | x :: ds, n, i + 1, d, h => by
    obtain ⟨u, h1, h2⟩ := enm_get (ds := ds) (n := n + 1) (i := i) (by simpa [enmD] using h)
    exact ⟨u, by simpa using h1, by rw [h2, show n + 1 + i = n + (i + 1) by omega]⟩
theorem enm_len : ∀ {ds : List D} {n : Nat}, (enmD n ds).length = ds.length
  | [], n => rfl
  | x :: ds, n => by rw [enmD, List.length_cons, List.length_cons, enm_len]
theorem jEnm {a : Addr} {xs : List V} {ds : List D} (r : Rd F a (.lst xs)) (w : RpAll K F ds xs) : JOk K F (Ite K a) (enmD 0 ds) where
  go := fun i H s h => by
    rw [enm_len] at h
    obtain ⟨v, hv, _⟩ := w.get (List.getElem?_eq_getElem h)
    exact ⟨xs, v, .inl (s.rdl r), hv⟩
  stop := fun i H s h => ⟨xs, .inl (s.rdl r), by rw [w.length]; rw [enm_len] at h; exact h⟩
  yld := fun i H x H' s y d hd => by
    obtain ⟨T, x1, ev, n, e, f1⟩ := y
    obtain ⟨d1, h1, h3⟩ := enm_get hd
    obtain ⟨v, hv, rv⟩ := w.get h1
    have k1 := f1 xs (.inl (s.rdl r))
    rw [hv] at k1
    cases k1
    rw [Nat.zero_add] at h3
    exact .inr ⟨T, _, _, n, e, ev, h3, ⟨_, [_], rfl, rfl, _, [], rfl, rv, rfl⟩⟩
end


/-- sizes are known of what stands -/
def Sz (K : PySem.W.Frag) (v : V) (H : Hp) : Prop := ∀ a xs, v = .ref a → (SqL K H a xs ∨ SqT K H a xs) → xs.length ≤ sizeLine
theorem pe_sz {X : Cx} {e : Expr} {t : TE} (h : PE X e t) : PE X e (fun σ H Q => t σ H fun v H' => Sz X.K v H' → Q v H') := by
  refine ⟨fun pins sh σ H Q I q => ?_⟩
  refine thn (h.run pins sh σ H _ I q) fun u s' hq => ?_
  obtain ⟨v, H', I', r, q'⟩ := hq
  refine ⟨v, H', I', r, q' fun a xs _ hs => ?_⟩
  rcases hs with hs | hs
  · obtain ⟨_, _, _, z⟩ := I'.list hs
    exact z
  · obtain ⟨_, _, _, z⟩ := I'.tuple hs
    exact z
section
variable {X : Cx} {Tb : List (Addr × Str)} {σ0 : S0} {W : WX} {cl : Cl} {tg e e2 : Expr} {i j : E} {pos p1 : Pos}
theorem si_L (he : SE X Tb σ0 W cl e i) : SI X Tb σ0 W cl tg e (.datL i) := by
  refine PI.mono (pi_list (pe_sz he)) fun σ H R q => ?_
  obtain ⟨G, F, env, Rl, g⟩ := q
  refine nextF Rl g fun d v F2 env2 H2 gr R2 rp g2 => ?_
  cases d <;> try (exact (show False from g2).elim)
  obtain ⟨a, xs, ev, r, w⟩ := rp
  intro hz
  exact ⟨a, ev, ⟨xs, .inl (R2.fs.rdl r)⟩, g2.ok_in R2 _ (jList r w) (by rw [← w.length]; exact hz a xs ev (.inl (.inl (R2.fs.rdl r))))⟩
theorem si_T (he : SE X Tb σ0 W cl e i) : SI X Tb σ0 W cl tg e (.datT i) := by
  refine PI.mono (pi_tup (pe_sz he)) fun σ H R q => ?_
  obtain ⟨G, F, env, Rl, g⟩ := q
  refine nextF Rl g fun d v F2 env2 H2 gr R2 rp g2 => ?_
  cases d <;> try (exact (show False from g2).elim)
  obtain ⟨a, xs, ev, r, w⟩ := rp
  intro hz
  exact ⟨a, ev, ⟨xs, R2.fs.rdt r⟩, g2.ok_in R2 _ (jTup r w) (by rw [← w.length]; exact hz a xs ev (.inr (R2.fs.rdt r)))⟩
theorem si_S (he : SE X Tb σ0 W cl e i) : SI X Tb σ0 W cl tg e (.datS i) := by
  refine PI.mono (pi_str he) fun σ H R q => ?_
  obtain ⟨G, F, env, Rl, g⟩ := q
  refine nextF Rl g fun d v F2 env2 H2 gr R2 rp g2 => ?_
  cases d <;> try (exact (show False from g2).elim)
  obtain ⟨ev, h⟩ := rp
  simp only [itS] at g2
  split at g2
  · rename_i hz
    exact ⟨_, ev, g2.ok_in R2 _ (jStr h) (by simp only [List.length_map, Array.length_toList]; exact big_le hz)⟩
  · exact (show False from g2).elim
theorem rng_ok {n : Int} (h : rngOk n = true) : -40000 ≤ n ∧ n ≤ 40000 := by simpa [rngOk] using h
theorem si_rng1 (hm : X.mg "range" = none) (he : SE X Tb σ0 W cl e i) (hg : Gl X "range" := by rfl) (hs : starEach [e] X.env = [(false, eval e X.env)] := by rfl) : SI X Tb σ0 W cl tg (.Call (.Name "range" p1) [e] [] pos) (.rng1 i) := by
  refine PI.mono (pi_range1 hg hm (pa_cons he pa_nil hs) hs) fun σ H R q => ?_
  obtain ⟨G, F, env, Rl, g⟩ := q
  refine nextF Rl g fun d v F2 env2 H2 gr R2 rp g2 => ?_
  cases d <;> try (exact (show False from g2).elim)
  rename_i n
  cases rp
  simp only at g2
  split at g2
  · rename_i h
    obtain ⟨h1, h2⟩ := rng_ok h
    refine ⟨n, rfl, by omega, by omega, g2.ok_in R2 _ ?_ ?_⟩
    · have e : rngD 0 n = (List.range n.toNat).map fun k => PyData.int (0 + (k : Nat)) := by simp [rngD]
      rw [e]
      exact jRng
    · simp only [rngD, List.length_map, List.length_range]
      exact big_le (by unfold big; omega)
  · exact (show False from g2).elim
theorem si_rng2 (hm : X.mg "range" = none) (he : SE X Tb σ0 W cl e i) (he2 : SE X Tb σ0 W cl e2 j) (hg : Gl X "range" := by rfl) (hs : starEach [e, e2] X.env = [(false, eval e X.env), (false, eval e2 X.env)] := by rfl)
    (hs2 : starEach [e2] X.env = [(false, eval e2 X.env)] := by rfl) (hs3 : starEach [e, e2] X.env = (false, eval e X.env) :: starEach [e2] X.env := by rfl) : SI X Tb σ0 W cl tg (.Call (.Name "range" p1) [e, e2] [] pos) (.rng2 i j) := by
  refine PI.mono (pi_range2 hg hm (pa_cons he (pa_cons he2 pa_nil hs2) hs3) hs hs2) fun σ H R q => ?_
  obtain ⟨G, F, env, Rl, g⟩ := q
  refine nextF Rl g fun d v F2 env2 H2 gr R2 rp g2 => nextF R2 g2 fun d2 v2 F3 env3 H3 gr3 R3 rp3 g3 => ?_
  cases d <;> try (exact (show False from g3).elim)
  cases d2 <;> try (exact (show False from g3).elim)
  rename_i n m
  cases rp; cases rp3
  simp only at g3
  split at g3
  · rename_i h
    rw [Bool.and_eq_true] at h
    obtain ⟨h1, h2⟩ := rng_ok h.1
    obtain ⟨h3, h4⟩ := rng_ok h.2
    exact ⟨n, m, rfl, by omega, g3.ok_in R3 _ jRng (by simp only [rngD, List.length_map, List.length_range]; exact big_le (by unfold big; omega))⟩
  · exact (show False from g3).elim
theorem si_zipL {tpos : Pos} {elts : List Expr} {kk : Nat} (hm : X.mg "zip" = none) (he : SE X Tb σ0 W cl e i) (he2 : SE X Tb σ0 W cl e2 j) (hg : Gl X "zip" := by rfl)
    (hs : starEach [e, e2] X.env = (false, eval e X.env) :: starEach [e2] X.env := by rfl) (hs2 : starEach [e2] X.env = (false, eval e2 X.env) :: starEach [] X.env := by rfl) (hpl : (backTo pos (starEach [e2] X.env)).any (·.1) = false := by rfl) : SI X Tb σ0 W cl (.Tuple elts kk tpos) (.Call (.Name "zip" p1) [e, e2] [] pos) (.zipL i j) := by
  refine PI.mono (RZ.pi_zipA hg hm (pa_cons (pe_sz he) (pa_cons he2 pa_nil hs2) hs) hs hpl) fun σ H R q => ?_
  obtain ⟨G, F, env, Rl, g⟩ := q
  refine nextF Rl g fun d v F2 env2 H2 gr R2 rp g2 hz => nextF R2 g2 fun d2 v2 F3 env3 H3 gr3 R3 rp3 g3 => ?_
  cases d <;> try (exact (show False from g3).elim)
  cases d2 <;> try (exact (show False from g3).elim)
  have rp0 := rp
  obtain ⟨a0, xs0, ev0, r0, w0⟩ := rp0
  obtain ⟨a, xs, ev, r, w⟩ := Rp.mono gr3.sub _ _ rp
  obtain ⟨b, ys, ev2, r2, w2⟩ := rp3
  subst ev ev2
  exact ⟨a, b, xs, ys, rfl, .inl ⟨.inl (R3.fs.rdl r), .inl (R3.fs.rdl r2), g3.ok_in R3 _ (jZipL r w r2 w2) (by rw [zipD_len, ← w0.length]; exact Nat.le_trans (Nat.min_le_left _ _) (hz a0 xs0 ev0 (.inl (.inl (R2.fs.rdl r0)))))⟩⟩
theorem si_zipT {tpos : Pos} {elts : List Expr} {kk : Nat} (hm : X.mg "zip" = none) (he : SE X Tb σ0 W cl e i) (he2 : SE X Tb σ0 W cl e2 j) (hg : Gl X "zip" := by rfl)
    (hs : starEach [e, e2] X.env = (false, eval e X.env) :: starEach [e2] X.env := by rfl) (hs2 : starEach [e2] X.env = (false, eval e2 X.env) :: starEach [] X.env := by rfl) (hpl : (backTo pos (starEach [e2] X.env)).any (·.1) = false := by rfl) : SI X Tb σ0 W cl (.Tuple elts kk tpos) (.Call (.Name "zip" p1) [e, e2] [] pos) (.zipT i j) := by
  refine PI.mono (RZ.pi_zipA hg hm (pa_cons (pe_sz he) (pa_cons he2 pa_nil hs2) hs) hs hpl) fun σ H R q => ?_
  obtain ⟨G, F, env, Rl, g⟩ := q
  refine nextF Rl g fun d v F2 env2 H2 gr R2 rp g2 hz => nextF R2 g2 fun d2 v2 F3 env3 H3 gr3 R3 rp3 g3 => ?_
  cases d <;> try (exact (show False from g3).elim)
  cases d2 <;> try (exact (show False from g3).elim)
  have rp0 := rp
  obtain ⟨a0, xs0, ev0, r0, w0⟩ := rp0
  obtain ⟨a, xs, ev, r, w⟩ := Rp.mono gr3.sub _ _ rp
  obtain ⟨b, ys, ev2, r2, w2⟩ := rp3
  subst ev ev2
  exact ⟨a, b, xs, ys, rfl, .inr ⟨R3.fs.rdt r, R3.fs.rdt r2, g3.ok_in R3 _ (jZipT r w r2 w2) (by rw [zipD_len, ← w0.length]; exact Nat.le_trans (Nat.min_le_left _ _) (hz a0 xs0 ev0 (.inr (R2.fs.rdt r0))))⟩⟩
theorem si_enm {tpos : Pos} {elts : List Expr} {kk : Nat} (hm : X.mg "enumerate" = none) (he : SE X Tb σ0 W cl e i) (hg : Gl X "enumerate" := by rfl) (hs : starEach [e] X.env = [(false, eval e X.env)] := by rfl) : SI X Tb σ0 W cl (.Tuple elts kk tpos) (.Call (.Name "enumerate" p1) [e] [] pos) (.enm i) := by
  refine PI.mono (pi_enum hg hm (pa_cons (pe_sz he) pa_nil hs) hs) fun σ H R q => ?_
  obtain ⟨G, F, env, Rl, g⟩ := q
  refine nextF Rl g fun d v F2 env2 H2 gr R2 rp g2 => ?_
  cases d <;> try (exact (show False from g2).elim)
  obtain ⟨a, xs, ev, r, w⟩ := rp
  subst ev
  intro hz
  exact ⟨a, xs, rfl, .inl (R2.fs.rdl r), g2.ok_in R2 _ (jEnm r w) (by rw [enm_len, ← w.length]; exact hz a xs rfl (.inl (.inl (R2.fs.rdl r))))⟩
/-! the keys of a dict -/
theorem jDk {K : PySem.W.Frag} {F : Hp} {w : World} {a : Addr} {o : Obj} {es : List Ent} {kvs : List (D × D)} (h : F a = some (DctO w a o es)) (r : EntP K F kvs es) : JOk K F (Itdk w a o es) (kvs.map (·.1)) where
  go := fun i H s hi => ⟨s _ _ h, by rw [r.length]; simpa using hi⟩
  stop := fun i H s hi => ⟨s _ _ h, by rw [r.length]; simpa using hi⟩
  yld := fun i H x H' s y d hd => by
    obtain ⟨e, en, he, ex⟩ := y
    obtain ⟨v, hv, rv⟩ := r.keys.get hd
    rw [List.getElem?_map, he] at hv
    cases hv
    subst ex
    exact .inl ⟨e, rv⟩
/-- sizes are known of dicts that stand -/
theorem pe_dz {X : Cx} {e : Expr} {t : TE} (h : PE X e t) : PE X e (fun σ H Q => t σ H fun v H' => (∀ a o es, v = .ref a → H' a = some (DctO X.w a o es) → es.length ≤ 100000) → Q v H') := by
  refine ⟨fun pins sh σ H Q I q => ?_⟩
  refine thn (h.run pins sh σ H _ I q) fun u s' hq => ?_
  obtain ⟨v, H', I', r, q'⟩ := hq
  refine ⟨v, H', I', r, q' fun a o es _ hs => ?_⟩
  obtain ⟨_, _, _, _, _, _, _, z, _⟩ := dctO_get I' hs
  exact z
theorem si_dk {y : Str} (n : Nat) (hN : X.N[n]? = some y := by rfl) (hv : Vis X.env.scope y := by first | exact Or.inl rfl | exact Or.inr (Or.inl rfl) | exact Or.inr (Or.inr rfl)) (hd : (y == ("__debug__" : Str)) = false := by decide)
    (hcd : (y == ("__classdict__" : Str)) = false := by decide) : SI X Tb σ0 W cl tg (.Name y pos) (.dctK n) := by
  refine PI.mono (pi_dk (pe_dz (pe_var (i := n) hN hv hd hcd))) fun σ H R q => ?_
  obtain ⟨G, F, env, Rl, g⟩ := q
  replace g : GoodB (pm X Tb) σ0 G F σ W (OkI (pm X Tb) R) (dKeys n env) := g
  unfold dKeys at g
  split at g
  · rename_i kvs he
    obtain ⟨F2, gr, R2⟩ := Rl.freezeD he
    have hl : n < env.length := (List.getElem?_eq_some_iff.mp he).1
    obtain ⟨a, e1, o, es, e2, r⟩ := R2.frd n kvs (List.getElem?_set_self hl)
    refine ⟨_, e1, fun hz => ⟨a, o, es, rfl, R2.fs _ _ e2, ?_⟩⟩
    exact g H F2 gr R2 _ (jDk e2 r) (by rw [List.length_map, ← r.length]; have := hz a o es rfl (R2.fs _ _ e2); rw [sizeLine_eq]; omega)
  · rename_i kvs he
    obtain ⟨a, e1, o, es, e2, r⟩ := Rl.frd n kvs he
    refine ⟨_, e1, fun hz => ⟨a, o, es, rfl, Rl.fs _ _ e2, ?_⟩⟩
    exact g.ok_in Rl _ (jDk e2 r) (by rw [List.length_map, ← r.length]; have := hz a o es rfl (Rl.fs _ _ e2); rw [sizeLine_eq]; omega)
  · exact (show False from g).elim
end
end Pb

namespace Pb
open PySem PySem.Spec L2

/-! ### a comprehension's own slots -/
theorem wipe_ne {σ : Sg} {i : Nat} : ∀ {vs : List Nat}, i ∉ vs → (wipe σ vs)[i]? = σ[i]?
  | [], _ => rfl
  | v :: vs, h => by
    simp only [List.mem_cons, not_or] at h
    unfold wipe
    rw [List.getElem?_set_ne (Ne.symm h.1), wipe_ne h.2]
theorem wipe_len {σ : Sg} : ∀ {vs : List Nat}, (wipe σ vs).length = σ.length := fun {vs} => wipe_length σ vs
theorem wipeE_len {env : En} : ∀ {vs : List Nat}, (wipeE env vs).length = env.length
  | [] => rfl
  | v :: vs => by unfold wipeE; rw [List.length_set, wipeE_len]
theorem backE_len {env sv : En} : ∀ {vs : List Nat}, (backE env sv vs).length = env.length
  | [] => rfl
  | v :: vs => by unfold backE; rw [List.length_set, backE_len]
theorem wipeE_get {env : En} {i : Nat} {s : Sl} : ∀ {vs : List Nat}, (wipeE env vs)[i]? = some s → (i ∈ vs ∧ s = .non) ∨ (i ∉ vs ∧ env[i]? = some s)
  | [], h => .inr ⟨by simp, h⟩
  | v :: vs, h => by
    unfold wipeE at h
    rcases set_get h with ⟨e1, e2⟩ | ⟨e1, e2⟩
    · exact .inl ⟨by simp [e1], e2⟩
    · rcases wipeE_get e2 with ⟨h1, h2⟩ | ⟨h1, h2⟩
      · exact .inl ⟨by simp [h1], h2⟩
      · exact .inr ⟨by simp [e1, h1], h2⟩
theorem backE_get {env sv : En} {i : Nat} {s : Sl} : ∀ {vs : List Nat}, (backE env sv vs)[i]? = some s → (i ∈ vs ∧ s = sv.getD i .non) ∨ (i ∉ vs ∧ env[i]? = some s)
  | [], h => .inr ⟨by simp, h⟩
  | v :: vs, h => by
    unfold backE at h
    rcases set_get h with ⟨e1, e2⟩ | ⟨e1, e2⟩
    · exact .inl ⟨by simp [e1], by rw [e2, e1]⟩
    · rcases backE_get e2 with ⟨h1, h2⟩ | ⟨h1, h2⟩
      · exact .inl ⟨by simp [h1], h2⟩
      · exact .inr ⟨by simp [e1, h1], h2⟩
/-- lists that agree but for the places vs are alike when these are wiped -/
theorem wipe_eq {σ σ2 : Sg} {vs : List Nat} (hl : σ2.length = σ.length) (h : ∀ j, j ∉ vs → σ2[j]? = σ[j]?) : wipe σ2 vs = wipe σ vs := by
  have at_ : ∀ (vs : List Nat) (τ : Sg) (j : Nat), j ∈ vs → (wipe τ vs)[j]? = if j < τ.length then some none else none := by
    intro vs τ j
    induction vs with
    | nil => intro h; cases h
    | cons v vs ih =>
      intro h
      unfold wipe
      by_cases hj : j = v
      · subst hj
        by_cases hlt : j < τ.length
        · rw [if_pos hlt, List.getElem?_set_self (by rw [wipe_len]; exact hlt)]
        · rw [if_neg hlt]
          exact List.getElem?_eq_none (by rw [List.length_set, wipe_len]; omega)
      · rw [List.getElem?_set_ne (Ne.symm hj)]
        rcases List.mem_cons.mp h with z | z
        · exact absurd z hj
        · exact ih z
  apply List.ext_getElem?
  intro j
  by_cases hj : j ∈ vs
  · rw [at_ vs σ2 j hj, at_ vs σ j hj, hl]
  · rw [wipe_ne hj, wipe_ne hj, h j hj]
section
variable {p : Pm} {σ0 : S0} {σ : Sg} {G F F' H H' : Hp} {env env' : En} {vs : List Nat}
theorem Rel.wiped (hw : ∀ v ∈ vs, σ0.fx v = false) (R : Rel p σ0 G F env σ H) : Rel p σ0 G F (wipeE env vs) (wipe σ vs) H where
  cds := R.cds
  fix := fun j hj => by rw [wipe_ne fun z => absurd rfl (fx_ne (hw j z) hj)]; exact R.fix j hj
  gs := R.gs
  fs := R.fs
  gn := R.gn
  fn := R.fn
  tb := R.tb
  len := by rw [wipeE_len, wipe_len, R.len]
  val := fun i d h => by
    rcases wipeE_get h with ⟨_, h2⟩ | ⟨h1, h2⟩
    · cases h2
    · rw [wipe_ne h1]
      exact R.val i d h2
  own := fun i o h => by
    have : i ∉ vs ∧ (env[i]? = some (Sl.own o) ∨ env[i]? = some (Sl.inn o)) := by
      rcases h with h | h <;> rcases wipeE_get h with ⟨_, h2⟩ | ⟨h1, h2⟩
      · cases h2
      · exact ⟨h1, .inl h2⟩
      · cases h2
      · exact ⟨h1, .inr h2⟩
    rw [wipe_ne this.1]
    exact R.own i o this.2
  inj := fun i j a hi hj => by
    have k : ∀ {x : Nat}, isOwn (wipeE env vs)[x]? → x ∉ vs ∧ isOwn env[x]? := fun {x} hx => by
      obtain ⟨o, h⟩ := isOwn_iff.mp hx
      rcases h with h | h <;> rcases wipeE_get h with ⟨_, h2⟩ | ⟨h1, h2⟩
      · cases h2
      · exact ⟨h1, isOwn_iff.mpr ⟨o, .inl h2⟩⟩
      · cases h2
      · exact ⟨h1, isOwn_iff.mpr ⟨o, .inr h2⟩⟩
    obtain ⟨n1, o1⟩ := k hi
    obtain ⟨n2, o2⟩ := k hj
    rw [wipe_ne n1, wipe_ne n2]
    exact R.inj i j a o1 o2
  inn := fun i o h => by
    rcases wipeE_get h with ⟨_, h2⟩ | ⟨h1, h2⟩
    · cases h2
    · rw [wipe_ne h1]
      exact R.inn i o h2
  frd := fun i kvs h => by
    rcases wipeE_get h with ⟨_, h2⟩ | ⟨h1, h2⟩
    · cases h2
    · rw [wipe_ne h1]
      exact R.frd i kvs h2
/-- back behind the block: the slots as they were ahead of it -/
theorem Rel.unwiped {G2 F2 H2 : Hp} {env2 : En} (R : Rel p σ0 G F env (wipe σ vs) H) (R2 : Rel p σ0 G2 F2 env2 σ H2) (s : Sub F2 F) (hn : ∀ v ∈ vs, ¬ isOwn env2[v]?) : Rel p σ0 G F (backE env env2 vs) σ H := by
  have at_ : ∀ {i : Nat} {x : Sl}, (backE env env2 vs)[i]? = some x → (i ∈ vs ∧ env2[i]? = some x) ∨ (i ∉ vs ∧ env[i]? = some x) := fun {i x} h => by
    rcases backE_get h with ⟨h1, h2⟩ | ⟨h1, h2⟩
    · refine .inl ⟨h1, ?_⟩
      have hl : i < env2.length := by
        have := (List.getElem?_eq_some_iff.mp h).1
        rw [backE_len, R.len, wipe_len, ← R2.len] at this
        exact this
      rw [List.getElem?_eq_getElem hl, h2, List.getD_eq_getElem?_getD, List.getElem?_eq_getElem hl]
      rfl
    · exact .inr ⟨h1, h2⟩
  have own_at : ∀ {i : Nat}, isOwn (backE env env2 vs)[i]? → i ∉ vs ∧ isOwn env[i]? := fun {i} hi => by
    obtain ⟨o, h⟩ := isOwn_iff.mp hi
    rcases h with h | h <;> rcases at_ h with ⟨h1, h2⟩ | ⟨h1, h2⟩
    · exact absurd (isOwn_iff.mpr ⟨o, .inl h2⟩) (hn i h1)
    · exact ⟨h1, isOwn_iff.mpr ⟨o, .inl h2⟩⟩
    · exact absurd (isOwn_iff.mpr ⟨o, .inr h2⟩) (hn i h1)
    · exact ⟨h1, isOwn_iff.mpr ⟨o, .inr h2⟩⟩
  refine ⟨R.gs, R.fs, R.gn, R.fn, R.tb, by rw [backE_len, R.len, wipe_len], fun i d h => ?_, fun i o h => ?_, fun i j a hi hj => ?_, fun i o h => ?_, R2.fix, R.cds, fun i kvs h => ?_⟩
  · rcases at_ h with ⟨h1, h2⟩ | ⟨h1, h2⟩
    · obtain ⟨v, e1, e2⟩ := R2.val i d h2
      exact ⟨v, e1, Rp.mono s _ _ e2⟩
    · have := R.val i d h2
      rwa [wipe_ne h1] at this
  · have : i ∉ vs ∧ (env[i]? = some (Sl.own o) ∨ env[i]? = some (Sl.inn o)) := by
      rcases h with h | h <;> rcases at_ h with ⟨h1, h2⟩ | ⟨h1, h2⟩
      · exact absurd (isOwn_iff.mpr ⟨o, .inl h2⟩) (hn i h1)
      · exact ⟨h1, .inl h2⟩
      · exact absurd (isOwn_iff.mpr ⟨o, .inr h2⟩) (hn i h1)
      · exact ⟨h1, .inr h2⟩
    have q := R.own i o this.2
    rwa [wipe_ne this.1] at q
  · obtain ⟨n1, o1⟩ := own_at hi
    obtain ⟨n2, o2⟩ := own_at hj
    have q := R.inj i j a o1 o2
    rwa [wipe_ne n1, wipe_ne n2] at q
  · rcases at_ h with ⟨h1, h2⟩ | ⟨h1, h2⟩
    · exact absurd (isOwn_iff.mpr ⟨o, .inr h2⟩) (hn i h1)
    · have q := R.inn i o h2
      rwa [wipe_ne h1] at q
  · rcases at_ h with ⟨h1, h2⟩ | ⟨h1, h2⟩
    · exact R2.frdm s i kvs h2
    · have := R.frd i kvs h2
      rwa [wipe_ne h1] at this
/-- an object that stands apart joins the frame -/
theorem Rel.join {a : Addr} {u : HO} (R : Rel p σ0 G F env σ H) (hu : H a = some u) (g : G a = none) (nt : ∀ ps, u ≠ .tbl ps) (ni : ∀ (i : Nat), isOwn env[i]? → σ[i]? ≠ some (some (V.ref a))) : Rel p σ0 (upd G a u) F env σ H :=
  ⟨R.gs.left hu, R.fs, R.gn.upd nt, R.fn, R.tb, R.len, R.val, fun i o h => by
    obtain ⟨c, e1, e2, e3, e4⟩ := R.own i o h
    have hc : c ≠ a := fun z => ni i (isOwn_iff.mpr ⟨o, h⟩) (by rw [e1, z])
    exact ⟨c, e1, e2, e3, by rw [upd_ne hc]; exact e4⟩, R.inj, R.inn, R.fix, R.cds, R.frd⟩
/-- .. and is written -/
theorem Rel.rejoin {a : Addr} {xs ys : List V} (R : Rel p σ0 (upd G a (.lst xs)) F env σ H) (f : F a = none) : Rel p σ0 (upd G a (.lst ys)) F env σ (upd H a (.lst ys)) := by
  have ha : H a = some (.lst xs) := R.gs a _ upd_same
  have gu : ∀ {b : Addr}, b ≠ a → upd G a (.lst ys) b = upd G a (.lst xs) b := fun {b} hb => by rw [upd_ne hb, upd_ne hb]
  refine ⟨fun b o e => ?_, R.fs.upd f, fun b ps e => ?_, R.fn, fun q hq => ?_, R.len, R.val, fun i o h => ?_, R.inj, R.inn, R.fix, fun q hq => ?_, R.frd⟩
  · by_cases hb : b = a
    · subst hb
      rw [upd_same] at e ⊢
      exact e
    · rw [upd_ne hb]
      rw [gu hb] at e
      exact R.gs b o e
  · by_cases hb : b = a
    · subst hb
      rw [upd_same] at e
      cases e
    · rw [gu hb] at e
      exact R.gn b ps e
  · obtain ⟨ps, h1, h2, h3⟩ := R.tb q hq
    have hne : q.1 ≠ a := fun z => by rw [z, ha] at h1; cases h1
    refine ⟨ps, by rw [upd_ne hne]; exact h1, h2, fun pos cv hc => ?_⟩
    obtain ⟨c, w1, w2⟩ := h3 pos cv hc
    have hne2 : c ≠ a := fun z => by
      rw [z, ha] at w2
      unfold LamX.CodeO at w2
      cases w2
    exact ⟨c, w1, by rw [upd_ne hne2]; exact w2⟩
  · obtain ⟨c, e1, e2, e3, e4⟩ := R.own i o h
    have hc : c ≠ a := fun z => by rw [z, upd_same] at e4; cases e4
    exact ⟨c, e1, e2.stay fun w q => by rw [upd_ne hc]; exact q, e3, by rw [gu hc]; exact e4⟩
  · have w2 := R.cds q hq
    have hne2 : q.1 ≠ a := fun z => by
      rw [z, ha] at w2
      unfold LamX.CodeO at w2
      cases w2
    rw [upd_ne hne2]
    exact w2
end

def W00 : WX := fun _ _ _ _ => False
theorem isOwnB_iff {s : Option Sl} : isOwnB s = true ↔ isOwn s := by
  cases s with
  | none => exact ⟨fun h => (by cases h), fun h => h.elim⟩
  | some s => cases s with
    | non => exact ⟨fun h => (by cases h), fun h => h.elim⟩
    | val d => exact ⟨fun h => (by cases h), fun h => h.elim⟩
    | own o => exact ⟨fun _ => trivial, fun _ => rfl⟩
    | inn o => exact ⟨fun _ => trivial, fun _ => rfl⟩
    | frd k => exact ⟨fun h => (by cases h), fun h => h.elim⟩
theorem runComp_ok {t : D → En → Res (Bool × En)} {elt : En → Res (D × En)} {vs : List Nat} {ds : List D} {env : En} {p : Pm} {σ0 : S0} {σ : Sg} {G F : Hp} {W : WX} {Ok : RV → En → Hp → Hp → Prop} (g : GoodB p σ0 G F σ W Ok (runComp1 t elt vs ds env)) :
    (∀ v ∈ vs, ¬ isOwn env[v]?) ∧ ∃ r e, compL t elt vs ds (wipeE env vs) = .ok (r, e) ∧ GoodB p σ0 G F σ W Ok (.ok (.fresh (.lst r), backE e env vs)) := by
  unfold runComp1 at g
  split at g
  · exact (show False from g).elim
  · rename_i h
    refine ⟨fun v hv z => h (List.any_eq_true.mpr ⟨v, hv, isOwnB_iff.mpr z⟩), ?_⟩
    split at g
    · rename_i r e hc
      exact ⟨r, e, hc, g⟩
    · exact (show False from g).elim
theorem frzVs_ok {p : Pm} {σ0 : S0} {σ : Sg} {G H : Hp} : ∀ {vs : List Nat} {env env' : En} {F : Hp}, Rel p σ0 G F env σ H → frzVs vs env = some env' → ∃ F', Grow G F F' ∧ Rel p σ0 G F' env' σ H
  | [], env, env', F, R, h => by cases h; exact ⟨F, .refl G F, R⟩
  | v :: vs, env, env', F, R, h => by
    unfold frzVs at h
    split at h
    · rename_i o ho
      split at h
      · rename_i d hd
        obtain ⟨F1, g1, R1, _⟩ := R.freeze ho hd
        obtain ⟨F2, g2, R2⟩ := frzVs_ok R1 h
        exact ⟨F2, g1.trans g2, R2⟩
      · cases h
    · cases h
    · exact frzVs_ok R h
theorem compL_cons {t : D → En → Res (Bool × En)} {elt : En → Res (D × En)} {vs : List Nat} {d : D} {ds : List D} {env ef : En} {r : List D} (h : compL t elt vs (d :: ds) env = .ok (r, ef)) :
    (∃ e1 y e2 r', t d env = .ok (true, e1) ∧ elt e1 = .ok (y, e2) ∧ compL t elt vs ds (wipeE e2 vs) = .ok (r', ef) ∧ r = y :: r') ∨ (∃ e1, t d env = .ok (false, e1) ∧ compL t elt vs ds (wipeE e1 vs) = .ok (r, ef)) := by
  unfold compL at h
  split at h
  · rename_i e1 h1
    split at h
    · rename_i y e2 h2
      split at h
      · rename_i r' e3 h3
        cases h
        exact .inl ⟨e1, y, e2, r', h1, h2, h3, rfl⟩
      · cases h
    · cases h
  · rename_i e1 h1
    exact .inr ⟨e1, h1, h⟩
  · cases h
theorem fz_of {x : Res (RV × En)} {y : D} {e : En} (h : fz x = .ok (y, e)) : ∃ r e1, x = .ok (r, e1) ∧ frz e1 r = some (y, e) := by
  unfold fz at h
  cases x with
  | ok z =>
    obtain ⟨r, e1⟩ := z
    simp only [Res.bind_ok] at h
    cases hf : frz e1 r with
    | none => rw [hf] at h; cases h
    | some z =>
      rw [hf] at h
      cases h
      exact ⟨r, e1, rfl, hf⟩
  | exc c e1 => cases h
  | bad => cases h
theorem all_lt {vs : List Nat} {f : Nat → Bool} (h : (vs.all fun v => !f v) = true) : ∀ v ∈ vs, f v = false := fun v hv => by simpa using List.all_eq_true.mp h v hv
theorem comp_t {p : Pm} {σ0 : S0} {σ : Sg} {H : Hp} {W : WX} {cl : Cl} {Q : VK} {elt cond : E} {tg : Tg} {it : It} {vs : List Nat} (hv : ∀ j ∈ tg.sl, j ∈ vs) (hw : ∀ v ∈ vs, σ0.fx v = false)
    (h : tE p σ0 W (evE cl (.comp elt tg it cond vs)) σ H Q) : tLc (tI p σ0 W (evI cl it)) (tG p σ0 tg) (tT p σ0 W00 (evT cl cond)) (tE p σ0 W00 (evE cl elt)) vs σ H Q := by
  obtain ⟨G, F, env, R, g⟩ := h
  refine ⟨G, F, env, R, GoodB.part (.refl G) g fun ds env2' F2' H2 gr' R2' g2' J jok' hlen DD hD => ?_⟩
  obtain ⟨env2, hfz, g2''⟩ : ∃ env2, frzVs vs env2' = some env2 ∧ GoodB p σ0 G F2' σ W (OkE p G σ Q) (runComp1 (fun d e => mayB (asgT tg d e) fun e => tst (evE cl cond e)) (fun e => fz (evE cl elt e)) vs ds env2) := by
    unfold runComp at g2'
    split at g2'
    · rename_i e he
      exact ⟨e, he, g2'⟩
    · exact (show False from g2').elim
  obtain ⟨F2, grf, R2⟩ := frzVs_ok R2' hfz
  have g2 := g2''.shift grf
  have gr := gr'.trans grf
  have jok := jok'.mono grf.sub
  obtain ⟨hno, r, ef, hc, g3⟩ := runComp_ok g2
  have gD : G DD = none := R2.gs.none hD
  have fD : F2 DD = none := R2.fs.none hD
  have Rb : Rel p σ0 G F2 (wipeE env2 vs) (wipe σ vs) H2 := R2.wiped hw
  refine ⟨fun i m H' => ∃ (F' : Hp) (envb : En) (acc : List V) (dacc rest : List D), i + m = ds.length ∧ Grow G F2 F' ∧ F' DD = none ∧ Rel p σ0 (upd G DD (.lst acc)) F' envb (wipe σ vs) H' ∧ RpAll p.K F' dacc acc ∧ acc.length ≤ i ∧
    compL (fun d e => mayB (asgT tg d e) fun e => tst (evE cl cond e)) (fun e => fz (evE cl elt e)) vs (ds.drop i) envb = .ok (rest, ef) ∧ dacc ++ rest = r, ⟨ds.length, F2, wipeE env2 vs, [], [], r, by omega, .refl G F2, fD, ?_, rfl, Nat.le_refl _, hc, rfl⟩, ?_⟩
  · refine (Rb.newObj (u := .lst []) hD).join upd_same gD (fun _ z => by cases z) fun i hi z => ?_
    obtain ⟨o, ho⟩ := isOwn_iff.mp hi
    obtain ⟨a, e1, e2, _⟩ := Rb.own i o ho
    obtain ⟨u, hu, _⟩ := e2.here
    rw [e1] at z
    cases z
    rw [hD] at hu
    cases hu
  · rintro i m H3 ⟨F3, envb, acc, dacc, rest, him, gr3, f3, R3, w3, hal, hc3, er⟩
    have hacc : H3 DD = some (.lst acc) := R3.gs DD _ upd_same
    by_cases hi : i < ds.length
    · refine .inr ⟨jok.go i H3 (gr3.sub.trans R3.fs) hi, fun H' => ∃ (F' : Hp) (envb : En) (acc : List V) (dacc rest : List D), i + 1 + (m - 1) = ds.length ∧ Grow G F2 F' ∧ F' DD = none ∧ Rel p σ0 (upd G DD (.lst acc)) F' envb (wipe σ vs) H' ∧ RpAll p.K F' dacc acc ∧ acc.length ≤ i + 1 ∧
        compL (fun d e => mayB (asgT tg d e) fun e => tst (evE cl cond e)) (fun e => fz (evE cl elt e)) vs (ds.drop (i + 1)) envb = .ok (rest, ef) ∧ dacc ++ rest = r, fun H' w => ⟨m - 1, by omega, w⟩, fun x H4 hy => ?_⟩
      have hd : ds[i]? = some ds[i] := List.getElem?_eq_getElem hi
      have edrop : ds.drop i = ds[i] :: ds.drop (i + 1) := List.drop_eq_getElem_cons hi
      rw [edrop] at hc3
      -- what the turn yields
      obtain ⟨F4, gr4, R4, rx⟩ : ∃ F4, Grow (upd G DD (.lst acc)) F3 F4 ∧ Rel p σ0 (upd G DD (.lst acc)) F4 envb (wipe σ vs) H4 ∧ Rp p.K F4 ds[i] x := by
        rcases jok.yld i H3 x H4 (gr3.sub.trans R3.fs) hy _ hd with ⟨e, rx⟩ | ⟨T, xs, es, n, e, ex, ed, rx⟩
        · subst e
          exact ⟨F3, .refl _ _, R3, Rp.mono gr3.sub _ _ rx⟩
        · subst e ex
          obtain ⟨R4, gr4⟩ := (R3.newObj (u := .tup xs) n).take upd_same (R3.fs.none n) (R3.gs.none n) (fun _ z => by cases z) fun j hj z => by
            obtain ⟨o, ho⟩ := isOwn_iff.mp hj
            obtain ⟨a, e1, e2, _⟩ := R3.own j o ho
            obtain ⟨u, hu, _⟩ := e2.here
            rw [e1] at z
            cases z
            rw [n] at hu
            cases hu
          refine ⟨_, gr4, R4, ?_⟩
          rw [ed]
          exact ⟨T, xs, rfl, .inl (.inl upd_same), RpAll.mono (gr3.sub.trans gr4.sub) _ _ rx⟩
      have nD : upd G DD (.lst acc) DD ≠ none := by rw [upd_same]; exact fun z => by cases z
      have sG : Sub G (upd G DD (.lst acc)) := fun b u q => by
        rw [upd_ne (ne_of_none q gD)]
        exact q
      -- the test's run
      have ht : ∃ e0, asgT tg ds[i] envb = some e0 := by
        rcases compL_cons hc3 with ⟨e1, y, e2, r', q1, _⟩ | ⟨e1, q1, _⟩ <;>
        · cases ha : asgT tg ds[i] envb with
          | none => simp only [mayB, ha] at q1; cases q1
          | some e0 => exact ⟨e0, rfl⟩
      obtain ⟨e0, he0⟩ := ht
      refine ⟨upd G DD (.lst acc), F4, envb, ds[i], e0, R4, rx, he0, fun σ2 R5 hl k5 => ?_⟩
      have weq : wipe σ2 vs = wipe σ vs := by
        refine wipe_eq (hl.trans wipe_len) fun j hj => ?_
        rw [k5 j fun z => hj (hv j z), wipe_ne hj]
      refine ⟨weq, upd G DD (.lst acc), F4, e0, R5, ?_⟩
      have et : mayB (asgT tg ds[i] envb) (fun e => tst (evE cl cond e)) = evT cl cond e0 := by
        rw [he0]
        rfl
      have f4 : ∀ {F' : Hp}, Grow (upd G DD (.lst acc)) F4 F' → F' DD = none := fun {F'} gx => by
        rw [gx.old DD nD, gr4.old DD nD]
        exact f3
      have g4 : ∀ {F' : Hp}, Grow (upd G DD (.lst acc)) F4 F' → Grow G F2 F' := fun {F'} gx => gr3.trans ((gr4.trans gx).ls sG)
      have w4 : ∀ {F' : Hp}, Grow (upd G DD (.lst acc)) F4 F' → RpAll p.K F' dacc acc := fun {F'} gx => RpAll.mono (gr4.trans gx).sub _ _ w3
      rcases compL_cons hc3 with ⟨e1, y, e2, r', q1, q2, q3, q4⟩ | ⟨e1, q1, q2⟩
      · rw [et] at q1
        rw [q1]
        intro H5 F5 gr5 R6
        obtain ⟨rv, e1', z1, z2⟩ := fz_of q2
        refine iteT ?_
        refine ⟨upd G DD (.lst acc), F5, e1, R6, ?_⟩
        rw [z1]
        intro H6 F6 gr6 R7 v hv6
        obtain ⟨F7, gr7, R8, ry⟩ := frz_ok R7 hv6 z2
        have gx := (gr5.trans gr6).trans gr7
        refine ⟨acc, R8.gs DD _ upd_same, by omega, F7, wipeE e2 vs, acc ++ [v], dacc ++ [y], r', by omega, g4 gx, f4 gx, ?_, (w4 gx).append (.one ry), by simp; omega, q3, by rw [← er, q4]; simp⟩
        have R9 := R8.wiped (vs := vs) hw
        rw [weq] at R9
        exact R9.rejoin (f4 gx)
      · rw [et] at q1
        rw [q1]
        intro H5 F5 gr5 R6
        refine iteF ?_
        refine ⟨F5, wipeE e1 vs, acc, dacc, rest, by omega, g4 gr5, f4 gr5, ?_, w4 gr5, by omega, q2, er⟩
        have R9 := R6.wiped (vs := vs) hw
        rw [weq] at R9
        exact R9
    · have e : i = ds.length := by omega
      subst e
      rw [List.drop_length] at hc3
      simp only [compL] at hc3
      cases hc3
      rw [List.append_nil] at er
      subst er
      refine .inl ⟨jok.stop _ H3 (gr3.sub.trans R3.fs) (Nat.le_refl _), ?_⟩
      have sG : Sub G (upd G DD (.lst acc)) := fun b u q => by
        rw [upd_ne (ne_of_none q gD)]
        exact q
      refine g3 H3 F3 gr3 ((R3.less sG).unwiped R2 gr3.sub hno) _ ⟨DD, rfl, ⟨acc, hacc, w3⟩, f3, gD, fun j hj z => ?_⟩
      obtain ⟨o, ho⟩ := isOwn_iff.mp hj
      obtain ⟨c, e1, e2, e3, e4⟩ := (R3.unwiped R2 gr3.sub hno).own j o ho
      rw [e1] at z
      cases z
      rw [upd_same] at e4
      cases e4

/-! ### the rule -/
section
variable {X : Cx} {Tb : List (Addr × Str)} {σ0 : S0} {W : WX} {cl : Cl} {elt tg iter c : Expr} {i k : E} {it : It} {g : Tg} {pos p1 : Pos} {scope : Scope} {own : List (Str × Nat)}
/-- in a comprehension's block, whatever its frame -/
abbrev InBlk (X : Cx) (scope : Scope) (P : Cx → Prop) : Prop := ∀ (s : Shared) (H : Hp) (C : Addr) (l : List (Str × Addr)) (fp : List Addr), P (X.blk s H scope (compEnvC scope l C X.env) fp)
theorem stm_nil : PTs X [] (tT (pm X Tb) σ0 W00 (evT cl (.con (.bool true)))) := PTs.mono pts_nil fun _ _ _ ⟨_, _, _, R, g⟩ => GoodB.ok_in g R
theorem se_comp (hc : X.calm = true) (hN : X.N.Nodup) (hi : SI X Tb σ0 W cl tg iter it) (ok : BlkOk X.N X.env.scope scope own) (hv : ∀ j ∈ g.sl, j ∈ own.map (·.2)) (hw : ((own.map (·.2)).all fun v => !σ0.fx v) = true)
    (hg : InBlk X scope fun Y => SG Y Tb σ0 tg g) (he : InBlk X scope fun Y => SE Y Tb σ0 W00 cl elt i) (hs : ∀ x, foldedSetIterable iter X.env x = pure x := by intro _; rfl) :
    SE X Tb σ0 W cl (.ListComp elt [⟨tg, iter, [], 0⟩] scope pos) (.comp i g it (.con (.bool true)) (own.map (·.2))) :=
  PE.mono (pe_lc (wi := tI (pm X Tb) σ0 W (evI cl it)) (g := tG (pm X Tb) σ0 g) (tt := tT (pm X Tb) σ0 W00 (evT cl (.con (.bool true)))) (te := tE (pm X Tb) σ0 W00 (evE cl i)) hc hN hi ok hg (fun _ _ _ _ _ => stm_nil) he hs) fun _ _ _ q => comp_t hv (all_lt hw) q
theorem se_compIf (hc : X.calm = true) (hN : X.N.Nodup) (hi : SI X Tb σ0 W cl tg iter it) (ok : BlkOk X.N X.env.scope scope own) (hv : ∀ j ∈ g.sl, j ∈ own.map (·.2)) (hw : ((own.map (·.2)).all fun v => !σ0.fx v) = true)
    (hg : InBlk X scope fun Y => SG Y Tb σ0 tg g) (ht : InBlk X scope fun Y => ST Y Tb σ0 W00 cl c k) (he : InBlk X scope fun Y => SE Y Tb σ0 W00 cl elt i) (hs : ∀ x, foldedSetIterable iter X.env x = pure x := by intro _; rfl) :
    SE X Tb σ0 W cl (.ListComp elt [⟨tg, iter, [c], 0⟩] scope pos) (.comp i g it k (own.map (·.2))) :=
  PE.mono (pe_lc (wi := tI (pm X Tb) σ0 W (evI cl it)) (g := tG (pm X Tb) σ0 g) (tt := tT (pm X Tb) σ0 W00 (evT cl k)) (te := tE (pm X Tb) σ0 W00 (evE cl i)) hc hN hi ok hg (fun s H C l fp => pts_one (ht s H C l fp)) he hs) fun _ _ _ q => comp_t hv (all_lt hw) q
end
end Pb

namespace Pb
open PySem PySem.Spec L2

/-! ### statements -/
/-- what an except clause puts into a name -/
inductive HX where
  | con (d : D)
  | lim (nm : Str)
  | limT (nm t : Str)
  | many (nm t : Str)
def HX.val (c : Exc) : HX → Option D
  | .con d => some d
  | .lim nm => if c.name = nm then c.lim.map .int else none
  | .limT nm t => if c.name = nm then c.lim.map fun i => .tuple [.str t, .int i] else none
  | .many nm t => if c.name = nm then c.lim.bind fun i => if i.natAbs < 1000 ∧ t.length ≤ 1000 then some (.str (t ++ (toString i : Str))) else none else none
structure Hd where
  cls : Str
  as_ : Option Nat
  tgt : Nat
  x : HX
def isNon : Option Sl → Bool
  | some .non => true
  | _ => false
def exSub (tb : List (Str × Str × Bool)) (a b : Str) : Option Bool := (tb.find? fun r => r.1 == a && r.2.1 == b).map (·.2.2)
def asOk (env : En) : Option Nat → Bool
  | none => true
  | some i => isNon env[i]?
inductive S where
  | skip
  | seq (a b : S)
  | asg (i : Nat) (e : E)
  | asgT (is : List Nat) (e : E)
  | par (i j : Nat) (a b : E)
  | put (i : Nat) (k e : E)
  | app (i : Nat) (e : E)
  | exp (e : E)
  | iff (c : E) (a b : S)
  | for_ (tg : Tg) (it : It) (b : S)
  | whl (c : E) (b : S)
  | ret (e : E)
  | rse (x : Str)
  | rseN (x : Str) (e : E)
  | tryS (b : S) (hs : List Hd) (tb : List (Str × Str × Bool))
  | mov (i j : Nat)
  | dSet (i : Nat) (k e : E)
def setRV (i : Nat) (r : RV) (env : En) : Option En := if isInn env[i]? then none else match r with
  | .val d => some (env.set i (.val d))
  | .fresh o => some (env.set i (.own o))
  | .slot j => (frz env (.slot j)).map fun z => z.2.set i (.val z.1)
def nxt (x : Option En) : Res (Flow × En) := match x with
  | some e => .ok (.nx, e)
  | none => .bad
def forL (st : D → En → Res (Flow × En)) : List D → En → Res (Flow × En)
  | [], env => .ok (.nx, env)
  | d :: ds, env => (st d env).bind fun x => match x.1 with
    | .nx => forL st ds x.2
    | .ct => forL st ds x.2
    | .brk => .ok (.nx, x.2)
    | .ret r => .ok (.ret r, x.2)
def whlL (c : En → Res (Bool × En)) (b : En → Res (Flow × En)) : Nat → En → Res (Flow × En)
  | 0, _ => .bad
  | n + 1, env => (c env).bind fun x => if x.1 then (b x.2).bind fun y => match y.1 with
      | .nx => whlL c b n y.2
      | .ct => whlL c b n y.2
      | .brk => .ok (.nx, y.2)
      | .ret r => .ok (.ret r, y.2)
    else .ok (.nx, x.2)
def putS (i : Nat) (d : D) (r : RV) (env : En) : Option En := match r, lstAt env i with
  | .val (.int n), some (s, ds) => (ixN ds.length n).map fun j => env.set i (putOb s (.lst (ds.set j d)))
  | _, _ => none
def appS (i : Nat) (d : D) (env : En) : Option En := match lstAt env i with
  | some (s, ds) => if ds.length < big then some (env.set i (putOb s (.lst (ds ++ [d])))) else none
  | _ => none
def fuel : Nat := 400
/-- the except clauses, one after the other -/
def hdl (tb : List (Str × Str × Bool)) (c : Exc) (env : En) : List Hd → Res (Flow × En)
  | [] => .exc c env
  | h :: r => match exSub tb c.name h.cls with
    | some true => match h.x.val c with
      | some d => if isInn env[h.tgt]? || !asOk env h.as_ then .bad else .ok (.nx, env.set h.tgt (.val d))
      | none => .bad
    | some false => hdl tb c env r
    | none => .bad
def movS (i j : Nat) (env : En) : Option En := if isInn env[i]? then none else match env[j]? with
  | some (.own o) => some ((env.set j .non).set i (.own o))
  | _ => none
/-- d[k] = v -/
def dPut (i : Nat) (v k : D) (env : En) : Option En := match env[i]? with
  | some s => match slOb s with
    | some (.dct kvs) => match keyD k with
      | some nk => if kvs.length < 9000 then some (env.set i (putOb s (.dct (dcPut kvs nk k v)))) else none
      | none => none
    | _ => none
  | none => none
def evS (cl : Cl) : S → En → Res (Flow × En)
  | .skip, env => .ok (.nx, env)
  | .seq a b, env => (evS cl a env).bind fun x => match x.1 with
    | .nx => evS cl b x.2
    | f => .ok (f, x.2)
  | .asg i e, env => (evE cl e env).bind fun x => nxt (setRV i x.1 x.2)
  | .asgT is e, env => (fz (evE cl e env)).bind fun x => nxt (asgT (.tp is) x.1 x.2)
  | .par i j a b, env => (evE cl a env).bind fun x => (evE cl b x.2).bind fun y => match y.1 with
    | .slot _ => .bad
    | _ => nxt ((setRV i x.1 y.2).bind (setRV j y.1))
  | .put i k e, env => (fz (evE cl e env)).bind fun x => if (lstAt x.2 i).isSome then (evE cl k x.2).bind fun y => nxt (putS i x.1 y.1 y.2) else .bad
  | .app i e, env => if (lstAt env i).isSome then (fz (evE cl e env)).bind fun x => nxt (appS i x.1 x.2) else .bad
  | .exp e, env => (evE cl e env).bind fun x => .ok (.nx, x.2)
  | .iff c a b, env => (evT cl c env).bind fun x => if x.1 then evS cl a x.2 else evS cl b x.2
  | .for_ tg it b, env => (evI cl it env).bind fun x => forL (fun d e => mayB (asgT tg d e) (evS cl b)) x.1 x.2
  | .whl c b, env => whlL (evT cl c) (evS cl b) fuel env
  | .ret e, env => (evE cl e env).bind fun x => .ok (.ret x.1, x.2)
  | .rse x, env => .exc ⟨x, none⟩ env
  | .rseN x e, env => (evE cl e env).bind fun y => match y.1 with
    | .val (.int n) => .exc ⟨x, some n⟩ y.2
    | _ => .bad
  | .tryS b hs tb, env => match evS cl b env with
    | .exc c e => hdl tb c e hs
    | .ok x => .ok x
    | .bad => .bad
  | .mov i j, env => nxt (movS i j env)
  | .dSet i k e, env => (fz (evE cl e env)).bind fun x => if (dcOf x.2[i]?).isSome then (fz (evE cl k x.2)).bind fun y => nxt (dPut i x.1 y.1 y.2) else .bad

def FlOk (p : Pm) (G F : Hp) (env : En) (σ : Sg) (H : Hp) (D : Ends) : Flow → Prop
  | .nx => D.nx σ H
  | .brk => D.bk σ H
  | .ct => D.ct σ H
  | .ret r => ∀ v, RR p G F env σ H r v → D.rt v H
def GoodS (p : Pm) (σ0 : S0) (G F : Hp) (W : WX) (D : Ends) : Res (Flow × En) → Prop
  | .ok (f, env') => ∀ σ' H' F', Grow G F F' → Rel p σ0 G F' env' σ' H' → FlOk p G F' env' σ' H' D f
  | .exc c env' => ∀ cls d σ' H' F', Grow G F F' → Rel p σ0 G F' env' σ' H' → ExcR p c cls d H' → W cls d σ' H'
  | .bad => False
def tS (p : Pm) (σ0 : S0) (W : WX) (ev : En → Res (Flow × En)) : TS := fun D σ H => ∃ G F env, Rel p σ0 G F env σ H ∧ GoodS p σ0 G F W D (ev env)
section
variable {p : Pm} {σ0 : S0} {σ : Sg} {G F F' H : Hp} {env env' : En} {W : WX} {D : Ends}
theorem GoodS.shift {x : Res (Flow × En)} (g : Grow G F F') (h : GoodS p σ0 G F W D x) : GoodS p σ0 G F' W D x := by
  cases x with
  | ok r => exact fun σ' H' F2 g2 R => h σ' H' F2 (g.trans g2) R
  | exc c e => exact fun cls d σ' H' F2 g2 R x => h cls d σ' H' F2 (g.trans g2) R x
  | bad => exact h
theorem GoodS.ok_in {f : Flow} (g : GoodS p σ0 G F W D (.ok (f, env))) (R : Rel p σ0 G F env σ H) : FlOk p G F env σ H D f := g σ H F (.refl G F) R
/-- the first part is an expression's, a test's, an iterable's -/
theorem GoodS.partE {β : Type} {x : Res (β × En)} {k : β × En → Res (Flow × En)} {Ok1 : β → En → Hp → Hp → Prop} (h : GoodS p σ0 G F W D (x.bind k))
    (hk : ∀ a env2 F2 H2, Grow G F F2 → Rel p σ0 G F2 env2 σ H2 → GoodS p σ0 G F2 W D (k (a, env2)) → Ok1 a env2 F2 H2) : GoodB p σ0 G F σ W Ok1 x := by
  cases x with
  | ok r =>
    obtain ⟨a, env2⟩ := r
    exact fun H2 F2 g2 R2 => hk a env2 F2 H2 g2 R2 (GoodS.shift g2 h)
  | exc c e => exact fun cls d H' F2 g2 R x => h cls d σ H' F2 g2 R x
  | bad => exact h
theorem GoodS.partS {x : Res (Flow × En)} {k : Flow × En → Res (Flow × En)} {D1 : Ends} (h : GoodS p σ0 G F W D (x.bind k))
    (hk : ∀ f env2 F2 σ2 H2, Grow G F F2 → Rel p σ0 G F2 env2 σ2 H2 → GoodS p σ0 G F2 W D (k (f, env2)) → FlOk p G F2 env2 σ2 H2 D1 f) : GoodS p σ0 G F W D1 x := by
  cases x with
  | ok r =>
    obtain ⟨a, env2⟩ := r
    exact fun σ2 H2 F2 g2 R2 => hk a env2 F2 σ2 H2 g2 R2 (GoodS.shift g2 h)
  | exc c e => exact fun cls d σ' H' F2 g2 R x => h cls d σ' H' F2 g2 R x
  | bad => exact h
theorem nextE {ev : En → Res (RV × En)} {k : RV × En → Res (Flow × En)} {Q1 : VK} (R : Rel p σ0 G F env σ H) (g : GoodS p σ0 G F W D ((ev env).bind k))
    (hk : ∀ r v F2 env2 H2, Grow G F F2 → Rel p σ0 G F2 env2 σ H2 → RR p G F2 env2 σ H2 r v → GoodS p σ0 G F2 W D (k (r, env2)) → Q1 v H2) : tE p σ0 W ev σ H Q1 :=
  ⟨G, F, env, R, GoodS.partE g fun r env2 F2 H2 gr R2 g2 v hv => hk r v F2 env2 H2 gr R2 hv g2⟩
theorem nextEF {ev : En → Res (RV × En)} {k : PyData × En → Res (Flow × En)} {Q1 : VK} (R : Rel p σ0 G F env σ H) (g : GoodS p σ0 G F W D ((fz (ev env)).bind k))
    (hk : ∀ d v F2 env2 H2, Grow G F F2 → Rel p σ0 G F2 env2 σ H2 → Rp p.K F2 d v → GoodS p σ0 G F2 W D (k (d, env2)) → Q1 v H2) : tE p σ0 W ev σ H Q1 := by
  have e : (fz (ev env)).bind k = (ev env).bind fun y => (match frz y.2 y.1 with | some z => Res.ok z | none => Res.bad : Res (PyData × En)).bind k := by
    unfold fz
    cases ev env <;> rfl
  rw [e] at g
  refine nextE R g fun r v F2 env2 H2 gr R2 hr g2 => ?_
  cases h1 : frz env2 r with
  | none => simp only [h1] at g2; exact (show False from g2).elim
  | some z =>
    obtain ⟨d, env3⟩ := z
    simp only [h1] at g2
    obtain ⟨F3, gr3, R3, rp⟩ := frz_ok R2 hr h1
    exact hk d v F3 env3 H2 (gr.trans gr3) R3 rp (g2.shift gr3)
theorem setRV_ok {i : Nat} {r : RV} {v : V} (R : Rel p σ0 G F env σ H) (hk : σ0.fx i = false) (hr : RR p G F env σ H r v) (e : setRV i r env = some env') : ∃ F', Grow G F F' ∧ Rel p σ0 G F' env' (σ.set i (some v)) H ∧ ∀ b, F b = none → (∀ (j : Nat), isOwn env[j]? → σ[j]? ≠ some (some (V.ref b))) → F' b = none := by
  unfold setRV at e
  split at e
  · cases e
  · rename_i hn
    cases r with
    | val d =>
      cases e
      exact ⟨F, .refl G F, R.setVal hk (notInn hn) hr, fun _ h _ => h⟩
    | fresh o =>
      cases e
      exact ⟨F, .refl G F, R.setOwn hk (notInn hn) hr, fun _ h _ => h⟩
    | slot j =>
      obtain ⟨z, hz, ez⟩ := Option.map_eq_some_iff.mp e
      obtain ⟨d, env2⟩ := z
      obtain ⟨F2, gr, R2, fn, rp⟩ : ∃ F', Grow G F F' ∧ Rel p σ0 G F' env2 σ H ∧ (∀ b, F b = none → (∀ (j : Nat), isOwn env[j]? → σ[j]? ≠ some (some (V.ref b))) → F' b = none) ∧ Rp p.K F' d v := by
        cases hj : env[j]? with
        | none => simp [frz, hj] at hz
        | some s =>
          cases s with
          | non => simp [frz, hj] at hz
          | frd k => simp [frz, hj] at hz
          | inn o => simp [frz, hj] at hz
          | val d' =>
            obtain ⟨F', g1, R1, r1⟩ := frz_ok R hr hz
            simp [frz, hj] at hz
            obtain ⟨e1, e2⟩ := hz
            subst e1 e2
            obtain ⟨u, w1, w2⟩ := R.val j d' hj
            rw [show σ[j]? = some (some v) from hr] at w1
            cases w1
            exact ⟨F, .refl G F, R, fun _ h _ => h, w2⟩
          | own o' =>
            simp only [frz, hj] at hz
            obtain ⟨d', hd, e2⟩ := Option.map_eq_some_iff.mp hz
            cases e2
            obtain ⟨F', g1, R1, n1, q⟩ := R.freeze hj hd
            exact ⟨F', g1, R1, n1, q v hr⟩
      subst ez
      refine ⟨F2, gr, R2.setVal hk (fun o ho => ?_) rp, fn⟩
      have hs : env2[i]? = env[i]? ∨ env2[i]? = some (.val d) := by
        cases hj : env[j]? with
        | none => simp [frz, hj] at hz
        | some s =>
          cases s with
          | non => simp [frz, hj] at hz
          | frd k => simp [frz, hj] at hz
          | inn o => simp [frz, hj] at hz
          | val d' =>
            simp [frz, hj] at hz
            rw [← hz.2]
            exact .inl rfl
          | own o' =>
            simp only [frz, hj] at hz
            obtain ⟨d', _, e2⟩ := Option.map_eq_some_iff.mp hz
            cases e2
            by_cases hij : i = j
            · subst hij
              right
              rw [List.getElem?_set_self (List.getElem?_eq_some_iff.mp hj).1]
            · left
              rw [List.getElem?_set_ne (Ne.symm hij)]
      rcases hs with hs | hs
      · rw [hs] at ho
        exact notInn hn o ho
      · rw [hs] at ho
        cases ho
theorem lstAt_ok {i : Nat} {s : Sl} {ds : List Pb.D} (h : lstAt env i = some (s, ds)) : env[i]? = some s ∧ slOb s = some (.lst ds) := by
  unfold lstAt at h
  split at h
  · rename_i e
    cases h
    exact ⟨e, rfl⟩
  · rename_i e
    cases h
    exact ⟨e, rfl⟩
  · cases h
end
section
variable {X : Cx} {Tb : List (Addr × Str)} {σ0 : S0} {W : WX} {cl : Cl}
abbrev SS (X : Cx) (Tb : List (Addr × Str)) (σ0 : S0) (W : WX) (cl : Cl) (s : Stmt) (i : S) : Prop := PS X s (tS (pm X Tb) σ0 W (evS cl i))
abbrev SSs (X : Cx) (Tb : List (Addr × Str)) (σ0 : S0) (W : WX) (cl : Cl) (s : List Stmt) (i : S) : Prop := PSs X s (tS (pm X Tb) σ0 W (evS cl i))
variable {st : Stmt} {sts : List Stmt} {a b : S} {e c o k : Expr} {i j : E} {pos p1 p2 : Pos} {n : Nat} {x : Str}
theorem ss_nil : SSs X Tb σ0 W cl [] .skip := PSs.mono pss_nil fun _ _ _ ⟨_, _, _, R, g⟩ => GoodS.ok_in g R
theorem ss_cons (h : SS X Tb σ0 W cl st a) (t : SSs X Tb σ0 W cl sts b) : SSs X Tb σ0 W cl (st :: sts) (.seq a b) := by
  refine PSs.mono (pss_cons h t) fun D σ H q => ?_
  obtain ⟨G, F, env, R, g⟩ := q
  refine ⟨G, F, env, R, GoodS.partS g fun f env2 F2 σ2 H2 gr R2 g2 => ?_⟩
  cases f with
  | nx => exact ⟨G, F2, env2, R2, g2⟩
  | brk => exact g2.ok_in R2
  | ct => exact g2.ok_in R2
  | ret r => exact g2.ok_in R2
theorem ss_one (h : SS X Tb σ0 W cl st a) : SSs X Tb σ0 W cl [st] a := pss_one h
theorem ss_pass : SS X Tb σ0 W cl (.Pass pos) .skip := PS.mono ps_pass fun _ _ _ ⟨_, _, _, R, g⟩ => GoodS.ok_in g R
theorem nxt_ok {p : Pm} {G F : Hp} {D : Ends} {x : Option En} (g : GoodS p σ0 G F W D (nxt x)) : ∃ e, x = some e ∧ GoodS p σ0 G F W D (.ok (.nx, e)) := by
  cases x with
  | none => exact (show False from g).elim
  | some e => exact ⟨e, rfl, g⟩
theorem asg_t {p : Pm} {σ : Sg} {H : Hp} {D : Ends} (hk : σ0.fx n = false) (h : tS p σ0 W (evS cl (.asg n i)) D σ H) : tAsg (tE p σ0 W (evE cl i)) (gName n) D σ H := by
  obtain ⟨G, F, env, R, g⟩ := h
  refine nextE R g fun r v F2 env2 H2 gr R2 hr g2 => ?_
  obtain ⟨e, he, g3⟩ := nxt_ok g2
  obtain ⟨F3, gr3, R3, _⟩ := setRV_ok R2 hk hr he
  exact g3 _ H2 F3 gr3 R3
theorem ss_asg (n : Nat) (he : SE X Tb σ0 W cl e i) (hN : X.N.Nodup) (hk : σ0.fx n = false := by rfl) (hi : X.N[n]? = some x := by rfl) (hx : Loc X.env.scope x := by first | exact Or.inl rfl | exact Or.inr rfl) (hs : swapsWith e (some (.Name x p1)) pos.line X.env = pure false := by rfl)
    (hf : X.fn x = true ∨ X.env.scope.names.lookup x = some .local := by first | exact .inl rfl | exact .inr rfl | assumption) : SS X Tb σ0 W cl (.Assign [.Name x p1] e pos) (.asg n i) :=
  PS.mono (ps_set hN hi hx he hs hf) fun _ _ _ q => asg_t hk q
/-- name = comprehension -/
theorem ss_asgC (n : Nat) {elt tg iter : Expr} {scope : Scope} {own : List (Str × Nat)} {m : E} {it : It} {g : Tg} (hc : X.calm = true) (hN : X.N.Nodup) (hi : SI X Tb σ0 W cl tg iter it) (ok : BlkOk X.N X.env.scope scope own) (hv : ∀ j ∈ g.sl, j ∈ own.map (·.2)) (hw : ((own.map (·.2)).all fun v => !σ0.fx v) = true)
    (hg : InBlk X scope fun Y => SG Y Tb σ0 tg g) (he : InBlk X scope fun Y => SE Y Tb σ0 W00 cl elt m) (hk : σ0.fx n = false := by rfl) (hy : X.N[n]? = some x := by rfl) (hyl : X.env.scope.names.lookup x = some .local := by rfl)
    (hsw : swapsWith (.ListComp elt [⟨tg, iter, [], 0⟩] scope p2) (some (.Name x p1)) pos.line X.env = pure true := by exact sw_true rfl rfl rfl (by decide +kernel)) (hs : ∀ x, foldedSetIterable iter X.env x = pure x := by intro _; rfl) :
    SS X Tb σ0 W cl (.Assign [.Name x p1] (.ListComp elt [⟨tg, iter, [], 0⟩] scope p2) pos) (.asg n (.comp m g it (.con (.bool true)) (own.map (·.2)))) := by
  refine PS.mono (ps_setLc (wi := tI (pm X Tb) σ0 W (evI cl it)) (g := tG (pm X Tb) σ0 g) (tt := tT (pm X Tb) σ0 W00 (evT cl (.con (.bool true)))) (te := tE (pm X Tb) σ0 W00 (evE cl m)) hc hN hy hyl hsw hi ok hg (fun _ _ _ _ _ => stm_nil) he hs) fun D σ H q => ?_
  exact comp_t hv (all_lt hw) (asg_t hk q)
theorem ss_asgCI (n : Nat) {elt tg iter : Expr} {scope : Scope} {own : List (Str × Nat)} {m t : E} {it : It} {g : Tg} (hc : X.calm = true) (hN : X.N.Nodup) (hi : SI X Tb σ0 W cl tg iter it) (ok : BlkOk X.N X.env.scope scope own) (hv : ∀ j ∈ g.sl, j ∈ own.map (·.2)) (hw : ((own.map (·.2)).all fun v => !σ0.fx v) = true)
    (hg : InBlk X scope fun Y => SG Y Tb σ0 tg g) (ht : InBlk X scope fun Y => ST Y Tb σ0 W00 cl c t) (he : InBlk X scope fun Y => SE Y Tb σ0 W00 cl elt m) (hk : σ0.fx n = false := by rfl) (hy : X.N[n]? = some x := by rfl) (hyl : X.env.scope.names.lookup x = some .local := by rfl)
    (hsw : swapsWith (.ListComp elt [⟨tg, iter, [c], 0⟩] scope p2) (some (.Name x p1)) pos.line X.env = pure true := by exact sw_true rfl rfl rfl (by decide +kernel)) (hs : ∀ x, foldedSetIterable iter X.env x = pure x := by intro _; rfl) :
    SS X Tb σ0 W cl (.Assign [.Name x p1] (.ListComp elt [⟨tg, iter, [c], 0⟩] scope p2) pos) (.asg n (.comp m g it t (own.map (·.2)))) := by
  refine PS.mono (ps_setLc (wi := tI (pm X Tb) σ0 W (evI cl it)) (g := tG (pm X Tb) σ0 g) (tt := tT (pm X Tb) σ0 W00 (evT cl t)) (te := tE (pm X Tb) σ0 W00 (evE cl m)) hc hN hy hyl hsw hi ok hg (fun s H C l fp => pts_one (ht s H C l fp)) he hs) fun D σ H q => ?_
  exact comp_t hv (all_lt hw) (asg_t hk q)
theorem ss_asgT {tg : Expr} {is : List Nat} (he : SE X Tb σ0 W cl e i) (hg : SG X Tb σ0 tg (.tp is)) (hs : swapsWithSole [tg] e pos.line X.env = pure false := by rfl) (hw : swappedStores [tg] e X.env = pure none := by rfl) (h1 : (assignEach [tg] X.env).map (·.2) = [assign tg X.env] := by rfl) :
    SS X Tb σ0 W cl (.Assign [tg] e pos) (.asgT is i) := by
  refine PS.mono (ps_asg he hg hs hw h1) fun D σ H q => ?_
  obtain ⟨G, F, env, R, g⟩ := q
  refine nextEF R g fun d v F2 env2 H2 gr R2 rp g2 => ?_
  obtain ⟨e', he', g3⟩ := nxt_ok g2
  exact ⟨G, F2, env2, d, e', R2, rp, he', fun σ' R3 _ _ => g3 σ' H2 F2 (.refl G F2) R3⟩
theorem ss_exp (he : SE X Tb σ0 W cl e i) (hs : swapsWith e none pos.line X.env = pure false := by rfl) : SS X Tb σ0 W cl (.Expr e pos) (.exp i) := by
  refine PS.mono (ps_expr he hs) fun D σ H q => ?_
  obtain ⟨G, F, env, R, g⟩ := q
  exact nextE R g fun r v F2 env2 H2 gr R2 hr g2 => g2.ok_in R2
theorem ss_ret (he : SE X Tb σ0 W cl e i) : SS X Tb σ0 W cl (.Return (some e) pos) (.ret i) := by
  refine PS.mono (ps_ret he) fun D σ H q => ?_
  obtain ⟨G, F, env, R, g⟩ := q
  exact nextE R g fun r v F2 env2 H2 gr R2 hr g2 => g2.ok_in R2 v hr
theorem ss_if {A B : List Stmt} (hc : ST X Tb σ0 W cl c i) (ha : SSs X Tb σ0 W cl A a) (hb : SSs X Tb σ0 W cl B b) : SS X Tb σ0 W cl (.If c A B pos) (.iff i a b) := by
  refine PS.mono (ps_if hc ha hb) fun D σ H q => ?_
  obtain ⟨G, F, env, R, g⟩ := q
  refine ⟨G, F, env, R, GoodS.partE g fun r env2 F2 H2 gr R2 g2 => ?_⟩
  cases r with
  | true => exact iteT ⟨G, F2, env2, R2, g2⟩
  | false => exact iteF ⟨G, F2, env2, R2, g2⟩
theorem ss_for {tg iter : Expr} {B : List Stmt} {t : Tg} {it : It} (hp : PassesOwn (model X.prog X.w) X.A X.env X.xe) (hc : X.calm = true) (hi : SI X Tb σ0 W cl tg iter it) (hg : SG X Tb σ0 tg t) (hb : SSs X Tb σ0 W cl B b) (hs : ∀ x, foldedSetIterable iter X.env x = pure x := by intro _; rfl) :
    SS X Tb σ0 W cl (.For tg iter B [] pos) (.for_ t it b) := by
  refine PS.mono (ps_for hp hc hi hg hb hs) fun D σ H q => ?_
  obtain ⟨G, F, env, R, g⟩ := q
  refine ⟨G, F, env, R, GoodS.partE g fun ds env2 F2 H2 gr R2 g2 J jok _ => ?_⟩
  refine ⟨fun i m σ H => ∃ F' env', i + m = ds.length ∧ Grow G F2 F' ∧ Rel (pm X Tb) σ0 G F' env' σ H ∧ GoodS (pm X Tb) σ0 G F' W D (forL (fun d e => mayB (asgT t d e) (evS cl b)) (ds.drop i) env'), ⟨ds.length, F2, env2, by omega, .refl G F2, R2, g2⟩, ?_⟩
  rintro i m σ3 H3 ⟨F3, env3, him, gr3, R3, g3⟩
  by_cases hi : i < ds.length
  · have hd : ds[i]? = some ds[i] := List.getElem?_eq_getElem hi
    rw [List.drop_eq_getElem_cons hi] at g3
    refine .inr ⟨jok.go i H3 (gr3.sub.trans R3.fs) hi, fun σ' H' => ∃ F' env', i + 1 + (m - 1) = ds.length ∧ Grow G F2 F' ∧ Rel (pm X Tb) σ0 G F' env' σ' H' ∧ GoodS (pm X Tb) σ0 G F' W D (forL (fun d e => mayB (asgT t d e) (evS cl b)) (ds.drop (i + 1)) env'), fun σ' H' w => ⟨m - 1, by omega, w⟩, fun y H4 hy => ?_⟩
    obtain ⟨F4, gr4, R4, rx⟩ : ∃ F4, Grow G F3 F4 ∧ Rel (pm X Tb) σ0 G F4 env3 σ3 H4 ∧ Rp X.K F4 ds[i] y := by
      rcases jok.yld i H3 y H4 (gr3.sub.trans R3.fs) hy _ hd with ⟨e, rx⟩ | ⟨T, xs, es, nn, e, ex, ed, rx⟩
      · subst e
        exact ⟨F3, .refl _ _, R3, Rp.mono gr3.sub _ _ rx⟩
      · subst e ex
        obtain ⟨R4, gr4⟩ := (R3.newObj (u := .tup xs) nn).take upd_same (R3.fs.none nn) (R3.gs.none nn) (fun _ z => by cases z) fun j hj z => by
          obtain ⟨o, ho⟩ := isOwn_iff.mp hj
          obtain ⟨a, e1, e2, _⟩ := R3.own j o ho
          obtain ⟨u, hu, _⟩ := e2.here
          rw [e1] at z
          cases z
          rw [nn] at hu
          cases hu
        refine ⟨_, gr4, R4, ?_⟩
        rw [ed]
        exact ⟨T, xs, rfl, .inl (.inl upd_same), RpAll.mono (gr3.sub.trans gr4.sub) _ _ rx⟩
    replace g3 := GoodS.shift gr4 g3
    simp only [forL] at g3
    cases ha : asgT t ds[i] env3 with
    | none => simp only [mayB, ha] at g3; exact (show False from g3).elim
    | some e0 =>
      simp only [mayB, ha] at g3
      refine ⟨G, F4, env3, ds[i], e0, R4, rx, ha, fun σ5 R5 _ _ => ⟨G, F4, e0, R5, GoodS.partS g3 fun f env6 F6 σ6 H6 gr6 R6 g6 => ?_⟩⟩
      have done : GoodS (pm X Tb) σ0 G F6 W D (forL (fun d e => mayB (asgT t d e) (evS cl b)) (ds.drop (i + 1)) env6) → ∃ F' env', i + 1 + (m - 1) = ds.length ∧ Grow G F2 F' ∧ Rel (pm X Tb) σ0 G F' env' σ6 H6 ∧ GoodS (pm X Tb) σ0 G F' W D (forL (fun d e => mayB (asgT t d e) (evS cl b)) (ds.drop (i + 1)) env') :=
        fun w => ⟨F6, env6, by omega, (gr3.trans gr4).trans gr6, R6, w⟩
      cases f with
      | nx => exact done g6
      | ct => exact done g6
      | brk => exact g6.ok_in R6
      | ret r => exact g6.ok_in R6
  · have e : i = ds.length := by omega
    subst e
    rw [List.drop_length] at g3
    exact .inl ⟨jok.stop _ H3 (gr3.sub.trans R3.fs) (Nat.le_refl _), g3.ok_in R3⟩
theorem ss_while {B : List Stmt} (hp : PassesOwn (model X.prog X.w) X.A X.env X.xe) (hc : ST X Tb σ0 W cl c i) (hb : SSs X Tb σ0 W cl B b) : SS X Tb σ0 W cl (.While c B [] pos) (.whl i b) := by
  refine PS.mono (ps_while hp hc hb) fun D σ H q => ?_
  obtain ⟨G, F, env, R, g⟩ := q
  refine ⟨fun m σ H => ∃ F' env', Grow G F F' ∧ Rel (pm X Tb) σ0 G F' env' σ H ∧ GoodS (pm X Tb) σ0 G F' W D (whlL (evT cl i) (evS cl b) m env'), ⟨fuel, F, env, .refl G F, R, g⟩, ?_⟩
  rintro m σ3 H3 ⟨F3, env3, gr3, R3, g3⟩
  cases m with
  | zero => exact (show False from g3).elim
  | succ m =>
    simp only [whlL] at g3
    refine ⟨G, F3, env3, R3, GoodS.partE g3 fun r env4 F4 H4 gr4 R4 g4 => ?_⟩
    cases r with
    | false => exact iteF (g4.ok_in R4)
    | true =>
      refine iteT ⟨fun σ' H' => ∃ F' env', Grow G F F' ∧ Rel (pm X Tb) σ0 G F' env' σ' H' ∧ GoodS (pm X Tb) σ0 G F' W D (whlL (evT cl i) (evS cl b) m env'), fun σ' H' w => ⟨m, Nat.lt_succ_self m, w⟩, G, F4, env4, R4, ?_⟩
      rw [if_pos rfl] at g4
      refine GoodS.partS g4 fun f env6 F6 σ6 H6 gr6 R6 g6 => ?_
      have done : GoodS (pm X Tb) σ0 G F6 W D (whlL (evT cl i) (evS cl b) m env6) → ∃ F' env', Grow G F F' ∧ Rel (pm X Tb) σ0 G F' env' σ6 H6 ∧ GoodS (pm X Tb) σ0 G F' W D (whlL (evT cl i) (evS cl b) m env') :=
        fun w => ⟨F6, env6, (gr3.trans gr4).trans gr6, R6, w⟩
      cases f with
      | nx => exact done g6
      | ct => exact done g6
      | brk => exact g6.ok_in R6
      | ret r => exact g6.ok_in R6
end
end Pb

namespace Pb
open PySem PySem.Spec L2

section
variable {p : Pm} {σ0 : S0} {σ : Sg} {G F H : Hp} {env : En} {W : WX} {D : Ends}
/-- the second of two results stands apart from the first -/
theorem next2 {ev : En → Res (RV × En)} {k : RV × En → Res (Flow × En)} {r : RV} {v : V} {Q1 : VK} (R : Rel p σ0 G F env σ H) (hr : RR p G F env σ H r v) (g : GoodS p σ0 G F W D ((ev env).bind k))
    (hk : ∀ s u F2 env2 H2, Grow G F F2 → Rel p σ0 G F2 env2 σ H2 → RR p G F2 env2 σ H2 s u → RR p G F2 env2 σ H2 r v → (∀ o o', r = .fresh o → s = .fresh o' → v ≠ u) → GoodS p σ0 G F2 W D (k (s, env2)) → Q1 u H2) : tE p σ0 W ev σ H Q1 := by
  obtain ⟨G2, l, R2, kn, kp⟩ := RR.frame R hr
  refine ⟨G2, F, env, R2, ?_⟩
  cases hx : ev env with
  | bad => rw [hx] at g; exact (show False from g).elim
  | exc c e =>
    rw [hx] at g
    exact fun cls d H' F2 g2 R x => g cls d σ H' F2 (g2.ls l) (R.less l) x
  | ok z =>
    obtain ⟨s, env2⟩ := z
    rw [hx] at g
    intro H2 F2 gr Rn u hu
    refine hk s u F2 env2 H2 (gr.ls l) (Rn.less l) (hu.less l) (kp F2 env2 H2 gr Rn) (fun o o' e1 e2 z => ?_) (GoodS.shift (gr.ls l) g)
    subst e1 e2
    obtain ⟨a, ea, _⟩ := hr
    obtain ⟨c, ec, _, _, gc, _⟩ := hu
    rw [ea, ec] at z
    cases z
    exact kn _ _ rfl ea gc

theorem setRV_keep {i : Nat} {r s : RV} {v u : V} {env' : En} {F' : Hp} (R : Rel p σ0 G F env σ H) (hr : RR p G F env σ H r v) (hs : RR p G F env σ H s u) (ap : ∀ o o', r = .fresh o → s = .fresh o' → v ≠ u) (gr : Grow G F F') (R' : Rel p σ0 G F' env' (σ.set i (some v)) H)
    (e : setRV i r env = some env') (hF : ∀ a, (∃ o, s = .fresh o ∧ u = .ref a) → F' a = none) (hns : ∀ j, s ≠ .slot j) : RR p G F' env' (σ.set i (some v)) H s u := by
  cases s with
  | val d => exact Rp.mono gr.sub _ _ hs
  | slot j => exact absurd rfl (hns j)
  | fresh o =>
    obtain ⟨a, e1, b, f, g, ni⟩ := hs
    refine ⟨a, e1, b.mono gr.sub, hF a ⟨o, rfl, e1⟩, g, fun j hj z => ?_⟩
    unfold setRV at e
    split at e
    · cases e
    · have k2 : ∀ {x : Sl} {env2 : En}, (∀ j, isOwn env2[j]? → isOwn env[j]?) → isOwn (env2.set i x)[j]? → (isOwn (some x) → v ≠ u) → False := fun {x env2} hb hj hx => by
        rcases isOwn_set hj with ⟨q1, q2⟩ | ⟨q1, q2⟩
        · subst q1
          have hl : j < σ.length := by
            by_cases hl : j < σ.length
            · exact hl
            · rw [List.getElem?_eq_none (by simpa using hl)] at z
              cases z
          rw [List.getElem?_set_self hl] at z
          cases z
          exact hx q2 e1.symm
        · rw [List.getElem?_set_ne (Ne.symm q1)] at z
          exact ni j (hb j q2) z
      cases r with
      | val d =>
        cases e
        exact k2 (fun _ h => h) hj (fun h => h.elim)
      | fresh o2 =>
        cases e
        exact k2 (fun _ h => h) hj (fun _ => ap o2 o rfl rfl)
      | slot l =>
        obtain ⟨zz, hz, ez⟩ := Option.map_eq_some_iff.mp e
        obtain ⟨d, env2⟩ := zz
        subst ez
        refine k2 (env2 := env2) (fun m h => ?_) hj (fun h => h.elim)
        cases hl : env[l]? with
        | none => simp [frz, hl] at hz
        | some sl =>
          cases sl with
          | non => simp [frz, hl] at hz
          | frd k => simp [frz, hl] at hz
          | inn o => simp [frz, hl] at hz
          | val d' =>
            simp [frz, hl] at hz
            rw [← hz.2] at h
            exact h
          | own o' =>
            simp only [frz, hl] at hz
            obtain ⟨d', _, e2⟩ := Option.map_eq_some_iff.mp hz
            cases e2
            rcases isOwn_set h with ⟨q1, q2⟩ | ⟨_, q2⟩
            · exact q2.elim
            · exact q2
end
section
variable {X : Cx} {Tb : List (Addr × Str)} {σ0 : S0} {W : WX} {cl : Cl} {e c k : Expr} {i j : E} {pos p1 p2 p3 p4 p5 : Pos} {n m : Nat} {x y : Str}
/-- x[k] = e -/
theorem ss_put (n : Nat) (he : SE X Tb σ0 W cl e i) (hk : SE X Tb σ0 W cl k j) (hN : X.N[n]? = some x := by rfl) (hv : Vis X.env.scope x := by first | exact Or.inl rfl | exact Or.inr (Or.inl rfl) | exact Or.inr (Or.inr rfl)) (hd : (x == ("__debug__" : Str)) = false := by decide)
    (hcd : (x == ("__classdict__" : Str)) = false := by decide) (hs : swapsWithSole [.Subscript (.Name x p1) k p2] e pos.line X.env = pure false := by rfl) (hw : swappedStores [.Subscript (.Name x p1) k p2] e X.env = pure none := by rfl)
    (h1 : (assignEach [.Subscript (.Name x p1) k p2] X.env).map (·.2) = [assign (.Subscript (.Name x p1) k p2) X.env] := by rfl)
    (ha : ∀ v, assign (.Subscript (.Name x p1) k p2) X.env v = (do
      let ov ← holding [v] (eval (.Name x p1) X.env)
      let iv ← holding [v, ov] (eval k X.env)
      standAt p2
      holding [v, ov, iv] (setItem ov iv v)
      release [v, ov, iv] []) := by intro _; rfl) : SS X Tb σ0 W cl (.Assign [.Subscript (.Name x p1) k p2] e pos) (.put n j i) := by
  refine PS.mono (ps_asg he (pg_sub (pe_var (i := n) hN hv hd hcd) hk set_list ha) hs hw h1) fun D σ H q => ?_
  obtain ⟨G, F, env, R, g⟩ := q
  refine nextEF R g fun d v F2 env2 H2 gr R2 rp g2 => ?_
  simp only at g2
  split at g2
  · rename_i hl
    obtain ⟨⟨s0, ds0⟩, hs0⟩ := Option.isSome_iff_exists.mp hl
    obtain ⟨q1, q2⟩ := lstAt_ok hs0
    obtain ⟨a, ea, _⟩ := R2.own n _ (slOb_or q1 q2)
    refine ⟨.ref a, ea, ?_⟩
    refine nextE R2 g2 fun r u F3 env3 H3 gr3 R3 hr g3 => ?_
    obtain ⟨e', he', g4⟩ := nxt_ok g3
    obtain ⟨nn, s, ds, e0, hs1, he2⟩ : ∃ nn s ds, r = .val (.int nn) ∧ lstAt env3 n = some (s, ds) ∧ (ixN ds.length nn).map (fun j => env3.set n (putOb s (.lst (ds.set j d)))) = some e' := by
      have h0 : putS n d r env3 = some e' := he'
      cases hl3 : lstAt env3 n with
      | none => cases r <;> simp [putS, hl3] at h0
      | some z =>
        obtain ⟨s, ds⟩ := z
        cases r with
        | val dd =>
          cases dd with
          | int nn =>
            simp only [putS, hl3] at h0
            exact ⟨nn, s, ds, rfl, rfl, h0⟩
          | _ => simp [putS] at h0
        | _ => simp [putS] at h0
    subst e0
    · obtain ⟨jj, hj, ee⟩ := Option.map_eq_some_iff.mp he2
      obtain ⟨w1, w2⟩ := lstAt_ok hs1
      obtain ⟨b, eb, ⟨xs, hx, wx⟩, f, gg⟩ := R3.own n _ (slOb_or w1 w2)
      rw [ea] at eb
      cases eb
      have hu : u = .int nn := hr
      subst ee
      refine ⟨a, xs, nn, jj, rfl, hu, hx, by rw [wx.length]; exact hj, ?_⟩
      refine g4 σ _ F3 (.refl G F3) ?_
      exact R3.write w1 w2 ea ⟨_, upd_same, wx.set jj (Rp.mono gr3.sub _ _ rp)⟩ (fun ps z => by rw [hx] at z; cases z)
  · exact (show False from g2).elim
/-- d[k] = e -/
theorem ss_dSet (n : Nat) (hu : X.A.units + 65 < cLine) (he : SE X Tb σ0 W cl e i) (hk : SE X Tb σ0 W cl k j) (hN : X.N[n]? = some x := by rfl) (hv : Vis X.env.scope x := by first | exact Or.inl rfl | exact Or.inr (Or.inl rfl) | exact Or.inr (Or.inr rfl)) (hd : (x == ("__debug__" : Str)) = false := by decide)
    (hcd : (x == ("__classdict__" : Str)) = false := by decide) (hs : swapsWithSole [.Subscript (.Name x p1) k p2] e pos.line X.env = pure false := by rfl) (hw : swappedStores [.Subscript (.Name x p1) k p2] e X.env = pure none := by rfl)
    (h1 : (assignEach [.Subscript (.Name x p1) k p2] X.env).map (·.2) = [assign (.Subscript (.Name x p1) k p2) X.env] := by rfl)
    (ha : ∀ v, assign (.Subscript (.Name x p1) k p2) X.env v = (do
      let ov ← holding [v] (eval (.Name x p1) X.env)
      let iv ← holding [v, ov] (eval k X.env)
      standAt p2
      holding [v, ov, iv] (setItem ov iv v)
      release [v, ov, iv] []) := by intro _; rfl) : SS X Tb σ0 W cl (.Assign [.Subscript (.Name x p1) k p2] e pos) (.dSet n j i) := by
  refine PS.mono (ps_asg he (pg_sub (pe_var (i := n) hN hv hd hcd) hk (set_dctV hu) ha) hs hw h1) fun D σ H q => ?_
  obtain ⟨G, F, env, R, g⟩ := q
  refine nextEF R g fun d v F2 env2 H2 gr R2 rp g2 => ?_
  simp only at g2
  split at g2
  · rename_i hl
    obtain ⟨a, ea⟩ := dcSlot R2 hl
    refine ⟨.ref a, ea, ?_⟩
    refine nextEF R2 g2 fun kd u F3 env3 H3 gr3 R3 rk g3 => ?_
    obtain ⟨e', he', g4⟩ := nxt_ok g3
    have h0 : dPut n d kd env3 = some e' := he'
    unfold dPut at h0
    split at h0
    · rename_i s hs0
      split at h0
      · rename_i kvs hs1
        split at h0
        · rename_i nk hnk
          split at h0
          · rename_i hz
            cases h0
            obtain ⟨b, eb, ⟨o, es, hx, wx⟩, f, gg⟩ := R3.own n _ (slOb_or hs0 hs1)
            rw [ea] at eb
            cases eb
            refine ⟨a, o, es, nk, rfl, hx, DcR.keysR R3.fs wx, keyD_ok R3.fs hnk rk, by rw [wx.length]; omega, fun o2 => ?_⟩
            refine g4 σ _ F3 (.refl G F3) ?_
            have hk2 := hnk
            unfold keyD at hk2
            split at hk2
            · rename_i k' hk'
              split at hk2
              · rename_i hk3
                cases hk2
                exact R3.write hs0 hs1 ea ⟨o2, _, upd_same, wx.put hk' hk3.1 rk (Rp.mono gr3.sub _ _ rp)⟩ (fun ps z => by rw [hx] at z; unfold DctO at z; cases z)
              · cases hk2
            · cases hk2
          · cases h0
        · cases h0
      · cases h0
    · cases h0
  · exact (show False from g2).elim
theorem tyL {K : PySem.W.Frag} {H : Hp} {a : Addr} {xs : List V} (h : H a = some (.lst xs)) : tyV K "list" (.ref a) H := .inl ⟨rfl, _, .inl (.inl h)⟩
/-- x.append(e) -/
theorem ss_app (n : Nat) (he : SE X Tb σ0 W cl e i) (hN : X.N[n]? = some x := by rfl) (hv : Vis X.env.scope x := by first | exact Or.inl rfl | exact Or.inr (Or.inl rfl) | exact Or.inr (Or.inr rfl)) (hd : (x == ("__debug__" : Str)) = false := by decide)
    (hcd : (x == ("__classdict__" : Str)) = false := by decide) (h0 : starEach [e] X.env = (false, eval e X.env) :: starEach [] X.env := by rfl) (hs : swapsWith (.Call (.Attribute (.Name x p1) "append" p2) [e] [] p3) none pos.line X.env = pure false := by rfl)
    (hp : PE X (.Call (.Attribute (.Name x p1) "append" p2) [e] [] p3) (tBM X.K "list" rAppend (tVar n) (tCons (tE (pm X Tb) σ0 W (evE cl i)) tNil))) : SS X Tb σ0 W cl (.Expr (.Call (.Attribute (.Name x p1) "append" p2) [e] [] p3) pos) (.app n i) := by
  refine PS.mono (ps_expr hp hs) fun D σ H q => ?_
  obtain ⟨G, F, env, R, g⟩ := q
  replace g : GoodS (pm X Tb) σ0 G F W D (if (lstAt env n).isSome then (fz (evE cl i env)).bind fun x => nxt (appS n x.1 x.2) else .bad) := g
  split at g
  · rename_i hl
    obtain ⟨⟨s0, ds0⟩, hs0⟩ := Option.isSome_iff_exists.mp hl
    obtain ⟨q1, q2⟩ := lstAt_ok hs0
    obtain ⟨a, ea, ⟨xs0, hx0, _⟩, _⟩ := R.own n _ (slOb_or q1 q2)
    refine ⟨.ref a, ea, tyL hx0, ?_⟩
    refine nextEF R g fun d v F2 env2 H2 gr R2 rp g2 => ?_
    obtain ⟨e', he', g4⟩ := nxt_ok g2
    unfold appS at he'
    split at he'
    · rename_i s ds hs1
      split at he'
      · rename_i hz
        cases he'
        obtain ⟨w1, w2⟩ := lstAt_ok hs1
        obtain ⟨b, eb, ⟨xs, hx, wx⟩, f, gg⟩ := R2.own n _ (slOb_or w1 w2)
        rw [ea] at eb
        cases eb
        refine ⟨a, xs, v, rfl, rfl, hx, by rw [wx.length]; exact big_lt hz, ?_⟩
        refine g4 σ _ F2 (.refl G F2) ?_
        exact R2.write w1 w2 ea ⟨_, upd_same, wx.append (.one rp)⟩ (fun ps z => by rw [hx] at z; cases z)
      · cases he'
    · cases he'
  · exact (show False from g).elim
/-- a, b = e, f -/
theorem ss_par (n m : Nat) {a b : Expr} {kt k2 : Nat} {pt pt2 : Pos} (ha : SE X Tb σ0 W cl a i) (hb : SE X Tb σ0 W cl b j) (hc : X.calm = true) (hN : X.N.Nodup) (hkn : σ0.fx n = false := by rfl) (hkm : σ0.fx m = false := by rfl) (hi : X.N[n]? = some x := by rfl) (hj : X.N[m]? = some y := by rfl) (hij : n ≠ m := by decide)
    (hx : X.env.scope.names.lookup x = some .local := by rfl) (hy : X.env.scope.names.lookup y = some .local := by rfl) (h0 : starEach [a, b] X.env = (false, eval a X.env) :: starEach [b] X.env := by rfl) (h00 : starEach [b] X.env = (false, eval b X.env) :: starEach [] X.env := by rfl)
    (hw : swappedStores [.Tuple [.Name x p1, .Name y p2] kt pt] (.Tuple [a, b] k2 pt2) X.env = pure (some [x, y]) := by rfl)
    (hs : swapsWithSole [.Tuple [.Name x p1, .Name y p2] kt pt] (.Tuple [a, b] k2 pt2) pos.line X.env = pure false := by rfl) : SS X Tb σ0 W cl (.Assign [.Tuple [.Name x p1, .Name y p2] kt pt] (.Tuple [a, b] k2 pt2) pos) (.par n m i j) := by
  refine PS.mono (ps_par hc hN hi hj hij hx hy (pa_cons ha (pa_cons hb pa_nil h00) h0) hw hs) fun D σ H q => ?_
  obtain ⟨G, F, env, R, g⟩ := q
  refine nextE R g fun r v F2 env2 H2 gr R2 hr g2 => next2 R2 hr g2 fun s u F3 env3 H3 gr3 R3 hs3 hr3 hap g3 => ?_
  have hns : ∀ l, s ≠ .slot l := fun l z => by
    subst z
    exact (show False from g3)
  have g3' : GoodS (pm X Tb) σ0 G F3 W D (nxt ((setRV n r env3).bind (setRV m s))) := by
    cases s with
    | slot l => exact absurd rfl (hns l)
    | _ => exact g3
  obtain ⟨e', he', g4⟩ := nxt_ok g3'
  obtain ⟨e1, he1, he2⟩ := Option.bind_eq_some_iff.mp he'
  obtain ⟨F4, gr4, R4, n4⟩ := setRV_ok R3 hkn hr3 he1
  have hs4 : RR (pm X Tb) G F4 e1 (σ.set n (some v)) H3 s u := setRV_keep R3 hr3 hs3 hap gr4 R4 he1 (fun a ⟨o, eo, ea⟩ => by
    subst eo
    obtain ⟨a', ea', b', f', g', i'⟩ := hs3
    rw [ea] at ea'
    cases ea'
    exact n4 a f' i') hns
  obtain ⟨F5, gr5, R5, _⟩ := setRV_ok R4 hkm hs4 he2
  exact ⟨v, u, rfl, g4 _ H3 F5 (gr4.trans gr5) R5⟩
/-- x = y, y's object moved (y is not read before it is set anew) -/
theorem ss_mov (n m : Nat) (hN : X.N.Nodup) (hk : σ0.fx n = false := by rfl) (hi : X.N[n]? = some x := by rfl) (hj : X.N[m]? = some y := by rfl) (hx : Loc X.env.scope x := by first | exact Or.inl rfl | exact Or.inr rfl) (hv : Vis X.env.scope y := by first | exact Or.inl rfl | exact Or.inr (Or.inl rfl) | exact Or.inr (Or.inr rfl))
    (hd : (y == ("__debug__" : Str)) = false := by decide) (hcd : (y == ("__classdict__" : Str)) = false := by decide) (hs : swapsWith (.Name y p2) (some (.Name x p1)) pos.line X.env = pure false := by rfl)
    (hf : X.fn x = true ∨ X.env.scope.names.lookup x = some .local := by first | exact .inl rfl | exact .inr rfl | assumption) : SS X Tb σ0 W cl (.Assign [.Name x p1] (.Name y p2) pos) (.mov n m) := by
  refine PS.mono (ps_set hN hi hx (pe_var (i := m) hj hv hd hcd) hs hf) fun D σ H q => ?_
  obtain ⟨G, F, env, R, g⟩ := q
  replace g : GoodS (pm X Tb) σ0 G F W D (nxt (movS n m env)) := g
  obtain ⟨e', he', g3⟩ := nxt_ok g
  unfold movS at he'
  split at he'
  · cases he'
  · rename_i hnn
    split at he'
    · rename_i o ho
      cases he'
      obtain ⟨a, e1, e2, e3, e4⟩ := R.own m o (.inl ho)
      refine ⟨.ref a, e1, ?_⟩
      have nonm : ∀ {j : Nat}, isOwn (env.set m .non)[j]? → j ≠ m ∧ isOwn env[j]? := fun {j} hj => by
        rcases isOwn_set hj with ⟨_, z⟩ | z
        · exact z.elim
        · exact z
      have R2 : Rel (pm X Tb) σ0 G F (env.set m .non) σ H := by
        refine ⟨R.gs, R.fs, R.gn, R.fn, R.tb, by simpa using R.len, fun j d h => ?_, fun j w h => ?_, fun j k b hj hk => R.inj j k b (nonm hj).2 (nonm hk).2, fun j w h => ?_, R.fix, R.cds, fun j kv h => R.frd j kv (frd_set h (fun z => by cases z)).2⟩
        · rcases set_get h with ⟨_, z⟩ | ⟨_, z⟩
          · cases z
          · exact R.val j d z
        · have h' : env[j]? = some (Sl.own w) ∨ env[j]? = some (Sl.inn w) := by
            rcases h with h | h <;> rcases set_get h with ⟨_, z⟩ | ⟨_, z⟩
            · cases z
            · exact .inl z
            · cases z
            · exact .inr z
          exact R.own j w h'
        · rcases set_get h with ⟨_, z⟩ | ⟨_, z⟩
          · cases z
          · exact R.inn j w z
      refine g3 _ H F (.refl G F) (R2.setOwn hk (fun o' z => ?_) ⟨a, rfl, e2, e3, e4, fun j hj z => ?_⟩)
      · rcases set_get z with ⟨_, z⟩ | ⟨_, z⟩
        · cases z
        · exact notInn hnn o' z
      · obtain ⟨n1, n2⟩ := nonm hj
        exact n1 (R.inj j m a n2 (isOwn_iff.mpr ⟨o, .inl ho⟩) z e1)
    · cases he'
end
end Pb

namespace Pb
open PySem PySem.Spec L2

section
variable {X : Cx} {Tb : List (Addr × Str)} {σ0 : S0} {W : WX} {cl : Cl} {e c k : Expr} {i j : E} {pos p1 p2 p3 p4 p5 : Pos} {n m : Nat} {x y : Str}
/-- x.pop(e) -/
theorem se_pop (n : Nat) (hp : PE X c (tBM X.K "list" rPopAt (tVar n) (tCons (tE (pm X Tb) σ0 W (evE cl i)) tNil))) : SE X Tb σ0 W cl c (.pop n i) := by
  refine PE.mono hp fun σ H Q q => ?_
  obtain ⟨G, F, env, R, g⟩ := q
  replace g : GoodB (pm X Tb) σ0 G F σ W (OkE (pm X Tb) G σ Q) (if (lstAt env n).isSome then (evE cl i env).bind fun x => popE n x.1 x.2 else .bad) := g
  split at g
  · rename_i hl
    obtain ⟨⟨s0, ds0⟩, hs0⟩ := Option.isSome_iff_exists.mp hl
    obtain ⟨q1, q2⟩ := lstAt_ok hs0
    obtain ⟨a, ea, ⟨xs0, hx0, _⟩, _⟩ := R.own n _ (slOb_or q1 q2)
    refine ⟨.ref a, ea, tyL hx0, ?_⟩
    refine next (L := []) R (fun _ => noL) g fun r v F2 env2 H2 gr R2 hr _ g2 => ?_
    have g3 : GoodB (pm X Tb) σ0 G F2 σ W (OkE (pm X Tb) G σ Q) (popE n r env2) := g2
    unfold popE at g3
    split at g3
    · rename_i kk s ds hs1
      split at g3
      · rename_i hz
        split at g3
        · rename_i jj hj
          split at g3
          · rename_i d hd
            obtain ⟨w1, w2⟩ := lstAt_ok hs1
            obtain ⟨b, eb, ⟨xs, hx, wx⟩, f, gg⟩ := R2.own n _ (slOb_or w1 w2)
            rw [ea] at eb
            cases eb
            have hv : v = .int kk := hr
            obtain ⟨s1, s2, s3, s4⟩ := ixN_seq hj
            obtain ⟨y, hy, ry⟩ := wx.get hd
            have hb : (ds.length : Int) ≤ 2 ^ 62 := Int.le_trans (Int.ofNat_le.mpr hz) (by decide)
            refine ⟨a, xs, kk, jj, y, rfl, by rw [hv], hx, by omega, by omega, by rw [wx.length]; exact s1, hy, ?_⟩
            refine g3 _ F2 (.refl G F2) ?_ y ry
            exact R2.write w1 w2 ea ⟨_, upd_same, wx.erase jj⟩ (fun ps z => by rw [hx] at z; cases z)
          · exact (show False from g3).elim
        · exact (show False from g3).elim
      · exact (show False from g3).elim
    · exact (show False from g3).elim
  · exact (show False from g).elim

def veB : List Value := [.type "ValueError", .type "Exception", .type "BaseException", .type "object"]
/-- an own exception class without own __init__, by its name -/
structure XC (X : Cx) (x : Str) : Prop where
  ex : ∃ (C : Addr), X.mg x = some (.ref C) ∧ PySem.W.excIn X.K C veB "ValueError.__new__" = true ∧ PySem.W.keepIn X.K (.ref C) = true ∧ PySem.W.subIn X.K (.ref C) (.type "BaseException") = some true ∧ PySem.W.typeIn X.K (.ref C) = some (.type "type")
/-- raise X('m') -/
theorem ss_rse {q : Str} {jj : Nat} {p p2 p3 : Pos} (x : Str) (hc : X.calm = true) (tk : Takes X W) (f : XC X x) (hg : Gl X x) (hdb : (x == ("__debug__" : Str)) = false := by decide) : SS X Tb σ0 W cl (.Raise (some (.Call (.Name x p) [.Constant (.str q) jj p2] [] p3)) none pos) (.rse x) := by
  obtain ⟨C, h1, h2, h3, h4, h5⟩ := f.ex
  refine PS.mono (ps_raise hc tk (pmk_own PySem.F.excBase_ValueError h2 h1 h3 (raises_own h4 h5) hg hdb)) fun D σ H q => ?_
  obtain ⟨G, F, env, R, g⟩ := q
  exact g (.ref C) none σ H F (.refl G F) R ⟨⟨C, rfl, h1⟩, fun i z => by cases z⟩
end
end Pb

namespace Pb
open PySem PySem.Spec PyProof.Rows L2

/-! ### defs -/
def nofx : Nat → Bool := fun _ => false
structure FnIR where
  np : Nat
  nl : Nat
  io : Bool
  body : S
def inAt (env : En) : Option Ob := match env[0]? with
  | some (Sl.inn o) => some o
  | _ => none
def outIo (io : Bool) (env : En) : Option (Option Ob) := if io then (inAt env).map some else some none
@[simp] def ioN : Option Ob → Nat
  | some _ => 1
  | none => 0
def retV (env : En) : RV → Option RV
  | .val d => some (.val d)
  | .fresh o => some (.fresh o)
  | .slot i => match env[i]? with
    | some (.own o) => some (.fresh o)
    | _ => none
def fin (io : Bool) : Res (Flow × En) → FR
  | .ok (.nx, env) => match outIo io env with
    | some x => .ok (.val .none) x
    | none => .bad
  | .ok (.ret r, env) => match outIo io env, retV env r with
    | some x, some q => .ok q x
    | _, _ => .bad
  | .exc c env => match outIo io env with
    | some x => .exc c x
    | none => .bad
  | _ => .bad
def envI (f : FnIR) (o : Option Ob) (ds : List D) : En := (match o with | some ob => [Sl.inn ob] | none => []) ++ ds.map Sl.val ++ List.replicate (f.nl - f.np) Sl.non
def runF (cl : Cl) (f : FnIR) (o : Option Ob) (ds : List D) : FR :=
  if o.isSome = f.io ∧ (envI f o ds).length = f.nl ∧ f.np ≤ f.nl then fin f.io (evS cl f.body (envI f o ds)) else .bad
/-- a body that runs over the slots of its maker: nl slots of its own; esc: exceptions are let out -/
structure BkIR where
  np : Nat
  nl : Nat
  esc : Bool
  body : S
def toInn : Sl → Sl
  | .own o => .inn o
  | .frd _ => .non
  | x => x
/-- the maker's slots behind the block -/
def fromInn : En → En → Option En
  | [], _ => some []
  | .own _ :: r, .inn o :: e => (fromInn r e).map (.own o :: ·)
  | .inn _ :: r, .inn o :: e => (fromInn r e).map (.inn o :: ·)
  | .non :: r, _ :: e => (fromInn r e).map (.non :: ·)
  | .val d :: r, _ :: e => (fromInn r e).map (.val d :: ·)
  | .frd k :: r, _ :: e => (fromInn r e).map (.frd k :: ·)
  | _, _ => none
def retB (nl : Nat) (env : En) : RV → Option RV
  | .val d => some (.val d)
  | .fresh o => some (.fresh o)
  | .slot i => if i < nl then match env[i]? with
    | some (.own o) => some (.fresh o)
    | _ => none
    else none
def envB (bk : BkIR) (ds : List D) (env : En) : En := ds.map Sl.val ++ List.replicate (bk.nl - ds.length) Sl.non ++ env.map toInn
def runB (cl : Cl) (bk : BkIR) (ds : List D) (env : En) : Res (RV × En) := if ds.length = bk.np ∧ bk.np ≤ bk.nl then match evS cl bk.body (envB bk ds env) with
  | .ok (.ret r, e) => match retB bk.nl e r, fromInn env (e.drop bk.nl) with
    | some q, some e' => .ok (q, e')
    | _, _ => .bad
  | .exc c e => if bk.esc then match fromInn env (e.drop bk.nl) with
    | some e' => .exc c e'
    | none => .bad
    else .bad
  | _ => .bad
  else .bad
/-- the defs and blocks of a program -/
structure TabT where
  f : Nat → Option FnIR
  b : Nat → Option BkIR
instance : CoeFun TabT (fun _ => Nat → Option FnIR) := ⟨TabT.f⟩
def evF (T : TabT) : Nat → Cl
  | 0 => ⟨fun _ _ _ => .bad, fun _ _ _ => .bad⟩
  | n + 1 => ⟨fun i o ds => match T.f i with
    | some f => runF (evF T n) f o ds
    | none => .bad, fun j ds env => if n = 0 then .bad else match T.b j with
    | some bk => runB (evF T n) bk ds env
    | none => .bad⟩

theorem rpAll_at {K : PySem.W.Frag} {F : Hp} : ∀ {ds : List D} {vs : List V} {i : Nat} {d : D}, RpAll K F ds vs → ds[i]? = some d → ∃ v, vs[i]? = some v ∧ Rp K F d v := fun w h => w.get h

theorem envI_len {f : FnIR} {o : Option Ob} {ds : List D} (h1 : (envI f o ds).length = f.nl) (h2 : f.np ≤ f.nl) : ioN o + ds.length = f.np := by
  unfold envI at h1
  cases o <;> simp at h1 ⊢ <;> omega
theorem start_get {N : List Str} {vs : List V} {i : Nat} (h : i < vs.length) : (L2.start N vs)[i]? = (vs[i]?).map some := by
  unfold L2.start
  rw [List.getElem?_append_left (by simpa using h)]
  simp
theorem rel_start {p : Pm} {G F H : Hp} {ad : Option Addr} {o : Option Ob} {ds : List D} {us : List V} {N : List Str} {f : FnIR} (g : Grd p G F H) (io : IoR p F H ad o) (ga : ∀ a, ad = some a → G a = none) (ra : RpAll p.K F ds us)
    (hl : (envI f o ds).length = f.nl) (h2 : f.np ≤ f.nl) (hN : f.nl = N.length) (hn : (adV ad ++ us).length = f.np) : Rel p ⟨L2.start N (adV ad ++ us), nofx, []⟩ G F (envI f o ds) (L2.start N (adV ad ++ us)) H := by
  have hsl : (L2.start N (adV ad ++ us)).length = N.length := by
    unfold L2.start
    rw [List.length_append, List.length_map, List.length_replicate]
    omega
  have ho : ∀ (i : Nat) q, ((envI f o ds)[i]? = some (Sl.own q) ∨ (envI f o ds)[i]? = some (Sl.inn q)) → i = 0 ∧ o = some q := fun i q h => by
    unfold envI at h
    cases o with
    | none =>
      exfalso
      rcases h with h | h <;>
      · have := List.mem_of_getElem? h
        simp at this
    | some q' =>
      cases i with
      | zero =>
        rcases h with h | h
        · simp at h
        · simp at h
          exact ⟨rfl, by rw [h]⟩
      | succ j =>
        exfalso
        rcases h with h | h <;>
        · simp at h
          have := List.mem_of_getElem? h
          simp at this
  have ha : ∀ q, o = some q → ∃ a, ad = some a ∧ ObR p F H a q ∧ F a = none := fun q z => by
    subst z
    unfold IoR at io
    cases ad with
    | none => exact io.elim
    | some a => exact ⟨a, rfl, io⟩
  refine ⟨g.gs, g.fs, g.gn, g.fn, g.tb, by rw [hl, hsl, hN], fun i d h => ?_, fun i q h => ?_, fun i j a hi hj _ _ => ?_, fun i q h => rfl, (fun i h => nomatch h), (fun q h => nomatch h), fun i k h => by
    unfold envI at h
    have := List.mem_of_getElem? h
    cases o <;> simp at this⟩
  · unfold envI at h
    have hm : ∃ j, ds[j]? = some d ∧ i = ioN o + j := by
      cases o with
      | none =>
        refine ⟨i, ?_, by simp⟩
        simp only [List.nil_append] at h
        by_cases hj : i < ds.length
        · rw [List.getElem?_append_left (by simpa using hj)] at h
          simpa using h
        · rw [List.getElem?_append_right (by simpa using hj)] at h
          have := List.mem_of_getElem? h
          simp at this
      | some q =>
        cases i with
        | zero => simp at h
        | succ i =>
          refine ⟨i, ?_, by simp [Nat.add_comm]⟩
          simp at h
          by_cases hj : i < ds.length
          · rw [List.getElem?_append_left (by simpa using hj)] at h
            simpa using h
          · rw [List.getElem?_append_right (by simpa using hj)] at h
            have := List.mem_of_getElem? h
            simp at this
    obtain ⟨j, hj, ei⟩ := hm
    obtain ⟨v, hv, rv⟩ := ra.get hj
    have hju : j < us.length := (List.getElem?_eq_some_iff.mp hv).1
    refine ⟨v, ?_, rv⟩
    subst ei
    cases o with
    | none =>
      have : ad = none := by
        cases ad with
        | none => rfl
        | some a => exact io.elim
      subst this
      rw [start_get (by simpa [adV] using hju)]
      simp [adV, hv]
    | some q =>
      obtain ⟨a, e1, _⟩ := ha q rfl
      subst e1
      rw [start_get (by simp [adV]; omega)]
      simp [adV, Nat.add_comm 1 j, hv]
  · obtain ⟨e1, e2⟩ := ho i q h
    obtain ⟨a, e3, e4, e5⟩ := ha q e2
    subst e1 e3
    refine ⟨a, ?_, e4, e5, ga a rfl⟩
    rw [start_get (by simp [adV])]
    simp [adV]
  · obtain ⟨q1, z1⟩ := isOwn_iff.mp hi
    obtain ⟨q2, z2⟩ := isOwn_iff.mp hj
    rw [(ho i q1 z1).1, (ho j q2 z2).1]
theorem Rel.grd {p : Pm} {σ0 : S0} {σ : Sg} {G F H : Hp} {env : En} (R : Rel p σ0 G F env σ H) : Grd p G F H := ⟨R.gs, R.fs, R.gn, R.fn, R.tb⟩
theorem inAt_ok {env : En} {o : Ob} (h : inAt env = some o) : env[0]? = some (.inn o) := by
  unfold inAt at h
  split at h
  · rename_i q e
    cases h
    exact e
  · cases h
theorem outIo_ok {p : Pm} {G F F' H H' : Hp} {ad : Option Addr} {o : Option Ob} {us : List V} {N : List Str} {f : FnIR} {env : En} {σ : Sg} {x : Option Ob} (hos : o.isSome = f.io) (io : IoR p F H ad o) (h : outIo f.io env = some x) (R : Rel p ⟨L2.start N (adV ad ++ us), nofx, []⟩ G F' env σ H') : IoR p F' H' ad x := by
  cases o with
  | none =>
    have e : f.io = false := by rw [← hos]; rfl
    unfold outIo at h
    rw [e] at h
    cases h
    cases ad with
    | none => trivial
    | some a => exact io.elim
  | some q =>
    have e : f.io = true := by rw [← hos]; rfl
    unfold outIo at h
    rw [e] at h
    simp only [if_true] at h
    obtain ⟨q2, hq, ex⟩ := Option.map_eq_some_iff.mp h
    replace hq := inAt_ok hq
    · subst ex
      cases ad with
      | none => exact io.elim
      | some a =>
        obtain ⟨b, e1, e2, e3, e4⟩ := R.own 0 q2 (.inr hq)
        have := R.inn 0 q2 hq
        rw [e1, start_get (by simp [adV])] at this
        simp [adV] at this
        subst this
        exact ⟨e2, e3⟩
/-- a result leaves its def -/
theorem retV_ok {p : Pm} {G F F' H H' : Hp} {ad : Option Addr} {o : Option Ob} {us : List V} {N : List Str} {f : FnIR} {env : En} {σ : Sg} {x : Option Ob} {r q : RV} {v : V} (hos : o.isSome = f.io) (io : IoR p F H ad o) (hx : outIo f.io env = some x) (R : Rel p ⟨L2.start N (adV ad ++ us), nofx, []⟩ G F' env σ H') (h : retV env r = some q) (hv : RR p G F' env σ H' r v) : FRR p G F' H' ad q v := by
  have key : ∀ b, ad = some b → σ[0]? = some (some (V.ref b)) ∧ isOwn env[0]? ∧ ∃ q2, env[0]? = some (.inn q2) := fun b e => by
    subst e
    cases o with
    | none => exact io.elim
    | some q =>
      have e : f.io = true := by rw [← hos]; rfl
      unfold outIo at hx
      rw [e] at hx
      simp only [if_true] at hx
      obtain ⟨q2, hq, ex⟩ := Option.map_eq_some_iff.mp hx
      replace hq := inAt_ok hq
      · have h0 := R.inn 0 q2 hq
        rw [start_get (by simp [adV])] at h0
        simp [adV] at h0
        exact ⟨h0, isOwn_iff.mpr ⟨q2, .inr hq⟩, q2, hq⟩
  cases r with
  | val d => cases h; exact hv
  | fresh ob =>
    cases h
    obtain ⟨b, e1, e2, e3, e4, e5⟩ := hv
    refine ⟨b, e1, e2, e3, e4, fun z => ?_⟩
    obtain ⟨k1, k2, _⟩ := key b z
    exact e5 0 k2 k1
  | slot i =>
    unfold retV at h
    simp only at h
    split at h
    · rename_i ob hi
      cases h
      obtain ⟨b, e1, e2, e3, e4⟩ := R.own i ob (.inl hi)
      have hv' : σ[i]? = some (some v) := hv
      rw [e1] at hv'
      cases hv'
      refine ⟨b, rfl, e2, e3, e4, fun z => ?_⟩
      obtain ⟨k1, k2, q2, k3⟩ := key b z
      have := R.inj i 0 b (isOwn_iff.mpr ⟨ob, .inl hi⟩) k2 e1 k1
      subst this
      rw [hi] at k3
      cases k3
    · cases h
section
variable {P : Program} {w : World} {K : PySem.W.Frag} {mg : Str → Option Value} {base : Heap} {Tb : List (Addr × Str)}
/-- a def's body runs as its translation -/
theorem fn_ok {x qual : Str} {st : Stmt} {f : Addr} {fd : FuncData} {N ps : List Str} {n : Nat} {cl : Cl} {g : FnIR} (Fn : Fun K x qual st f fd) (S : FnScope N ps (defScope st)) (hp : g.np = ps.length) (hN : g.nl = N.length)
    (hb : ∀ (cdv : Value) (A : Around) (outer : List Env) (s : Shared) (H : Hp) (E : XK) (σ0 : Sg), Room n (A.deeper (envOfC qual (defScope st) s.heap.objs.size f cdv)) →
      SSs (cxOf (L2.CX P w) P w K mg base N qual (defScope st) f cdv A outer s H E) Tb ⟨σ0, nofx, []⟩ (fun cls d _ H' => E cls d H') cl (defBody st) g.body) :
    FnOk P w K mg base (L2.CX P w) (n + 1) f fd ps (spIR ⟨K, w, mg, Tb⟩ (runF cl g)) := by
  have hlen : ∀ {o : Option Ob} {ds : List D} {ad : Option Addr} {us : List V} {G F H : Hp} {Q : VK} {E : XK}, IoR ⟨K, w, mg, Tb⟩ F H ad o → RpAll K F ds us → FrGood ⟨K, w, mg, Tb⟩ G F ad Q E (runF cl g o ds) → (o.isSome = g.io ∧ (envI g o ds).length = g.nl ∧ g.np ≤ g.nl) ∧ (adV ad ++ us).length = ps.length := by
    intro o ds ad us G F H Q E io ra fg
    unfold runF at fg
    split at fg
    · rename_i c
      refine ⟨c, ?_⟩
      have := envI_len c.2.1 c.2.2
      have l := ra.length
      rw [← hp, ← this, List.length_append, l]
      cases o <;> cases ad <;> first | exact io.elim | rfl
    · exact (show False from fg).elim
  refine Fn.okX S (fun vs H Q E h => ?_) (fun cdv A outer s H vs Q E hr h => ?_)
  · obtain ⟨G, F, ad, o, ds, us, rfl, gd, io, ga, ra, fg⟩ := h
    exact (hlen io ra fg).2
  · obtain ⟨G, F, ad, o, ds, us, rfl, gd, io, ga, ra, fg⟩ := h
    obtain ⟨⟨c1, c2, c3⟩, c4⟩ := hlen io ra fg
    refine ⟨_, hb cdv A outer s H E (L2.start N (adV ad ++ us)) hr, G, F, envI g o ds, rel_start gd io ga ra c2 c3 hN (by rw [c4, hp]), ?_⟩
    unfold runF at fg
    rw [if_pos ⟨c1, c2, c3⟩] at fg
    cases hx : evS cl g.body (envI g o ds) with
    | bad => rw [hx] at fg; exact fg
    | exc c env =>
      rw [hx] at fg
      intro cls d σ' H' F' gr R x
      unfold fin at fg
      simp only at fg
      split at fg
      · rename_i z hz
        exact fg cls d H' F' gr R.grd (outIo_ok c1 io hz R) x
      · exact (show False from fg).elim
    | ok z =>
      obtain ⟨fl, env⟩ := z
      rw [hx] at fg
      intro σ' H' F' gr R
      cases fl with
      | nx =>
        unfold fin at fg
        simp only at fg
        split at fg
        · rename_i z hz
          exact fg .non H' F' gr R.grd (outIo_ok c1 io hz R) rfl
        · exact (show False from fg).elim
      | brk => exact (show False from fg).elim
      | ct => exact (show False from fg).elim
      | ret r =>
        intro v hv
        unfold fin at fg
        simp only at fg
        split at fg
        · rename_i z q hz hq
          exact fg v H' F' gr R.grd (outIo_ok c1 io hz R) (retV_ok c1 io hz R hq hv)
        · exact (show False from fg).elim
/-- a def of the program as row i of the table says -/
theorem row_ok {T : TabT} {i n m : Nat} {g : FnIR} {f : Addr} {fd : FuncData} {ps : List Str} (h : T i = some g) (F : FnOk P w K mg base (L2.CX P w) m f fd ps (spIR ⟨K, w, mg, Tb⟩ (runF (evF T n) g))) :
    FnOk P w K mg base (L2.CX P w) m f fd ps (spIR ⟨K, w, mg, Tb⟩ (evF T (n + 1) i)) := by
  have e : evF T (n + 1) i = runF (evF T n) g := by
    funext o ds
    show (match T.f i with | some f => runF (evF T n) f o ds | none => .bad) = _
    rw [h]
  rw [e]
  exact F
/-- nothing is promised at depth 0 -/
theorem row_zero {T : TabT} {i m : Nat} {f : Addr} {fd : FuncData} {ps : List Str} : FnOk P w K mg base (L2.CX P w) m f fd ps (spIR ⟨K, w, mg, Tb⟩ (evF T 0 i)) :=
  ⟨fun vs H Q E ⟨_, _, _, _, _, _, _, _, _, _, _, z⟩ => (show False from z).elim, fun A outer s H args us vs Q E _ _ _ _ ⟨_, _, _, _, _, _, _, _, _, _, _, z⟩ => (show False from z).elim⟩
end
end Pb

namespace Pb
open PySem PySem.Spec PyProof.Rows L2

/-! ### the operators by the names that the printer uses -/
section
variable {X : Cx} {n : Nat}
theorem ne_eq2 {a b : Str} : (!decide (a.cps.toList < b.cps.toList)) = !sLt a b := rfl
theorem oLt : OpR X (compareOp .Lt) (rCmpA (fun i j => decide (i < j)) sLt) := op_lt.or op_lt_str
theorem oLe : OpR X (compareOp .LtE) (rCmpA (fun i j => decide (i ≤ j)) fun i j => !sLt j i) := op_le.or op_le_str
theorem oGt : OpR X (compareOp .Gt) (rCmpA (fun i j => decide (j < i)) fun i j => sLt j i) := op_gt.or op_gt_str
theorem oGe : OpR X (compareOp .GtE) (rCmpA (fun i j => decide (j ≤ i)) fun i j => !sLt i j) := op_ge.or op_ge_str
theorem oIs : OpR X (compareOp .Is) rIsA := op_isN.or op_isBl
theorem oIsn : OpR X (compareOp .IsNot) rIsnA := op_notN.or op_notBl
theorem un65 (hr : Room n X.A) : X.A.units + 65 < cLine := by have := hr.un; omega
theorem oEq (hr : Room n X.A) : OpR X (compareOp .Eq) (rEqD X.K) := op_eqD hr.units
theorem oNe (hr : Room n X.A) : OpR X (compareOp .NotEq) (rNeD X.K) := op_neD hr.units
theorem oIn (hr : Room n X.A) : OpR X (compareOp .In) (rInA X.K false) := op_in_sign.or ((op_inD (un65 hr)).or op_in_seq)
theorem oNin (hr : Room n X.A) : OpR X (compareOp .NotIn) (rInA X.K true) := op_notIn_sign.or ((op_notInD (un65 hr)).or op_notIn_seq)
end

/-! ### what is known of the module -/
def GkK (K : PySem.W.Frag) (mg : Str → Option Value) (x : Str) (d : D) : Prop := ∃ u v, mg x = some u ∧ RelV v u ∧ ∀ F, Rp K F d v
def XCK (K : PySem.W.Frag) (mg : Str → Option Value) (x : Str) : Prop := ∃ (C : Addr), mg x = some (.ref C) ∧ PySem.W.excIn K C veB "ValueError.__new__" = true ∧ PySem.W.keepIn K (.ref C) = true ∧ PySem.W.subIn K (.ref C) (.type "BaseException") = some true ∧ PySem.W.typeIn K (.ref C) = some (.type "type")
/-- all defs of the table keep their promise at depth n -/
def AllOk (P : Program) (w : World) (K : PySem.W.Frag) (mg : Str → Option Value) (base : Heap) (Tb : List (Addr × Str)) (nm : Nat → Option Str) (T : TabT) (n : Nat) : Prop :=
  ∀ j x, nm j = some x → ∃ (f : Addr) (fd : FuncData) (ps : List Str), mg x = some (.ref f) ∧ PySem.W.keepIn K (.ref f) = true ∧ Binds K fd ps [] ∧ FnOk P w K mg base (L2.CX P w) (n + 2) f fd ps (spIR ⟨K, w, mg, Tb⟩ (evF T n j))
/-- a def of the table stands at its place -/
structure At (K : PySem.W.Frag) (mg : Str → Option Value) (x : Str) (st : Stmt) (ps : List Str) (f : Addr) (fd : FuncData) : Prop where
  fn : Fun K x x st f fd
  mgf : mg x = some (.ref f)
  kp : PySem.W.keepIn K (.ref f) = true
  bd : Binds K fd ps []
section
variable {P : Program} {w : World} {K : PySem.W.Frag} {mg : Str → Option Value} {base : Heap} {Tb : List (Addr × Str)} {nm : Nat → Option Str} {T : TabT} {n : Nat}
theorem At.row0 {x : Str} {st : Stmt} {ps : List Str} {f : Addr} {fd : FuncData} {j : Nat} (a : At K mg x st ps f fd) : ∃ (f : Addr) (fd : FuncData) (ps : List Str), mg x = some (.ref f) ∧ PySem.W.keepIn K (.ref f) = true ∧ Binds K fd ps [] ∧ FnOk P w K mg base (L2.CX P w) 2 f fd ps (spIR ⟨K, w, mg, Tb⟩ (evF T 0 j)) :=
  ⟨f, fd, ps, a.mgf, a.kp, a.bd, row_zero⟩
theorem At.row {x : Str} {st : Stmt} {ps : List Str} {f : Addr} {fd : FuncData} {j : Nat} {N : List Str} {g : FnIR} (a : At K mg x st ps f fd) (hT : T j = some g) (S : FnScope N ps (defScope st)) (hp : g.np = ps.length) (hN : g.nl = N.length)
    (hb : ∀ (cdv : Value) (A : Around) (outer : List Env) (s : Shared) (H : Hp) (E : XK) (σ0 : Sg), Room (n + 2) (A.deeper (envOfC x (defScope st) s.heap.objs.size f cdv)) →
      SSs (cxOf (L2.CX P w) P w K mg base N x (defScope st) f cdv A outer s H E) Tb ⟨σ0, nofx, []⟩ (fun cls d _ H' => E cls d H') (evF T n) (defBody st) g.body) :
    ∃ (f : Addr) (fd : FuncData) (ps : List Str), mg x = some (.ref f) ∧ PySem.W.keepIn K (.ref f) = true ∧ Binds K fd ps [] ∧ FnOk P w K mg base (L2.CX P w) (n + 1 + 2) f fd ps (spIR ⟨K, w, mg, Tb⟩ (evF T (n + 1) j)) :=
  ⟨f, fd, ps, a.mgf, a.kp, a.bd, row_ok hT (fn_ok a.fn S hp hN hb)⟩
end
end Pb
namespace Pb
open PySem PySem.Spec PyProof.Rows L2
def blkC (N : List Str) (sc scope : Scope) (own : List (Str × Nat)) : Bool :=
  decide (scope.kind = .function) && scope.names.all (fun y => decide (scope.names.lookup y.1 = some y.2)) && own.all (fun p => decide (N[p.2]? = some p.1)) &&
  scope.names.all (fun y => !decide (y.2 = .free) || (decide (sc.names.lookup y.1 = some .cell) || decide (sc.names.lookup y.1 = some .free))) &&
  scope.names.all (fun y => !(decide (y.2 = .local) || decide (y.2 = .cell)) || (decide (y.1 ∈ own.map (·.1)) || !decide (y.1 ∈ N)))
theorem blk_by {N : List Str} {sc scope : Scope} {own : List (Str × Nat)} (h : blkC N sc scope own = true) : BlkOk N sc scope own := by
  unfold blkC at h
  simp only [Bool.and_eq_true, List.all_eq_true, decide_eq_true_eq, Bool.or_eq_true, Bool.not_eq_true', decide_eq_false_iff_not] at h
  obtain ⟨⟨⟨⟨h1, h2⟩, h3⟩, h4⟩, h5⟩ := h
  refine ⟨h1, h2, h3, fun y hy e => ?_, fun y hy e => ?_⟩
  · rcases h4 y hy with q | q
    · exact absurd e q
    · exact q
  · rcases h5 y hy with q | q
    · rcases e with e | e <;> simp [e] at q
    · exact q
end Pb

namespace Pb
open PySem

/-! ### running the little language by hand -/
@[irreducible] def Sat {α : Type} (x : Res α) (Q : α → Prop) : Prop := match x with
  | .ok a => Q a
  | _ => False
@[irreducible] def SatF (x : FR) (Q : RV → Option Ob → Prop) : Prop := match x with
  | .ok r io => Q r io
  | _ => False
theorem satF_ok {r : RV} {io : Option Ob} {Q : RV → Option Ob → Prop} : SatF (.ok r io) Q = Q r io := by unfold SatF; rfl
theorem satF_exc {c : Exc} {io : Option Ob} {Q : RV → Option Ob → Prop} : SatF (.exc c io) Q = False := by unfold SatF; rfl
theorem satF_bad {Q : RV → Option Ob → Prop} : SatF .bad Q = False := by unfold SatF; rfl
section
variable {α β : Type} {Q : α → Prop} {cl : Cl} {env : En}
@[simp] theorem sat_ok {a : α} : Sat (.ok a) Q = Q a := by unfold Sat; rfl
@[simp] theorem sat_bad : Sat (.bad : Res α) Q = False := by unfold Sat; rfl
@[simp] theorem sat_exc {c : Exc} : Sat (.exc c env : Res α) Q = False := by unfold Sat; rfl
@[simp] theorem sat_bind {x : Res β} {f : β → Res α} : Sat (x.bind f) Q = Sat x fun a => Sat (f a) Q := by cases x <;> (unfold Sat; rfl)
theorem Sat.mono {Q' : α → Prop} {x : Res α} (h : Sat x Q) (k : ∀ a, Q a → Q' a) : Sat x Q' := by
  cases x with
  | ok a => exact sat_ok (Q := Q') ▸ k a (sat_ok (Q := Q) ▸ h)
  | exc c e => exact (sat_exc (Q := Q) ▸ h : False).elim
  | bad => exact (sat_bad (Q := Q) ▸ h : False).elim
theorem SatF.mono {Q Q' : RV → Option Ob → Prop} {x : FR} (h : SatF x Q) (k : ∀ a b, Q a b → Q' a b) : SatF x Q' := by
  cases x with
  | ok a b => exact satF_ok (Q := Q') ▸ k a b (satF_ok (Q := Q) ▸ h)
  | exc c io => exact (satF_exc (Q := Q) ▸ h : False).elim
  | bad => exact (satF_bad (Q := Q) ▸ h : False).elim
@[simp] theorem sat_ite {c : Prop} [Decidable c] {x y : Res α} : Sat (if c then x else y) Q = if c then Sat x Q else Sat y Q := by split <;> rfl
theorem Sat.get {x : Res α} (h : Sat x Q) : ∃ a, x = .ok a ∧ Q a := by
  cases x with
  | ok a => exact ⟨a, rfl, sat_ok (Q := Q) ▸ h⟩
  | exc c e => exact (sat_exc (Q := Q) ▸ h : False).elim
  | bad => exact (sat_bad (Q := Q) ▸ h : False).elim
theorem SatF.get {Q : RV → Option Ob → Prop} {x : FR} (h : SatF x Q) : ∃ a b, x = .ok a b ∧ Q a b := by
  cases x with
  | ok a b => exact ⟨a, b, rfl, satF_ok (Q := Q) ▸ h⟩
  | exc c io => exact (satF_exc (Q := Q) ▸ h : False).elim
  | bad => exact (satF_bad (Q := Q) ▸ h : False).elim
end
/-! the letters of the operations -/
@[simp] theorem o1_up : O1.f .up = fUp := rfl
@[simp] theorem o1_str_ : O1.f .str_ = fStr := rfl
@[simp] theorem o1_neg : O1.f .neg = fNeg := rfl
@[simp] theorem o1_len : O1.f .len = fLen := rfl
@[simp] theorem o1_abs : O1.f .abs = fAbs := rfl
@[simp] theorem o1_list : O1.f .list = fList := rfl
@[simp] theorem o1_tup : O1.f .tup = fTup := rfl
@[simp] theorem o1_all : O1.f .all = fAll := rfl
@[simp] theorem o1_sum : O1.f .sum = fSum := rfl
@[simp] theorem o1_max : O1.f .max = fMax := rfl
@[simp] theorem o1_min : O1.f .min = fMin := rfl
@[simp] theorem o1_intc : O1.f .intc = fIntc := rfl
@[simp] theorem o1_rev : O1.f .rev = fRev := rfl
@[simp] theorem o1_srtSet : O1.f .srtSet = fSrtSet := rfl
@[simp] theorem o1_minD : O1.f .minD = fMinD := rfl
@[simp] theorem o1_srtD : O1.f .srtD = fSrtD := rfl
@[simp] theorem o1_srtDT : O1.f .srtDT = fSrtDT := rfl
@[simp] theorem fSrtDT_t {ds : List D} : fSrtDT (.tuple ds) = fSrtD (.list ds) := rfl
@[simp] theorem o1_tupRg : O1.f .tupRg = fTupRg := rfl
@[simp] theorem o1_srtTx : O1.f .srtTx = fSrtTx := rfl
@[simp] theorem fTupRg_i {n : Int} : fTupRg (.int n) = if rngOk n = true then some (.ntup (rngD 0 n)) else none := rfl
@[simp] theorem o2_add : O2.f .add = fAdd := rfl
@[simp] theorem o2_sub : O2.f .sub = fSub := rfl
@[simp] theorem o2_mul : O2.f .mul = fMul := rfl
@[simp] theorem o2_mod : O2.f .mod = fMod := rfl
@[simp] theorem o2_div : O2.f .div = fDiv := rfl
@[simp] theorem o2_pow : O2.f .pow = fPow := rfl
@[simp] theorem o2_eq : O2.f .eq = fEq := rfl
@[simp] theorem o2_ne : O2.f .ne = fNe := rfl
@[simp] theorem o2_lt : O2.f .lt = fLt := rfl
@[simp] theorem o2_le : O2.f .le = fLe := rfl
@[simp] theorem o2_gt : O2.f .gt = fGt := rfl
@[simp] theorem o2_ge : O2.f .ge = fGe := rfl
@[simp] theorem o2_is_ : O2.f .is_ = fIs := rfl
@[simp] theorem o2_isn : O2.f .isn = fIsn := rfl
@[simp] theorem o2_in_ : O2.f .in_ = fIn false := rfl
@[simp] theorem o2_nin : O2.f .nin = fIn true := rfl
@[simp] theorem o2_ix : O2.f .ix = fIx := rfl
@[simp] theorem o2_max2 : O2.f .max2 = fMax2 := rfl
@[simp] theorem o2_min2 : O2.f .min2 = fMin2 := rfl
@[simp] theorem o2_slcL : O2.f .slcL = fSlcL := rfl
@[simp] theorem o2_slcH : O2.f .slcH = fSlcH := rfl
@[simp] theorem setRV_val {i : Nat} {d : D} {env : En} : setRV i (.val d) env = if isInn env[i]? then none else some (env.set i (.val d)) := rfl
@[simp] theorem setRV_fresh {i : Nat} {o : Ob} {env : En} : setRV i (.fresh o) env = if isInn env[i]? then none else some (env.set i (.own o)) := rfl
@[simp] theorem setRV_slot {i j : Nat} {env : En} : setRV i (.slot j) env = if isInn env[i]? then none else (frz env (.slot j)).map fun z => z.2.set i (.val z.1) := rfl
@[simp] theorem isInn_non : isInn (some .non) = false := rfl
@[simp] theorem isInn_val {d : D} : isInn (some (.val d)) = false := rfl
@[simp] theorem isInn_own {o : Ob} : isInn (some (.own o)) = false := rfl
@[simp] theorem isInn_inn {o : Ob} : isInn (some (.inn o)) = true := rfl
@[simp] theorem isInn_none : isInn none = false := rfl
@[simp] theorem isOwnB_non : isOwnB (some .non) = false := rfl
@[simp] theorem isOwnB_val {d : D} : isOwnB (some (.val d)) = false := rfl
@[simp] theorem isOwnB_own {o : Ob} : isOwnB (some (.own o)) = true := rfl
@[simp] theorem isOwnB_inn {o : Ob} : isOwnB (some (.inn o)) = true := rfl
@[simp] theorem slOb_own {o : Ob} : slOb (.own o) = some o := rfl
@[simp] theorem slOb_inn {o : Ob} : slOb (.inn o) = some o := rfl
@[simp] theorem putOb_own {o q : Ob} : putOb (.own q) o = .own o := rfl
@[simp] theorem putOb_inn {o q : Ob} : putOb (.inn q) o = .inn o := rfl
def lstO : Option Sl → Option (Sl × List D)
  | some (.own (.lst ds)) => some (.own (.lst ds), ds)
  | some (.inn (.lst ds)) => some (.inn (.lst ds), ds)
  | _ => none
@[simp] theorem lstAt_eq {env : En} {i : Nat} : lstAt env i = lstO env[i]? := rfl
@[simp] theorem lstO_own {ds : List D} : lstO (some (.own (.lst ds))) = some (.own (.lst ds), ds) := rfl
@[simp] theorem lstO_inn {ds : List D} : lstO (some (.inn (.lst ds))) = some (.inn (.lst ds), ds) := rfl
@[simp] theorem lstO_val {d : D} : lstO (some (.val d)) = none := rfl
@[simp] theorem putS_i {i : Nat} {d : D} {n : Int} {env : En} : putS i d (.val (.int n)) env = match lstAt env i with
  | some (s, ds) => (L2.ixN ds.length n).map fun j => env.set i (putOb s (.lst (ds.set j d)))
  | none => none := by
  unfold putS
  cases lstAt env i <;> rfl
@[simp] theorem appS_eq {i : Nat} {d : D} {env : En} : appS i d env = match lstAt env i with
  | some (s, ds) => if ds.length < big then some (env.set i (putOb s (.lst (ds ++ [d])))) else none
  | none => none := by
  unfold appS
  cases lstAt env i <;> rfl
@[simp] theorem asgT_nm {i : Nat} {d : D} {env : En} : asgT (.nm i) d env = if isInn env[i]? then none else some (env.set i (.val d)) := rfl
@[simp] theorem asgT_tp {is : List Nat} {ds : List D} {env : En} : asgT (.tp is) (.tuple ds) env = setAll is ds env := rfl
@[simp] theorem setAll_n {env : En} : setAll [] [] env = some env := rfl
@[simp] theorem setAll_c {i : Nat} {is : List Nat} {d : D} {ds : List D} {env : En} : setAll (i :: is) (d :: ds) env = if isInn env[i]? then none else setAll is ds (env.set i (.val d)) := rfl
theorem ixN_nat {n k : Nat} : L2.ixN n (k : Int) = if k < n then some k else none := by
  unfold L2.ixN
  by_cases h : k < n
  · have h2 : (0 : Int) ≤ k ∧ (k : Int) < n := by omega
    simp [h2.1, h2.2, h]
  · simp [h]
@[simp] theorem ixN_2 {n : Nat} : L2.ixN n 2 = if 2 < n then some 2 else none := ixN_nat (k := 2)
@[simp] theorem ixN_3 {n : Nat} : L2.ixN n 3 = if 3 < n then some 3 else none := ixN_nat (k := 3)
@[simp] theorem ixN_4 {n : Nat} : L2.ixN n 4 = if 4 < n then some 4 else none := ixN_nat (k := 4)
@[simp] theorem ixN_0 {n : Nat} : L2.ixN n 0 = if 0 < n then some 0 else none := ixN_nat (k := 0)
@[simp] theorem ixN_1 {n : Nat} : L2.ixN n 1 = if 1 < n then some 1 else none := ixN_nat (k := 1)
@[simp] theorem retV_val {env : En} {d : D} : retV env (.val d) = some (.val d) := rfl
@[simp] theorem retV_fresh {env : En} {o : Ob} : retV env (.fresh o) = some (.fresh o) := rfl
@[simp] theorem retV_slot {env : En} {i : Nat} : retV env (.slot i) = match env[i]? with
  | some (.own o) => some (.fresh o)
  | _ => none := rfl
@[simp] theorem wipeE_n {env : En} : wipeE env [] = env := rfl
@[simp] theorem wipeE_c {env : En} {v : Nat} {vs : List Nat} : wipeE env (v :: vs) = (wipeE env vs).set v .non := rfl
@[simp] theorem backE_n {env s : En} : backE env s [] = env := rfl
@[simp] theorem backE_c {env s : En} {v : Nat} {vs : List Nat} : backE env s (v :: vs) = (backE env s vs).set v (s.getD v .non) := rfl
@[simp] theorem envI_n {f : FnIR} {ds : List D} : envI f none ds = ds.map Sl.val ++ List.replicate (f.nl - f.np) Sl.non := rfl
@[simp] theorem envI_s {f : FnIR} {o : Ob} {ds : List D} : envI f (some o) ds = Sl.inn o :: (ds.map Sl.val ++ List.replicate (f.nl - f.np) Sl.non) := rfl
/-! equal data -/
mutual
def nod : D → Bool
  | .dict _ => false
  | .list xs => nodA xs
  | .tuple xs => nodA xs
  | _ => true
def nodA : List D → Bool
  | [] => true
  | x :: xs => nod x && nodA xs
end
mutual
theorem eqv_same : ∀ d : D, nod d = true → PyData.eqv d d = true
  | .none, _ => rfl
  | .bool b, _ => by simp [PyData.eqv]
  | .int i, _ => by simp [PyData.eqv]
  | .str x, _ => by simp [PyData.eqv]
  | .list xs, h => by rw [PyData.eqv]; exact eqvAll_same xs h
  | .tuple xs, h => by rw [PyData.eqv]; exact eqvAll_same xs h
  | .dict _, h => nomatch h
theorem eqvAll_same : ∀ xs : List D, nodA xs = true → PyData.eqvAll xs xs = true
  | [], _ => rfl
  | x :: xs, h => by
    unfold nodA at h
    rw [Bool.and_eq_true] at h
    rw [PyData.eqvAll, eqv_same x h.1, eqvAll_same xs h.2]; rfl
end
theorem depthAll_le {k : Nat} : ∀ {xs : List D}, (∀ x ∈ xs, x.depth ≤ k) → PyData.depthAll xs ≤ k
  | [], _ => by simp [PyData.depthAll]
  | x :: xs, h => by
    unfold PyData.depthAll
    exact Nat.max_le.mpr ⟨h x (by simp), depthAll_le fun y hy => h y (by simp [hy])⟩
theorem nodA_all : ∀ {xs : List D}, (∀ x ∈ xs, nod x = true) → nodA xs = true
  | [], _ => rfl
  | x :: xs, h => by
    unfold nodA
    rw [h x (by simp), nodA_all fun y hy => h y (by simp [hy])]
    rfl
theorem fEq_same {d : D} (h : nod d = true) (h2 : d.depth ≤ 64) : fEq d d = some (.dat (.bool true)) := by
  unfold fEq
  rw [if_pos ⟨h2, h2⟩, eqv_same d h]
  rfl
theorem fNe_same {d : D} (h : nod d = true) (h2 : d.depth ≤ 64) : fNe d d = some (.dat (.bool false)) := by
  unfold fNe
  rw [if_pos ⟨h2, h2⟩, eqv_same d h]
  rfl
section
variable {Q : RV × En → Prop} {cl : Cl} {env : En} {d : D} {i j : Int} {x y : Str} {ds es : List D}
/-! operations -/
@[simp] theorem sat_res {o : OV} : Sat (resOV (some o) env) Q = Q (o.rv, env) := sat_ok
@[simp] theorem sat_res0 : Sat (resOV none env) Q = False := sat_bad
@[simp] theorem res_ite {c : Prop} [Decidable c] {o p : Option OV} : resOV (if c then o else p) env = if c then resOV o env else resOV p env := by split <;> rfl
@[simp] theorem rv_dat : (OV.dat d).rv = .val d := rfl
@[simp] theorem rv_tup : (OV.ntup ds).rv = .val (.tuple ds) := rfl
@[simp] theorem rv_lst : (OV.nlst ds).rv = .fresh (.lst ds) := rfl
@[simp] theorem sat_ap1 {f : D → Option OV} {r : RV} : Sat (ap1 f r env) Q = Sat (resOV ((rd env r).bind f) env) Q := rfl
@[simp] theorem sat_ap2 {f : D → D → Option OV} {r s : RV} : Sat (ap2 f r s env) Q = Sat (resOV ((rd env r).bind fun x => (rd env s).bind fun y => f x y) env) Q := rfl
@[simp] theorem rd_val : rd env (.val d) = some d := rfl
@[simp] theorem rd_fresh : rd env (.fresh (.lst ds)) = some (.list ds) := rfl
def rdS : Option Sl → Option D
    | some (.val d) => some d
    | some (.own o) => obRd o
    | some (.inn o) => obRd o
    | _ => none
@[simp] theorem rd_slot {k : Nat} : rd env (.slot k) = rdS env[k]? := rfl
@[simp] theorem rdS_val : rdS (some (.val d)) = some d := rfl
@[simp] theorem rdS_own : rdS (some (.own (.lst ds))) = some (.list ds) := rfl
@[simp] theorem rdS_inn : rdS (some (.inn (.lst ds))) = some (.list ds) := rfl
@[simp] theorem obRd_lst : obRd (.lst ds) = some (.list ds) := rfl
@[simp] theorem obD_lst : obD (.lst ds) = some (.list ds) := rfl
@[simp] theorem frz_val : frz env (.val d) = some (d, env) := rfl
@[simp] theorem frz_fresh : frz env (.fresh (.lst ds)) = some (.list ds, env) := rfl
@[simp] theorem frz_slot {k : Nat} : frz env (.slot k) = match env[k]? with
    | some (.val d) => some (d, env)
    | some (.own o) => (obD o).map fun d => (d, env.set k (.val d))
    | _ => none := rfl
@[simp] theorem fAdd_i : fAdd (.int i) (.int j) = some (.dat (.int (i + j))) := rfl
@[simp] theorem fAdd_b {b : Bool} : fAdd (.bool b) (.int j) = some (.dat (.int (b2I b + j))) := rfl
@[simp] theorem fSub_b {b : Bool} : fSub (.bool b) (.int j) = some (.dat (.int (b2I b - j))) := rfl
@[simp] theorem fAdd_l : fAdd (.list ds) (.list es) = if ds.length + es.length ≤ big then some (.nlst (ds ++ es)) else none := rfl
@[simp] theorem fAdd_t : fAdd (.tuple ds) (.tuple es) = if ds.length + es.length ≤ big then some (.ntup (ds ++ es)) else none := rfl
@[simp] theorem fAdd_s : fAdd (.str x) (.str y) = if x.length + y.length ≤ big then some (.dat (.str (x ++ y))) else none := rfl
@[simp] theorem fSub_i : fSub (.int i) (.int j) = some (.dat (.int (i - j))) := rfl
@[simp] theorem fMul_i : fMul (.int i) (.int j) = if (-(2 ^ 64) < i ∧ i < 2 ^ 64) ∨ (-(2 ^ 64) < j ∧ j < 2 ^ 64) then some (.dat (.int (i * j))) else none := rfl
@[simp] theorem fMul_t : fMul (.tuple ds) (.int j) = if 2 ≤ j ∧ j ≤ 1000 ∧ ds.length ≤ 1000 ∧ ds ≠ [] then some (.ntup (List.replicate j.toNat ds).flatten) else none := rfl
@[simp] theorem fMod_i : fMod (.int i) (.int j) = if 0 < j then some (.dat (.int (i % j))) else none := rfl
@[simp] theorem fDiv_i : fDiv (.int i) (.int j) = if 0 < j ∧ j < 1073741824 then some (.dat (.int (i / j))) else none := rfl
@[simp] theorem fPow_i : fPow (.int i) (.int j) = if 0 ≤ j ∧ j ≤ 1000000 ∧ i.natAbs < 2 ^ 64 then some (.dat (.int (i ^ j.toNat))) else none := rfl
@[simp] theorem fEq_i : fEq (.int i) (.int j) = some (.dat (.bool (decide (i = j)))) := by
  show (if (PyData.int i).depth ≤ 64 ∧ (PyData.int j).depth ≤ 64 then _ else _) = _
  rw [if_pos ⟨by simp [PyData.depth], by simp [PyData.depth]⟩]
  rfl
@[simp] theorem fNe_i : fNe (.int i) (.int j) = some (.dat (.bool (!decide (i = j)))) := by
  show (if (PyData.int i).depth ≤ 64 ∧ (PyData.int j).depth ≤ 64 then _ else _) = _
  rw [if_pos ⟨by simp [PyData.depth], by simp [PyData.depth]⟩]
  rfl
@[simp] theorem fEq_s : fEq (.str x) (.str y) = some (.dat (.bool (x == y))) := by
  show (if (PyData.str x).depth ≤ 64 ∧ (PyData.str y).depth ≤ 64 then _ else _) = _
  rw [if_pos ⟨by simp [PyData.depth], by simp [PyData.depth]⟩]
  simp [PyData.eqv, oBl]
@[simp] theorem fNe_s : fNe (.str x) (.str y) = some (.dat (.bool (!(x == y)))) := by
  show (if (PyData.str x).depth ≤ 64 ∧ (PyData.str y).depth ≤ 64 then _ else _) = _
  rw [if_pos ⟨by simp [PyData.depth], by simp [PyData.depth]⟩]
  simp [PyData.eqv, oBl]
@[simp] theorem fNe_b {a b : Bool} : fNe (.bool a) (.bool b) = some (.dat (.bool (!(a == b)))) := by
  show (if (PyData.bool a).depth ≤ 64 ∧ (PyData.bool b).depth ≤ 64 then _ else _) = _
  rw [if_pos ⟨by simp [PyData.depth], by simp [PyData.depth]⟩]
  rfl
theorem fNe_nil {ds : List D} (h : (PyData.list ds).depth ≤ 64) : fNe (.list ds) (.list []) = some (.dat (.bool (!ds.isEmpty))) := by
  unfold fNe
  rw [if_pos ⟨h, by simp [PyData.depth, PyData.depthAll]⟩]
  cases ds <;> rfl
@[simp] theorem fLt_i : fLt (.int i) (.int j) = some (.dat (.bool (decide (i < j)))) := rfl
@[simp] theorem fLe_i : fLe (.int i) (.int j) = some (.dat (.bool (decide (i ≤ j)))) := rfl
@[simp] theorem fGt_i : fGt (.int i) (.int j) = some (.dat (.bool (decide (j < i)))) := rfl
@[simp] theorem fGe_i : fGe (.int i) (.int j) = some (.dat (.bool (decide (j ≤ i)))) := rfl
@[simp] theorem fLt_s : fLt (.str x) (.str y) = some (.dat (.bool (sLt x y))) := rfl
@[simp] theorem fLe_s : fLe (.str x) (.str y) = some (.dat (.bool (!sLt y x))) := rfl
@[simp] theorem fGt_s : fGt (.str x) (.str y) = some (.dat (.bool (sLt y x))) := rfl
@[simp] theorem fGe_s : fGe (.str x) (.str y) = some (.dat (.bool (!sLt x y))) := rfl
@[simp] theorem fIs_n {d : D} : fIs d .none = some (.dat (.bool (isNn d))) := by cases d <;> rfl
@[simp] theorem fIsn_n {d : D} : fIsn d .none = some (.dat (.bool (!isNn d))) := by cases d <;> rfl
@[simp] theorem fIs_b {a b : Bool} : fIs (.bool a) (.bool b) = some (.dat (.bool (a == b))) := rfl
@[simp] theorem isNn_n : isNn .none = true := rfl
@[simp] theorem isNn_i : isNn (.int i) = false := rfl
@[simp] theorem isNn_b {b : Bool} : isNn (.bool b) = false := rfl
@[simp] theorem isNn_s : isNn (.str x) = false := rfl
@[simp] theorem isNn_t : isNn (.tuple ds) = false := rfl
@[simp] theorem isNn_l : isNn (.list ds) = false := rfl
@[simp] theorem fIx_l : fIx (.list ds) (.int i) = (L2.atI ds i).map .dat := rfl
@[simp] theorem fIx_t : fIx (.tuple ds) (.int i) = (L2.atI ds i).map .dat := rfl
@[simp] theorem fNeg_i : fNeg (.int i) = some (.dat (.int (-i))) := rfl
@[simp] theorem fNeg_b {b : Bool} : fNeg (.bool b) = some (.dat (.int (-(b2I b)))) := rfl
@[simp] theorem fStr_i : fStr (.int i) = if i.natAbs.log2 < 1920 then some (.dat (.str (toString i))) else none := rfl
@[simp] theorem fStr_b {b : Bool} : fStr (.bool b) = some (.dat (.str (if b = true then "True" else "False"))) := rfl
@[simp] theorem fUp_s : fUp (.str x) = if x.length ≤ big ∧ x.cps.toList.all (· < 128) then some (.dat (.str ⟨x.cps.map PyProof.Rows.up1⟩)) else none := rfl
@[simp] theorem fSlcH_s : fSlcH (.str x) (.int i) = if x.length ≤ big then some (.dat (.str (L2.cutS x none (some i)))) else none := rfl
@[simp] theorem fRev_l0 : fRev (.list ds) = some (.nlst ds.reverse) := rfl
@[simp] theorem fSrtSet_l : fSrtSet (.list ds) = (asInts ds).bind fun ns => if ns.length ≤ 4000 ∧ (srtI ns).length < 64 then some (.nlst ((srtI ns).map .int)) else none := rfl
@[simp] theorem fLen_l : fLen (.list ds) = some (.dat (.int ds.length)) := rfl
@[simp] theorem fLen_t : fLen (.tuple ds) = some (.dat (.int ds.length)) := rfl
@[simp] theorem fLen_s : fLen (.str x) = if x.length ≤ big then some (.dat (.int x.length)) else none := rfl
@[simp] theorem fAbs_i : fAbs (.int i) = some (.dat (.int (if i < 0 then -i else i))) := rfl
@[simp] theorem fList_l : fList (.list ds) = some (.nlst ds) := rfl
@[simp] theorem fList_t : fList (.tuple ds) = some (.nlst ds) := rfl
@[simp] theorem fTup_l : fTup (.list ds) = some (.ntup ds) := rfl
@[simp] theorem fTup_t : fTup (.tuple ds) = some (.ntup ds) := rfl
@[simp] theorem fAll_l : fAll (.list ds) = (asBls ds).map fun bs => .dat (.bool (bs.all id)) := rfl
@[simp] theorem fMax2_i : fMax2 (.int i) (.int j) = some (.dat (.int (max i j))) := by
  show some (OV.dat (.int (if j > i then j else i))) = _
  congr 3
  rw [Int.max_def]
  split <;> split <;> omega
@[simp] theorem fMin2_i : fMin2 (.int i) (.int j) = some (.dat (.int (min i j))) := by
  show some (OV.dat (.int (if j < i then j else i))) = _
  congr 3
  rw [Int.min_def]
  split <;> split <;> omega
@[simp] theorem fSlcL_l : fSlcL (.list ds) (.int i) = some (.nlst (cutD ds (some i) none)) := rfl
@[simp] theorem fSlcL_t : fSlcL (.tuple ds) (.int i) = some (.ntup (cutD ds (some i) none)) := rfl
@[simp] theorem fSlcH_l : fSlcH (.list ds) (.int i) = some (.nlst (cutD ds none (some i))) := rfl
@[simp] theorem fSlcH_t : fSlcH (.tuple ds) (.int i) = some (.ntup (cutD ds none (some i))) := rfl
theorem cut_lo {α : Type} {ds : List α} {k : Nat} : cutD ds (some (k : Int)) none = ds.drop k := by
  unfold cutD
  rw [HT.sIx_nat, HT.sIx_none]
  by_cases h : k ≤ ds.length
  · rw [Nat.min_eq_left h]
    exact List.take_of_length_le (by simp)
  · rw [Nat.min_eq_right (by omega), List.drop_eq_nil_of_le (Nat.le_refl _), List.drop_eq_nil_of_le (by omega)]
    simp
@[simp] theorem cut_1 {α : Type} {ds : List α} : cutD ds (some 1) none = ds.drop 1 := cut_lo (k := 1)
theorem cut_hi {α : Type} {ds : List α} {k : Nat} : cutD ds none (some (k : Int)) = ds.take k := by
  unfold cutD
  rw [HT.sIx_nat, HT.sIx_none]
  simp only [List.drop_zero, Nat.sub_zero]
  by_cases h : k ≤ ds.length
  · rw [Nat.min_eq_left h]
  · rw [Nat.min_eq_right (by omega), List.take_of_length_le (Nat.le_refl _), List.take_of_length_le (by omega)]
theorem atI_nat {α : Type} {ds : List α} {k : Nat} : L2.atI ds (k : Int) = ds[k]? := by
  unfold L2.atI L2.ixN
  by_cases h : k < ds.length
  · have h2 : (0 : Int) ≤ k ∧ (k : Int) < ds.length := by omega
    simp [h2.1, h2.2, h]
  · simp [h, List.getElem?_eq_none (Nat.le_of_not_lt h)]
@[simp] theorem atI_m1 {α : Type} {ds : List α} : L2.atI ds (-1) = ds.getLast? := by
  unfold L2.atI L2.ixN
  by_cases h : ds.length = 0
  · simp [h, List.length_eq_zero_iff.mp h]
  · have : ¬ (0 : Int) ≤ -1 := by decide
    have h2 : -(ds.length : Int) ≤ -1 := by omega
    simp [this, h2, List.getLast?_eq_getElem?]
    have : (-1 + (ds.length : Int)).toNat = ds.length - 1 := by omega
    simp [this]
@[simp] theorem atI_2 {α : Type} {ds : List α} : L2.atI ds 2 = ds[2]? := atI_nat (k := 2)
@[simp] theorem atI_3 {α : Type} {ds : List α} : L2.atI ds 3 = ds[3]? := atI_nat (k := 3)
@[simp] theorem atI_4 {α : Type} {ds : List α} : L2.atI ds 4 = ds[4]? := atI_nat (k := 4)
@[simp] theorem atI_5 {α : Type} {ds : List α} : L2.atI ds 5 = ds[5]? := atI_nat (k := 5)
@[simp] theorem atI_6 {α : Type} {ds : List α} : L2.atI ds 6 = ds[6]? := atI_nat (k := 6)
@[simp] theorem atI_7 {α : Type} {ds : List α} : L2.atI ds 7 = ds[7]? := atI_nat (k := 7)
@[simp] theorem atI_0 {α : Type} {ds : List α} : L2.atI ds 0 = ds[0]? := atI_nat (k := 0)
@[simp] theorem atI_1 {α : Type} {ds : List α} : L2.atI ds 1 = ds[1]? := atI_nat (k := 1)
/-! expressions: what is still to be done is written by words, not by functions -/
def kV (k : Nat) (env : En) (Q : RV × En → Prop) : Option Sl → Prop
  | some (.val d) => Q (.val d, env)
  | some (.own _) => Q (.slot k, env)
  | some (.inn _) => Q (.slot k, env)
  | some (.frd _) => Q (.slot k, env)
  | _ => False
@[simp] theorem kV_frd {k : Nat} {kvs : List (D × D)} : kV k env Q (some (.frd kvs)) = Q (.slot k, env) := rfl
@[simp] theorem kV_val {k : Nat} : kV k env Q (some (.val d)) = Q (.val d, env) := rfl
@[simp] theorem kV_own {k : Nat} {o : Ob} : kV k env Q (some (.own o)) = Q (.slot k, env) := rfl
@[simp] theorem kV_inn {k : Nat} {o : Ob} : kV k env Q (some (.inn o)) = Q (.slot k, env) := rfl
@[simp] theorem kV_non {k : Nat} : kV k env Q (some .non) = False := rfl
@[simp] theorem w_var {k : Nat} : Sat (evE cl (.var k) env) Q = kV k env Q env[k]? := by
  simp only [evE]
  cases h : env[k]? with
  | none => exact sat_bad
  | some s => cases s <;> first | exact sat_bad | exact sat_ok
@[simp] theorem w_con : Sat (evE cl (.con d) env) Q = Q (.val d, env) := by simp [evE]
@[simp] theorem w_glob : Sat (evE cl (.glob x d) env) Q = Q (.val d, env) := by simp [evE]
def k1 (f : D → Option OV) (Q : RV × En → Prop) : RV × En → Prop := fun x => Sat (ap1 f x.1 x.2) Q
@[simp] theorem k1_eq {f : D → Option OV} {r : RV} : k1 f Q (r, env) = Sat (resOV ((rd env r).bind f) env) Q := rfl
@[simp] theorem w_op1 {o : O1} {a : E} : Sat (evE cl (.op1 o a) env) Q = Sat (evE cl a env) (k1 o.f Q) := by simp only [evE, ev1, sat_bind]; rfl
def k2' (f : D → D → Option OV) (r : RV) (Q : RV × En → Prop) : RV × En → Prop := fun y => Sat (ap2 f r y.1 y.2) Q
def k2 (cl : Cl) (f : D → D → Option OV) (b : E) (Q : RV × En → Prop) : RV × En → Prop := fun x => Sat (evE cl b x.2) (k2' f x.1 Q)
@[simp] theorem k2_eq {f : D → D → Option OV} {b : E} {r : RV} : k2 cl f b Q (r, env) = Sat (evE cl b env) (k2' f r Q) := rfl
@[simp] theorem k2'_eq {f : D → D → Option OV} {r s : RV} : k2' f r Q (s, env) = Sat (resOV ((rd env r).bind fun x => (rd env s).bind fun y => f x y) env) Q := rfl
@[simp] theorem w_op2 {o : O2} {a b : E} : Sat (evE cl (.op2 o a b) env) Q = Sat (evE cl a env) (k2 cl o.f b Q) := by simp only [evE, ev2, sat_bind]; rfl
def isB (Q : Bool × En → Prop) : RV × En → Prop := fun y => match y.1 with
  | .val (.bool b) => Q (b, y.2)
  | _ => False
@[simp] theorem isB_b {Q : Bool × En → Prop} {b : Bool} : isB Q (.val (.bool b), env) = Q (b, env) := rfl
theorem sat_tst {Q : Bool × En → Prop} {x : Res (RV × En)} : Sat (tst x) Q = Sat x (isB Q) := by
  unfold tst
  rw [sat_bind]
  congr 1
  funext y
  obtain ⟨r, e⟩ := y
  cases r with
  | val d => cases d <;> (first | rfl | exact sat_ok | exact sat_bad)
  | _ => first | rfl | exact sat_ok | exact sat_bad
@[simp] theorem w_T {Q : Bool × En → Prop} {a : E} : Sat (evT cl a env) Q = Sat (evE cl a env) (isB Q) := sat_tst
def kCh2 (cl : Cl) (f : D → D → Option OV) (s : RV) (c : E) (Q : RV × En → Prop) : Bool × En → Prop := fun z => if z.1 = true then Sat (evE cl c z.2) (k2' f s Q) else Q (.val (.bool false), z.2)
def kCh1 (cl : Cl) (f g : D → D → Option OV) (r : RV) (c : E) (Q : RV × En → Prop) : RV × En → Prop := fun y => Sat (ap2 f r y.1 y.2) (isB (kCh2 cl g y.1 c Q))
def kCh (cl : Cl) (f g : D → D → Option OV) (b c : E) (Q : RV × En → Prop) : RV × En → Prop := fun x => Sat (evE cl b x.2) (kCh1 cl f g x.1 c Q)
@[simp] theorem kCh2_eq {f : D → D → Option OV} {s : RV} {c : E} {b : Bool} : kCh2 cl f s c Q (b, env) = if b = true then Sat (evE cl c env) (k2' f s Q) else Q (.val (.bool false), env) := rfl
@[simp] theorem kCh1_eq {f g : D → D → Option OV} {r s : RV} {c : E} : kCh1 cl f g r c Q (s, env) = Sat (resOV ((rd env r).bind fun x => (rd env s).bind fun y => f x y) env) (isB (kCh2 cl g s c Q)) := rfl
@[simp] theorem kCh_eq {f g : D → D → Option OV} {r : RV} {b c : E} : kCh cl f g b c Q (r, env) = Sat (evE cl b env) (kCh1 cl f g r c Q) := rfl
@[simp] theorem w_ch2 {o o2 : O2} {a b c : E} : Sat (evE cl (.ch2 o o2 a b c) env) Q = Sat (evE cl a env) (kCh cl o.f o2.f b c Q) := by
  simp only [evE, evCh2, lnk, sat_tst, sat_bind]
  congr 1
  funext x
  show _ = Sat (evE cl b x.2) (kCh1 cl o.f o2.f x.1 c Q)
  congr 1
  funext y
  show _ = Sat (ap2 o.f x.1 y.1 y.2) (isB (kCh2 cl o2.f y.1 c Q))
  congr 2
  funext z
  show _ = if z.1 = true then _ else _
  split <;> simp only [sat_bind, sat_ok] <;> (first | rfl | exact sat_ok | exact sat_bad)
def kAnd (cl : Cl) (b : E) (Q : RV × En → Prop) : Bool × En → Prop := fun z => if z.1 = true then Sat (evE cl b z.2) Q else Q (.val (.bool false), z.2)
def kOr (cl : Cl) (b : E) (Q : RV × En → Prop) : Bool × En → Prop := fun z => if z.1 = true then Q (.val (.bool true), z.2) else Sat (evE cl b z.2) Q
def kNot (Q : RV × En → Prop) : Bool × En → Prop := fun z => Q (.val (.bool (!z.1)), z.2)
def kIte (cl : Cl) (a b : E) (Q : RV × En → Prop) : Bool × En → Prop := fun z => if z.1 = true then Sat (evE cl a z.2) Q else Sat (evE cl b z.2) Q
@[simp] theorem kAnd_eq {b : E} {z : Bool} : kAnd cl b Q (z, env) = if z = true then Sat (evE cl b env) Q else Q (.val (.bool false), env) := rfl
@[simp] theorem kOr_eq {b : E} {z : Bool} : kOr cl b Q (z, env) = if z = true then Q (.val (.bool true), env) else Sat (evE cl b env) Q := rfl
@[simp] theorem kNot_eq {z : Bool} : kNot Q (z, env) = Q (.val (.bool (!z)), env) := rfl
@[simp] theorem kIte_eq {a b : E} {z : Bool} : kIte cl a b Q (z, env) = if z = true then Sat (evE cl a env) Q else Sat (evE cl b env) Q := rfl
@[simp] theorem w_and {a b : E} : Sat (evE cl (.and_ a b) env) Q = Sat (evE cl a env) (isB (kAnd cl b Q)) := by
  simp only [evE, evAnd, sat_tst, sat_bind, sat_ite, sat_ok]; rfl
@[simp] theorem w_or {a b : E} : Sat (evE cl (.or_ a b) env) Q = Sat (evE cl a env) (isB (kOr cl b Q)) := by
  simp only [evE, evOr, sat_tst, sat_bind, sat_ite, sat_ok]; rfl
@[simp] theorem w_not {a : E} : Sat (evE cl (.not_ a) env) Q = Sat (evE cl a env) (isB (kNot Q)) := by
  simp only [evE, evNot, sat_tst, sat_bind, sat_ite, sat_ok]; rfl
@[simp] theorem w_ite {a b c : E} : Sat (evE cl (.ite c a b) env) Q = Sat (evE cl c env) (isB (kIte cl a b Q)) := by
  simp only [evE, evIte, sat_tst, sat_bind, sat_ite, sat_ok]; rfl
def fIsi (t : Ty) (d : D) : Option OV := oBl (isiF t d)
@[simp] theorem fIsi_eq {t : Ty} : fIsi t d = some (.dat (.bool (isiF t d))) := rfl
def fIsi2 (t u : Ty) (d : D) : Option OV := oBl (isiF t d || isiF u d)
@[simp] theorem fIsi2_eq {t u : Ty} : fIsi2 t u d = some (.dat (.bool (isiF t d || isiF u d))) := rfl
@[simp] theorem w_isi2 {t u : Ty} {a : E} : Sat (evE cl (.isi2 t u a) env) Q = Sat (evE cl a env) (k1 (fIsi2 t u) Q) := by simp only [evE, ev1, sat_bind]; rfl
@[simp] theorem w_isi {t : Ty} {a : E} : Sat (evE cl (.isi t a) env) Q = Sat (evE cl a env) (k1 (fIsi t) Q) := by simp only [evE, ev1, sat_bind]; rfl
def kTup (Q : RV × En → Prop) : List D × En → Prop := fun x => if x.1.length ≤ big then Q (.val (.tuple x.1), x.2) else False
def kLst (Q : RV × En → Prop) : List D × En → Prop := fun x => if x.1.length ≤ big then Q (.fresh (.lst x.1), x.2) else False
@[simp] theorem kTup_eq : kTup Q (ds, env) = if ds.length ≤ big then Q (.val (.tuple ds), env) else False := rfl
@[simp] theorem kLst_eq : kLst Q (ds, env) = if ds.length ≤ big then Q (.fresh (.lst ds), env) else False := rfl
@[simp] theorem w_tup {a : Es} : Sat (evE cl (.tup a) env) Q = Sat (evEs cl a env) (kTup Q) := by
  simp only [evE, sat_bind, sat_ite, sat_ok, sat_bad]; rfl
@[simp] theorem w_lst {a : Es} : Sat (evE cl (.lst a) env) Q = Sat (evEs cl a env) (kLst Q) := by
  simp only [evE, sat_bind, sat_ite, sat_ok, sat_bad]; rfl
@[simp] theorem w_nil {Q : List D × En → Prop} : Sat (evEs cl .nil env) Q = Q ([], env) := by simp [evEs]
def isF (Q : D × En → Prop) : RV × En → Prop := fun y => match frz y.2 y.1 with
  | some z => Q z
  | none => False
def kFs (k : Nat) (env : En) (Q : D × En → Prop) : Option Sl → Prop
  | some (.val d) => Q (d, env)
  | some (.own (.lst ds)) => Q (.list ds, env.set k (.val (.list ds)))
  | _ => False
@[simp] theorem kFs_val {k : Nat} {Q : D × En → Prop} : kFs k env Q (some (.val d)) = Q (d, env) := rfl
@[simp] theorem kFs_own {k : Nat} {Q : D × En → Prop} : kFs k env Q (some (.own (.lst ds))) = Q (.list ds, env.set k (.val (.list ds))) := rfl
@[simp] theorem isF_val {Q : D × En → Prop} : isF Q (.val d, env) = Q (d, env) := rfl
@[simp] theorem isF_fresh {Q : D × En → Prop} : isF Q (.fresh (.lst ds), env) = Q (.list ds, env) := rfl
@[simp] theorem isF_slot {Q : D × En → Prop} {k : Nat} : isF Q (.slot k, env) = kFs k env Q env[k]? := by
  unfold isF
  simp only [frz_slot]
  cases h : env[k]? with
  | none => rfl
  | some s => cases s with
    | own o => cases o <;> (first | rfl | exact sat_ok | exact sat_bad)
    | _ => first | rfl | exact sat_ok | exact sat_bad
theorem sat_fz {Q : D × En → Prop} {x : Res (RV × En)} : Sat (fz x) Q = Sat x (isF Q) := by
  unfold fz
  rw [sat_bind]
  congr 1
  funext y
  unfold isF
  split <;> rename_i h <;> simp [h]
def kCons' (d : D) (Q : List D × En → Prop) : List D × En → Prop := fun y => Q (d :: y.1, y.2)
def kCons (cl : Cl) (b : Es) (Q : List D × En → Prop) : D × En → Prop := fun x => Sat (evEs cl b x.2) (kCons' x.1 Q)
@[simp] theorem kCons'_eq {Q : List D × En → Prop} : kCons' d Q (ds, env) = Q (d :: ds, env) := rfl
@[simp] theorem kCons_eq {b : Es} {Q : List D × En → Prop} : kCons cl b Q (d, env) = Sat (evEs cl b env) (kCons' d Q) := rfl
@[simp] theorem w_cons {Q : List D × En → Prop} {a : E} {b : Es} : Sat (evEs cl (.cons a b) env) Q = Sat (evE cl a env) (isF (kCons cl b Q)) := by
  simp only [evEs, sat_bind, sat_fz, sat_ok]; rfl
def kCall (cl : Cl) (f : Nat) (Q : RV × En → Prop) : List D × En → Prop := fun x => Sat (callE cl f x.1 x.2) Q
def kCallr (cl : Cl) (f k : Nat) (Q : RV × En → Prop) : List D × En → Prop := fun x => Sat (callR cl f k x.1 x.2) Q
def kPop (k : Nat) (Q : RV × En → Prop) : RV × En → Prop := fun x => Sat (popE k x.1 x.2) Q
@[simp] theorem kCall_eq {f : Nat} : kCall cl f Q (ds, env) = Sat (callE cl f ds env) Q := rfl
@[simp] theorem kCallr_eq {f k : Nat} : kCallr cl f k Q (ds, env) = Sat (callR cl f k ds env) Q := rfl
@[simp] theorem kPop_eq {k : Nat} {r : RV} : kPop k Q (r, env) = Sat (popE k r env) Q := rfl
@[simp] theorem w_call {f : Nat} {a : Es} : Sat (evE cl (.call f a) env) Q = Sat (evEs cl a env) (kCall cl f Q) := by simp only [evE, sat_bind]; rfl
@[simp] theorem w_callr {f k : Nat} {a : Es} : Sat (evE cl (.callr f k a) env) Q = if isOwnB env[k]? then Sat (evEs cl a env) (kCallr cl f k Q) else False := by simp only [evE, sat_bind, sat_ite, sat_bad]; rfl
@[simp] theorem w_pop {k : Nat} {a : E} : Sat (evE cl (.pop k a) env) Q = if (lstAt env k).isSome then Sat (evE cl a env) (kPop k Q) else False := by simp only [evE, sat_bind, sat_ite, sat_bad]; rfl
def kSB3 (r : RV) (i : Int) (Q : RV × En → Prop) : RV × En → Prop := fun x => match x.1 with
  | .val (.int j) => Sat (ap1 (fSlc (some i) (some j)) r x.2) Q
  | _ => False
def kSB2 (cl : Cl) (r : RV) (c : E) (Q : RV × En → Prop) : RV × En → Prop := fun x => match x.1 with
  | .val (.int i) => Sat (evE cl c x.2) (kSB3 r i Q)
  | _ => False
def kSB1 (cl : Cl) (b c : E) (Q : RV × En → Prop) : RV × En → Prop := fun x => Sat (evE cl b x.2) (kSB2 cl x.1 c Q)
@[simp] theorem kSB3_eq {r : RV} : kSB3 r i Q (.val (.int j), env) = Sat (resOV ((rd env r).bind (fSlc (some i) (some j))) env) Q := rfl
@[simp] theorem kSB2_eq {r : RV} {c : E} : kSB2 cl r c Q (.val (.int i), env) = Sat (evE cl c env) (kSB3 r i Q) := rfl
@[simp] theorem kSB1_eq {r : RV} {b c : E} : kSB1 cl b c Q (r, env) = Sat (evE cl b env) (kSB2 cl r c Q) := rfl
@[simp] theorem w_slcB {a b c : E} : Sat (evE cl (.slcB a b c) env) Q = Sat (evE cl a env) (kSB1 cl b c Q) := by
  simp only [evE, evSlcB, sat_bind]
  congr 1
  funext x
  show _ = Sat (evE cl b x.2) (kSB2 cl x.1 c Q)
  congr 1
  funext y
  obtain ⟨r, e⟩ := y
  cases r with
  | val d =>
    cases d with
    | int i =>
      simp only [sat_bind]
      show _ = Sat (evE cl c e) (kSB3 x.1 i Q)
      congr 1
      funext z
      obtain ⟨r2, e2⟩ := z
      cases r2 with
      | val d => cases d <;> (first | rfl | exact sat_ok | exact sat_bad)
      | _ => first | rfl | exact sat_ok | exact sat_bad
    | _ => first | rfl | exact sat_ok | exact sat_bad
  | _ => first | rfl | exact sat_ok | exact sat_bad
def kBlk (cl : Cl) (j : Nat) (Q : RV × En → Prop) : List D × En → Prop := fun x => Sat (cl.b j x.1 x.2) Q
@[simp] theorem kBlk_eq {j : Nat} : kBlk cl j Q (ds, env) = Sat (cl.b j ds env) Q := rfl
@[simp] theorem w_blk {j : Nat} {a : Es} : Sat (evE cl (.blk j a) env) Q = Sat (evEs cl a env) (kBlk cl j Q) := by simp only [evE, sat_bind]; rfl
def compS (cl : Cl) (elt : E) (tg : Tg) (c : E) (vs : List Nat) (ds : List D) (env : En) : Res (RV × En) := runComp (fun d e => mayB (asgT tg d e) fun e => tst (evE cl c e)) (fun e => fz (evE cl elt e)) vs ds env
def kComp (cl : Cl) (elt : E) (tg : Tg) (c : E) (vs : List Nat) (Q : RV × En → Prop) : List D × En → Prop := fun x => Sat (compS cl elt tg c vs x.1 x.2) Q
@[simp] theorem kComp_eq {elt c : E} {tg : Tg} {vs : List Nat} : kComp cl elt tg c vs Q (ds, env) = Sat (compS cl elt tg c vs ds env) Q := rfl
@[simp] theorem w_comp {elt c : E} {tg : Tg} {it : It} {vs : List Nat} : Sat (evE cl (.comp elt tg it c vs) env) Q = Sat (evI cl it env) (kComp cl elt tg c vs Q) := by simp only [evE, sat_bind]; rfl
end
section
variable {Q : List D × En → Prop} {cl : Cl} {env : En} {ds es : List D} {a b : E}
theorem mayB_s {α β : Type} {f : α → Res β} {x : α} : mayB (some x) f = f x := rfl
theorem mayB_n {α β : Type} {f : α → Res β} : mayB none f = .bad := rfl
def kL (sel : D → Option (List D)) (Q : List D × En → Prop) : D × En → Prop := fun x => match sel x.1 with
  | some ds => Q (ds, x.2)
  | none => False
@[simp] theorem kL_l : kL itL Q (.list ds, env) = Q (ds, env) := rfl
@[simp] theorem kL_t : kL itT Q (.tuple ds, env) = Q (ds, env) := rfl
@[simp] theorem kL_s {x : Str} : kL itS Q (.str x, env) = if x.length ≤ big then Q (x.cps.toList.map fun c => .str ⟨#[c]⟩, env) else False := by
  unfold kL itS
  simp only
  by_cases h : x.length ≤ big
  · simp [h]
  · simp [h]
theorem kL_may {sel : D → Option (List D)} {x : D × En} : Sat (mayB (sel x.1) fun ds => .ok (ds, x.2)) Q = kL sel Q x := by
  unfold kL
  cases sel x.1 <;> (first | rfl | exact sat_ok | exact sat_bad)
@[simp] theorem w_datL : Sat (evI cl (.datL a) env) Q = Sat (evE cl a env) (isF (kL itL Q)) := by simp only [evI, sat_bind, sat_fz, kL_may]
@[simp] theorem w_datT : Sat (evI cl (.datT a) env) Q = Sat (evE cl a env) (isF (kL itT Q)) := by simp only [evI, sat_bind, sat_fz, kL_may]
@[simp] theorem w_datS : Sat (evI cl (.datS a) env) Q = Sat (evE cl a env) (isF (kL itS Q)) := by simp only [evI, sat_bind, sat_fz, kL_may]
def isRg (Q : List D × En → Prop) : D × En → Prop := fun x => match x.1 with
  | .int j => if rngOk j then Q (rngD 0 j, x.2) else False
  | _ => False
@[simp] theorem isRg_i {j : Int} : isRg Q (.int j, env) = if rngOk j then Q (rngD 0 j, env) else False := rfl
@[simp] theorem w_rng1 : Sat (evI cl (.rng1 a) env) Q = Sat (evE cl a env) (isF (isRg Q)) := by
  simp only [evI, sat_bind, sat_fz]
  congr 2
  funext x
  obtain ⟨d, e⟩ := x
  cases d <;> first | exact sat_bad | (show Sat (if _ then _ else _) _ = _; rw [sat_ite, sat_ok, sat_bad]; rfl)
def kZ2 (sel : D → Option (List D)) (u : Option (List D)) (Q : List D × En → Prop) : D × En → Prop := fun y => match u, sel y.1 with
  | some ds, some es => Q (zipD ds es, y.2)
  | _, _ => False
def kZ (cl : Cl) (sel sel2 : D → Option (List D)) (b : E) (Q : List D × En → Prop) : D × En → Prop := fun x => Sat (evE cl b x.2) (isF (kZ2 sel2 (sel x.1) Q))
@[simp] theorem kZ_eq {sel sel2 : D → Option (List D)} {d : D} : kZ cl sel sel2 b Q (d, env) = Sat (evE cl b env) (isF (kZ2 sel2 (sel d) Q)) := rfl
@[simp] theorem kZ2_l : kZ2 itL (some ds) Q (.list es, env) = Q (zipD ds es, env) := rfl
@[simp] theorem kZ2_t : kZ2 itT (some ds) Q (.tuple es, env) = Q (zipD ds es, env) := rfl
@[simp] theorem itL_l : itL (.list ds) = some ds := rfl
@[simp] theorem itT_t : itT (.tuple ds) = some ds := rfl
theorem kZ_may {sel sel2 : D → Option (List D)} {x y : D × En} : Sat (mayB (sel x.1) fun ds => mayB (sel2 y.1) fun es => .ok (zipD ds es, y.2)) Q = kZ2 sel2 (sel x.1) Q y := by
  unfold kZ2
  cases sel x.1 with
  | none => first | rfl | exact sat_ok | exact sat_bad
  | some ds => cases h : sel2 y.1 <;> simp [mayB, h]
@[simp] theorem w_zipL : Sat (evI cl (.zipL a b) env) Q = Sat (evE cl a env) (isF (kZ cl itL itL b Q)) := by simp only [evI, sat_bind, sat_fz, kZ_may]; rfl
@[simp] theorem w_zipT : Sat (evI cl (.zipT a b) env) Q = Sat (evE cl a env) (isF (kZ cl itT itT b Q)) := by simp only [evI, sat_bind, sat_fz, kZ_may]; rfl
def kEn (sel : D → Option (List D)) (Q : List D × En → Prop) : D × En → Prop := fun x => match sel x.1 with
  | some ds => Q (enmD 0 ds, x.2)
  | none => False
@[simp] theorem kEn_l : kEn itL Q (.list ds, env) = Q (enmD 0 ds, env) := rfl
@[simp] theorem kEn_t : kEn itT Q (.tuple ds, env) = Q (enmD 0 ds, env) := rfl
theorem kEn_may {sel : D → Option (List D)} {x : D × En} : Sat (mayB (sel x.1) fun ds => .ok (enmD 0 ds, x.2)) Q = kEn sel Q x := by
  unfold kEn
  cases sel x.1 <;> (first | rfl | exact sat_ok | exact sat_bad)
@[simp] theorem w_enm : Sat (evI cl (.enm a) env) Q = Sat (evE cl a env) (isF (kEn itL Q)) := by simp only [evI, sat_bind, sat_fz, kEn_may]
@[simp] theorem w_enmT : Sat (evI cl (.enmT a) env) Q = Sat (evE cl a env) (isF (kEn itT Q)) := by simp only [evI, sat_bind, sat_fz, kEn_may]
end
section
variable {Q : Flow × En → Prop} {cl : Cl} {env : En} {d : D} {ds : List D} {a b : S} {e k : E}
/-! statements -/
def isN (cl : Cl) (b : S) (Q : Flow × En → Prop) : Flow × En → Prop := fun x => match x.1 with
  | .nx => Sat (evS cl b x.2) Q
  | f => Q (f, x.2)
@[simp] theorem isN_nx : isN cl b Q (.nx, env) = Sat (evS cl b env) Q := rfl
@[simp] theorem isN_ret {r : RV} : isN cl b Q (.ret r, env) = Q (.ret r, env) := rfl
@[simp] theorem w_skip : Sat (evS cl .skip env) Q = Q (.nx, env) := by simp [evS]
@[simp] theorem w_seq : Sat (evS cl (.seq a b) env) Q = Sat (evS cl a env) (isN cl b Q) := by
  simp only [evS, sat_bind]
  congr 1
  funext x
  obtain ⟨f, e⟩ := x
  cases f <;> (first | rfl | exact sat_ok | exact sat_bad)
def kNx (Q : Flow × En → Prop) : Option En → Prop
  | some e => Q (.nx, e)
  | none => False
@[simp] theorem kNx_s : kNx Q (some env) = Q (.nx, env) := rfl
@[simp] theorem kNx_n : kNx Q none = False := rfl
@[simp] theorem kNx_ite {c : Prop} [Decidable c] {x y : Option En} : kNx Q (if c then x else y) = if c then kNx Q x else kNx Q y := by split <;> (first | rfl | exact sat_ok | exact sat_bad)
theorem sat_nxt {o : Option En} : Sat (nxt o) Q = kNx Q o := by cases o <;> (first | rfl | exact sat_ok | exact sat_bad)
def kAsg (i : Nat) (Q : Flow × En → Prop) : RV × En → Prop := fun x => kNx Q (setRV i x.1 x.2)
@[simp] theorem kAsg_eq {i : Nat} {r : RV} : kAsg i Q (r, env) = kNx Q (setRV i r env) := rfl
@[simp] theorem w_asg {i : Nat} : Sat (evS cl (.asg i e) env) Q = Sat (evE cl e env) (kAsg i Q) := by simp only [evS, sat_bind, sat_nxt]; rfl
def kAsgT (tg : Tg) (Q : Flow × En → Prop) : D × En → Prop := fun x => kNx Q (asgT tg x.1 x.2)
@[simp] theorem kAsgT_eq {tg : Tg} : kAsgT tg Q (d, env) = kNx Q (asgT tg d env) := rfl
@[simp] theorem w_asgT {is : List Nat} : Sat (evS cl (.asgT is e) env) Q = Sat (evE cl e env) (isF (kAsgT (.tp is) Q)) := by simp only [evS, sat_bind, sat_nxt, sat_fz]; rfl
def isPar' (i j : Nat) (r : RV) (Q : Flow × En → Prop) : RV × En → Prop := fun y => match y.1 with
  | .slot _ => False
  | _ => kNx Q ((setRV i r y.2).bind (setRV j y.1))
@[simp] theorem isPar_val {i j : Nat} {r : RV} : isPar' i j r Q (.val d, env) = kNx Q ((setRV i r env).bind (setRV j (.val d))) := rfl
@[simp] theorem isPar_fresh {i j : Nat} {r : RV} {o : Ob} : isPar' i j r Q (.fresh o, env) = kNx Q ((setRV i r env).bind (setRV j (.fresh o))) := rfl
def isPar (cl : Cl) (i j : Nat) (f : E) (Q : Flow × En → Prop) : RV × En → Prop := fun x => Sat (evE cl f x.2) (isPar' i j x.1 Q)
@[simp] theorem isPar_eq {i j : Nat} {f : E} {r : RV} : isPar cl i j f Q (r, env) = Sat (evE cl f env) (isPar' i j r Q) := rfl
@[simp] theorem w_par {i j : Nat} {e f : E} : Sat (evS cl (.par i j e f) env) Q = Sat (evE cl e env) (isPar cl i j f Q) := by
  simp only [evS, sat_bind]
  congr 1
  funext x
  show _ = Sat (evE cl f x.2) (isPar' i j x.1 Q)
  congr 1
  funext y
  obtain ⟨r, e⟩ := y
  cases r <;> first | rfl | exact sat_nxt | exact sat_bad
def kPut' (i : Nat) (d : D) (Q : Flow × En → Prop) : RV × En → Prop := fun y => kNx Q (putS i d y.1 y.2)
def kPut (cl : Cl) (i : Nat) (k : E) (Q : Flow × En → Prop) : D × En → Prop := fun x => if (lstAt x.2 i).isSome then Sat (evE cl k x.2) (kPut' i x.1 Q) else False
@[simp] theorem kPut'_eq {i : Nat} {r : RV} : kPut' i d Q (r, env) = kNx Q (putS i d r env) := rfl
@[simp] theorem kPut_eq {i : Nat} : kPut cl i k Q (d, env) = if (lstAt env i).isSome then Sat (evE cl k env) (kPut' i d Q) else False := rfl
@[simp] theorem w_put {i : Nat} : Sat (evS cl (.put i k e) env) Q = Sat (evE cl e env) (isF (kPut cl i k Q)) := by
  simp only [evS, sat_bind, sat_nxt, sat_fz, sat_ite, sat_bad]; rfl
def kApp (i : Nat) (Q : Flow × En → Prop) : D × En → Prop := fun x => kNx Q (appS i x.1 x.2)
@[simp] theorem kApp_eq {i : Nat} : kApp i Q (d, env) = kNx Q (appS i d env) := rfl
@[simp] theorem w_app {i : Nat} : Sat (evS cl (.app i e) env) Q = if (lstAt env i).isSome then Sat (evE cl e env) (isF (kApp i Q)) else False := by
  simp only [evS, sat_bind, sat_nxt, sat_fz, sat_ite, sat_bad]; rfl
def kExp (Q : Flow × En → Prop) : RV × En → Prop := fun x => Q (.nx, x.2)
@[simp] theorem kExp_eq {r : RV} : kExp Q (r, env) = Q (.nx, env) := rfl
@[simp] theorem w_exp : Sat (evS cl (.exp e) env) Q = Sat (evE cl e env) (kExp Q) := by simp only [evS, sat_bind, sat_ok]; rfl
def kIf (cl : Cl) (a b : S) (Q : Flow × En → Prop) : Bool × En → Prop := fun x => if x.1 = true then Sat (evS cl a x.2) Q else Sat (evS cl b x.2) Q
@[simp] theorem kIf_eq {z : Bool} : kIf cl a b Q (z, env) = if z = true then Sat (evS cl a env) Q else Sat (evS cl b env) Q := rfl
@[simp] theorem w_if : Sat (evS cl (.iff e a b) env) Q = Sat (evE cl e env) (isB (kIf cl a b Q)) := by simp only [evS, sat_bind, w_T, sat_ite]; rfl
def forS (cl : Cl) (tg : Tg) (a : S) (ds : List D) (env : En) : Res (Flow × En) := forL (fun d e => mayB (asgT tg d e) (evS cl a)) ds env
def kFor (cl : Cl) (tg : Tg) (a : S) (Q : Flow × En → Prop) : List D × En → Prop := fun x => Sat (forS cl tg a x.1 x.2) Q
@[simp] theorem kFor_eq {tg : Tg} : kFor cl tg a Q (ds, env) = Sat (forS cl tg a ds env) Q := rfl
@[simp] theorem w_for {tg : Tg} {it : It} : Sat (evS cl (.for_ tg it a) env) Q = Sat (evI cl it env) (kFor cl tg a Q) := by simp only [evS, sat_bind]; rfl
@[simp] theorem w_whl : Sat (evS cl (.whl e a) env) Q = Sat (whlL (evT cl e) (evS cl a) fuel env) Q := by simp only [evS]
def kRet (Q : Flow × En → Prop) : RV × En → Prop := fun x => Q (.ret x.1, x.2)
@[simp] theorem kRet_eq {r : RV} : kRet Q (r, env) = Q (.ret r, env) := rfl
@[simp] theorem w_ret : Sat (evS cl (.ret e) env) Q = Sat (evE cl e env) (kRet Q) := by simp only [evS, sat_bind, sat_ok]; rfl
@[simp] theorem w_rse {x : Str} : Sat (evS cl (.rse x) env) Q = False := by simp [evS]
def isL (R : En → Prop) (Q : Flow × En → Prop) : Flow × En → Prop := fun x => match x.1 with
  | .nx => R x.2
  | .ct => R x.2
  | .brk => Q (.nx, x.2)
  | .ret r => Q (.ret r, x.2)
@[simp] theorem isL_nx {R : En → Prop} : isL R Q (.nx, env) = R env := rfl
@[simp] theorem isL_ct {R : En → Prop} : isL R Q (.ct, env) = R env := rfl
@[simp] theorem isL_brk {R : En → Prop} : isL R Q (.brk, env) = Q (.nx, env) := rfl
@[simp] theorem isL_ret {R : En → Prop} {r : RV} : isL R Q (.ret r, env) = Q (.ret r, env) := rfl
theorem w_forN {st : D → En → Res (Flow × En)} : Sat (forL st [] env) Q = Q (.nx, env) := sat_ok
theorem w_forC {st : D → En → Res (Flow × En)} : Sat (forL st (d :: ds) env) Q = Sat (st d env) (isL (fun e => Sat (forL st ds e) Q) Q) := by
  simp only [forL, sat_bind]
  congr 1
  funext x
  obtain ⟨f, e⟩ := x
  cases f <;> (first | rfl | exact sat_ok | exact sat_bad)
/-- a loop by an invariant over what is left -/
theorem for_inv {st : D → En → Res (Flow × En)} (I : List D → En → Prop) (step : ∀ d ds env, I (d :: ds) env → Sat (st d env) (isL (I ds) Q)) (last : ∀ env, I [] env → Q (.nx, env)) : ∀ ds env, I ds env → Sat (forL st ds env) Q
  | [], env, h => sat_ok.mpr (last env h)
  | d :: ds, env, h => by
    rw [w_forC]
    refine (step d ds env h).mono fun x hx => ?_
    obtain ⟨f, e⟩ := x
    cases f with
    | nx => exact for_inv I step last ds _ hx
    | ct => exact for_inv I step last ds _ hx
    | brk => exact hx
    | ret r => exact hx
theorem fors_inv {tg : Tg} {a : S} (I : List D → En → Prop) (step : ∀ d ds env, I (d :: ds) env → ∀ J : En → Prop, (∀ e, I ds e → J e) → ∃ e, asgT tg d env = some e ∧ Sat (evS cl a e) (isL J Q)) (last : ∀ env, I [] env → Q (.nx, env)) (ds : List D) (env : En) (h : I ds env) : Sat (forS cl tg a ds env) Q :=
  for_inv I (fun d ds env h => by
    obtain ⟨e, he, hs⟩ := step d ds env h (I ds) fun _ q => q
    rw [he]
    exact hs) last ds env h
/-- .. a while loop, by a measure -/
theorem whl_inv {c : En → Res (Bool × En)} {b : En → Res (Flow × En)} (I : Nat → En → Prop) (step : ∀ n env, I n env → ∀ J : En → Prop, (∀ m e, m < n → I m e → J e) → Sat (c env) fun x => if x.1 = true then Sat (b x.2) (isL J Q) else Q (.nx, x.2)) : ∀ (f n : Nat) env, n < f → I n env → Sat (whlL c b f env) Q
  | 0, n, env, h, _ => absurd h (Nat.not_lt_zero _)
  | f + 1, n, env, h, i => by
    simp only [whlL, sat_bind]
    refine (step n env i (fun e => ∃ m, m < n ∧ I m e) fun m e h q => ⟨m, h, q⟩).mono fun x hx => ?_
    by_cases e : x.1 = true
    · rw [if_pos e] at hx ⊢
      rw [sat_bind]
      refine hx.mono fun y hy => ?_
      obtain ⟨fl, e2⟩ := y
      cases fl with
      | nx =>
        obtain ⟨m, hm, im⟩ := hy
        exact whl_inv I step f m _ (by omega) im
      | ct =>
        obtain ⟨m, hm, im⟩ := hy
        exact whl_inv I step f m _ (by omega) im
      | brk => exact sat_ok.mpr hy
      | ret r => exact sat_ok.mpr hy
    · rw [if_neg e] at hx ⊢
      exact sat_ok.mpr hx
end
section
variable {cl : Cl} {env : En} {d : D} {ds : List D}
theorem frzVs_id : ∀ {vs : List Nat} {env : En}, (vs.any fun v => isOwnB env[v]?) = false → frzVs vs env = some env
  | [], _, _ => rfl
  | v :: vs, env, h => by
    rw [List.any_cons, Bool.or_eq_false_iff] at h
    unfold frzVs
    split
    · rename_i o ho
      rw [ho] at h
      cases h.1
    · rename_i o ho
      rw [ho] at h
      cases h.1
    · exact frzVs_id h.2
theorem runComp_1 {t : D → En → Res (Bool × En)} {elt : En → Res (D × En)} {vs : List Nat} (h : (vs.any fun v => isOwnB env[v]?) = false) : runComp t elt vs ds env = runComp1 t elt vs ds env := by
  unfold runComp
  rw [frzVs_id h]
/-- lists in a comprehension's own slots are data -/
theorem comps_frz {tg : Tg} {c elt : E} {vs : List Nat} {Q : RV × En → Prop} {env1 : En} (h : frzVs vs env = some env1) (h0 : (vs.any fun v => isOwnB env1[v]?) = false) (q : Sat (compS cl elt tg c vs ds env1) Q) : Sat (compS cl elt tg c vs ds env) Q := by
  unfold compS at q ⊢
  rw [runComp_1 h0] at q
  unfold runComp
  rw [h]
  exact q
/-- a pure comprehension -/
theorem comp_pure {t : D → En → Res (Bool × En)} {elt : En → Res (D × En)} {vs : List Nat} {Q : RV × En → Prop} (f : D → Option D) (h0 : (vs.any fun v => isOwnB env[v]?) = false)
    (h : ∀ d ∈ ds, Sat (t d (wipeE env vs)) fun x => if x.1 = true then Sat (elt x.2) fun y => f d = some y.1 ∧ wipeE y.2 vs = wipeE env vs else f d = none ∧ wipeE x.2 vs = wipeE env vs)
    (q : Q (.fresh (.lst (ds.filterMap f)), backE (wipeE env vs) env vs)) : Sat (runComp t elt vs ds env) Q := by
  have key : ∀ ds : List D, (∀ d ∈ ds, Sat (t d (wipeE env vs)) fun x => if x.1 = true then Sat (elt x.2) fun y => f d = some y.1 ∧ wipeE y.2 vs = wipeE env vs else f d = none ∧ wipeE x.2 vs = wipeE env vs) → compL t elt vs ds (wipeE env vs) = .ok (ds.filterMap f, wipeE env vs) := by
    intro ds
    induction ds with
    | nil => intro _; rfl
    | cons d ds ih =>
      intro hh
      obtain ⟨⟨b, e1⟩, h1, h2⟩ := (hh d (by simp)).get
      have ih := ih fun d hd => hh d (by simp [hd])
      unfold compL
      rw [h1]
      cases b with
      | true =>
        simp only [if_true] at h2
        obtain ⟨⟨y, e2⟩, h3, h4, h5⟩ := h2.get
        simp only [h3]
        simp only at h5 h4
        rw [h5, ih]
        simp [List.filterMap_cons, h4]
      | false =>
        simp only [Bool.false_eq_true, if_false] at h2
        simp only
        rw [h2.2, ih]
        simp [List.filterMap_cons, h2.1]
  rw [runComp_1 h0]
  unfold runComp1
  rw [h0, if_neg (by simp), key ds h]
  exact sat_ok.mpr q
def kc2 (f : D → Option D) (vs : List Nat) (env : En) (d : D) : D × En → Prop := fun y => f d = some y.1 ∧ wipeE y.2 vs = wipeE env vs
def kc1 (cl : Cl) (f : D → Option D) (elt : E) (vs : List Nat) (env : En) (d : D) : Bool × En → Prop := fun x => if x.1 = true then Sat (evE cl elt x.2) (isF (kc2 f vs env d)) else f d = none ∧ wipeE x.2 vs = wipeE env vs
@[simp] theorem kc2_eq {f : D → Option D} {vs : List Nat} {env e : En} {d y : D} : kc2 f vs env d (y, e) = (f d = some y ∧ wipeE e vs = wipeE env vs) := rfl
@[simp] theorem kc1_eq {f : D → Option D} {elt : E} {vs : List Nat} {env e : En} {d : D} {b : Bool} : kc1 cl f elt vs env d (b, e) = if b = true then Sat (evE cl elt e) (isF (kc2 f vs env d)) else f d = none ∧ wipeE e vs = wipeE env vs := rfl
theorem comps_pure {tg : Tg} {c elt : E} {vs : List Nat} {Q : RV × En → Prop} (f : D → Option D) (h0 : (vs.any fun v => isOwnB env[v]?) = false)
    (h : ∀ d ∈ ds, ∃ e, asgT tg d (wipeE env vs) = some e ∧ Sat (evE cl c e) (isB (kc1 cl f elt vs env d)))
    (q : Q (.fresh (.lst (ds.filterMap f)), backE (wipeE env vs) env vs)) : Sat (compS cl elt tg c vs ds env) Q := by
  refine comp_pure f h0 (fun d hd => ?_) q
  obtain ⟨e, he, hs⟩ := h d hd
  rw [he, mayB_s, sat_tst]
  refine hs.mono fun x hx => ?_
  obtain ⟨r, e2⟩ := x
  cases r with
  | val d2 =>
    cases d2 with
    | bool b =>
      unfold isB kc1 at hx
      unfold isB
      simp only at hx ⊢
      by_cases hb : b = true
      · rw [if_pos hb] at hx ⊢
        rw [sat_fz]
        exact hx
      · rw [if_neg hb] at hx ⊢
        exact hx
    | _ => exact hx.elim
  | _ => exact hx.elim
/-! calls -/
theorem sat_callE {f : Nat} {Q : RV × En → Prop} {g : RV → Option Ob → Prop} (h : SatF (cl f none ds) g) (k : ∀ r, g r none → (match r with | .slot _ => False | _ => Q (r, env))) (k0 : ∀ r o, g r (some o) → False) : Sat (callE cl f ds env) Q := by
  obtain ⟨r, o, e, q⟩ := h.get
  unfold callE
  rw [e]
  cases o with
  | some o => exact (k0 r o q).elim
  | none =>
    have := k r q
    cases r <;> first | exact sat_ok.mpr this | exact this.elim
theorem sat_callE_v {f : Nat} {Q : RV × En → Prop} (h : cl f none ds = .ok (.val d) none) : Sat (callE cl f ds env) Q = Q (.val d, env) := by
  unfold callE
  rw [h]
  exact sat_ok
theorem sat_callE_f {f : Nat} {o : Ob} {Q : RV × En → Prop} (h : cl f none ds = .ok (.fresh o) none) : Sat (callE cl f ds env) Q = Q (.fresh o, env) := by
  unfold callE
  rw [h]
  exact sat_ok
theorem sat_callR {f i : Nat} {s : Sl} {o : Ob} {Q : RV × En → Prop} {g : RV → Option Ob → Prop} (h : SatF (cl f (some o) ds) g) (hi : env[i]? = some s) (hs : slOb s = some o) (k : ∀ r o', g r (some o') → (match r with | .slot _ => False | _ => Q (r, env.set i (putOb s o')))) (k0 : ∀ r, g r none → False) : Sat (callR cl f i ds env) Q := by
  obtain ⟨r, o', e, q⟩ := h.get
  unfold callR
  rw [hi]
  simp only [Option.bind, hs, Option.map, e]
  cases o' with
  | none => exact (k0 r q).elim
  | some o' =>
    have := k r o' q
    cases r <;> first | exact sat_ok.mpr this | exact this.elim
def isE (io : Bool) (Q : RV → Option Ob → Prop) : Flow × En → Prop := fun x => ∃ o, outIo io x.2 = some o ∧ match x.1 with
  | .nx => Q (.val .none) o
  | .ret r => ∃ q, retV x.2 r = some q ∧ Q q o
  | _ => False
@[simp] theorem isE_retN {Q : RV → Option Ob → Prop} {r : RV} : isE false Q (.ret r, env) = match retV env r with
  | some q => Q q none
  | none => False := by
  unfold isE outIo
  cases h : retV env r <;> simp [h]
@[simp] theorem isE_nxN {Q : RV → Option Ob → Prop} : isE false Q (.nx, env) = Q (.val .none) none := by
  unfold isE outIo
  simp
@[simp] theorem isE_retS {Q : RV → Option Ob → Prop} {r : RV} {o : Ob} {e : En} : isE true Q (.ret r, .inn o :: e) = match retV (.inn o :: e) r with
  | some q => Q q (some o)
  | none => False := by
  unfold isE outIo inAt
  cases h : retV (.inn o :: e) r <;> simp [h]
@[simp] theorem isE_nxS {Q : RV → Option Ob → Prop} {o : Ob} {e : En} : isE true Q (.nx, .inn o :: e) = Q (.val .none) (some o) := by
  unfold isE outIo inAt
  simp
theorem satF_run {f : FnIR} {o : Option Ob} {Q : RV → Option Ob → Prop} (h1 : o.isSome = f.io) (h2 : (envI f o ds).length = f.nl) (h3 : f.np ≤ f.nl) (h : Sat (evS cl f.body (envI f o ds)) (isE f.io Q)) : SatF (runF cl f o ds) Q := by
  unfold runF
  rw [if_pos ⟨h1, h2, h3⟩]
  obtain ⟨⟨fl, e⟩, hx, io, hi, q⟩ := h.get
  rw [hx]
  cases fl with
  | nx =>
    unfold fin
    simp only at hi ⊢
    rw [hi]
    exact satF_ok.mpr q
  | ret r =>
    obtain ⟨z, hz, q⟩ := q
    unfold fin
    simp only at hi hz ⊢
    rw [hi, hz]
    exact satF_ok.mpr q
  | _ => exact q.elim
theorem SatF.val {x : FR} {d : D} (h : SatF x fun r o => r = .val d ∧ o = none) : x = .ok (.val d) none := by
  obtain ⟨r, o, e, h1, h2⟩ := h.get
  rw [e, h1, h2]
/-! dicts -/
section
variable {Q : RV × En → Prop} {k nk : Nat} {kvs : List (D × D)} {kk : NK} {a b x : E} {d y : D}
@[simp] theorem dcOf_own : dcOf (some (.own (.dct kvs))) = some kvs := rfl
@[simp] theorem dcOf_inn : dcOf (some (.inn (.dct kvs))) = some kvs := rfl
@[simp] theorem dcOf_frd : dcOf (some (.frd kvs)) = some kvs := rfl
@[simp] theorem dcRd_fresh : dcRd env (.fresh (.dct kvs)) = some kvs := rfl
@[simp] theorem dcRd_slot : dcRd env (.slot k) = dcOf env[k]? := rfl
@[simp] theorem w_dct0 : Sat (evE cl .dct0 env) Q = Q (.fresh (.dct []), env) := by simp [evE]
def kD2 (neg : Bool) (env : En) (Q : RV × En → Prop) : Option (List (D × D)) → Option NK → Prop
  | some kvs, some nk => Q (.val (.bool (if neg then !(dcAt kvs nk).isSome else (dcAt kvs nk).isSome)), env)
  | _, _ => False
@[simp] theorem kD2_eq {neg : Bool} : kD2 neg env Q (some kvs) (some kk) = Q (.val (.bool (if neg then !(dcAt kvs kk).isSome else (dcAt kvs kk).isSome)), env) := rfl
def kDIn (neg : Bool) (i : Nat) (Q : RV × En → Prop) : D × En → Prop := fun x => Sat (dInE neg i x.1 x.2) Q
@[simp] theorem kDIn_eq {neg : Bool} : kDIn neg k Q (d, env) = kD2 neg env Q (dcOf env[k]?) (keyD d) := by
  show Sat (dInE neg k d env) Q = _
  unfold dInE
  cases dcOf env[k]? <;> cases keyD d <;> first | exact sat_bad | exact sat_ok
@[simp] theorem w_dIn {neg : Bool} : Sat (evE cl (.dIn neg a k) env) Q = Sat (evE cl a env) (isF (kDIn neg k Q)) := by simp only [evE, sat_bind, sat_fz]; rfl
def kDx (env : En) (Q : RV × En → Prop) : Option D → Prop
  | some d => Q (.val d, env)
  | none => False
@[simp] theorem kDx_some : kDx env Q (some d) = Q (.val d, env) := rfl
def kDx2 (env : En) (Q : RV × En → Prop) : Option (List (D × D)) → Option NK → Prop
  | some kvs, some nk => kDx env Q (dcAt kvs nk)
  | _, _ => False
@[simp] theorem kDx2_eq : kDx2 env Q (some kvs) (some kk) = kDx env Q (dcAt kvs kk) := rfl
def kDIx (i : Nat) (Q : RV × En → Prop) : D × En → Prop := fun x => Sat (dIxE i x.1 x.2) Q
@[simp] theorem kDIx_eq : kDIx k Q (d, env) = kDx2 env Q (dcOf env[k]?) (keyD d) := by
  show Sat (dIxE k d env) Q = _
  unfold dIxE
  cases dcOf env[k]? with
  | none => exact sat_bad
  | some kvs =>
    cases keyD d with
    | none => exact sat_bad
    | some nk =>
      show Sat (match dcAt kvs nk with | some d => .ok (.val d, env) | none => .bad) Q = kDx env Q (dcAt kvs nk)
      cases dcAt kvs nk <;> first | exact sat_bad | exact sat_ok
@[simp] theorem w_dIx : Sat (evE cl (.dIx k a) env) Q = if (dcOf env[k]?).isSome then Sat (evE cl a env) (isF (kDIx k Q)) else False := by simp only [evE, sat_bind, sat_fz, sat_ite, sat_bad]; rfl
def kDg2 (env : En) (y : D) (Q : RV × En → Prop) : Option (List (D × D)) → Option NK → Prop
  | some kvs, some nk => Q (.val ((dcAt kvs nk).getD y), env)
  | _, _ => False
@[simp] theorem kDg2_eq : kDg2 env y Q (some kvs) (some kk) = Q (.val ((dcAt kvs kk).getD y), env) := rfl
def kDGet' (i : Nat) (d : D) (Q : RV × En → Prop) : D × En → Prop := fun y => Sat (dGetE i d y.1 y.2) Q
def kDGet (cl : Cl) (i : Nat) (x : E) (Q : RV × En → Prop) : D × En → Prop := fun z => Sat (evE cl x z.2) (isF (kDGet' i z.1 Q))
@[simp] theorem kDGet'_eq : kDGet' k d Q (y, env) = kDg2 env y Q (dcOf env[k]?) (keyD d) := by
  show Sat (dGetE k d y env) Q = _
  unfold dGetE
  cases dcOf env[k]? <;> cases keyD d <;> first | exact sat_bad | exact sat_ok
@[simp] theorem kDGet_eq : kDGet cl k x Q (d, env) = Sat (evE cl x env) (isF (kDGet' k d Q)) := rfl
@[simp] theorem w_dGet : Sat (evE cl (.dGet k a x) env) Q = if (dcOf env[k]?).isSome then Sat (evE cl a env) (isF (kDGet cl k x Q)) else False := by simp only [evE, sat_bind, sat_fz, sat_ite, sat_bad]; rfl
def kDs (env : En) (Q : RV × En → Prop) : Option (List (D × D)) → Prop
  | some kvs => Sat (resOV (fSrtD (.list (kvs.map (·.1)))) env) Q
  | none => False
@[simp] theorem kDs_eq : kDs env Q (some kvs) = Sat (resOV (fSrtD (.list (kvs.map (·.1)))) env) Q := rfl
def kDSrt (Q : RV × En → Prop) : RV × En → Prop := fun x => Sat (dSrtE x.1 x.2) Q
@[simp] theorem kDSrt_eq {r : RV} : kDSrt Q (r, env) = kDs env Q (dcRd env r) := by
  show Sat (dSrtE r env) Q = _
  unfold dSrtE
  cases dcRd env r <;> first | exact sat_bad | rfl
@[simp] theorem w_dSrt : Sat (evE cl (.dSrt a) env) Q = Sat (evE cl a env) (kDSrt Q) := by simp only [evE, sat_bind]; rfl
def kDK (i : Nat) (env : En) (Q : List D × En → Prop) : Option Sl → Prop
  | some (.own (.dct kvs)) => Q (kvs.map (·.1), env.set i (.frd kvs))
  | some (.frd kvs) => Q (kvs.map (·.1), env)
  | _ => False
@[simp] theorem kDK_own {Q : List D × En → Prop} : kDK k env Q (some (.own (.dct kvs))) = Q (kvs.map (·.1), env.set k (.frd kvs)) := rfl
@[simp] theorem kDK_frd {Q : List D × En → Prop} : kDK k env Q (some (.frd kvs)) = Q (kvs.map (·.1), env) := rfl
@[simp] theorem w_dctK {Q : List D × En → Prop} : Sat (evI cl (.dctK k) env) Q = kDK k env Q env[k]? := by
  simp only [evI, dKeys]
  cases env[k]? with
  | none => exact sat_bad
  | some s => cases s with
    | own o => cases o <;> first | exact sat_bad | exact sat_ok
    | _ => first | exact sat_bad | exact sat_ok
def dPutS (i : Nat) (v kd : D) (env : En) : Option Sl → Option NK → Option En
  | some s, some nk => match slOb s with
    | some (.dct kvs) => if kvs.length < 9000 then some (env.set i (putOb s (.dct (dcPut kvs nk kd v)))) else none
    | _ => none
  | _, _ => none
@[simp] theorem dPut_eq {v : D} : dPut k v d env = dPutS k v d env env[k]? (keyD d) := by
  unfold dPut
  cases env[k]? with
  | none => rfl
  | some s =>
    unfold dPutS
    cases keyD d with
    | some nk =>
      cases hs : slOb s with
      | none => simp [hs]
      | some o => cases o <;> simp [hs]
    | none =>
      cases hs : slOb s with
      | none => simp [hs]
      | some o => cases o <;> simp [hs]
@[simp] theorem dPutS_own {v : D} : dPutS k v d env (some (.own (.dct kvs))) (some kk) = if kvs.length < 9000 then some (env.set k (.own (.dct (dcPut kvs kk d v)))) else none := rfl
def kDSet' (i : Nat) (v : D) (Q : Flow × En → Prop) : D × En → Prop := fun y => kNx Q (dPut i v y.1 y.2)
def kDSet (cl : Cl) (i : Nat) (a : E) (Q : Flow × En → Prop) : D × En → Prop := fun x => if (dcOf x.2[i]?).isSome then Sat (evE cl a x.2) (isF (kDSet' i x.1 Q)) else False
@[simp] theorem kDSet'_eq {v : D} {Q : Flow × En → Prop} : kDSet' k v Q (d, env) = kNx Q (dPutS k v d env env[k]? (keyD d)) := by
  show kNx Q (dPut k v d env) = _
  rw [dPut_eq]
@[simp] theorem kDSet_eq {v : D} {Q : Flow × En → Prop} : kDSet cl k a Q (v, env) = if (dcOf env[k]?).isSome then Sat (evE cl a env) (isF (kDSet' k v Q)) else False := rfl
@[simp] theorem w_dSet {Q : Flow × En → Prop} : Sat (evS cl (.dSet k a x) env) Q = Sat (evE cl x env) (isF (kDSet cl k a Q)) := by
  simp only [evS, sat_bind, sat_nxt, sat_fz, sat_ite, sat_bad]; rfl
/-- keys of a name and a price, None -/
@[simp] theorem keyD_none : keyD .none = some .none := by rfl
@[simp] theorem keyD_si {w : Str} {p : Int} : keyD (.tuple [.str w, .int p]) = some (.tup [.text w, .num p]) := by
  unfold keyD
  have : nkD (.tuple [.str w, .int p]) = some (.tup [.text w, .num p]) := rfl
  rw [this]
  simp [NestedKey.depth, NestedKey.depthAll, topD]
end
end
theorem asStrs_map : ∀ {ns : List Str}, asStrs (ns.map PyData.str) = some ns
  | [] => rfl
  | x :: ns => by
    show (asStrs (ns.map PyData.str)).map (x :: ·) = _
    rw [asStrs_map]
    rfl
theorem fSrtTx_l {ns : List Str} (h : ns.length ≤ 4000) : fSrtTx (.list (ns.map .str)) = some (.nlst ((srtT ns).map .str)) := by
  simp only [fSrtTx, asStrs_map, if_pos h]
end Pb

namespace Pb
open PySem PySem.Spec PyProof.Rows L2
/-! ### the end: from the top to the law -/
def noLst (K : PySem.W.Frag) : Bool := K.all fun p => match p.2.cls with
  | .type t => !(t == "list")
  | _ => true
theorem lookup_in {β : Type} {a : Addr} {b : β} : ∀ {l : List (Addr × β)}, l.lookup a = some b → ∃ p ∈ l, p.2 = b
  | [], h => by cases h
  | (c, d) :: l, h => by
    simp only [List.lookup_cons] at h
    split at h
    · cases h
      exact ⟨_, List.mem_cons_self, rfl⟩
    · obtain ⟨p, hp, e⟩ := lookup_in h
      exact ⟨p, List.mem_cons_of_mem _ hp, e⟩
theorem noLst_not {K : PySem.W.Frag} {a : Addr} {o : Obj} (h : noLst K = true) (e : K.lookup a = some o) (c : o.cls = .type "list") : False := by
  obtain ⟨p, hp, ep⟩ := lookup_in e
  unfold noLst at h
  have := List.all_eq_true.mp h p hp
  rw [ep, c] at this
  simp at this
def spLaw (K : PySem.W.Frag) : Sp := fun vs H Q _ => ∃ (a : Addr) (ns : List Int), vs = [.ref a] ∧ SqL K H a (ns.map V.int) ∧ ns.length ≤ 63 ∧ ∀ H', Q (.bl true) H'
theorem rp_ints {K : PySem.W.Frag} {F : Hp} : ∀ ns : List Int, RpAll K F (ns.map PyData.int) (ns.map V.int)
  | [] => rfl
  | i :: ns => ⟨.int i, ns.map V.int, rfl, rfl, rp_ints ns⟩
theorem law_imp {K : PySem.W.Frag} {w : World} {mg : Str → Option Value} {g : Option Ob → List D → FR} (hK : noLst K = true) (hg : ∀ ns : List Int, ns.length ≤ 63 → g none [.list (ns.map .int)] = .ok (.val (.bool true)) none) (vs : List V) (H : Hp) (Q : VK) (E : XK) (h : spLaw K vs H Q E) : spIR ⟨K, w, mg, []⟩ g vs H Q E := by
  obtain ⟨a, ns, e, hs, hl, k⟩ := h
  refine ⟨noT H, noT H, none, none, [.list (ns.map .int)], [.ref a], e, ⟨noT_sub H, noT_sub H, noT_nt H, noT_nt H, (fun p hp => nomatch hp)⟩, trivial, (fun a z => nomatch z), ?_, ?_⟩
  · refine ⟨.ref a, [], rfl, ⟨a, ns.map V.int, rfl, ?_, rp_ints ns⟩, rfl⟩
    rcases hs with (r | ⟨o, r⟩) | ⟨o, its, n, h1, h2, _⟩
    · exact .inl (noT_some r fun ps z => by cases z)
    · exact .inr ⟨o, noT_some r fun ps z => by cases z⟩
    · exact (noLst_not hK h1 h2).elim
  · rw [hg ns hl]
    intro v H' F' _ _ _ fr
    have : v = .bl true := fr
    rw [this]
    exact k H'
theorem at_mk {K : PySem.W.Frag} {h : Heap} {mg : Str → Option Value} {x : Str} {st : Stmt} {ps : List Str} {f : Addr} {oc kV dc pm cd ct : Value} {od an : Option Addr} {sl : Array (Option Value)} (X : K.In h) (G : h.Ns mainGlobals mg)
    (a : PySem.W.nsIn K mainGlobals x = some (some (.ref f))) (l : K.lookup f = some ⟨oc, od, .func (PySem.W.fnOf x x (defArgs st) (defBody st) (defScope st) .none kV dc pm an cd ct), sl⟩) (c : PySem.W.codeIn K cd x = true) (k : PySem.W.keepIn K (.ref f) = true)
    (b : ∀ (kV doc pm : Value) (an : Option Addr) (cdv ct : Value) (us : List Value), us.length = ps.length → bindArgs (PySem.W.fnOf x x (defArgs st) (defBody st) (defScope st) .none kV doc pm an cdv ct) ⟨us, []⟩ = pure (ps.zip us)) :
    At K mg x st ps f (PySem.W.fnOf x x (defArgs st) (defBody st) (defScope st) .none kV dc pm an cd ct) :=
  ⟨fun_mk l c k, PySem.W.mg_of X G a, k, (fun_mk l c k).binds b⟩
theorem gk_str {K : PySem.W.Frag} {h : Heap} {mg : Str → Option Value} {x y : Str} {t : Tok} (X : K.In h) (G : h.Ns mainGlobals mg) (hy : PyData.strOk y = true) (a : PySem.W.nsIn K mainGlobals x = some (some (.str y t))) : GkK K mg x (.str y) :=
  ⟨_, .str y, PySem.W.mg_of X G a, ⟨t, rfl⟩, fun F => ⟨rfl, hy⟩⟩
theorem gk_int {K : PySem.W.Frag} {h : Heap} {mg : Str → Option Value} {x : Str} {i : Int} {t : Tok} (X : K.In h) (G : h.Ns mainGlobals mg) (a : PySem.W.nsIn K mainGlobals x = some (some (.int i t))) : GkK K mg x (.int i) :=
  ⟨_, .int i, PySem.W.mg_of X G a, ⟨t, rfl⟩, fun F => rfl⟩
theorem gk_empty {K : PySem.W.Frag} {h : Heap} {mg : Str → Option Value} {x : Str} {a : Addr} {od : Option Addr} {i : Int} {t : Tok} {n : Nat} {sl : Array (Option Value)} (X : K.In h) (G : h.Ns mainGlobals mg) (e : PySem.W.nsIn K mainGlobals x = some (some (.ref a)))
    (l : K.lookup a = some ⟨.type "tuple", od, .seq #[.none, .int i t, .none] n, sl⟩) : GkK K mg x (.tuple [.none, .int i, .none]) :=
  ⟨_, .ref a, PySem.W.mg_of X G e, rfl, fun F => ⟨a, [.non, .int i, .non], rfl, .inr ⟨_, _, n, l, rfl, rfl, (by show 3 ≤ sizeLine; decide), .cons rfl (.cons ⟨t, rfl⟩ (.cons rfl .nil))⟩, ⟨.non, _, rfl, rfl, .int i, _, rfl, rfl, .non, [], rfl, rfl, rfl⟩⟩⟩
theorem xc_mk {K : PySem.W.Frag} {h : Heap} {mg : Str → Option Value} {x : Str} {C : Addr} (X : K.In h) (G : h.Ns mainGlobals mg) (a : PySem.W.nsIn K mainGlobals x = some (some (.ref C))) (q : PySem.W.excIn K C veB "ValueError.__new__" = true) (k : PySem.W.keepIn K (.ref C) = true)
    (s : PySem.W.subIn K (.ref C) (.type "BaseException") = some true) (t : PySem.W.typeIn K (.ref C) = some (.type "type")) : XCK K mg x := ⟨C, PySem.W.mg_of X G a, q, k, s, t⟩
theorem walk {D : Nat} {l : PySem.W.OpenLaw} {q : Program} {loose : List Str} {XP : (Str → Option Value) → Heap → Prop} {YP : World → Heap → Prop} {d : DefRec} {K : Params → PySem.W.Frag} (hn : l.most = some 63) (hdf : d.params.defaults = [])
    (hr : Room D callerA) (hY : ∀ (w : World) (h : Heap), YP w h → (K w.params).In h)
    (F : ∀ (w : World) (mg : Str → Option Value) (fa : Addr) (h : Heap), (K w.params).In h → h.Ns mainGlobals mg → mg d.name = some (.ref fa) →
      ∃ fd : FuncData, (∀ (s : Shared) (u : Value), BindsTo s fd ⟨[u], []⟩ [("script", u)]) ∧ ∀ base : Heap, (K w.params).In base → base.Ns mainGlobals mg → FnOk l.prog w (K w.params) mg base (L2.CX l.prog w) D fa fd ["script"] (spLaw (K w.params))) :
    PySem.W.WalkO q loose XP YP l.row.toRowW d [] (fun f vs => PySem.call f vs) :=
  L2.walk_of (n := 63) (k := D) (x := "script") (CX := fun w => L2.CX l.prog w) (sp := fun w => spLaw (K w.params)) hn (by decide) hdf hr hY F (fun _ _ a ns hl _ hS => ⟨a, ns, rfl, hS, hl, fun _ => rfl⟩) fun _ _ _ _ _ z => by
    obtain ⟨_, _, _, _, _, _, _, _, _, _, _, _, z⟩ := z
    exact z.elim
end Pb

namespace Pb
open PySem PySem.Spec PyProof.Rows L2

/-! ### lambdas -/
/-- a lambda's scope: its parameters are all that it has of its own -/
structure LamP (sc scope : Scope) (pl : List Str) : Prop where
  kind : scope.kind = .function
  co : scope.isCoroutine = false
  gen : scope.isGenerator = false
  par : ∀ y ∈ pl, scope.names.lookup y = some .local
  nd : pl.Nodup
  own : ∀ y ∈ scope.names, y.2 = .local → y.1 ∈ pl
  nocell : ∀ y ∈ scope.names, y.2 ≠ .cell
  free : ∀ y ∈ scope.names, y.2 = .free → sc.names.lookup y.1 = some .cell ∨ sc.names.lookup y.1 = some .free
def lamPB (sc scope : Scope) (pl : List Str) : Bool :=
  decide (scope.kind = .function) && !scope.isCoroutine && !scope.isGenerator && pl.all (fun y => decide (scope.names.lookup y = some .local)) && decide pl.Nodup &&
  scope.names.all fun y => (!decide (y.2 = .local) || decide (y.1 ∈ pl)) && !decide (y.2 = .cell) && (!decide (y.2 = .free) || decide (sc.names.lookup y.1 = some .cell) || decide (sc.names.lookup y.1 = some .free))
theorem lamP_by {sc scope : Scope} {pl : List Str} (h : lamPB sc scope pl = true) : LamP sc scope pl := by
  unfold lamPB at h
  simp only [Bool.and_eq_true, Bool.or_eq_true, Bool.not_eq_true', decide_eq_true_eq, decide_eq_false_iff_not, List.all_eq_true] at h
  obtain ⟨⟨⟨⟨⟨a, b⟩, c⟩, d⟩, e⟩, f⟩ := h
  refine ⟨a, b, c, d, e, fun y hy q => ?_, fun y hy => (f y hy).1.2, fun y hy q => ?_⟩
  · rcases (f y hy).1.1 with z | z
    · exact absurd q z
    · exact z
  · rcases (f y hy).2 with (z | z) | z
    · exact absurd q z
    · exact .inl z
    · exact .inr z
theorem LamP.has {X : Cx} {scope : Scope} {pl : List Str} (L : LamP X.env.scope scope pl) (ok : X.Ok) (y : Str × NameKind) (hy : y ∈ scope.names) (e : y.2 = .free) : ∃ c, X.env.cells.lookup y.1 = some c :=
  ok.has y.1 (L.free y hy e)
/-- the lambda's body runs, over the names N -/
def lamC (X : Cx) (A : Around) (outer : List Env) (s : Shared) (H : Hp) (E : XK) (scope : Scope) (f c' : Addr) (N : List Str) : Cx := { LamX.lamCx X A outer s H E scope f c' with N := N }
theorem look_nd {α : Type} {k : Str} {v : α} : ∀ {l : List (Str × α)}, (l.map (·.1)).Nodup → (k, v) ∈ l → l.lookup k = some v
  | [], _, h => by cases h
  | (a, b) :: l, n, h => by
    simp only [List.map_cons, List.nodup_cons] at n
    rcases List.mem_cons.mp h with e | e
    · cases e
      simp [List.lookup]
    · have ne : ¬ k = a := fun z => n.1 (by rw [← z]; exact List.mem_map.mpr ⟨(k, v), e, rfl⟩)
      have nb : (k == a) = false := by simpa using ne
      simp only [List.lookup_cons, nb]
      exact look_nd n.2 e
theorem zip_at {pl : List Str} {us : List Value} (hl : us.length = pl.length) (nd : pl.Nodup) {i : Nat} {y : Str} {u : Value} (hy : pl[i]? = some y) (hu : us[i]? = some u) : (pl.zip us).reverse.lookup y = some u := by
  refine look_nd ?_ (List.mem_reverse.mpr ?_)
  · rw [List.map_reverse, List.map_fst_zip (by omega)]
    exact (List.reverse_perm pl).nodup_iff.mpr nd
  · refine List.mem_of_getElem? (i := i) ?_
    rw [List.getElem?_zip_eq_some]
    exact ⟨hy, hu⟩
section
variable {X : Cx} {pins : List (Addr × Obj)} {σ : Sg} {H HZ : Hp} {s s1 : Shared}
/-- what the slots of a lambda's run hold behind its parameters: values of the maker's names -/
def LamSl (X : Cx) (σ : Sg) (scope : Scope) (pl N : List Str) (σx : Sg) : Prop := N.take pl.length = pl ∧
  ∀ (i : Nat) y (v : V), N[pl.length + i]? = some y → σx[i]? = some (some v) → Vis scope y → scope.names.lookup y = some .free ∧ ∃ j : Nat, X.N[j]? = some y ∧ σ[j]? = some (some v)
theorem lam_begin {A : Around} {outer : List Env} {E : XK} {scope : Scope} {f c' : Addr} {g : Heap} {tk : Nat} {pl N : List Str} {us : List Value} {vs : List V} {σx : Sg} (I : Inv X pins σ H s) (L : LamP X.env.scope scope pl) (e0 : Env0 X.prog X.w X.K X.mg X.base A outer s1 HZ) (hd : A.handled = none)
    (un : Un (frs X.stack) [] H HZ s.heap s1.heap) (hns : g.Ns s1.heap.objs.size fun y => (pl.zip us).reverse.lookup y) (kp : ∀ b o, s1.heap.get? b = some o → g.get? b = some o) (r : Vals vs us) (hl : vs.length = pl.length) (hlen : pl.length + σx.length = N.length) (hx : LamSl X σ scope pl N σx) :
    Inv (lamC X A outer s1 HZ E scope f c' N) [] (vs.map some ++ σx) HZ { s1 with heap := g, toks := tk } := by
  obtain ⟨hpre, hsl⟩ := hx
  have back : ∀ {y c}, (cloFrom X.env.cells scope.names []).lookup y = some c → X.env.cells.lookup y = some c := fun {y c} e => by
    rcases cloFrom_mem (PySem.mem_of_lookup e) with hm | ⟨q1, q2⟩
    · cases hm
    · obtain ⟨d, hdd⟩ := L.has I.ok _ q1 rfl
      have hdd : X.env.cells.lookup y = some d := hdd
      have e2 : c = d := by
        rw [q2, hdd] <;> rfl
      rw [e2]
      exact hdd
  have there : ∀ {y}, scope.names.lookup y = some .free → ∃ c, (cloFrom X.env.cells scope.names []).lookup y = some c := fun {y} q =>
    mem_lookup (cloFrom_has (cells := X.env.cells) (acc := []) (PySem.mem_of_lookup q : (y, NameKind.free) ∈ scope.names))
  have cellK : ∀ {c : Addr} {v : Option Value}, H c = none → s.heap.IsCell c v → g.IsCell c v := fun {c v} n ⟨o, ho, hdd⟩ => by
    obtain ⟨sl, q⟩ := un.any ho n (by simp)
    exact ⟨_, kp _ _ q, hdd⟩
  have none_ex : ∀ b : Addr, b ∉ (lamC X A outer s1 HZ E scope f c' N).ex := fun b z => absurd (show b ∈ ([] : List Addr) from z) (by simp)
  refine ⟨⟨e0.mod, L.kind, rfl, rfl, Nat.le_refl _, fun y z c p q => I.ok.inj y z c (back p) (back q), fun y hy => ?_, fun y c z _ => (nomatch (show false = true from z)), fun _ => hd, Around.frames_deeper e0.frames, .inr ⟨rfl, rfl⟩, fun b z => absurd z (none_ex b), e0.bs, e0.bsz, fun b _ _ => none_ex b,
      fun b z => absurd z (none_ex b), e0.funs, e0.frf⟩,
    rfl, e0.bare, Un.kept kp, ⟨_, hns, fun i y v p q vis => ?_⟩, fun y c e => ?_, e0.hok.fresh (Nat.le_refl _), fun y c e => ?_, fun q hq => absurd (show q ∈ ([] : List (Addr × Obj)) ++ [] from hq) (by simp), e0.hok.kept kp, ?_⟩
  · have hy : scope.names.lookup y = some .cell ∨ scope.names.lookup y = some .free := hy
    rcases hy with hy | hy
    · exact absurd rfl (L.nocell _ (PySem.mem_of_lookup hy))
    · exact there hy
  · have p : N[i]? = some y := p
    by_cases hi : i < pl.length
    · rw [List.getElem?_append_left (by simpa [hl] using hi), List.getElem?_map] at q
      have hv : vs[i]? = some v := by
        cases z : vs[i]? with
        | none => rw [z] at q; cases q
        | some a => rw [z] at q; cases q; rfl
      obtain ⟨u, hu, rv⟩ := r.get hv
      have hp : pl[i]? = some y := by
        rw [← hpre, List.getElem?_take_of_lt hi]
        exact p
      have hul : us.length = pl.length := by rw [← r.length]; exact hl
      exact ⟨u, rv, .inl ⟨L.par y (List.mem_of_getElem? hp), zip_at hul L.nd hp hu⟩⟩
    · have hi2 : i = pl.length + (i - pl.length) := by omega
      rw [List.getElem?_append_right (by simpa [hl] using hi)] at q
      rw [List.length_map, hl] at q
      rw [hi2] at p
      obtain ⟨hf, j, hj, hv⟩ := hsl _ y v p q vis
      obtain ⟨m, hn, hlk⟩ := I.loc
      have hvis : Vis X.env.scope y := (L.free _ (PySem.mem_of_lookup hf) rfl).elim (fun k => .inr (.inl k)) (fun k => .inr (.inr k))
      obtain ⟨w', rv, lk⟩ := hlk j y v hj hv hvis
      obtain ⟨c2, h2⟩ := there hf
      refine ⟨w', rv, .inr ⟨.inr hf, c2, h2, ?_⟩⟩
      have c1 := back h2
      rcases lk with ⟨k', _⟩ | ⟨_, c3, e', z⟩
      · have k' : X.env.scope.names.lookup y = some .local := k'
        rcases L.free _ (PySem.mem_of_lookup hf) rfl with k2 | k2
        · have k2 : X.env.scope.names.lookup y = some .cell := k2
          rw [k2] at k'
          cases k'
        · have k2 : X.env.scope.names.lookup y = some .free := k2
          rw [k2] at k'
          cases k'
      · rw [c1] at e'
        cases e'
        exact cellK (I.freeC y _ c1) z
  · obtain ⟨w', z⟩ := I.cell y c (back e)
    exact ⟨w', cellK (I.freeC y c (back e)) z⟩
  · obtain ⟨v, o, ho, hdd⟩ := I.cell y c (back e)
    exact un.free c o ho (I.freeC y c (back e)) (by simp)
  · show _ = N.length
    rw [List.length_append, List.length_map, hl]
    exact hlen

/-- the frames of the def that calls the lambda -/
abbrev gCx (X : Cx) (Ng : List Str) (qg : Str) (sg : Scope) (g : Addr) (cdg : Value) (s : Shared) (H : Hp) : Cx := cxOf C8.CX0 X.prog X.w X.K X.mg X.base Ng qg sg g cdg X.A X.stack s H C8.E0
abbrev lamO (X : Cx) (params : Arguments) (body : Expr) (scope : Scope) (pm : Value) (c' : Addr) (ctv : Value) : Obj := PySem.W.kla_obj "<lambda>" (X.env.qual ++ "<lambda>") params body scope (cloFrom X.env.cells scope.names []) pm c' ctv
/-- its arguments are its parameters, in order -/
def LamBind (params : Arguments) (body : Expr) (scope : Scope) (pl : List Str) : Prop := ∀ (q : Str) (cl : List (Str × Addr)) (pm cv ctv : Value) (us : List Value), us.length = pl.length → bindArgs (PySem.W.kla_fn "<lambda>" q params body scope cl pm cv ctv) ⟨us, []⟩ = pure (pl.zip us)
theorem lam_run {Ng : List Str} {qg : Str} {sg : Scope} {g f c' : Addr} {cdg pm ctv : Value} {params : Arguments} {body : Expr} {scope : Scope} {k : Nat} {pn : List (Addr × Obj)} {xe : Value → Shared → Prop} {W : WX} {tb : XK → TE} {pl Nl : List Str} {us : List Value} {vs : List V} {pinsZ : List (Addr × Obj)} {σZ : Sg} {H1 : Hp} {Q : VK}
    (I : Inv X pins σ H s) (L : LamP X.env.scope scope pl) (hf : s.heap.get? f = some (lamO X params body scope pm c' ctv)) (hfn : H f = none) (hfr : f ∉ frs X.stack) (hbind : LamBind params body scope pl) (tk : Takes ((gCx X Ng qg sg g cdg s H).tr pn xe) W) (hr : Room (k + 1) (X.A.deeper (envOfC qg sg s.heap.objs.size g cdg)))
    (hbody : ∀ (A : Around) (outer : List Env) (s' : Shared) (H' : Hp) (E : XK), Room k (A.deeper (LamX.lamEnv X scope s'.heap.objs.size f c')) → PE (lamC X A outer s' H' E scope f c' Nl) body (tb E))
    (I1 : Inv ((gCx X Ng qg sg g cdg s H).tr pn xe) pinsZ σZ H1 s1) (r : Vals vs us) (hl : vs.length = pl.length) (hc : H1 c' = some (LamX.CodeO c' (X.env.qual ++ "<lambda>"))) (hNl : pl.length + Ng.length = Nl.length) (hx : LamSl X σ scope pl Nl σZ) (h : tb (WE W σZ) (vs.map some ++ σZ) H1 Q) :
    wpAny (model X.prog X.w) (X.A.deeper (envOfC qg sg s.heap.objs.size g cdg)) (call (.ref f) us) (EP ((gCx X Ng qg sg g cdg s H).tr pn xe) pinsZ σZ Q) xe s1 := by
  have of1 : s1.heap.get? f = some (lamO X params body scope pm c' ctv) := I1.base.keep f _ hf hfn hfr (fun z => nomatch (show f ∈ ([] : List Addr) from z))
  obtain ⟨⟨oc, ws, t, hoc, hdc, hvc⟩, _, _⟩ := I1.hok c' _ hc
  have hul : us.length = pl.length := by rw [← r.length]; exact hl
  have go : codeAny (model X.prog X.w) (X.A.deeper (envOfC qg sg s.heap.objs.size g cdg)) (.call (.ref f) ⟨us, []⟩) (CR (L2.CX X.prog X.w) (envOfC qg sg s.heap.objs.size g cdg :: X.stack) X.prog X.w H1 s1 Q (WE W σZ)) s1 := by
    refine PySem.W.kla_callFunE hr.depth of1 rfl L.co L.gen rfl ⟨c', oc, ws, t, rfl, hoc, hdc, hvc⟩ ?_
    rw [hbind _ _ _ _ _ us hul]
    refine wpAny_pure (wpAny_newFunctionEnv (fun y hy => L.nocell y hy) (fun y hy => L.par y.1 (List.of_mem_zip (a := y.1) (b := y.2) hy).1) (fun h₁ hns hsb => ⟨I1.nolimit.fresh _ hsb, ?_⟩) L.kind)
    show codeAny _ _ (.expr body (LamX.lamEnv X scope s1.heap.objs.size f c')) _ _
    have kp : ∀ b o, s1.heap.get? b = some o → h₁.get? b = some o := fun b o e => hsb.extBut b o (Nat.ne_of_lt (Heap.lt_size e)) (Heap.get?_push_of_some _ e)
    have J : Inv (lamC X (X.A.deeper (envOfC qg sg s.heap.objs.size g cdg)) (envOfC qg sg s.heap.objs.size g cdg :: X.stack) s1 H1 (WE W σZ) scope f c' Nl) [] (vs.map some ++ σZ) H1 { s1 with heap := h₁, toks := s1.toks + (pl.zip us).length } :=
      lam_begin I L I1.env0 hr.hd I1.base hns kp r hl (by rw [I1.len]; exact hNl) hx
    refine PySem.W.kla_codeExpr (wpAny_mono ((hbody _ _ s1 H1 (WE W σZ) (hr.deeper _)).run [] _ _ H1 Q J h) (fun v s' hq => ?_) fun e s' hq => hq)
    obtain ⟨w', H', J', rv, q⟩ := hq
    exact ⟨w', H', J'.os, J'.bare, J'.base, J'.hok, rv, q⟩
  refine wpAny_call (codeAny_mono go fun res s' hq => ?_)
  cases res with
  | error e => exact passAt tk σZ pinsZ H1 s1 e s' I1 hq
  | ok fl =>
    cases fl with
    | ret u => exact I1.after hq
    | next => exact False.elim hq
    | brk => exact False.elim hq
    | cont => exact False.elim hq
/-- the parameter that holds the lambda is called -/
def tAct (X : Cx) (σ : Sg) (scope : Scope) (pl Nl : List Str) (f c' : Addr) (i : Nat) (ta : TA) (W : WX) (tb : XK → TE) : TE := fun σZ HZ Q => σZ[i]? = some (some (.ref f)) ∧ ta σZ HZ fun vs H1 => vs.length = pl.length ∧ H1 c' = some (LamX.CodeO c' (X.env.qual ++ "<lambda>")) ∧ LamSl X σ scope pl Nl σZ ∧ tb (WE W σZ) (vs.map some ++ σZ) H1 Q
section
variable {Ng : List Str} {qg : Str} {sg : Scope} {g f c' : Addr} {cdg pm ctv : Value} {params : Arguments} {body : Expr} {scope : Scope} {k i : Nat} {a : Str} {pn : List (Addr × Obj)} {xe : Value → Shared → Prop} {W : WX} {tb : XK → TE} {ta : TA} {pl Nl : List Str} {p1 p2 : Pos} {e : Expr} {es : List Expr}
theorem pe_act0 (I : Inv X pins σ H s) (L : LamP X.env.scope scope pl) (hf : s.heap.get? f = some (lamO X params body scope pm c' ctv)) (hfn : H f = none) (hfr : f ∉ frs X.stack) (hbind : LamBind params body scope pl) (tk : Takes ((gCx X Ng qg sg g cdg s H).tr pn xe) W) (hr : Room (k + 1) (X.A.deeper (envOfC qg sg s.heap.objs.size g cdg)))
    (hbody : ∀ (A : Around) (outer : List Env) (s' : Shared) (H' : Hp) (E : XK), Room k (A.deeper (LamX.lamEnv X scope s'.heap.objs.size f c')) → PE (lamC X A outer s' H' E scope f c' Nl) body (tb E))
    (hNl : pl.length + Ng.length = Nl.length) (hN : Ng[i]? = some a) (hv : Vis sg a) (hd : (a == ("__debug__" : Str)) = false := by decide) (hcd : (a == ("__classdict__" : Str)) = false := by decide) :
    PE ((gCx X Ng qg sg g cdg s H).tr pn xe) (.Call (.Name a p1) [] [] p2) (tAct X σ scope pl Nl f c' i tNil W tb) := by
  refine ⟨fun pinsZ sZ σZ HZ Q IZ h => ?_⟩
  obtain ⟨hs, hl, hc, hx, ht⟩ := h
  refine wpAny_Call_Name_kw (thn ((pe_var (pos := p1) (i := i) hN hv hd hcd).run pinsZ sZ σZ HZ (fun v H1 => v = .ref f ∧ H1 = HZ) IZ ⟨.ref f, hs, rfl, rfl⟩) fun u s1 ⟨v, H1, I1, r1, q1⟩ => ?_)
  obtain ⟨ev, eH⟩ := q1
  subst ev
  rw [eH] at I1
  obtain rfl : u = Value.ref f := r1
  have of1 : s1.heap.get? f = some (lamO X params body scope pm c' ctv) := I1.base.keep f _ hf hfn hfr (fun z => nomatch (show f ∈ ([] : List Addr) from z))
  refine PySem.W.callWith_F0 ⟨_, _, _, _, of1⟩ ?_
  exact lam_run I L hf hfn hfr hbind tk hr hbody I1 .nil hl hc hNl hx ht
theorem pe_act1 (I : Inv X pins σ H s) (L : LamP X.env.scope scope pl) (hf : s.heap.get? f = some (lamO X params body scope pm c' ctv)) (hfn : H f = none) (hfr : f ∉ frs X.stack) (hbind : LamBind params body scope pl) (tk : Takes ((gCx X Ng qg sg g cdg s H).tr pn xe) W) (hr : Room (k + 1) (X.A.deeper (envOfC qg sg s.heap.objs.size g cdg)))
    (hbody : ∀ (A : Around) (outer : List Env) (s' : Shared) (H' : Hp) (E : XK), Room k (A.deeper (LamX.lamEnv X scope s'.heap.objs.size f c')) → PE (lamC X A outer s' H' E scope f c' Nl) body (tb E))
    (hNl : pl.length + Ng.length = Nl.length) (hN : Ng[i]? = some a) (hv : Vis sg a) (ha : PA ((gCx X Ng qg sg g cdg s H).tr pn xe) (e :: es) ta) (hd : (a == ("__debug__" : Str)) = false := by decide) (hcd : (a == ("__classdict__" : Str)) = false := by decide)
    (he : starEach (e :: es) (envOfC qg sg s.heap.objs.size g cdg) = (false, eval e (envOfC qg sg s.heap.objs.size g cdg)) :: starEach es (envOfC qg sg s.heap.objs.size g cdg) := by rfl) (hpl : (backTo p2 (starEach es (envOfC qg sg s.heap.objs.size g cdg))).any (·.1) = false := by rfl) :
    PE ((gCx X Ng qg sg g cdg s H).tr pn xe) (.Call (.Name a p1) (e :: es) [] p2) (tAct X σ scope pl Nl f c' i ta W tb) := by
  refine ⟨fun pinsZ sZ σZ HZ Q IZ h => ?_⟩
  obtain ⟨hs, h⟩ := h
  refine wpAny_Call_Name_kw (thn ((pe_var (pos := p1) (i := i) hN hv hd hcd).run pinsZ sZ σZ HZ (fun v H1 => v = .ref f ∧ H1 = HZ) IZ ⟨.ref f, hs, rfl, rfl⟩) fun u s1 ⟨v, H1, I1, r1, q1⟩ => ?_)
  obtain ⟨ev, eH⟩ := q1
  subst ev
  rw [eH] at I1
  obtain rfl : u = Value.ref f := r1
  have at_ : ∀ {σ2 : Sg} {H2 : Hp} {s2 : Shared}, Inv ((gCx X Ng qg sg g cdg s H).tr pn xe) pinsZ σ2 H2 s2 → PySem.W.FnAt f s2.heap := fun {σ2 H2 s2} I2 => ⟨_, _, _, _, I2.base.keep f _ hf hfn hfr (fun z => nomatch (show f ∈ ([] : List Addr) from z))⟩
  refine PySem.W.callWith_F (at_ I1) (thn (ha.run p2 pinsZ s1 σZ HZ _ I1 h) fun us s2 ⟨vs, H2, I2, r2, hl, hc, hx, ht⟩ => ⟨at_ I2, ?_⟩) he hpl
  exact lam_run I L hf hfn hfr hbind tk hr hbody I2 r2 hl hc hNl hx ht
end
end
end Pb

namespace Pb
open PySem PySem.Spec PyProof.Rows L2

/-! ### blocks: into, and out of -/
theorem fromInn_len : ∀ {env e out : En}, fromInn env e = some out → out.length = env.length
  | [], e, out, h => by cases h; rfl
  | .own o :: r, .inn q :: e, out, h => by
    obtain ⟨x, hx, rfl⟩ := Option.map_eq_some_iff.mp (show (fromInn r e).map (.own q :: ·) = some out from h)
    simp [fromInn_len hx]
  | .inn o :: r, .inn q :: e, out, h => by
    obtain ⟨x, hx, rfl⟩ := Option.map_eq_some_iff.mp (show (fromInn r e).map (.inn q :: ·) = some out from h)
    simp [fromInn_len hx]
  | .non :: r, s :: e, out, h => by
    have h' : (fromInn r e).map (.non :: ·) = some out := by cases s <;> exact h
    obtain ⟨x, hx, rfl⟩ := Option.map_eq_some_iff.mp h'
    simp [fromInn_len hx]
  | .val d :: r, s :: e, out, h => by
    have h' : (fromInn r e).map (.val d :: ·) = some out := by cases s <;> exact h
    obtain ⟨x, hx, rfl⟩ := Option.map_eq_some_iff.mp h'
    simp [fromInn_len hx]
  | .own o :: r, [], out, h => by cases h
  | .inn o :: r, [], out, h => by cases h
  | .non :: r, [], out, h => by cases h
  | .val d :: r, [], out, h => by cases h
  | .own o :: r, .own q :: e, out, h => by cases h
  | .own o :: r, .non :: e, out, h => by cases h
  | .own o :: r, .val q :: e, out, h => by cases h
  | .own o :: r, .frd q :: e, out, h => by cases h
  | .inn o :: r, .frd q :: e, out, h => by cases h
  | .frd k :: r, [], out, h => by cases h
  | .frd k :: r, s :: e, out, h => by
    have h' : (fromInn r e).map (.frd k :: ·) = some out := by cases s <;> exact h
    obtain ⟨x, hx, rfl⟩ := Option.map_eq_some_iff.mp h'
    simp [fromInn_len hx]
  | .inn o :: r, .own q :: e, out, h => by cases h
  | .inn o :: r, .non :: e, out, h => by cases h
  | .inn o :: r, .val q :: e, out, h => by cases h
def FrI (env e : En) (i : Nat) (s : Sl) : Prop := (∃ d, s = .val d ∧ env[i]? = some (.val d)) ∨ (s = .non) ∨ (∃ o q, s = .own o ∧ env[i]? = some (.own q) ∧ e[i]? = some (.inn o)) ∨ (∃ o q, s = .inn o ∧ env[i]? = some (.inn q) ∧ e[i]? = some (.inn o)) ∨ ∃ k, s = .frd k ∧ env[i]? = some (.frd k)
theorem FrI.succ {x y : Sl} {env e : En} {i : Nat} {s : Sl} (h : FrI env e i s) : FrI (x :: env) (y :: e) (i + 1) s := by
  rcases h with ⟨d, a, b⟩ | h | ⟨o, q, a, b, c⟩ | ⟨o, q, a, b, c⟩ | ⟨k, a, b⟩
  · exact .inl ⟨d, a, by simpa using b⟩
  · exact .inr (.inl h)
  · exact .inr (.inr (.inl ⟨o, q, a, by simpa using b, by simpa using c⟩))
  · exact .inr (.inr (.inr (.inl ⟨o, q, a, by simpa using b, by simpa using c⟩)))
  · exact .inr (.inr (.inr (.inr ⟨k, a, by simpa using b⟩)))
theorem fromInn_get : ∀ {env e out : En} {i : Nat} {s : Sl}, fromInn env e = some out → out[i]? = some s → FrI env e i s
  | [], e, out, i, s, h, g => by cases h; simp at g
  | .own o :: r, .inn q :: e, out, i, s, h, g => by
    obtain ⟨x, hx, rfl⟩ := Option.map_eq_some_iff.mp (show (fromInn r e).map (.own q :: ·) = some out from h)
    cases i with
    | zero => simp at g; exact .inr (.inr (.inl ⟨q, o, g.symm, rfl, rfl⟩))
    | succ i => exact (fromInn_get hx (by simpa using g)).succ
  | .inn o :: r, .inn q :: e, out, i, s, h, g => by
    obtain ⟨x, hx, rfl⟩ := Option.map_eq_some_iff.mp (show (fromInn r e).map (.inn q :: ·) = some out from h)
    cases i with
    | zero => simp at g; exact .inr (.inr (.inr (.inl ⟨q, o, g.symm, rfl, rfl⟩)))
    | succ i => exact (fromInn_get hx (by simpa using g)).succ
  | .non :: r, t :: e, out, i, s, h, g => by
    have h' : (fromInn r e).map (.non :: ·) = some out := by cases t <;> exact h
    obtain ⟨x, hx, rfl⟩ := Option.map_eq_some_iff.mp h'
    cases i with
    | zero => simp at g; exact .inr (.inl g.symm)
    | succ i => exact (fromInn_get hx (by simpa using g)).succ
  | .val d :: r, t :: e, out, i, s, h, g => by
    have h' : (fromInn r e).map (.val d :: ·) = some out := by cases t <;> exact h
    obtain ⟨x, hx, rfl⟩ := Option.map_eq_some_iff.mp h'
    cases i with
    | zero => simp at g; exact .inl ⟨d, g.symm, rfl⟩
    | succ i => exact (fromInn_get hx (by simpa using g)).succ
  | .own o :: r, [], out, i, s, h, g => by cases h
  | .inn o :: r, [], out, i, s, h, g => by cases h
  | .non :: r, [], out, i, s, h, g => by cases h
  | .val d :: r, [], out, i, s, h, g => by cases h
  | .own o :: r, .own q :: e, out, i, s, h, g => by cases h
  | .own o :: r, .non :: e, out, i, s, h, g => by cases h
  | .own o :: r, .val q :: e, out, i, s, h, g => by cases h
  | .own o :: r, .frd q :: e, out, i, s, h, g => by cases h
  | .inn o :: r, .frd q :: e, out, i, s, h, g => by cases h
  | .frd k :: r, [], out, i, s, h, g => by cases h
  | .frd k :: r, t :: e, out, i, s, h, g => by
    have h' : (fromInn r e).map (.frd k :: ·) = some out := by cases t <;> exact h
    obtain ⟨x, hx, rfl⟩ := Option.map_eq_some_iff.mp h'
    cases i with
    | zero => simp at g; exact .inr (.inr (.inr (.inr ⟨k, g.symm, rfl⟩)))
    | succ i => exact (fromInn_get hx (by simpa using g)).succ
  | .inn o :: r, .own q :: e, out, i, s, h, g => by cases h
  | .inn o :: r, .non :: e, out, i, s, h, g => by cases h
  | .inn o :: r, .val q :: e, out, i, s, h, g => by cases h
theorem toInn_get {env : En} {i : Nat} {s : Sl} (h : (env.map toInn)[i]? = some s) : (∃ d, s = .val d ∧ env[i]? = some (.val d)) ∨ s = .non ∨ ∃ o, s = .inn o ∧ (env[i]? = some (.own o) ∨ env[i]? = some (.inn o)) := by
  rw [List.getElem?_map] at h
  obtain ⟨x, hx, rfl⟩ := Option.map_eq_some_iff.mp h
  cases x with
  | non => exact .inr (.inl rfl)
  | val d => exact .inl ⟨d, rfl, hx⟩
  | own o => exact .inr (.inr ⟨o, rfl, .inl hx⟩)
  | inn o => exact .inr (.inr ⟨o, rfl, .inr hx⟩)
  | frd k => exact .inr (.inl rfl)
section
variable {p : Pm} {σ0 : S0} {σ σb σ' : Sg} {G F F' H H' : Hp} {env e : En} {bk : BkIR} {ds : List D} {fx : Nat → Bool} {cd : List (Addr × Str)}
theorem envB_len (h1 : ds.length = bk.np) (h2 : bk.np ≤ bk.nl) : (envB bk ds env).length = bk.nl + env.length := by
  unfold envB
  simp
  omega
/-- a slot of a block: one of its own, or one of the maker's -/
theorem envB_get (h1 : ds.length = bk.np) (h2 : bk.np ≤ bk.nl) {i : Nat} {s : Sl} (h : (envB bk ds env)[i]? = some s) : (i < bk.np ∧ ∃ d, s = .val d ∧ ds[i]? = some d) ∨ (i < bk.nl ∧ s = .non) ∨ (bk.nl ≤ i ∧ (env.map toInn)[i - bk.nl]? = some s) := by
  unfold envB at h
  by_cases c1 : i < bk.np
  · rw [List.getElem?_append_left (by simp; omega), List.getElem?_append_left (by simp; omega), List.getElem?_map] at h
    obtain ⟨d, hd, rfl⟩ := Option.map_eq_some_iff.mp h
    exact .inl ⟨c1, d, rfl, hd⟩
  · by_cases c2 : i < bk.nl
    · rw [List.getElem?_append_left (by simp; omega), List.getElem?_append_right (by simp; omega)] at h
      have := List.mem_of_getElem? h
      simp at this
      exact .inr (.inl ⟨c2, this.2⟩)
    · rw [List.getElem?_append_right (by simp; omega)] at h
      refine .inr (.inr ⟨by omega, ?_⟩)
      have e : (ds.map Sl.val ++ List.replicate (bk.nl - ds.length) Sl.non).length = bk.nl := by simp; omega
      rw [e] at h
      exact h
theorem Rel.into (R : Rel p σ0 G F env σ H) (h1 : ds.length = bk.np) (h2 : bk.np ≤ bk.nl) (hb : σb.length = bk.nl) (hd : ∀ (i : Nat) d, ds[i]? = some d → ∃ v, σb[i]? = some (some v) ∧ Rp p.K F d v) (hc : ∀ q ∈ cd, H q.1 = some (LamX.CodeO q.1 q.2)) :
    Rel p ⟨σb ++ σ, fx, cd⟩ G F (envB bk ds env) (σb ++ σ) H := by
  have ownB : ∀ {i : Nat} {o : Ob}, ((envB bk ds env)[i]? = some (Sl.own o) ∨ (envB bk ds env)[i]? = some (Sl.inn o)) → bk.nl ≤ i ∧ (env[i - bk.nl]? = some (.own o) ∨ env[i - bk.nl]? = some (.inn o)) := fun {i o} h => by
    rcases h with h | h <;> rcases envB_get h1 h2 h with ⟨_, d, e, _⟩ | ⟨_, e⟩ | ⟨c, e⟩
    · cases e
    · cases e
    · rcases toInn_get e with ⟨d, q, _⟩ | q | ⟨o', q, _⟩ <;> cases q
    · cases e
    · cases e
    · rcases toInn_get e with ⟨d, q, _⟩ | q | ⟨o', q, w⟩
      · cases q
      · cases q
      · cases q
        exact ⟨c, w⟩
  have at_ : ∀ {i : Nat}, bk.nl ≤ i → (σb ++ σ)[i]? = σ[i - bk.nl]? := fun {i} h => by
    rw [List.getElem?_append_right (by omega), hb]
  refine ⟨R.gs, R.fs, R.gn, R.fn, R.tb, by rw [envB_len h1 h2, List.length_append, hb, R.len], fun i d h => ?_, fun i o h => ?_, fun i j a hi hj => ?_, fun i o h => rfl, fun i h => rfl, hc, fun i k h => by
    rcases envB_get h1 h2 h with ⟨_, d, e, _⟩ | ⟨_, e⟩ | ⟨c, e⟩
    · cases e
    · cases e
    · rcases toInn_get e with ⟨d, q, _⟩ | q | ⟨o', q, _⟩ <;> cases q⟩
  · rcases envB_get h1 h2 h with ⟨c, d', e, w⟩ | ⟨_, e⟩ | ⟨c, e⟩
    · cases e
      obtain ⟨v, e1, e2⟩ := hd i d w
      exact ⟨v, by rw [List.getElem?_append_left (by omega)]; exact e1, e2⟩
    · cases e
    · rcases toInn_get e with ⟨d', q, w⟩ | q | ⟨o', q, _⟩
      · cases q
        obtain ⟨v, e1, e2⟩ := R.val _ d w
        exact ⟨v, by rw [at_ c]; exact e1, e2⟩
      · cases q
      · cases q
  · obtain ⟨c, w⟩ := ownB h
    obtain ⟨a, e1, e2⟩ := R.own _ o w
    exact ⟨a, by rw [at_ c]; exact e1, e2⟩
  · obtain ⟨o, w⟩ := isOwn_iff.mp hi
    obtain ⟨o2, w2⟩ := isOwn_iff.mp hj
    obtain ⟨c, w⟩ := ownB w
    obtain ⟨c2, w2⟩ := ownB w2
    intro e1 e2
    rw [at_ c] at e1
    rw [at_ c2] at e2
    have := R.inj _ _ a (isOwn_iff.mpr ⟨o, w⟩) (isOwn_iff.mpr ⟨o2, w2⟩) e1 e2
    omega
/-- the maker's relation, behind the block -/
theorem Rel.back {out : En} (R : Rel p σ0 G F env σ H) (R2 : Rel p ⟨σb ++ σ, fx, cd⟩ G F' e σ' H') (gr : Grow G F F') (hb : σb.length = bk.nl) (hc : ∀ q ∈ σ0.cd, q ∈ cd) (h : fromInn env (e.drop bk.nl) = some out) :
    Rel p σ0 G F' out σ H' ∧ (∀ i, isOwn out[i]? → isOwn e[bk.nl + i]? ∧ σ'[bk.nl + i]? = σ[i]?) := by
  have key : ∀ {i : Nat} {o : Ob}, (out[i]? = some (Sl.own o) ∨ out[i]? = some (Sl.inn o)) → e[bk.nl + i]? = some (.inn o) ∧ σ'[bk.nl + i]? = σ[i]? ∧ isOwn env[i]? := fun {i o} w => by
    have : e[bk.nl + i]? = some (.inn o) ∧ isOwn env[i]? := by
      rcases w with w | w <;> rcases fromInn_get h w with ⟨d, q, _⟩ | q | ⟨o1, o2, q, q2, q3⟩ | ⟨o1, o2, q, q2, q3⟩ | ⟨kk, q, _⟩ <;> cases q
      · rw [List.getElem?_drop] at q3
        exact ⟨q3, by rw [q2]; trivial⟩
      · rw [List.getElem?_drop] at q3
        exact ⟨q3, by rw [q2]; trivial⟩
    refine ⟨this.1, ?_, this.2⟩
    rw [R2.inn _ o this.1]
    show (σb ++ σ)[bk.nl + i]? = _
    rw [List.getElem?_append_right (by omega), hb]
    congr 1
    omega
  refine ⟨⟨R2.gs, R2.fs, R.gn, R2.fn, R2.tb, by rw [fromInn_len h, R.len], fun i d w => ?_, fun i o w => ?_, fun i j a hi hj e1 e2 => ?_, fun i o w => ?_, R.fix, fun q hq => R2.cds q (hc q hq), fun i k w => by
    rcases fromInn_get h w with ⟨d', q, w2⟩ | q | ⟨o1, o2, q, _⟩ | ⟨o1, o2, q, _⟩ | ⟨kk, q, w2⟩ <;> cases q
    obtain ⟨a, e1, e2⟩ := R.frd i _ w2
    exact ⟨a, e1, e2.mono gr.sub fun u q => gr.sub a u q⟩⟩, fun i hi => ?_⟩
  · rcases fromInn_get h w with ⟨d', q, w2⟩ | q | ⟨o1, o2, q, _⟩ | ⟨o1, o2, q, _⟩ | ⟨kk, q, _⟩ <;> cases q
    obtain ⟨v, e1, e2⟩ := R.val i d w2
    exact ⟨v, e1, Rp.mono gr.sub _ _ e2⟩
  · obtain ⟨k1, k2, _⟩ := key w
    obtain ⟨a, e1, e2⟩ := R2.own _ o (.inr k1)
    exact ⟨a, by rw [← k2]; exact e1, e2⟩
  · obtain ⟨o, w⟩ := isOwn_iff.mp hi
    obtain ⟨o2, w2⟩ := isOwn_iff.mp hj
    obtain ⟨k1, k2, _⟩ := key w
    obtain ⟨l1, l2, _⟩ := key w2
    have := R2.inj (bk.nl + i) (bk.nl + j) a (isOwn_iff.mpr ⟨o, .inr k1⟩) (isOwn_iff.mpr ⟨o2, .inr l1⟩) (by rw [k2]; exact e1) (by rw [l2]; exact e2)
    omega
  · rcases fromInn_get h w with ⟨d', q, w2⟩ | q | ⟨o1, o2, q, _⟩ | ⟨o1, o2, q, q2, _⟩ | ⟨kk, q, _⟩ <;> cases q
    exact R.inn i o2 q2
  · obtain ⟨o, w⟩ := isOwn_iff.mp hi
    obtain ⟨k1, k2, _⟩ := key w
    exact ⟨isOwn_iff.mpr ⟨o, .inr k1⟩, k2⟩
theorem RR.back {out : En} {r q : RV} {v : V} (R2 : Rel p ⟨σb ++ σ, fx, cd⟩ G F' e σ' H') (ho : ∀ i, isOwn out[i]? → isOwn e[bk.nl + i]? ∧ σ'[bk.nl + i]? = σ[i]?) (hr : RR p G F' e σ' H' r v) (hq : retB bk.nl e r = some q) : RR p G F' out σ H' q v := by
  cases r with
  | val d => cases hq; exact hr
  | fresh o =>
    cases hq
    obtain ⟨a, e1, e2, e3, e4, e5⟩ := hr
    refine ⟨a, e1, e2, e3, e4, fun i hi z => ?_⟩
    obtain ⟨k1, k2⟩ := ho i hi
    exact e5 _ k1 (by rw [k2]; exact z)
  | slot i =>
    simp only [retB] at hq
    split at hq
    · rename_i hi
      split at hq
      · rename_i o hs
        cases hq
        obtain ⟨a, e1, e2, e3, e4⟩ := R2.own i o (.inl hs)
        have hv : σ'[i]? = some (some v) := hr
        rw [e1] at hv
        cases hv
        refine ⟨a, rfl, e2, e3, e4, fun j hj z => ?_⟩
        obtain ⟨k1, k2⟩ := ho j hj
        have := R2.inj i (bk.nl + j) a (isOwn_iff.mpr ⟨o, .inl hs⟩) k1 e1 (by rw [k2]; exact z)
        omega
      · cases hq
    · cases hq
end

/-! ### the lambda is called -/
def fxG (nl : Nat) : Nat → Bool := fun i => Nat.beq i 0 || Nat.ble nl i
def fxL (nl : Nat) : Nat → Bool := fun i => Nat.ble nl i
/-- the names of a lambda's run: its parameters, places of the def that calls it, the maker's names -/
def lamNB (N : List Str) (scope : Scope) (pl ph : List Str) : Bool := ph.all (fun y => decide (scope.names.lookup y = none)) && pl.all fun y => decide (y ∉ N)
theorem lamSl_of {X : Cx} {σ σZ : Sg} {sc scope : Scope} {pl ph : List Str} {nl : Nat} (L : LamP sc scope pl) (hB : lamNB X.N scope pl ph = true) (hph : ph.length = nl) (hz : ∀ i, nl ≤ i → σZ[i]? = σ[i - nl]?) : LamSl X σ scope pl (pl ++ (ph ++ X.N)) σZ := by
  unfold lamNB at hB
  simp only [Bool.and_eq_true, List.all_eq_true, decide_eq_true_eq] at hB
  refine ⟨by simp, fun i y v hy hv vis => ?_⟩
  rw [List.getElem?_append_right (by omega), Nat.add_sub_cancel_left] at hy
  by_cases hi : i < nl
  · rw [List.getElem?_append_left (by omega)] at hy
    have := hB.1 y (List.mem_of_getElem? hy)
    rcases vis with q | q | q <;> rw [this] at q <;> cases q
  · rw [List.getElem?_append_right (by omega), hph] at hy
    refine ⟨?_, i - nl, hy, by rw [← hz i (by omega)]; exact hv⟩
    rcases vis with q | q | q
    · exact absurd (List.mem_of_getElem? hy) (hB.2 y (L.own _ (PySem.mem_of_lookup q) rfl))
    · exact absurd rfl (L.nocell _ (PySem.mem_of_lookup q))
    · exact q
/-- a lambda of X stands at f, made at the state s -/
structure LamHere (X : Cx) (pins : List (Addr × Obj)) (σ : Sg) (H : Hp) (s : Shared) (params : Arguments) (body : Expr) (scope : Scope) (f c' : Addr) : Prop where
  inv : Inv X pins σ H s
  ob : ∃ pm ctv : Value, s.heap.get? f = some (lamO X params body scope pm c' ctv)
  nh : H f = none
  nf : f ∉ frs X.stack
section
variable {X : Cx} {pins : List (Addr × Obj)} {σ : Sg} {H : Hp} {s : Shared} {Ng : List Str} {qg : Str} {sg : Scope} {g f c' : Addr} {cdg : Value} {params : Arguments} {body : Expr} {scope : Scope} {k nl jl : Nat} {a : Str} {pn : List (Addr × Obj)} {xe : Value → Shared → Prop} {W : WX} {pl ph : List Str} {p1 p2 : Pos} {e1 : Expr} {es : List Expr}
  {Tb : List (Addr × Str)} {σb : Sg} {cd : List (Addr × Str)} {clg cll : Cl} {irl : E} {irs : Es}
/-- what the lambda's block gives is what its body gives -/
theorem act_good {p : Pm} {σZ : Sg} {H2 : Hp} {env2 : En} {G F2 : Hp} {ds : List D} {vs : List V} {Q : VK} {S1 : S0} (R2 : Rel p S1 G F2 env2 σZ H2) (hvs : RpAll p.K F2 ds vs) (g : GoodB p S1 G F2 σZ W (OkE p G σZ Q) (runB cll ⟨pl.length, pl.length, true, .ret irl⟩ ds env2)) :
    vs.length = pl.length ∧ tE p ⟨vs.map some ++ σZ, fxL pl.length, S1.cd⟩ (fun cls d _ H' => WE W σZ cls d H') (evE cll irl) (vs.map some ++ σZ) H2 Q := by
  unfold runB at g
  split at g
  · rename_i hc
    have hl : vs.length = pl.length := by rw [hvs.length]; exact hc.1
    have hb : (vs.map some).length = (⟨pl.length, pl.length, true, .ret irl⟩ : BkIR).nl := by simpa using hl
    refine ⟨hl, G, F2, envB ⟨pl.length, pl.length, true, .ret irl⟩ ds env2, R2.into hc.1 hc.2 hb (fun i d hd => ?_) R2.cds, ?_⟩
    · obtain ⟨v, hv, rv⟩ := hvs.get hd
      exact ⟨v, by rw [List.getElem?_map, hv]; rfl, rv⟩
    · simp only [evS] at g
      cases hx : evE cll irl (envB ⟨pl.length, pl.length, true, .ret irl⟩ ds env2) with
      | bad => rw [hx] at g; exact (show False from g).elim
      | exc c e =>
        rw [hx] at g
        simp only [Res.bind_exc, if_true] at g
        intro cls d H' F' gr Rl x
        cases hf : fromInn env2 (e.drop pl.length) with
        | none => rw [hf] at g; exact (show False from g).elim
        | some out =>
          rw [hf] at g
          obtain ⟨R', _⟩ := R2.back (bk := ⟨pl.length, pl.length, true, .ret irl⟩) Rl gr hb (fun _ h => h) hf
          exact g cls d H' F' gr R' x
      | ok z =>
        obtain ⟨r, e⟩ := z
        rw [hx] at g
        simp only [Res.bind_ok] at g
        intro H' F' gr Rl v hv
        cases hq : retB pl.length e r with
        | none => simp only [hq] at g; exact (show False from g).elim
        | some q =>
          cases hf : fromInn env2 (e.drop pl.length) with
          | none => simp only [hq, hf] at g; exact (show False from g).elim
          | some out =>
            simp only [hq, hf] at g
            obtain ⟨R', ho⟩ := R2.back (bk := ⟨pl.length, pl.length, true, .ret irl⟩) Rl gr hb (fun _ h => h) hf
            exact g H' F' gr R' v (RR.back (bk := ⟨pl.length, pl.length, true, .ret irl⟩) Rl ho hv hq)
  · exact (show False from g).elim
/-- the derivation of a lambda's body, wherever it runs -/
abbrev LamBody (X : Cx) (Tb : List (Addr × Str)) (scope : Scope) (f c' : Addr) (pl ph : List Str) (k : Nat) (cll : Cl) (body : Expr) (irl : E) : Prop := ∀ (A : Around) (outer : List Env) (s' : Shared) (H' : Hp) (E : XK) (σv : Sg) (cd : List (Addr × Str)), Room k (A.deeper (LamX.lamEnv X scope s'.heap.objs.size f c')) →
  SE (lamC X A outer s' H' E scope f c' (pl ++ (ph ++ X.N))) Tb ⟨σv, fxL pl.length, cd⟩ (fun cls d _ H' => E cls d H') cll body irl
theorem se_act0 (LH : LamHere X pins σ H s params body scope f c') (L : LamP X.env.scope scope []) (hbind : LamBind params body scope []) (tk : Takes ((gCx X Ng qg sg g cdg s H).tr pn xe) W) (hr : Room (k + 1) (X.A.deeper (envOfC qg sg s.heap.objs.size g cdg)))
    (hB : lamNB X.N scope [] ph = true) (hph : ph.length = nl) (hNg : Ng.length = nl + X.N.length) (hb : σb.length = nl) (hb0 : σb[0]? = some (some (.ref f))) (hbody : LamBody X Tb scope f c' [] ph k cll body irl) (hcl : (∀ ds env, clg.b jl ds env = .bad) ∨ ∀ ds env, clg.b jl ds env = runB cll ⟨0, 0, true, .ret irl⟩ ds env)
    (hN : Ng[0]? = some a := by rfl) (hv : Vis sg a := by first | exact Or.inl rfl | exact Or.inr (Or.inl rfl) | exact Or.inr (Or.inr rfl)) (hd : (a == ("__debug__" : Str)) = false := by decide) (hcd : (a == ("__classdict__" : Str)) = false := by decide) :
    SE ((gCx X Ng qg sg g cdg s H).tr pn xe) Tb ⟨σb ++ σ, fxG nl, (c', X.env.qual ++ "<lambda>") :: cd⟩ W clg (.Call (.Name a p1) [] [] p2) (.blk jl .nil) := by
  obtain ⟨pm', ctv, hf⟩ := LH.ob
  refine PE.mono (pe_act0 (k := k) (Nl := [] ++ (ph ++ X.N)) (tb := fun E σl H' Q => ∃ σv cd, tE (pm X Tb) ⟨σv, fxL 0, cd⟩ (fun cls d _ H' => E cls d H') (evE cll irl) σl H' Q) LH.inv L hf LH.nh LH.nf hbind tk hr (fun A outer s' H' E hr2 => ?_) (by simp [hNg, hph]) hN hv hd hcd) fun σZ HZ Q q => ?_
  · exact ⟨fun pins s σl H0 Q I ⟨σv, cd2, h⟩ => (hbody A outer s' H' E σv cd2 hr2).run pins s σl H0 Q I h⟩
  · obtain ⟨G, F, env, R, g⟩ := q
    have g' : GoodB (pm X Tb) ⟨σb ++ σ, fxG nl, (c', X.env.qual ++ "<lambda>") :: cd⟩ G F σZ W (OkE (pm X Tb) G σZ Q) (clg.b jl [] env) := g
    rcases hcl with hcl | hcl
    · rw [hcl] at g'
      exact (show False from g').elim
    rw [hcl] at g'
    obtain ⟨hl, ht⟩ := act_good (pl := []) (p := pm X Tb) R RpAll.nil g'
    have hn0 : 0 < nl := by rw [← hb]; exact (List.getElem?_eq_some_iff.mp hb0).1
    have h0 := R.fix 0 rfl
    rw [show (σb ++ σ)[0]? = σb[0]? from List.getElem?_append_left (by omega), hb0] at h0
    have hsl : σ.length = X.N.length := LH.inv.len
    refine ⟨h0, hl, R.cds (c', X.env.qual ++ "<lambda>") List.mem_cons_self, lamSl_of (sc := X.env.scope) (nl := nl) L hB hph fun i hi => ?_, _, _, ht⟩
    rw [R.fix i (by unfold fxG; simp [Nat.ble_eq.mpr hi])]
    show (σb ++ σ)[i]? = _
    rw [List.getElem?_append_right (by omega), hb]
theorem se_act1 (LH : LamHere X pins σ H s params body scope f c') (L : LamP X.env.scope scope pl) (hbind : LamBind params body scope pl) (tk : Takes ((gCx X Ng qg sg g cdg s H).tr pn xe) W) (hr : Room (k + 1) (X.A.deeper (envOfC qg sg s.heap.objs.size g cdg)))
    (hB : lamNB X.N scope pl ph = true) (hph : ph.length = nl) (hNg : Ng.length = nl + X.N.length) (hb : σb.length = nl) (hb0 : σb[0]? = some (some (.ref f))) (hbody : LamBody X Tb scope f c' pl ph k cll body irl) (hcl : (∀ ds env, clg.b jl ds env = .bad) ∨ ∀ ds env, clg.b jl ds env = runB cll ⟨pl.length, pl.length, true, .ret irl⟩ ds env)
    (ha : SA ((gCx X Ng qg sg g cdg s H).tr pn xe) Tb ⟨σb ++ σ, fxG nl, (c', X.env.qual ++ "<lambda>") :: cd⟩ W clg (e1 :: es) irs)
    (hN : Ng[0]? = some a := by rfl) (hv : Vis sg a := by first | exact Or.inl rfl | exact Or.inr (Or.inl rfl) | exact Or.inr (Or.inr rfl)) (hd : (a == ("__debug__" : Str)) = false := by decide) (hcd : (a == ("__classdict__" : Str)) = false := by decide)
    (he : starEach (e1 :: es) (envOfC qg sg s.heap.objs.size g cdg) = (false, eval e1 (envOfC qg sg s.heap.objs.size g cdg)) :: starEach es (envOfC qg sg s.heap.objs.size g cdg) := by rfl) (hpl : (backTo p2 (starEach es (envOfC qg sg s.heap.objs.size g cdg))).any (·.1) = false := by rfl) :
    SE ((gCx X Ng qg sg g cdg s H).tr pn xe) Tb ⟨σb ++ σ, fxG nl, (c', X.env.qual ++ "<lambda>") :: cd⟩ W clg (.Call (.Name a p1) (e1 :: es) [] p2) (.blk jl irs) := by
  obtain ⟨pm', ctv, hf⟩ := LH.ob
  refine PE.mono (pe_act1 (k := k) (Nl := pl ++ (ph ++ X.N)) (tb := fun E σl H' Q => ∃ σv cd, tE (pm X Tb) ⟨σv, fxL pl.length, cd⟩ (fun cls d _ H' => E cls d H') (evE cll irl) σl H' Q) LH.inv L hf LH.nh LH.nf hbind tk hr (fun A outer s' H' E hr2 => ?_) (by simp [hNg, hph]) hN hv ha hd hcd he hpl) fun σZ HZ Q q => ?_
  · exact ⟨fun pins s σl H0 Q I ⟨σv, cd2, h⟩ => (hbody A outer s' H' E σv cd2 hr2).run pins s σl H0 Q I h⟩
  · obtain ⟨G, F, env, R, g⟩ := q
    have hn0 : 0 < nl := by rw [← hb]; exact (List.getElem?_eq_some_iff.mp hb0).1
    have h0 := R.fix 0 rfl
    rw [show (σb ++ σ)[0]? = σb[0]? from List.getElem?_append_left (by omega), hb0] at h0
    refine ⟨h0, G, F, env, R, GoodB.part (.refl G) g fun ds env2 F2 H2 gr R2 g2 vs hvs => ?_⟩
    have g3 : GoodB (pm X Tb) ⟨σb ++ σ, fxG nl, (c', X.env.qual ++ "<lambda>") :: cd⟩ G F2 σZ W (OkE (pm X Tb) G σZ Q) (clg.b jl ds env2) := g2
    rcases hcl with hcl | hcl
    · rw [hcl] at g3
      exact (show False from g3).elim
    rw [hcl] at g3
    obtain ⟨hl, ht⟩ := act_good (pl := pl) (p := pm X Tb) R2 hvs g3
    refine ⟨hl, R2.cds (c', X.env.qual ++ "<lambda>") List.mem_cons_self, lamSl_of (sc := X.env.scope) (nl := nl) L hB hph fun i hi => ?_, _, _, ht⟩
    rw [R2.fix i (by unfold fxG; simp [Nat.ble_eq.mpr hi])]
    show (σb ++ σ)[i]? = _
    rw [List.getElem?_append_right (by omega), hb]
end
end Pb

namespace Pb
open PySem PySem.Spec PyProof.Rows L2

/-! ### a def is handed a lambda -/
section
variable {X : Cx} {pins : List (Addr × Obj)} {σ σ1 : Sg} {H H1 : Hp} {s : Shared}
/-- places that are no names of the scope hold anything -/
theorem inv_ph {nl : Nat} (I : Inv X pins σ1 H s) (hv : ∀ (i : Nat) y, nl ≤ i → X.N[i]? = some y → ¬ Vis X.env.scope y) (hl : nl + σ.length = X.N.length) : Inv X pins (σ1.take nl ++ σ) H s := by
  have h1 : (σ1.take nl).length = nl := by rw [List.length_take, I.len]; omega
  refine { I with loc := ?_, len := by rw [List.length_append, h1]; exact hl }
  obtain ⟨m, hn, h⟩ := I.loc
  refine ⟨m, hn, fun i y v p q vis => ?_⟩
  by_cases hi : i < nl
  · rw [List.getElem?_append_left (by omega), List.getElem?_take_of_lt hi] at q
    exact h i y v p q vis
  · exact absurd vis (hv i y (by omega) p)
theorem Rel.ext {p : Pm} {σ0 : S0} {G F : Hp} {env : En} (R : Rel p σ0 G F env σ H) (e : LamX.ExtN H H1) (t : LamX.Tabs p.Tb H1) : Rel p σ0 G F env σ H1 where
  gs := fun a o h => e a o (R.gs a o h) fun ps z => R.gn a ps (by rw [← z]; exact h)
  fs := fun a o h => e a o (R.fs a o h) fun ps z => R.fn a ps (by rw [← z]; exact h)
  gn := R.gn
  fn := R.fn
  tb := t
  len := R.len
  val := R.val
  own := fun i o h => by
    obtain ⟨a, e1, e2, e3, e4⟩ := R.own i o h
    obtain ⟨u, hu, nt⟩ := e2.here
    exact ⟨a, e1, e2.stay fun w q => by
      rw [hu] at q
      cases q
      exact e a _ hu nt, e3, e4⟩
  inj := R.inj
  inn := R.inn
  fix := R.fix
  cds := fun q hq => e _ _ (R.cds q hq) fun ps z => by unfold LamX.CodeO at z; cases z
  frd := R.frd
def phB (sg : Scope) (ph : List Str) : Bool := ph.all fun y => decide (sg.names.lookup y = none)
/-- x(lambda ..: e) -/
theorem se_lam {Tb : List (Addr × Str)} {σ0 : S0} {W : WX} {cl clg : Cl} {x a : Str} {g c P : Addr} {k j : Nat} {pg : Arguments} {bg : List Stmt} {sg : Scope} {dV kV doc pm' cdv ct oc : Value} {an od : Option Addr} {osl : Array (Option Value)} {Ng0 ph : List Str} {nl : Nat} {irg : S}
    {params : Arguments} {body : Expr} {scope : Scope} {pl : List Str} {p lpos pos : Pos} (hm : X.mg x = some (.ref g)) (hk : PySem.W.keepIn X.K (.ref g) = true)
    (lk : X.K.lookup g = some ⟨oc, od, .func (PySem.W.fnOf x x pg bg sg dV kV doc pm' an cdv ct), osl⟩) (hcg : PySem.W.codeIn X.K cdv x = true) (hb : L2.Binds X.K (PySem.W.fnOf x x pg bg sg dV kV doc pm' an cdv ct) [a] []) (hSg : FnScope (Ng0 ++ ph) [a] sg) (hnl : Ng0.length = nl) (hpos : 0 < nl) (hphl : ph.length = X.N.length) (hph : phB sg ph = true)
    (TB : LamX.TabB X.base X.mg c P) (hcode : X.env.code = .ref c) (hmT : (P, X.env.qual ++ "<lambda>") ∈ Tb) (hu : ∀ p ∈ Tb, p.1 = P → p.2 = X.env.qual ++ "<lambda>") (hr : Room (k + 2) X.A) (L : LamP X.env.scope scope pl)
    (hj : ∀ ds env, cl.b j ds env = runB clg ⟨0, nl, false, irg⟩ ds env)
    (hG : ∀ {f c' : Addr} {pins : List (Addr × Obj)} {σ : Sg} {H : Hp} {s : Shared} {σb : Sg}, LamHere X pins σ H s params body scope f c' → Room (k + 1) (X.A.deeper (envOfC x sg s.heap.objs.size g cdv)) → σb.length = nl → σb[0]? = some (some (.ref f)) →
      SSs (gCx X (Ng0 ++ ph) x sg g cdv s H).nox Tb ⟨σb ++ σ, fxG nl, (c', X.env.qual ++ "<lambda>") :: σ0.cd⟩ (fun _ _ _ _ => False) clg bg irg)
    (hg : Gl X x := by rfl) (hdef : defaultsOf params X.env = ([], []) := by rfl) (hdb : (x == ("__debug__" : Str)) = false := by decide) :
    SE X Tb σ0 W cl (.Call (.Name x p) [.Lambda params body scope lpos] [] pos) (.blk j .nil) := by
  refine ⟨fun pins s σ H Q I h => ?_⟩
  obtain ⟨G, F, env, R, g0⟩ := h
  have gg : GoodB (pm X Tb) σ0 G F σ W (OkE (pm X Tb) G σ Q) (cl.b j [] env) := g0
  rw [hj] at gg
  refine wpAny_Call_Name_kw (ld_glob I hg hm ?_ hdb)
  refine PySem.W.callWith_K (h₀ := X.base) I.ok.mod.kin hk ?_ (by rfl) (by rfl)
  show wpAny _ _ (spliced ((false, eval (.Lambda params body scope lpos) X.env) :: backTo pos (starEach [] X.env))) _ _ s
  refine Calls.spliced_cons (LamX.lam_make2 I TB hcode hmT hu R.tb hdef (L.has I.ok) fun f c' pmv ctv H1 s1 I1 eN T1 hf hfn hfr hco => ?_)
  refine Calls.spliced_nil ⟨I1.kIn, ?_⟩
  have hsl : σ.length = X.N.length := I.len
  have R1 : Rel (pm X Tb) σ0 G F env σ H1 := R.ext eN T1
  obtain ⟨σb, eσ, hσb, hσ0⟩ : ∃ σb : Sg, σb = (L2.start (Ng0 ++ ph) [V.ref f]).take nl ∧ σb.length = nl ∧ σb[0]? = some (some (.ref f)) := by
    refine ⟨_, rfl, ?_, ?_⟩
    · unfold L2.start
      simp
      omega
    · unfold L2.start
      rw [List.getElem?_take_of_lt hpos]
      rfl
  have Rb : Rel (pm X Tb) ⟨σb ++ σ, fxG nl, (c', X.env.qual ++ "<lambda>") :: σ0.cd⟩ G F (envB ⟨0, nl, false, irg⟩ [] env) (σb ++ σ) H1 :=
    R1.into (bk := ⟨0, nl, false, irg⟩) (ds := []) rfl (Nat.zero_le _) hσb (fun i d hd => by simp at hd) fun q hq => by
      rcases List.mem_cons.mp hq with e | e
      · rw [e]
        exact hco
      · exact R1.cds q e
  have rc : codeAny (model X.prog X.w) X.A (.call (.ref g) ⟨[.ref f], []⟩) (CR C8.CX0 X.stack X.prog X.w H1 s1 Q C8.E0) s1 := by
    refine LamX.run_ofS (N := Ng0 ++ ph) (ps := [a]) (us := [.ref f]) (vs := [.ref f]) lk hcg hSg hr I1.env0 (hb s1 [.ref f] I1.kIn rfl) (.cons rfl .nil) rfl fun hr' => ?_
    have hbody := hG ⟨I1, ⟨_, _, hf⟩, hfn, hfr⟩ hr' hσb hσ0
    refine ⟨fun D σz Hz => (tS (pm X Tb) ⟨σb ++ σ, fxG nl, (c', X.env.qual ++ "<lambda>") :: σ0.cd⟩ (fun _ _ _ _ => False) (evS clg irg)) D (σz.take nl ++ σ) Hz, PSs.nox ⟨fun pz sz σz Hz D Iz h => ?_⟩, ?_⟩
    · refine hbody.run pz sz _ Hz D (inv_ph Iz (fun i y hi hy vis => ?_) ?_) h
      · have hy : (Ng0 ++ ph)[i]? = some y := hy
        rw [List.getElem?_append_right (by omega)] at hy
        have hmem := List.all_eq_true.mp hph y (List.mem_of_getElem? hy)
        have hmem : sg.names.lookup y = none := of_decide_eq_true hmem
        have vis : Vis sg y := vis
        rcases vis with q | q | q <;> rw [hmem] at q <;> cases q
      · show nl + σ.length = (Ng0 ++ ph).length
        rw [List.length_append, hnl, hphl, hsl]
    · show tS _ _ _ _ _ ((L2.start (Ng0 ++ ph) [V.ref f]).take nl ++ σ) H1
      rw [← eσ]
      refine ⟨G, F, _, Rb, ?_⟩
      unfold runB at gg
      rw [if_pos ⟨rfl, Nat.zero_le _⟩] at gg
      cases hx : evS clg irg (envB ⟨0, nl, false, irg⟩ [] env) with
      | bad => simp only [hx] at gg; exact gg
      | exc cc e => simp only [hx] at gg; exact (show False from gg).elim
      | ok z =>
        obtain ⟨fl, e⟩ := z
        simp only [hx] at gg
        cases fl with
        | nx => exact (show False from gg).elim
        | brk => exact (show False from gg).elim
        | ct => exact (show False from gg).elim
        | ret r =>
          simp only at gg
          intro σ2 H2 F2 gr R2 v hv
          cases hq : retB nl e r with
          | none => simp only [hq] at gg; exact (show False from gg).elim
          | some q =>
            cases hfi : fromInn env (e.drop nl) with
            | none => simp only [hq, hfi] at gg; exact (show False from gg).elim
            | some out =>
              simp only [hq, hfi] at gg
              obtain ⟨R3, ho⟩ := R1.back (bk := ⟨0, nl, false, irg⟩) R2 gr hσb (fun q hq => List.mem_cons_of_mem _ hq) hfi
              exact gg H2 F2 gr R3 v (RR.back (bk := ⟨0, nl, false, irg⟩) R2 ho hv hq)
  refine wpAny_call (codeAny_mono rc fun r s2 hq => ?_)
  cases r with
  | error e => exact (show False from hq).elim
  | ok fl =>
    cases fl with
    | ret u => exact I1.after hq
    | next => exact False.elim hq
    | brk => exact False.elim hq
    | cont => exact False.elim hq
/-- a block that there is not -/
theorem se_nob {Tb : List (Addr × Str)} {σ0 : S0} {W : WX} {cl : Cl} {e : Expr} {j : Nat} (h : ∀ ds env, cl.b j ds env = .bad) : SE X Tb σ0 W cl e (.blk j .nil) := ⟨fun pins s σ H Q I q => by
  obtain ⟨G, F, env, R, g⟩ := q
  have g' : GoodB (pm X Tb) σ0 G F σ W (OkE (pm X Tb) G σ Q) (cl.b j [] env) := g
  rw [h] at g'
  exact (show False from g').elim⟩
end
end Pb

namespace Pb
open PySem PySem.Spec PyProof.Rows L2

/-! ### try, with several clauses, each with a name or without -/
abbrev Cla := Value × Option Nat × (Addr → Value → Option Addr → TS)
def goneEnds (D : Ends) (i : Nat) : Ends := { nx := fun σ' H' => D.nx (σ'.set i none) H', rt := D.rt, bk := fun σ' H' => D.bk (σ'.set i none) H', ct := fun σ' H' => D.ct (σ'.set i none) H' }
def claTS (D : Ends) (ts : Addr → Value → Option Addr → TS) (a : Addr) (cls : Value) (d : Option Addr) (σ : Sg) (H : Hp) : Option Nat → Prop
  | none => ts a cls d D σ H
  | some i => ts a cls d (goneEnds D i) (σ.set i (some (.ref a))) H
def wCla (K : PySem.W.Frag) (Wout : WX) (D : Ends) : List Cla → WX
  | [] => Wout
  | (c, as_, ts) :: r => fun cls d σ H => ∃ b, PySem.W.exmOne K cls c = some b ∧ (b = true → ∀ a, H a = none → claTS D ts a cls d σ H as_) ∧ (b = false → wCla K Wout D r cls d σ H)
/-- the name behind 'as' stands in slot i -/
def AsOk (X : Cx) : Option Str → Option Nat → Prop
  | none, none => True
  | some n, some i => X.N[i]? = some n ∧ X.env.kindOf n = some .local
  | _, _ => False
inductive ClaOk (X : Cx) : List ExceptHandler → List Cla → Prop
  | nil : ClaOk X [] []
  | cons {x : Str} {c : Value} {an : Option Str} {ai : Option Nat} {ts : Addr → Value → Option Addr → TS} {b : Stmt} {bs : List Stmt} {np pp : Pos} {hds : List ExceptHandler} {l : List Cla} (hc : Names X x c) (has : AsOk X an ai)
      (hsu : ∀ (a : Addr) (oe : Obj) (cls : Value) (d : Option Addr) (pn : List (Addr × Obj)), Zc cls d oe → (∃ vs, oe.data = .fields vs) → PSs (X.suite a ((a, oe) :: pn)) (b :: bs) (ts a cls d)) (r : ClaOk X hds l) :
      ClaOk X (.ExceptHandler (some (.Name x np)) an (b :: bs) pp :: hds) ((c, ai, ts) :: l)
theorem ps_cla {X : Cx} {body : List Stmt} {hd0 : ExceptHandler} {hds : List ExceptHandler} {l : List Cla} {pos : Pos} {tb : WX → TS} {Wout : WX} (hs : X.stack = X.env :: X.outer) (hf : X.env.frame = some X.env.locals) (hN : X.N.Nodup) (tk : Takes X Wout)
    (hb : ∀ (W : WX) (pn : List (Addr × Obj)) (xe : Value → Shared → Prop), Takes (X.tr pn xe) W → PassesOwn (model X.prog X.w) X.A X.env xe → PSs (X.tr pn xe) body (tb W))
    (hh : ClaOk X (hd0 :: hds) l) : PS X (.Try body (hd0 :: hds) [] [] pos) (fun D σ H => tb (wCla X.K Wout D l) D σ H) := by
  refine ⟨fun pins s σ H D I h => ?_⟩
  have oX := I.ok
  have hfrm : X.A.frames = some (X.env :: X.outer) := by rw [oX.frames, hs]
  refine wpAny_Try_except ?_
  refine wpAny_mono ((hb (wCla X.K Wout D l) (X.pn ++ pins) (fun e t1 => wpAny (model X.prog X.w) X.A (noteFrame e X.env) (fun _ t2 => wpAny (model X.prog X.w) X.A (setFlight e none) (fun _ t3 =>
    wpAny (model X.prog X.w) X.A (handleBy e X.env (hd0 :: hds)) (SP X pins D) X.xe t3) X.xe t2) X.xe t1) (fun u t xx => ?_) PassesOwn.looking).run [] s σ H D (I.toTry _) h) (fun fl t1 hsp => ?_) (fun e t1 he => he)
  · obtain ⟨a, B, sI, pz, σz, Hz, cls, d, rfl, Jz, nb, up, sky, na, os, ag, w⟩ := xx
    have J : Inv X pins σz Hz sI := Jz.ofTry oX
    have sky2 : Sky B (X.env :: X.outer) a (Zc cls d) X.env.locals t.heap := by rw [← hs]; exact sky
    show wpAny (model X.prog X.w) X.A (noteFrame (.ref a) X.env) _ _ _
    refine Sky.land Zc.steady hfrm hf sky2 fun g3 fly3 up3 => ?_
    have J3 : Inv X pins σz Hz { t with heap := g3 } := J.landed nb fly3.1 (up.trans up3) os ag
    obtain ⟨oe3, vs3, he3, hz3, hd3⟩ := fly3.there
    have noFr : ∀ {h : Heap} {o : Obj} {vs : Array Value}, h.FunFrames B (X.env :: X.outer) → h.get? a = some o → o.data = .fields vs → a ∉ frs (X.env :: X.outer) := fun {h o vs} ff e dd hm => by
      obtain ⟨_, o2, e2, hnf⟩ := ff.mem hm
      rw [e] at e2
      cases e2
      exact hnf _ dd
    have noFr3 := noFr fly3.2.2.1 he3 hd3
    have aL : a ≠ X.env.locals := fun z => noFr3 (List.mem_filterMap.mpr ⟨X.env, List.mem_cons_self, by rw [hf, z]⟩)
    have aF : a ∉ X.fs := fun hm => by
      obtain ⟨e, he, q⟩ := List.mem_filterMap.mp hm
      exact noFr3 (List.mem_filterMap.mpr ⟨e, List.mem_cons_of_mem _ he, q⟩)
    have S3 := J3.suite he3 hd3 na aL aF
    have go : ∀ {hz : List ExceptHandler} {lz : List Cla}, ClaOk X hz lz → wCla X.K Wout D lz cls d σz Hz → wpAny (model X.prog X.w) X.A (handleBy (.ref a) X.env hz) (SP X pins D) X.xe { t with heap := g3 } := by
      intro hz lz hk
      induction hk with
      | nil =>
        intro w
        refine wpAny_handleBy_nil ?_
        obtain ⟨k1, k2, k3, oe, vs, TT, oT, tz, he, hzz, hdd, h1, hr⟩ := id fly3
        unfold PySem.passOn
        refine wpAny_bind (wpAny_field he hdd h1 ?_)
        rw [if_neg (show ¬ ((Value.ref TT == Value.none) = true) from by simp)]
        have last : wpAny (model X.prog X.w) X.A (setFlight (.ref a) X.env.frame) (fun _ s4 => wpAny (model X.prog X.w) X.A (throw (.ref a) : Sem PySem.Flow) (SP X pins D) X.xe s4) X.xe { t with heap := g3 } := by
          rw [hf]
          refine HandSPX.setFlight_upZ fly3 fun h4 hh4 up4 => wpAny_throw (tk _ _ ?_)
          exact ⟨a, B, sI, pins, σz, Hz, cls, d, rfl, J, nb, (up.trans up3).trans up4, .inr (.inr (by rw [hs]; exact hh4)), na, os, ag, w⟩
        first
          | exact wpAny_bind (wpAny_pure (wpAny_bind last))
          | exact wpAny_bind last
      | @cons x c an ai ts b bs np pp hds2 l2 hc has hsu r ih =>
        intro w
        obtain ⟨m, hm1, hyes, hno⟩ := w
        refine wpAny_handleBy_cons (codeAny_handlers_test ?_) (by intro q; cases q)
        have LT : PySem.W.Looks (model X.prog X.w) g3 (typeOf (.ref a)) cls := fun A Q E s k q => wpAny_typeOf_ref (k _ _ he3) (by rw [hz3.1]; exact q)
        have LM := PySem.W.exm_one (M := model X.prog X.w) (J3.kIn) LT hm1
        have test : ∀ {Q : Value → Shared → Prop} {E : Value → Shared → Prop}, Q c { t with heap := g3 } → wpAny (model X.prog X.w) (X.A.mark (some (.ref a))) (eval (.Name x np) X.env) Q E { t with heap := g3 } := fun {Q E} q => by
          obtain ⟨hg, hdbg, hmm | ⟨hmm, hv, hnn⟩⟩ := hc
          · exact ld_glob (X := X.suite a ((a, oe3) :: (X.pn ++ pins))) S3 hg hmm q hdbg
          · exact ld_blt (X := X.suite a ((a, oe3) :: (X.pn ++ pins))) S3 hg hmm hv q hnn hdbg
        refine test (LM.here ?_)
        cases m with
        | true =>
          cases an with
          | none =>
            cases ai with
            | some i => exact has.elim
            | none =>
              refine codeAny_handlers_suite ?_
              refine HandSPX.lands_againZ fly3 fun h4 fly4 up4 => ?_
              have J4 : Inv X pins σz Hz { t with heap := h4 } := J.landed nb fly4.1 ((up.trans up3).trans up4) os ag
              obtain ⟨oe4, vs4, he4, hz4, hd4⟩ := fly4.there
              have S4 := J4.suite he4 hd4 na aL aF
              refine wpAny_mono ((hsu a oe4 cls d (X.pn ++ pins) hz4 ⟨_, hd4⟩).run [] _ _ Hz _ S4 (hyes rfl a na)) (fun f s6 hsp => ?_) (fun _ _ z => False.elim z)
              cases f with
              | next =>
                obtain ⟨σ6, H6, S6, q6⟩ := hsp
                exact ⟨σ6, H6, S6.unsuite oX, q6⟩
              | brk =>
                obtain ⟨σ6, H6, S6, q6⟩ := hsp
                exact ⟨σ6, H6, S6.unsuite oX, q6⟩
              | cont =>
                obtain ⟨σ6, H6, S6, q6⟩ := hsp
                exact ⟨σ6, H6, S6.unsuite oX, q6⟩
              | ret u =>
                obtain ⟨v6, σ6, H6, S6, r6, q6⟩ := hsp
                exact ⟨v6, σ6, H6, S6.unsuite oX, r6, q6⟩
          | some n =>
            cases ai with
            | none => exact has.elim
            | some i =>
              obtain ⟨hi, hln⟩ := has
              refine codeAny_handlers_suite_as ?_
              refine HandSPX.lands_againZ fly3 fun h4 fly4 up4 => ?_
              have J4 : Inv X pins σz Hz { t with heap := h4 } := J.landed nb fly4.1 ((up.trans up3).trans up4) os ag
              obtain ⟨oe4, vs4, he4, hz4, hd4⟩ := fly4.there
              have S4 := J4.suite he4 hd4 na aL aF
              refine store_ok (X := X.suite a ((a, oe4) :: (X.pn ++ pins))) (v := .ref a) S4 hN hi (.inl hln) rfl (fun s5 S5 => ?_) (.inr hln)
              refine wpAny_mono ((hsu a oe4 cls d (X.pn ++ pins) hz4 ⟨_, hd4⟩).run [] s5 _ Hz _ S5 (hyes rfl a na)) (fun f s6 hsp => ?_) (fun _ _ z => False.elim z)
              have bye : ∀ {σ6 : Sg} {H6 : Hp} {Q : Shared → Prop}, Inv (X.suite a ((a, oe4) :: (X.pn ++ pins))) [] σ6 H6 s6 → (∀ s7, Inv X pins (σ6.set i none) H6 s7 → Q s7) →
                  wpAny (model X.prog X.w) X.A (do bindName X.env n .none; unbindBehindTheSuite X.env n pp) (fun _ s7 => Q s7) X.xe s6 := fun {σ6 H6 Q} S6 hq => gone_ok (S6.unsuite oX) hN hi hln hq
              cases f with
              | next =>
                obtain ⟨σ6, H6, S6, q6⟩ := hsp
                exact bye S6 fun s7 J7 => ⟨_, H6, J7, q6⟩
              | brk =>
                obtain ⟨σ6, H6, S6, q6⟩ := hsp
                exact bye S6 fun s7 J7 => ⟨_, H6, J7, q6⟩
              | cont =>
                obtain ⟨σ6, H6, S6, q6⟩ := hsp
                exact bye S6 fun s7 J7 => ⟨_, H6, J7, q6⟩
              | ret u =>
                obtain ⟨v6, σ6, H6, S6, r6, q6⟩ := hsp
                exact bye S6 fun s7 J7 => ⟨v6, _, H6, J7, r6, q6⟩
        | false =>
          show wpAny _ X.A (handleBy (.ref a) X.env hds2) _ _ _
          exact ih (hno rfl)
    exact go hh w
  · cases fl with
    | next =>
      obtain ⟨σz, Hz, Jz, q⟩ := hsp
      exact wpAny_execs_nil ⟨σz, Hz, Jz.ofTry oX, q⟩
    | brk =>
      obtain ⟨σz, Hz, Jz, q⟩ := hsp
      exact ⟨σz, Hz, Jz.ofTry oX, q⟩
    | cont =>
      obtain ⟨σz, Hz, Jz, q⟩ := hsp
      exact ⟨σz, Hz, Jz.ofTry oX, q⟩
    | ret u =>
      obtain ⟨v, σz, Hz, Jz, r, q⟩ := hsp
      exact ⟨v, σz, Hz, Jz.ofTry oX, r, q⟩

/-! ### .. of the little language -/
theorem exSub_mem {tb : List (Str × Str × Bool)} {a b : Str} {v : Bool} (h : exSub tb a b = some v) : (a, b, v) ∈ tb := by
  unfold exSub at h
  obtain ⟨r, hr, e⟩ := Option.map_eq_some_iff.mp h
  have hm := List.mem_of_find?_eq_some hr
  have hp := List.find?_some hr
  simp only [Bool.and_eq_true, beq_iff_eq] at hp
  obtain ⟨r1, r2, r3⟩ := r
  simp only at hp e
  rw [← hp.1, ← hp.2, ← e]
  exact hm
/-- a clause does as the little language says -/
structure CGood (X : Cx) (Tb : List (Addr × Str)) (σ0 : S0) (h : Hd) (c : Cla) : Prop where
  nm : ∃ CS : Addr, c.1 = .ref CS ∧ X.mg h.cls = some (.ref CS)
  as_ : c.2.1 = h.as_
  sem : ∀ (G F : Hp) (env : En) (σ : Sg) (H : Hp) (x : Exc) (cls : Value) (d : Option Addr) (a : Addr) (dv : D) (Dn : Ends), Rel (pm X Tb) σ0 G F env σ H → ExcR (pm X Tb) x cls d H → h.x.val x = some dv → isInn env[h.tgt]? = false → asOk env h.as_ = true →
    PySem.W.exmOne X.K cls c.1 = some true → (∀ σ' H' F', Grow G F F' → Rel (pm X Tb) σ0 G F' (env.set h.tgt (.val dv)) σ' H' → Dn.nx σ' H') → claTS Dn c.2.2 a cls d σ H h.as_
inductive CsOk (X : Cx) (Tb : List (Addr × Str)) (σ0 : S0) : List ExceptHandler → List Hd → List Cla → Prop
  | nil : CsOk X Tb σ0 [] [] []
  | cons {x : Str} {c : Value} {an : Option Str} {ai : Option Nat} {ts : Addr → Value → Option Addr → TS} {b : Stmt} {bs : List Stmt} {np pp : Pos} {hds : List ExceptHandler} {l : List Cla} {h : Hd} {hs : List Hd} (hc : Names X x c) (has : AsOk X an ai)
      (hsu : ∀ (a : Addr) (oe : Obj) (cls : Value) (d : Option Addr) (pn : List (Addr × Obj)), Zc cls d oe → (∃ vs, oe.data = .fields vs) → PSs (X.suite a ((a, oe) :: pn)) (b :: bs) (ts a cls d)) (g : CGood X Tb σ0 h (c, ai, ts)) (r : CsOk X Tb σ0 hds hs l) :
      CsOk X Tb σ0 (.ExceptHandler (some (.Name x np)) an (b :: bs) pp :: hds) (h :: hs) ((c, ai, ts) :: l)
section
variable {X : Cx} {Tb : List (Addr × Str)} {σ0 : S0} {W : WX} {cl : Cl}
theorem CsOk.cla : ∀ {hds : List ExceptHandler} {hs : List Hd} {l : List Cla}, CsOk X Tb σ0 hds hs l → ClaOk X hds l
  | _, _, _, .nil => .nil
  | _, _, _, .cons hc has hsu _ r => .cons hc has hsu r.cla
theorem hdl_ok {tb : List (Str × Str × Bool)} (htb : ∀ r ∈ tb, ∀ C CS : Addr, X.mg r.1 = some (.ref C) → X.mg r.2.1 = some (.ref CS) → PySem.W.exmOne X.K (.ref C) (.ref CS) = some r.2.2) {G F : Hp} {Dn : Ends} {x : Exc} {e : En} :
    ∀ {hds : List ExceptHandler} {hs : List Hd} {l : List Cla}, CsOk X Tb σ0 hds hs l → GoodS (pm X Tb) σ0 G F W Dn (hdl tb x e hs) → ∀ cls d σ' H' F', Grow G F F' → Rel (pm X Tb) σ0 G F' e σ' H' → ExcR (pm X Tb) x cls d H' → wCla X.K W Dn l cls d σ' H'
  | _, _, _, .nil, g, cls, d, σ', H', F', gr, R, xr => g cls d σ' H' F' gr R xr
  | _, _, _, CsOk.cons (c := cv) (ai := ai') (h := h) (hs := hs) hc has hsu cg r, g, cls, d, σ', H', F', gr, R, xr => by
    obtain ⟨CS, e1, e2⟩ := cg.nm
    have e1 : cv = Value.ref CS := e1
    obtain ⟨⟨C, ec, hC⟩, _⟩ := id xr
    unfold hdl at g
    cases hx : exSub tb x.name h.cls with
    | none => rw [hx] at g; exact (show False from g).elim
    | some b =>
      rw [hx] at g
      have hb : PySem.W.exmOne X.K cls cv = some b := by
        rw [ec, e1]
        exact htb _ (exSub_mem hx) C CS hC e2
      refine ⟨b, hb, fun hbt a na => ?_, fun hbf => ?_⟩
      · subst hbt
        simp only at g
        cases hv : h.x.val x with
        | none => rw [hv] at g; exact (show False from g).elim
        | some dv =>
          rw [hv] at g
          simp only at g
          split at g
          · exact (show False from g).elim
          · rename_i hno
            simp only [Bool.or_eq_true, Bool.not_eq_true', not_or, Bool.not_eq_true, Bool.not_eq_false] at hno
            have ea : ai' = h.as_ := cg.as_
            have hk := cg.sem G F' e σ' H' x cls d a dv Dn R xr hv hno.1 hno.2 hb fun σ2 H2 F2 g2 R2 => g σ2 H2 F2 (gr.trans g2) R2
            rw [← ea] at hk
            exact hk
      · subst hbf
        exact hdl_ok htb r g cls d σ' H' F' gr R xr
theorem ss_try {body : List Stmt} {hd0 : ExceptHandler} {hds : List ExceptHandler} {hs : List Hd} {l : List Cla} {pos : Pos} {irb : S} {tb : List (Str × Str × Bool)} (hN : X.N.Nodup) (tk : Takes X W)
    (hb : ∀ (W' : WX) (pn : List (Addr × Obj)) (xe : Value → Shared → Prop), Takes (X.tr pn xe) W' → PassesOwn (model X.prog X.w) X.A X.env xe → SSs (X.tr pn xe) Tb σ0 W' cl body irb)
    (hc : CsOk X Tb σ0 (hd0 :: hds) hs l) (htb : ∀ r ∈ tb, ∀ C CS : Addr, X.mg r.1 = some (.ref C) → X.mg r.2.1 = some (.ref CS) → PySem.W.exmOne X.K (.ref C) (.ref CS) = some r.2.2)
    (hstk : X.stack = X.env :: X.outer := by rfl) (hf : X.env.frame = some X.env.locals := by rfl) : SS X Tb σ0 W cl (.Try body (hd0 :: hds) [] [] pos) (.tryS irb hs tb) := by
  refine PS.mono (ps_cla (tb := fun W' => tS (pm X Tb) σ0 W' (evS cl irb)) hstk hf hN tk hb hc.cla) fun Dn σ H q => ?_
  obtain ⟨G, F, env, R, g⟩ := q
  refine ⟨G, F, env, R, ?_⟩
  simp only [evS] at g
  cases hx : evS cl irb env with
  | bad => rw [hx] at g; exact (show False from g).elim
  | ok z => rw [hx] at g; exact g
  | exc x e =>
    rw [hx] at g
    exact fun cls d σ' H' F' gr R' xr => hdl_ok htb hc g cls d σ' H' F' gr R' xr
/-! what the clauses put -/
variable {a : Addr} {oe : Obj} {cls : Value} {d : Option Addr} {pn : List (Addr × Obj)} {n i : Nat} {x y : Str} {p1 p2 p3 p4 p5 p6 p7 pos : Pos} {m k : Nat} {t : Str}
theorem Rel.setNone {p : Pm} {G F H : Hp} {env : En} {σ : Sg} (R : Rel p σ0 G F env σ H) (hk : σ0.fx i = false) (hn : isNon env[i]? = true) {v : Option V} : Rel p σ0 G F env (σ.set i v) H where
  gs := R.gs
  fs := R.fs
  gn := R.gn
  fn := R.fn
  tb := R.tb
  len := by rw [List.length_set]; exact R.len
  val := fun j d h => by
    have : i ≠ j := fun z => by subst z; rw [h] at hn; cases hn
    rw [List.getElem?_set_ne this]
    exact R.val j d h
  own := fun j o h => by
    have : i ≠ j := fun z => by subst z; rcases h with h | h <;> rw [h] at hn <;> cases hn
    rw [List.getElem?_set_ne this]
    exact R.own j o h
  inj := fun j l b hj hl => by
    obtain ⟨o, h⟩ := isOwn_iff.mp hj
    obtain ⟨o2, h2⟩ := isOwn_iff.mp hl
    have t1 : i ≠ j := fun z => by subst z; rcases h with h | h <;> rw [h] at hn <;> cases hn
    have t2 : i ≠ l := fun z => by subst z; rcases h2 with h2 | h2 <;> rw [h2] at hn <;> cases hn
    rw [List.getElem?_set_ne t1, List.getElem?_set_ne t2]
    exact R.inj j l b hj hl
  inn := fun j o h => by
    have : i ≠ j := fun z => by subst z; rw [h] at hn; cases hn
    rw [List.getElem?_set_ne this]
    exact R.inn j o h
  fix := fun j hj => by rw [List.getElem?_set_ne (fx_ne hk hj)]; exact R.fix j hj
  cds := R.cds
  frd := fun j k h => by
    have : i ≠ j := fun z => by subst z; rw [h] at hn; cases hn
    rw [List.getElem?_set_ne this]
    exact R.frd j k h
/-- x = 'text' -/
def tsC (n : Nat) (t : Str) : Addr → Value → Option Addr → TS := fun _ _ _ D σ H => D.nx (σ.set n (some (.str t))) H
theorem su_con (hN : X.N.Nodup) (hi : X.N[n]? = some x := by rfl) (hx : X.env.scope.names.lookup x = some .local := by rfl) : PSs (X.suite a pn) [.Assign [.Name x p1] (.Constant (.str t) m p2) pos] (tsC n t a cls d) :=
  pss_one (ps_set (X := X.suite a pn) hN hi (.inl hx) pe_str (by intros; rfl) (.inr hx))
theorem cg_con {CS : Addr} (hk : σ0.fx n = false) (hm : X.mg y = some (.ref CS)) (ht : PyData.strOk t = true) : CGood X Tb σ0 ⟨y, none, n, .con (.str t)⟩ (.ref CS, none, tsC n t) :=
  ⟨⟨CS, rfl, hm⟩, rfl, fun G F env σ H x cls d a dv Dn R xr hv hin has _ k => by
    cases hv
    exact k _ H F (.refl G F) (R.setVal hk (notInn (by rw [hin]; decide)) ⟨rfl, ht⟩)⟩
theorem len_int (i : Int) (h : i.natAbs < 10 ^ 40) : (Str.ofString (toString i)).length ≤ 41 := by
  have e : ∃ l : List Char, (toString i).toList = l ∧ l.length ≤ 41 := by
    have dig : ∀ n : Nat, n < 10 ^ 40 → (Nat.toDigits 10 n).length ≤ 40 := fun n hn => (Nat.length_toDigits_le_iff (by decide) (by decide)).mpr hn
    cases i with
    | ofNat n =>
      have h1 := dig n h
      refine ⟨Nat.toDigits 10 n, ?_, by omega⟩
      show (Nat.repr n).toList = _
      unfold Nat.repr
      simp
    | negSucc n =>
      have h1 := dig (n + 1) h
      refine ⟨'-' :: Nat.toDigits 10 (n + 1), ?_, by simp; omega⟩
      show ("-" ++ Nat.repr (n + 1)).toList = _
      unfold Nat.repr
      simp
  obtain ⟨l, e1, e2⟩ := e
  rw [Str.ofString_eq_toList, e1]
  show (Array.size _) ≤ 41
  simpa using e2
/-- what an except clause reads of the caught exception's limit -/
def LimOf (i : Nat) (C : Addr) (a : Addr) (cls : Value) (d : Option Addr) (σ : Sg) (H : Hp) (Q : V → Prop) : Prop := σ[i]? = some (some (.ref a)) ∧ cls = .ref C ∧ ∃ (dd : Addr) (fs : List (Str × V)) (v : V), d = some dd ∧ H dd = some (.xd fs) ∧ fs.lookup ("limit" : Str) = some v ∧ Q v
theorem pe_lim {C : Addr} (T : XfC X.K C) (hno : PySem.W.findIn X.K (.ref C) "limit" = some none) (hz : Zc cls d oe) (hf : ∃ vs, oe.data = .fields vs) (hi : X.N[i]? = some x) (hx : X.env.scope.names.lookup x = some .local) (hdb : (x == ("__debug__" : Str)) = false) (hcd : (x == ("__classdict__" : Str)) = false) :
    PE (X.suite a ((a, oe) :: pn)) (.Attribute (.Name x p1) "limit" p2) (fun σ H Q => LimOf i C a cls d σ H fun v => Q v H) :=
  PE.mono (pe_xf (X := X) T hno hz hf (pe_var (X := X.suite a ((a, oe) :: pn)) (pos := p1) (i := i) hi (.inl hx) hdb hcd) (by rfl)) fun σ H Q ⟨h1, h2, dd, fs, v, h3, h4, h5, q⟩ => ⟨.ref a, h1, rfl, h2, dd, fs, v, h3, h4, h5, q⟩
def tsL (n i : Nat) (C : Addr) : Addr → Value → Option Addr → TS := fun a cls d D σ H => LimOf i C a cls d σ H fun v => D.nx (σ.set n (some v)) H
def tsT (n i : Nat) (C : Addr) (t : Str) : Addr → Value → Option Addr → TS := fun a cls d D σ H => LimOf i C a cls d σ H fun v => ∀ p, H p = none → D.nx (σ.set n (some (.ref p))) (upd H p (.tup [.str t, v]))
def tsM (n i : Nat) (C : Addr) (t : Str) : Addr → Value → Option Addr → TS := fun a cls d D σ H => LimOf i C a cls d σ H fun v => ∃ j : Int, v = .int j ∧ j.natAbs.log2 < 1920 ∧ t.length + (toString j : Str).length ≤ sizeLine ∧ D.nx (σ.set n (some (.str (t ++ (toString j : Str))))) H
section
variable {C : Addr}
theorem su_lim (T : XfC X.K C) (hno : PySem.W.findIn X.K (.ref C) "limit" = some none) (hN : X.N.Nodup) (hz : Zc cls d oe) (hf : ∃ vs, oe.data = .fields vs) (hn : X.N[n]? = some y := by rfl) (hy : X.env.scope.names.lookup y = some .local := by rfl) (hi : X.N[i]? = some x := by rfl) (hx : X.env.scope.names.lookup x = some .local := by rfl)
    (hdb : (x == ("__debug__" : Str)) = false := by decide) (hcd : (x == ("__classdict__" : Str)) = false := by decide) (hs : swapsWith (.Attribute (.Name x p1) "limit" p2) (some (.Name y p3)) pos.line X.env = pure false := by rfl) :
    PSs (X.suite a ((a, oe) :: pn)) [.Assign [.Name y p3] (.Attribute (.Name x p1) "limit" p2) pos] (tsL n i C a cls d) :=
  PSs.mono (pss_one (ps_set (X := X.suite a ((a, oe) :: pn)) hN hn (.inl hy) (pe_lim T hno hz hf hi hx hdb hcd) hs (.inr hy))) fun D σ H h => h
theorem su_limT (T : XfC X.K C) (hno : PySem.W.findIn X.K (.ref C) "limit" = some none) (hN : X.N.Nodup) (hz : Zc cls d oe) (hf : ∃ vs, oe.data = .fields vs) (hn : X.N[n]? = some y := by rfl) (hy : X.env.scope.names.lookup y = some .local := by rfl) (hi : X.N[i]? = some x := by rfl) (hx : X.env.scope.names.lookup x = some .local := by rfl)
    (hdb : (x == ("__debug__" : Str)) = false := by decide) (hcd : (x == ("__classdict__" : Str)) = false := by decide) (hs : swapsWith (.Tuple [.Constant (.str t) m p4, .Attribute (.Name x p1) "limit" p2] k p5) (some (.Name y p3)) pos.line X.env = pure false := by rfl)
    (he : starEach [.Constant (.str t) m p4, .Attribute (.Name x p1) "limit" p2] X.env = (false, eval (.Constant (.str t) m p4) X.env) :: starEach [.Attribute (.Name x p1) "limit" p2] X.env := by rfl) (he2 : starEach [.Attribute (.Name x p1) "limit" p2] X.env = (false, eval (.Attribute (.Name x p1) "limit" p2) X.env) :: starEach [] X.env := by rfl) :
    PSs (X.suite a ((a, oe) :: pn)) [.Assign [.Name y p3] (.Tuple [.Constant (.str t) m p4, .Attribute (.Name x p1) "limit" p2] k p5) pos] (tsT n i C t a cls d) :=
  PSs.mono (pss_one (ps_set (X := X.suite a ((a, oe) :: pn)) hN hn (.inl hy) (pe_tup (pa_cons pe_str (pa_cons (pe_lim T hno hz hf hi hx hdb hcd) pa_nil he2) he)) hs (.inr hy))) fun D σ H ⟨h1, h2, dd, fs, v, h3, h4, h5, q⟩ => ⟨h1, h2, dd, fs, v, h3, h4, h5, by show 2 ≤ sizeLine; decide, q⟩
theorem su_many (T : XfC X.K C) (hno : PySem.W.findIn X.K (.ref C) "limit" = some none) (hN : X.N.Nodup) (hz : Zc cls d oe) (hf : ∃ vs, oe.data = .fields vs) (hg : Gl X "str") (hm : X.mg "str" = none) (hn : X.N[n]? = some y := by rfl) (hy : X.env.scope.names.lookup y = some .local := by rfl) (hi : X.N[i]? = some x := by rfl) (hx : X.env.scope.names.lookup x = some .local := by rfl)
    (hdb : (x == ("__debug__" : Str)) = false := by decide) (hcd : (x == ("__classdict__" : Str)) = false := by decide) (hs : swapsWith (.BinOp (.Constant (.str t) m p4) .Add (.Call (.Name "str" p6) [.Attribute (.Name x p1) "limit" p2] [] p7) p5) (some (.Name y p3)) pos.line X.env = pure false := by rfl)
    (he : starEach [.Attribute (.Name x p1) "limit" p2] X.env = (false, eval (.Attribute (.Name x p1) "limit" p2) X.env) :: starEach [] X.env := by rfl) :
    PSs (X.suite a ((a, oe) :: pn)) [.Assign [.Name y p3] (.BinOp (.Constant (.str t) m p4) .Add (.Call (.Name "str" p6) [.Attribute (.Name x p1) "limit" p2] [] p7) p5) pos] (tsM n i C t a cls d) :=
  PSs.mono (pss_one (ps_set (X := X.suite a ((a, oe) :: pn)) hN hn (.inl hy) (pe_op op_add_str pe_str (pe_callTy (X := X.suite a ((a, oe) :: pn)) call_str_int hg hm rfl (pa_cons (pe_lim T hno hz hf hi hx hdb hcd) pa_nil he) (by decide) (by decide) he)) hs (.inr hy)))
    fun D σ H ⟨h1, h2, dd, fs, v, h3, h4, h5, j, ev, hj, hl, q⟩ => ⟨h1, h2, dd, fs, v, h3, h4, h5, j, by rw [ev], hj, _, _, rfl, rfl, hl, q⟩
/-- from what is known of an exception to its limit -/
theorem lim_of {G F : Hp} {env : En} {σ : Sg} {H : Hp} {x : Exc} {j : Int} {nm : Str} {Q : V → Prop} (hC : X.mg nm = some (.ref C)) (xr : ExcR (pm X Tb) x cls d H) (hn : x.name = nm) (hl : x.lim = some j) (hσ : i < σ.length) (q : Q (.int j)) : LimOf i C a cls d (σ.set i (some (.ref a))) H Q := by
  obtain ⟨⟨C', ec, hC'⟩, h⟩ := xr
  obtain ⟨dx, e1, e2⟩ := h j hl
  have : C' = C := by
    have h2 : X.mg x.name = some (.ref C') := hC'
    rw [hn, hC] at h2
    cases h2
    rfl
  subst this
  exact ⟨List.getElem?_set_self hσ, ec, dx, _, _, e1, e2, rfl, q⟩
theorem asOk_lt {env : En} {σ : Sg} {p : Pm} {G F H : Hp} (R : Rel p σ0 G F env σ H) (h : asOk env (some i) = true) : i < σ.length ∧ isNon env[i]? = true := by
  have h : isNon env[i]? = true := h
  refine ⟨?_, h⟩
  rw [← R.len]
  by_cases hl : i < env.length
  · exact hl
  · rw [List.getElem?_eq_none (by omega)] at h
    cases h
/-- the clause's end: the target is set, the exception's name is gone -/
theorem Rel.endAs {p : Pm} {G F H : Hp} {env : En} {σ : Sg} {dv : D} {v : V} (R : Rel p σ0 G F env σ H) (hkn : σ0.fx n = false) (hki : σ0.fx i = false) (hne : n ≠ i) (hi : isNon env[i]? = true) (hin : isInn env[n]? = false) (r : Rp p.K F dv v) : Rel p σ0 G F (env.set n (.val dv)) (((σ.set i (some (.ref a))).set n (some v)).set i none) H := by
  have R1 := (R.setNone (v := some (.ref a)) hki hi).setVal hkn (notInn (by rw [hin]; decide)) r
  exact R1.setNone hki (by rw [List.getElem?_set_ne hne]; exact hi)
theorem cg_lim {nm : Str} (hkn : σ0.fx n = false) (hki : σ0.fx i = false) (hne : n ≠ i) (hm : X.mg y = some (.ref C)) : CGood X Tb σ0 ⟨y, some i, n, .lim y⟩ (.ref C, some i, tsL n i C) :=
  ⟨⟨C, rfl, hm⟩, rfl, fun G F env σ H x cls d a dv Dn R xr hv hin has _ k => by
    obtain ⟨hl, hi⟩ := asOk_lt R has
    simp only [HX.val] at hv
    split at hv
    · rename_i hn
      obtain ⟨j, hj, rfl⟩ := Option.map_eq_some_iff.mp hv
      exact lim_of (G := G) (F := F) (env := env) hm xr hn hj hl (k _ H F (.refl G F) (R.endAs hkn hki hne hi hin rfl))
    · cases hv⟩
theorem cg_limT {t : Str} (ht : PyData.strOk t = true) (hkn : σ0.fx n = false) (hki : σ0.fx i = false) (hne : n ≠ i) (hm : X.mg y = some (.ref C)) : CGood X Tb σ0 ⟨y, some i, n, .limT y t⟩ (.ref C, some i, tsT n i C t) :=
  ⟨⟨C, rfl, hm⟩, rfl, fun G F env σ H x cls d a dv Dn R xr hv hin has _ k => by
    obtain ⟨hl, hi⟩ := asOk_lt R has
    simp only [HX.val] at hv
    split at hv
    · rename_i hn
      obtain ⟨j, hj, rfl⟩ := Option.map_eq_some_iff.mp hv
      refine lim_of (G := G) (F := F) (env := env) hm xr hn hj hl fun p hp => ?_
      have n1 : F p = none := R.fs.none hp
      have n2 : G p = none := R.gs.none hp
      obtain ⟨R2, gr⟩ := (R.newObj (u := .tup [.str t, .int j]) hp).take upd_same n1 n2 (fun _ z => by cases z) fun l hl z => by
        obtain ⟨o, ho⟩ := isOwn_iff.mp hl
        obtain ⟨b, e1, e2, _⟩ := R.own l o ho
        obtain ⟨u, hu, _⟩ := e2.here
        rw [e1] at z
        cases z
        rw [hp] at hu
        cases hu
      exact k _ _ _ gr (R2.endAs hkn hki hne hi hin ⟨p, _, rfl, .inl (.inl upd_same), ⟨.str t, _, rfl, ⟨rfl, ht⟩, .int j, [], rfl, rfl, rfl⟩⟩)
    · cases hv⟩
theorem cg_many {t : Str} (ht : PyData.strOk t = true) (hkn : σ0.fx n = false) (hki : σ0.fx i = false) (hne : n ≠ i) (hm : X.mg y = some (.ref C)) : CGood X Tb σ0 ⟨y, some i, n, .many y t⟩ (.ref C, some i, tsM n i C t) :=
  ⟨⟨C, rfl, hm⟩, rfl, fun G F env σ H x cls d a dv Dn R xr hv hin has _ k => by
    obtain ⟨hl, hi⟩ := asOk_lt R has
    simp only [HX.val] at hv
    split at hv
    · rename_i hn
      obtain ⟨j, hj, hv⟩ := Option.bind_eq_some_iff.mp hv
      split at hv
      · rename_i hz
        cases hv
        refine lim_of (G := G) (F := F) (env := env) hm xr hn hj hl ⟨j, rfl, ?_, ?_, k _ H F (.refl G F) (R.endAs hkn hki hne hi hin ⟨rfl, strOk_append ht (strOk_of _)⟩)⟩
        · by_cases h0 : j.natAbs = 0
          · rw [h0]; decide
          · have := (Nat.log2_lt (n := j.natAbs) (k := 10) h0).mpr (by omega)
            omega
        · have := len_int j (by omega)
          exact Nat.le_trans (Nat.add_le_add hz.2 this) (by decide)
      · cases hv
    · cases hv⟩
end
end
end Pb

namespace Pb
open PySem PySem.Spec PyProof.Rows L2

/-! ### an exception with a limit -/
theorem pe_oinit {X : Cx} {x : Str} {B : Addr} {mc : Value} {e : Expr} {es : List Expr} {ta : TA} {p1 p2 pos : Pos} {pl : Sem Bool} (hg : Gl X x) (hm : X.mg x = some (.ref B)) (hga : PySem.W.specialIn X.K (.ref B) "__getattribute__" = some (some (.builtin "type.__getattribute__"))) (hrd : PySem.W.readsIn X.K B mc = true)
    (vV : PySem.W.findCls X.K (.ref B) mc "__init__" = some (.val (.builtin "ValueError.__init__"))) (ha : PA X (e :: es) ta) (hdb : (x == ("__debug__" : Str)) = false)
    (hc : eval (.Call (.Attribute (.Name x p1) "__init__" p2) (e :: es) [] pos) X.env = (do
      let ov ← eval (.Name x p1) X.env
      standAt p2.atName
      let (f, first) ← holding [ov] (getMethod ov "__init__" pl)
      callWith pos f first (backTo pos (starEach (e :: es) X.env)) (backToKw pos (keywordEach [] X.env))) := by rfl)
    (he : starEach (e :: es) X.env = (false, eval e X.env) :: starEach es X.env := by rfl) (hpl : (backTo pos (starEach es X.env)).any (·.1) = false := by rfl) :
    PE X (.Call (.Attribute (.Name x p1) "__init__" p2) (e :: es) [] pos) (tVeI X.K ta) := by
  refine ⟨fun pins s σ H Q I h => ?_⟩
  refine PySem.W.methodCall_KW (ld_glob I hg hm ?_ hdb) hc
  have J := I.tok (s.toks + 1)
  refine PySem.W.method_cls J.kIn hga (PySem.W.cls_value J.kIn hrd vV (by decide +kernel) ?_)
  show wpAny _ _ (callWith pos (Value.builtin "ValueError.__init__") [] (backTo pos (starEach (e :: es) X.env)) []) _ _ _
  refine PyProof.Rows.callWith_method1 (thn (ha.run pos pins _ σ H _ (I.tok _) h) fun us s1 ⟨vs, H1, I1, rv, a, C, ws, ev, hl, T, ea, q⟩ => ?_) he hpl
  subst ev
  cases rv with
  | @cons _ u0 _ ur ra rw' =>
    obtain rfl : u0 = Value.ref a := ra
    have hlen : ur.length ≤ sizeLine := by
      rw [← Paired.length rw', sizeLine_eq]
      omega
    exact oinit_ok T I1 ea hlen fun s' J2 => ⟨.non, H1, J2, rfl, q⟩
/-- __init__(self, limit) of an exception class: the limit is its only field -/
def spTM (K : PySem.W.Frag) : Sp := fun vs H Q _ => ∃ (a C : Addr) (n : Int), vs = [.ref a, .int n] ∧ OexC K C ∧ PySem.W.findIn K (.ref C) "limit" = some none ∧ H a = some (exo a C none) ∧
  ∀ dx, H dx = none → dx ≠ a → Q .non (upd (upd H dx (exd dx [("limit", .int n)])) a (exo a C (some dx)))
section
variable {P : Program} {w : World} {K : PySem.W.Frag} {mg : Str → Option Value} {base : Heap}
/-- what its body asks -/
def TMAsk (K : PySem.W.Frag) (D : Ends) (σ : Sg) (H : Hp) : Prop := ∃ (a C : Addr) (n : Int), σ[0]? = some (some (.ref a)) ∧ σ[1]? = some (some (.int n)) ∧ OexC K C ∧ PySem.W.findIn K (.ref C) "limit" = some none ∧ H a = some (exo a C none) ∧
  ∀ dx, H dx = none → dx ≠ a → D.nx σ (upd (upd H dx (exd dx [("limit", .int n)])) a (exo a C (some dx)))
theorem tm_fn {st : Stmt} {fI : Addr} {fd : FuncData} {k : Nat} (Fn : Fun K "__init__" "TooMany.__init__" st fI fd) (S : FnScope ["self", "limit"] ["self", "limit"] (defScope st))
    (hb : ∀ (cdv : Value) (A : Around) (outer : List Env) (s : Shared) (H : Hp) (E : XK), ∃ t, PSs (cxOf (L2.CX P w) P w K mg base ["self", "limit"] "TooMany.__init__" (defScope st) fI cdv A outer s H E) (defBody st) t ∧ ∀ D σ H, TMAsk K D σ H → t D σ H) :
    FnOk P w K mg base (L2.CX P w) (k + 1) fI fd ["self", "limit"] (spTM K) := by
  refine Fn.okX S (fun vs H Q E h => ?_) (fun cdv A outer s H vs Q E hr h => ?_)
  · obtain ⟨a, C, n, rfl, _⟩ := h
    rfl
  · obtain ⟨a, C, n, rfl, T, hno, ha, q⟩ := h
    obtain ⟨t, ht, hq⟩ := hb cdv A outer s H E
    exact ⟨t, ht, hq _ _ _ ⟨a, C, n, rfl, rfl, T, hno, ha, q⟩⟩
end
/-- what is looked at in the written part -/
def oexB (K : PySem.W.Frag) (C : Addr) : Bool := match K.lookup C with
  | some ⟨.type "type", _, .cls cd, sl⟩ => match cd.mro, sl.toList with
    | .ref C' :: bm, [_, _, _, _, some (.builtin n), _] => C' == C && n == "ValueError.__new__" && !cd.hasDel && cd.hasDict && PySem.HandSPX.refsVE bm
    | _, _ => false
  | _ => false
theorem oexC_of {K : PySem.W.Frag} {C : Addr} (q : oexB K C = true) (sa : PySem.W.findIn K (.ref C) "__setattr__" = some (some (.builtin "object.__setattr__"))) (ex : PySem.W.subIn K (.ref C) (.type "BaseException") = some true) (ty : PySem.W.typeIn K (.ref C) = some (.type "type")) (kp : PySem.W.keepIn K (.ref C) = true) : OexC K C := by
  refine ⟨?_, sa, ex, ty, kp⟩
  unfold oexB at q
  split at q
  · rename_i dd cd sl ho
    split at q
    · rename_i C' bm a0 a1 a2 a3 n a5 hm hs
      simp only [Bool.and_eq_true, beq_iff_eq, Bool.not_eq_true'] at q
      obtain ⟨⟨⟨⟨q1, q2⟩, q3⟩, q4⟩, q5⟩ := q
      obtain ⟨nm, bs, mro, ns, qn, hd, sn, sb, ab, col, del⟩ := cd
      simp only at hm q3 q4
      subst hm q1 q2 q3 q4
      have es : sl = #[a0, a1, a2, a3, some (.builtin "ValueError.__new__"), a5] := Array.toList_inj.mp (by rw [hs])
      subst es
      exact ⟨nm, qn, ns, bs, bm, sn, sb, ab, col, dd, a0, a1, a2, a3, a5, ho, q5⟩
    · cases q
  · cases q
/-- a class of exceptions with a limit, by its name -/
structure TMC (X : Cx) (n : Nat) (x : Str) : Prop where
  ex : ∃ (C fI : Addr) (fd : FuncData), X.mg x = some (.ref C) ∧ OexC X.K C ∧ PySem.W.findIn X.K (.ref C) "limit" = some none ∧ PySem.W.findIn X.K (.ref C) "__init__" = some (some (.ref fI)) ∧ PySem.W.typeIn X.K (.ref fI) = some (.type "function") ∧
    FnOk X.prog X.w X.K X.mg X.base (L2.CX X.prog X.w) n fI fd ["self", "limit"] (spTM X.K) ∧ Binds X.K fd ["self", "limit"] []
section
variable {X : Cx} {Tb : List (Addr × Str)} {σ0 : S0} {W : WX} {cl : Cl} {e : Expr} {i : E} {pos p1 p2 p3 : Pos} {n : Nat} {x : Str}
/-- raise X(e) -/
theorem ss_rseN (x : Str) (hc : X.calm = true) (tk : Takes X W) (f : TMC X n x) (hr : Room (n + 1) X.A) (he : SE X Tb σ0 W cl e i) (hg : Gl X x) (hdb : (x == ("__debug__" : Str)) = false := by decide)
    (hst : starEach [e] X.env = (false, eval e X.env) :: starEach [] X.env := by rfl) : SS X Tb σ0 W cl (.Raise (some (.Call (.Name x p1) [e] [] p2)) none pos) (.rseN x i) := by
  obtain ⟨C, fI, fd, h1, T, hno, iC, tI, F, hb⟩ := f.ex
  refine PS.mono (ps_raise hc tk (pmk_oex (dvs := []) T iC tI F hr hb .nil (passes_call tk fun _ _ _ _ z => z.elim) hg h1 (pa_cons he pa_nil hst) hdb hst (by rfl))) fun Dn σ H q => ?_
  obtain ⟨G, F0, env, R, g⟩ := q
  refine nextE R g fun r v F2 env2 H2 gr R2 hrr g2 => ?_
  cases r with
  | val d =>
    cases d with
    | int m =>
      have hv : v = .int m := hrr
      subst hv
      have g3 : GoodS (pm X Tb) σ0 G F2 W Dn (.exc ⟨x, some m⟩ env2) := g2
      refine ⟨by show 1 ≤ 1000; decide, fun a na => ⟨a, C, m, rfl, T, hno, upd_same, fun dx hdx hne => ⟨rfl, dx, [("limit", .int m)], upd_same, ?_, ?_, ?_⟩⟩⟩
      · rw [upd_ne hne, upd_same]
      · rw [upd_ne hne] at hdx
        exact hdx
      · have hdx' : H2 dx = none := by rw [upd_ne hne] at hdx; exact hdx
        have eH : ∀ b u, H2 b = some u → upd (del (upd (upd (upd H2 a (exo a C none)) dx (exd dx [("limit", .int m)])) a (exo a C (some dx))) a) dx (.xd [("limit", .int m)]) b = some u := fun b u hb => by
          have nb : b ≠ dx := ne_of_none hb hdx'
          have na' : b ≠ a := ne_of_none hb na
          rw [upd_ne nb, del_ne na', upd_ne na', upd_ne nb, upd_ne na']
          exact hb
        exact g3 (.ref C) (some dx) σ _ F2 (.refl G F2) (R2.heap eH) ⟨⟨C, rfl, h1⟩, fun i z => by cases z; exact ⟨dx, rfl, upd_same⟩⟩
    | _ => exact (show False from g2).elim
  | _ => exact (show False from g2).elim
end
end Pb

namespace Pb
open PySem PySem.Spec PyProof.Rows L2

/-! ### defs that make lambdas -/
/-- a def that stands at its place, with its code object and the table of what is made within -/
structure AtC (K : PySem.W.Frag) (mg : Str → Option Value) (x : Str) (st : Stmt) (ps : List Str) (f : Addr) (fd : FuncData) (c : Addr) : Prop where
  ex : ∃ (oc : Value) (od : Option Addr) (kV doc pm : Value) (an : Option Addr) (ct : Value) (osl : Array (Option Value)),
    fd = PySem.W.fnOf x x (defArgs st) (defBody st) (defScope st) .none kV doc pm an (.ref c) ct ∧ K.lookup f = some ⟨oc, od, .func fd, osl⟩ ∧ PySem.W.codeIn K (.ref c) x = true
  mgf : mg x = some (.ref f)
  kp : PySem.W.keepIn K (.ref f) = true
  bd : Binds K fd ps []
section
variable {P : Program} {w : World} {K : PySem.W.Frag} {mg : Str → Option Value} {base : Heap} {Tb : List (Addr × Str)} {nm : Nat → Option Str} {T : TabT} {n : Nat}
theorem AtC.row0 {x : Str} {st : Stmt} {ps : List Str} {f c : Addr} {fd : FuncData} {j : Nat} (a : AtC K mg x st ps f fd c) : ∃ (f : Addr) (fd : FuncData) (ps : List Str), mg x = some (.ref f) ∧ PySem.W.keepIn K (.ref f) = true ∧ Binds K fd ps [] ∧ FnOk P w K mg base (L2.CX P w) 2 f fd ps (spIR ⟨K, w, mg, Tb⟩ (evF T 0 j)) :=
  ⟨f, fd, ps, a.mgf, a.kp, a.bd, row_zero⟩
/-- as fn_ok, the def's code object known -/
theorem fn_okC {x : Str} {st : Stmt} {f c : Addr} {fd : FuncData} {N ps : List Str} {n : Nat} {cl : Cl} {g : FnIR} (a : AtC K mg x st ps f fd c) (S : FnScope N ps (defScope st)) (hp : g.np = ps.length) (hN : g.nl = N.length)
    (hb : ∀ (A : Around) (outer : List Env) (s : Shared) (H : Hp) (E : XK) (σ0 : Sg), Room n (A.deeper (envOfC x (defScope st) s.heap.objs.size f (.ref c))) →
      SSs (cxOf (L2.CX P w) P w K mg base N x (defScope st) f (.ref c) A outer s H E) Tb ⟨σ0, nofx, []⟩ (fun cls d _ H' => E cls d H') cl (defBody st) g.body) :
    FnOk P w K mg base (L2.CX P w) (n + 1) f fd ps (spIR ⟨K, w, mg, Tb⟩ (runF cl g)) := by
  have hlen : ∀ {o : Option Ob} {ds : List D} {ad : Option Addr} {us : List V} {G F H : Hp} {Q : VK} {E : XK}, IoR ⟨K, w, mg, Tb⟩ F H ad o → RpAll K F ds us → FrGood ⟨K, w, mg, Tb⟩ G F ad Q E (runF cl g o ds) → (o.isSome = g.io ∧ (envI g o ds).length = g.nl ∧ g.np ≤ g.nl) ∧ (adV ad ++ us).length = ps.length := by
    intro o ds ad us G F H Q E io ra fg
    unfold runF at fg
    split at fg
    · rename_i q
      refine ⟨q, ?_⟩
      have := envI_len q.2.1 q.2.2
      have l := ra.length
      rw [← hp, ← this, List.length_append, l]
      cases o <;> cases ad <;> first | exact io.elim | rfl
    · exact (show False from fg).elim
  obtain ⟨oc, od, kV, doc, pm', an, ct, osl, rfl, lk, hcd⟩ := a.ex
  refine ⟨fun vs H Q E h => ?_, fun A outer s H args us vs Q E hr e0 hbd r h => ?_⟩
  · obtain ⟨G, F, ad, o, ds, us, rfl, gd, io, ga, ra, fg⟩ := h
    exact (hlen io ra fg).2
  · obtain ⟨G, F, ad, o, ds, ws, rfl, gd, io, ga, ra, fg⟩ := h
    obtain ⟨⟨c1, c2, c3⟩, c4⟩ := hlen io ra fg
    refine LamX.run_ofS (N := N) (ps := ps) lk hcd S hr e0 hbd r c4 fun hr' => ?_
    refine ⟨_, hb A outer s H E (L2.start N (adV ad ++ ws)) hr', G, F, envI g o ds, rel_start gd io ga ra c2 c3 hN (by rw [c4, hp]), ?_⟩
    unfold runF at fg
    rw [if_pos ⟨c1, c2, c3⟩] at fg
    cases hx : evS cl g.body (envI g o ds) with
    | bad => rw [hx] at fg; exact fg
    | exc q env =>
      rw [hx] at fg
      intro cls d σ' H' F' gr R x
      unfold fin at fg
      simp only at fg
      split at fg
      · rename_i z hz
        exact fg cls d H' F' gr R.grd (outIo_ok c1 io hz R) x
      · exact (show False from fg).elim
    | ok z =>
      obtain ⟨fl, env⟩ := z
      rw [hx] at fg
      intro σ' H' F' gr R
      cases fl with
      | nx =>
        unfold fin at fg
        simp only at fg
        split at fg
        · rename_i z hz
          exact fg .non H' F' gr R.grd (outIo_ok c1 io hz R) rfl
        · exact (show False from fg).elim
      | brk => exact (show False from fg).elim
      | ct => exact (show False from fg).elim
      | ret r =>
        intro v hv
        unfold fin at fg
        simp only at fg
        split at fg
        · rename_i z q hz hq
          exact fg v H' F' gr R.grd (outIo_ok c1 io hz R) (retV_ok c1 io hz R hq hv)
        · exact (show False from fg).elim
theorem AtC.row {x : Str} {st : Stmt} {ps : List Str} {f c : Addr} {fd : FuncData} {j : Nat} {N : List Str} {g : FnIR} (a : AtC K mg x st ps f fd c) (hT : T j = some g) (S : FnScope N ps (defScope st)) (hp : g.np = ps.length) (hN : g.nl = N.length)
    (hb : ∀ (A : Around) (outer : List Env) (s : Shared) (H : Hp) (E : XK) (σ0 : Sg), Room (n + 2) (A.deeper (envOfC x (defScope st) s.heap.objs.size f (.ref c))) →
      SSs (cxOf (L2.CX P w) P w K mg base N x (defScope st) f (.ref c) A outer s H E) Tb ⟨σ0, nofx, []⟩ (fun cls d _ H' => E cls d H') (evF T n) (defBody st) g.body) :
    ∃ (f : Addr) (fd : FuncData) (ps : List Str), mg x = some (.ref f) ∧ PySem.W.keepIn K (.ref f) = true ∧ Binds K fd ps [] ∧ FnOk P w K mg base (L2.CX P w) (n + 1 + 2) f fd ps (spIR ⟨K, w, mg, Tb⟩ (evF T (n + 1) j)) :=
  ⟨f, fd, ps, a.mgf, a.kp, a.bd, row_ok hT (fn_okC a S hp hN hb)⟩
/-- what is told of a def that is handed lambdas -/
structure Gd (K : PySem.W.Frag) (mg : Str → Option Value) (x : Str) (st : Stmt) (a : Str) : Prop where
  ex : ∃ (g : Addr) (oc : Value) (od : Option Addr) (kV doc pm cdv ct : Value) (an : Option Addr) (osl : Array (Option Value)), mg x = some (.ref g) ∧ PySem.W.keepIn K (.ref g) = true ∧
    K.lookup g = some ⟨oc, od, .func (PySem.W.fnOf x x (defArgs st) (defBody st) (defScope st) .none kV doc pm an cdv ct), osl⟩ ∧ PySem.W.codeIn K cdv x = true ∧ Binds K (PySem.W.fnOf x x (defArgs st) (defBody st) (defScope st) .none kV doc pm an cdv ct) [a] []
theorem At.gd {x : Str} {st : Stmt} {a : Str} {f : Addr} {fd : FuncData} (h : At K mg x st [a] f fd) : Gd K mg x st a := by
  obtain ⟨oc, od, kV, doc, pm, an, cdv, ct, osl, rfl, lk, hc⟩ := h.fn.ex
  exact ⟨f, oc, od, kV, doc, pm, cdv, ct, an, osl, h.mgf, h.kp, lk, hc, h.bd⟩
end
section
variable {X : Cx}
/-- x(lambda ..: e), by what is told of x -/
theorem se_lamG {Tb : List (Addr × Str)} {σ0 : S0} {W : WX} {cl clg : Cl} {x a : Str} {st : Stmt} {c P : Addr} {k j : Nat} {Ng0 ph : List Str} {nl : Nat} {irg : S} {params : Arguments} {body : Expr} {scope : Scope} {pl : List Str} {p lpos pos : Pos} (gd : Gd X.K X.mg x st a)
    (hSg : FnScope (Ng0 ++ ph) [a] (defScope st)) (hnl : Ng0.length = nl) (hpos : 0 < nl) (hphl : ph.length = X.N.length) (hph : phB (defScope st) ph = true)
    (TB : LamX.TabB X.base X.mg c P) (hcode : X.env.code = .ref c) (hmT : (P, X.env.qual ++ "<lambda>") ∈ Tb) (hu : ∀ p ∈ Tb, p.1 = P → p.2 = X.env.qual ++ "<lambda>") (hr : Room (k + 2) X.A) (L : LamP X.env.scope scope pl)
    (hj : ∀ ds env, cl.b j ds env = runB clg ⟨0, nl, false, irg⟩ ds env)
    (hG : ∀ {g : Addr} {cdv : Value} {f c' : Addr} {pins : List (Addr × Obj)} {σ : Sg} {H : Hp} {s : Shared} {σb : Sg}, LamHere X pins σ H s params body scope f c' → Room (k + 1) (X.A.deeper (envOfC x (defScope st) s.heap.objs.size g cdv)) → σb.length = nl → σb[0]? = some (some (.ref f)) →
      SSs (gCx X (Ng0 ++ ph) x (defScope st) g cdv s H).nox Tb ⟨σb ++ σ, fxG nl, (c', X.env.qual ++ "<lambda>") :: σ0.cd⟩ (fun _ _ _ _ => False) clg (defBody st) irg)
    (hg : Gl X x := by rfl) (hdef : defaultsOf params X.env = ([], []) := by rfl) (hdb : (x == ("__debug__" : Str)) = false := by decide) :
    SE X Tb σ0 W cl (.Call (.Name x p) [.Lambda params body scope lpos] [] pos) (.blk j .nil) := by
  obtain ⟨g, oc, od, kV, doc, pm', cdv, ct, an, osl, hm, hk, lk, hcg, hb⟩ := gd.ex
  exact se_lam hm hk lk hcg hb hSg hnl hpos hphl hph TB hcode hmT hu hr L hj (fun h1 h2 h3 h4 => hG h1 h2 h3 h4) hg hdef hdb
/-- a block, one level down -/
theorem blk_or {T : TabT} {j : Nat} {bk : BkIR} (k : Nat) (h : T.b j = some bk) : (∀ ds env, (evF T (k + 1)).b j ds env = .bad) ∨ ∀ ds env, (evF T (k + 1)).b j ds env = runB (evF T k) bk ds env := by
  cases k with
  | zero => exact .inl fun _ _ => rfl
  | succ k =>
    refine .inr fun ds env => ?_
    show (if k + 1 = 0 then Res.bad else match T.b j with | some bk => runB (evF T (k + 1)) bk ds env | none => .bad) = _
    rw [if_neg (by omega), h]
theorem se_lamN {Tb : List (Addr × Str)} {σ0 : S0} {W : WX} {T : TabT} {n : Nat} {x a : Str} {st : Stmt} {c P : Addr} {j : Nat} {Ng0 ph : List Str} {nl : Nat} {irg : S} {params : Arguments} {body : Expr} {scope : Scope} {pl : List Str} {p lpos pos : Pos} (gd : Gd X.K X.mg x st a)
    (hSg : FnScope (Ng0 ++ ph) [a] (defScope st)) (hnl : Ng0.length = nl) (hpos : 0 < nl) (hphl : ph.length = X.N.length) (hph : phB (defScope st) ph = true)
    (TB : LamX.TabB X.base X.mg c P) (hcode : X.env.code = .ref c) (hmT : (P, X.env.qual ++ "<lambda>") ∈ Tb) (hu : ∀ p ∈ Tb, p.1 = P → p.2 = X.env.qual ++ "<lambda>") (hr : Room (n + 2) X.A) (L : LamP X.env.scope scope pl)
    (hT : T.b j = some ⟨0, nl, false, irg⟩)
    (hG : ∀ (k : Nat), n = k + 2 → ∀ {g : Addr} {cdv : Value} {f c' : Addr} {pins : List (Addr × Obj)} {σ : Sg} {H : Hp} {s : Shared} {σb : Sg}, LamHere X pins σ H s params body scope f c' → Room (k + 2 + 1) (X.A.deeper (envOfC x (defScope st) s.heap.objs.size g cdv)) → σb.length = nl → σb[0]? = some (some (.ref f)) →
      SSs (gCx X (Ng0 ++ ph) x (defScope st) g cdv s H).nox Tb ⟨σb ++ σ, fxG nl, (c', X.env.qual ++ "<lambda>") :: σ0.cd⟩ (fun _ _ _ _ => False) (evF T (k + 1)) (defBody st) irg)
    (hg : Gl X x := by rfl) (hdef : defaultsOf params X.env = ([], []) := by rfl) (hdb : (x == ("__debug__" : Str)) = false := by decide) :
    SE X Tb σ0 W (evF T n) (.Call (.Name x p) [.Lambda params body scope lpos] [] pos) (.blk j .nil) := by
  rcases n with _ | _ | k
  · exact se_nob fun _ _ => rfl
  · exact se_nob fun _ _ => rfl
  · rcases blk_or (k + 1) hT with h | h
    · exact se_nob h
    · exact se_lamG gd hSg hnl hpos hphl hph TB hcode hmT hu hr L h (fun h1 h2 h3 h4 => hG k rfl h1 h2 h3 h4) hg hdef hdb
theorem lam_takes {A : Around} {outer : List Env} {s' : Shared} {H' : Hp} {E : XK} {scope : Scope} {f c' : Addr} {N : List Str} : Takes (lamC X A outer s' H' E scope f c' N) (fun cls d _ H' => E cls d H') := takes_of (X := lamC X A outer s' H' E scope f c' N) (E := E) rfl rfl rfl rfl
end
end Pb

namespace Pb
open PySem

/-! ### what raises -/
@[irreducible] def SatX {α : Type} (x : Res α) (Q : Exc → En → Prop) : Prop := match x with
  | .exc c e => Q c e
  | _ => False
section
variable {α β : Type} {Q : Exc → En → Prop} {cl : Cl} {env : En} {e : E} {a b : S} {ds : List D}
theorem satX_exc {c : Exc} : SatX (.exc c env : Res α) Q = Q c env := by unfold SatX; rfl
theorem satX_ok {x : α} : SatX (.ok x : Res α) Q = False := by unfold SatX; rfl
theorem satX_bad : SatX (.bad : Res α) Q = False := by unfold SatX; rfl
theorem SatX.get {x : Res α} (h : SatX x Q) : ∃ c e, x = .exc c e ∧ Q c e := by
  cases x with
  | ok a => rw [satX_ok] at h; exact h.elim
  | exc c e => rw [satX_exc] at h; exact ⟨c, e, rfl, h⟩
  | bad => rw [satX_bad] at h; exact h.elim
theorem satX_bind1 {x : Res β} {f : β → Res α} (h : SatX x Q) : SatX (x.bind f) Q := by
  obtain ⟨c, e, rfl, q⟩ := h.get
  show SatX (.exc c e) Q
  rw [satX_exc]
  exact q
theorem satX_bind2 {x : Res β} {f : β → Res α} (h : Sat x fun y => SatX (f y) Q) : SatX (x.bind f) Q := by
  obtain ⟨y, rfl, q⟩ := h.get
  exact q
def xNx (cl : Cl) (b : S) (Q : Exc → En → Prop) : Flow × En → Prop := fun x => match x.1 with
  | .nx => SatX (evS cl b x.2) Q
  | _ => False
@[simp] theorem xNx_eq : xNx cl b Q (.nx, env) = SatX (evS cl b env) Q := rfl
theorem x_seq1 (h : SatX (evS cl a env) Q) : SatX (evS cl (.seq a b) env) Q := by
  simp only [evS]
  exact satX_bind1 h
theorem x_seq2 (h : Sat (evS cl a env) (xNx cl b Q)) : SatX (evS cl (.seq a b) env) Q := by
  simp only [evS]
  refine satX_bind2 (h.mono fun x hx => ?_)
  obtain ⟨f, e⟩ := x
  cases f <;> first | exact hx | exact hx.elim
def xIf (cl : Cl) (a b : S) (Q : Exc → En → Prop) : Bool × En → Prop := fun x => if x.1 = true then SatX (evS cl a x.2) Q else SatX (evS cl b x.2) Q
@[simp] theorem xIf_eq {z : Bool} : xIf cl a b Q (z, env) = if z = true then SatX (evS cl a env) Q else SatX (evS cl b env) Q := rfl
theorem x_if (h : Sat (evE cl e env) (isB (xIf cl a b Q))) : SatX (evS cl (.iff e a b) env) Q := by
  simp only [evS]
  refine satX_bind2 ?_
  rw [w_T]
  refine h.mono fun x hx => ?_
  obtain ⟨r, en⟩ := x
  cases r with
  | val d =>
    cases d with
    | bool z => 
      have hx : (if z = true then SatX (evS cl a en) Q else SatX (evS cl b en) Q) := hx
      show SatX (if z = true then evS cl a en else evS cl b en) Q
      split at hx <;> rename_i hz <;> simp only [hz, if_true, if_false] <;> exact hx
    | _ => exact hx
  | _ => exact hx
@[simp] theorem x_rse {x : Str} : SatX (evS cl (.rse x) env) Q = Q ⟨x, none⟩ env := by simp only [evS]; exact satX_exc
def xRse (x : Str) (Q : Exc → En → Prop) : RV × En → Prop := fun y => match y.1 with
  | .val (.int n) => Q ⟨x, some n⟩ y.2
  | _ => False
@[simp] theorem xRse_eq {x : Str} {n : Int} : xRse x Q (.val (.int n), env) = Q ⟨x, some n⟩ env := rfl
theorem x_rseN {x : Str} (h : Sat (evE cl e env) (xRse x Q)) : SatX (evS cl (.rseN x e) env) Q := by
  simp only [evS]
  refine satX_bind2 (h.mono fun y hy => ?_)
  obtain ⟨r, en⟩ := y
  cases r with
  | val d =>
    cases d with
    | int n => 
      show SatX (.exc ⟨x, some n⟩ en) Q
      rw [satX_exc]
      exact hy
    | _ => exact hy.elim
  | _ => exact hy.elim
theorem x_exp (h : SatX (evE cl e env) Q) : SatX (evS cl (.exp e) env) Q := by simp only [evS]; exact satX_bind1 h
theorem x_ret (h : SatX (evE cl e env) Q) : SatX (evS cl (.ret e) env) Q := by simp only [evS]; exact satX_bind1 h
theorem x_asg {i : Nat} (h : SatX (evE cl e env) Q) : SatX (evS cl (.asg i e) env) Q := by simp only [evS]; exact satX_bind1 h
def xCall (cl : Cl) (f : Nat) (Q : Exc → En → Prop) : List D × En → Prop := fun x => SatX (callE cl f x.1 x.2) Q
@[simp] theorem xCall_eq {f : Nat} : xCall cl f Q (ds, env) = SatX (callE cl f ds env) Q := rfl
theorem x_call {f : Nat} {es : Es} (h : Sat (evEs cl es env) (xCall cl f Q)) : SatX (evE cl (.call f es) env) Q := by simp only [evE]; exact satX_bind2 h
theorem x_callE {f : Nat} {c : Exc} (h : cl f none ds = .exc c none) : SatX (callE cl f ds env) Q = Q c env := by
  unfold callE
  rw [h]
  exact satX_exc
def xBlk (cl : Cl) (j : Nat) (Q : Exc → En → Prop) : List D × En → Prop := fun x => SatX (cl.b j x.1 x.2) Q
@[simp] theorem xBlk_eq {j : Nat} : xBlk cl j Q (ds, env) = SatX (cl.b j ds env) Q := rfl
theorem x_blk {j : Nat} {es : Es} (h : Sat (evEs cl es env) (xBlk cl j Q)) : SatX (evE cl (.blk j es) env) Q := by simp only [evE]; exact satX_bind2 h
/-- a def that raises -/
def isXc (c : Exc) : Exc → En → Prop := fun d _ => d = c
@[simp] theorem isXc_eq {c d : Exc} : isXc c d env = (d = c) := rfl
theorem excF_run {f : FnIR} {c : Exc} (h0 : f.io = false) (h2 : (envI f none ds).length = f.nl) (h3 : f.np ≤ f.nl) (h : SatX (evS cl f.body (envI f none ds)) (isXc c)) : runF cl f none ds = .exc c none := by
  unfold runF
  rw [if_pos ⟨by rw [h0]; rfl, h2, h3⟩]
  obtain ⟨d, e, hx, hd⟩ := h.get
  have hd : d = c := hd
  rw [hx, hd]
  unfold fin outIo
  rw [h0]
  simp
/-! blocks -/
@[simp] theorem toInn_val {d : D} : toInn (.val d) = .val d := rfl
@[simp] theorem toInn_non : toInn .non = .non := rfl
@[simp] theorem toInn_own {o : Ob} : toInn (.own o) = .inn o := rfl
@[simp] theorem toInn_inn {o : Ob} : toInn (.inn o) = .inn o := rfl
@[simp] theorem fromInn_n : fromInn [] env = some [] := by cases env <;> rfl
@[simp] theorem fromInn_val {d : D} {r e : En} {s : Sl} : fromInn (.val d :: r) (s :: e) = (fromInn r e).map (.val d :: ·) := by cases s <;> rfl
@[simp] theorem fromInn_non {r e : En} {s : Sl} : fromInn (.non :: r) (s :: e) = (fromInn r e).map (.non :: ·) := by cases s <;> rfl
@[simp] theorem fromInn_frd {k : List (D × D)} {r e : En} {s : Sl} : fromInn (.frd k :: r) (s :: e) = (fromInn r e).map (.frd k :: ·) := by cases s <;> rfl
@[simp] theorem fromInn_own {o q : Ob} {r e : En} : fromInn (.own o :: r) (.inn q :: e) = (fromInn r e).map (.own q :: ·) := rfl
@[simp] theorem fromInn_inn {o q : Ob} {r e : En} : fromInn (.inn o :: r) (.inn q :: e) = (fromInn r e).map (.inn q :: ·) := rfl
/-- a slot that a block leaves alone -/
theorem fromInn_map : ∀ {env : En}, fromInn env (env.map toInn) = some env
  | [] => rfl
  | s :: env => by
    cases s <;> simp [fromInn_map (env := env)]
def isR (bk : BkIR) (env0 : En) (Q : RV × En → Prop) : Flow × En → Prop := fun x => match x.1 with
  | .ret r => ∃ q e', retB bk.nl x.2 r = some q ∧ fromInn env0 (x.2.drop bk.nl) = some e' ∧ Q (q, e')
  | _ => False
theorem isR_val {bk : BkIR} {env0 e' : En} {Q : RV × En → Prop} {d : D} (h : fromInn env0 (env.drop bk.nl) = some e') : isR bk env0 Q (.ret (.val d), env) = Q (.val d, e') := by
  unfold isR
  simp only [h]
  exact propext ⟨fun ⟨q, x, a, b, c⟩ => by cases a; cases b; exact c, fun c => ⟨_, _, rfl, rfl, c⟩⟩
theorem sat_runB {bk : BkIR} {Q : RV × En → Prop} (h1 : ds.length = bk.np) (h2 : bk.np ≤ bk.nl) (h : Sat (evS cl bk.body (envB bk ds env)) (isR bk env Q)) : Sat (runB cl bk ds env) Q := by
  unfold runB
  rw [if_pos ⟨h1, h2⟩]
  obtain ⟨⟨fl, e⟩, hx, q⟩ := h.get
  rw [hx]
  cases fl with
  | ret r =>
    obtain ⟨q, e', a, b, c⟩ := q
    simp only at a b ⊢
    rw [a, b]
    exact sat_ok.mpr c
  | _ => exact q.elim
def xR (bk : BkIR) (env0 : En) (Q : Exc → En → Prop) : Exc → En → Prop := fun c e => ∃ e', fromInn env0 (e.drop bk.nl) = some e' ∧ Q c e'
theorem satX_runB {bk : BkIR} (h1 : ds.length = bk.np) (h2 : bk.np ≤ bk.nl) (h3 : bk.esc = true) (h : SatX (evS cl bk.body (envB bk ds env)) (xR bk env Q)) : SatX (runB cl bk ds env) Q := by
  unfold runB
  rw [if_pos ⟨h1, h2⟩]
  obtain ⟨c, e, hx, e', a, b⟩ := h.get
  rw [hx]
  simp only [h3, if_true, a]
  rw [satX_exc]
  exact b
/-! try -/
theorem w_try {hs : List Hd} {tb : List (Str × Str × Bool)} {Q : Flow × En → Prop} (h : Sat (evS cl a env) Q) : Sat (evS cl (.tryS a hs tb) env) Q := by
  obtain ⟨x, hx, q⟩ := h.get
  simp only [evS, hx]
  exact sat_ok.mpr q
def xHd (hs : List Hd) (tb : List (Str × Str × Bool)) (Q : Flow × En → Prop) : Exc → En → Prop := fun c e => Sat (hdl tb c e hs) Q
@[simp] theorem xHd_eq {hs : List Hd} {tb : List (Str × Str × Bool)} {Q : Flow × En → Prop} {c : Exc} : xHd hs tb Q c env = Sat (hdl tb c env hs) Q := rfl
theorem w_tryX {hs : List Hd} {tb : List (Str × Str × Bool)} {Q : Flow × En → Prop} (h : SatX (evS cl a env) (xHd hs tb Q)) : Sat (evS cl (.tryS a hs tb) env) Q := by
  obtain ⟨c, e, hx, q⟩ := h.get
  simp only [evS, hx]
  exact q
@[simp] theorem w_mov {i j : Nat} {Q : Flow × En → Prop} : Sat (evS cl (.mov i j) env) Q = kNx Q (movS i j env) := by simp only [evS, sat_nxt]
end
end Pb
namespace Pb
open PySem
/-! lambdas that call one def -/
section
variable {cl : Cl} {env : En} {ds : List D} {f j : Nat} {es : Es} {c : Exc} {r : RV}
theorem lam_exc (hes : Sat (evEs cl es (env.map toInn)) fun x => x = (ds, env.map toInn)) (hc : cl f none ds = .exc c none) : runB cl ⟨0, 0, true, .ret (.call f es)⟩ [] env = .exc c env := by
  obtain ⟨x, hx, rfl⟩ := hes.get
  unfold runB
  rw [if_pos ⟨rfl, Nat.le_refl _⟩]
  have e : envB ⟨0, 0, true, .ret (.call f es)⟩ [] env = env.map toInn := rfl
  rw [e]
  simp only [evS, evE, hx, Res.bind_ok, callE, hc, Res.bind_exc, if_true, List.drop_zero, fromInn_map]
theorem lam_val {d : D} (hes : Sat (evEs cl es (env.map toInn)) fun x => x = (ds, env.map toInn)) (hc : cl f none ds = .ok (.val d) none) : runB cl ⟨0, 0, true, .ret (.call f es)⟩ [] env = .ok (.val d, env) := by
  obtain ⟨x, hx, rfl⟩ := hes.get
  unfold runB
  rw [if_pos ⟨rfl, Nat.le_refl _⟩]
  have e : envB ⟨0, 0, true, .ret (.call f es)⟩ [] env = env.map toInn := rfl
  rw [e]
  simp only [evS, evE, hx, Res.bind_ok, callE, hc, retB, List.drop_zero, fromInn_map]
theorem satX_of {α : Type} {x : Res α} {Q : Exc → En → Prop} {e : En} (h : x = .exc c e) (q : Q c e) : SatX x Q := by rw [h, satX_exc]; exact q
theorem map_get {i : Nat} {d : D} (h : env[i]? = some (Sl.val d)) : (env.map toInn)[i]? = some (Sl.val d) := by rw [List.getElem?_map, h]; rfl
end
end Pb

namespace Pb
open PySem PySem.Spec PyProof.Rows L2
/-! ### the end, with tables of code objects -/
def spLawT (K : PySem.W.Frag) (cs : List (Addr × Addr)) : Sp := fun vs H Q _ => ∃ (a : Addr) (ns : List Int), vs = [.ref a] ∧ SqL K H a (ns.map V.int) ∧ ns.length ≤ 63 ∧ (∀ p ∈ cs, H p.2 = some (.tbl #[])) ∧ ∀ H', Q (.bl true) H'
theorem law_impT {K : PySem.W.Frag} {w : World} {mg : Str → Option Value} {g : Option Ob → List D → FR} {cs : List (Addr × Addr)} {tb : List (Addr × Str)} (htb : ∀ p ∈ tb, ∃ c, (c, p.1) ∈ cs) (hK : noLst K = true) (hg : ∀ ns : List Int, ns.length ≤ 63 → g none [.list (ns.map .int)] = .ok (.val (.bool true)) none) (vs : List V) (H : Hp) (Q : VK) (E : XK) (h : spLawT K cs vs H Q E) : spIR ⟨K, w, mg, tb⟩ g vs H Q E := by
  obtain ⟨a, ns, e, hs, hl, ht, k⟩ := h
  refine ⟨noT H, noT H, none, none, [.list (ns.map .int)], [.ref a], e, ⟨noT_sub H, noT_sub H, noT_nt H, noT_nt H, fun p hp => ?_⟩, trivial, (fun a z => nomatch z), ?_, ?_⟩
  · obtain ⟨c, hc⟩ := htb p hp
    exact LamX.TabS.nil (ht _ hc)
  · refine ⟨.ref a, [], rfl, ⟨a, ns.map V.int, rfl, ?_, rp_ints ns⟩, rfl⟩
    rcases hs with (r | ⟨o, r⟩) | ⟨o, its, n, h1, h2, _⟩
    · exact .inl (noT_some r fun ps z => by cases z)
    · exact .inr ⟨o, noT_some r fun ps z => by cases z⟩
    · exact (noLst_not hK h1 h2).elim
  · rw [hg ns hl]
    intro v H' F' _ _ _ fr
    have : v = .bl true := fr
    rw [this]
    exact k H'
/-- the table of what a code object's def makes -/
def codeTab (K : PySem.W.Frag) (c : Addr) : Option Addr := match K.lookup c with
  | some ⟨_, _, .fields vs, _⟩ => match (vs[11]? : Option Value) with
    | some (.ref P) => some P
    | _ => none
  | _ => none
theorem atC_mk {K : PySem.W.Frag} {h : Heap} {mg : Str → Option Value} {x : Str} {st : Stmt} {ps : List Str} {f c : Addr} {oc kV dc pm ct : Value} {od an : Option Addr} {sl : Array (Option Value)} (X : K.In h) (G : h.Ns mainGlobals mg)
    (a : PySem.W.nsIn K mainGlobals x = some (some (.ref f))) (l : K.lookup f = some ⟨oc, od, .func (PySem.W.fnOf x x (defArgs st) (defBody st) (defScope st) .none kV dc pm an (.ref c) ct), sl⟩) (cc : PySem.W.codeIn K (.ref c) x = true) (k : PySem.W.keepIn K (.ref f) = true)
    (b : ∀ (kV doc pm : Value) (an : Option Addr) (cdv ct : Value) (us : List Value), us.length = ps.length → bindArgs (PySem.W.fnOf x x (defArgs st) (defBody st) (defScope st) .none kV doc pm an cdv ct) ⟨us, []⟩ = pure (ps.zip us)) :
    AtC K mg x st ps f (PySem.W.fnOf x x (defArgs st) (defBody st) (defScope st) .none kV dc pm an (.ref c) ct) c :=
  ⟨⟨_, _, _, _, _, _, _, _, rfl, l, cc⟩, PySem.W.mg_of X G a, k, (fun_mk l cc k).binds b⟩
theorem walkT {D : Nat} {l : PySem.W.OpenLaw} {q : Program} {loose : List Str} {XP : (Str → Option Value) → Heap → Prop} {YP : World → Heap → Prop} {d : DefRec} {K : Params → PySem.W.Frag} (hn : l.most = some 63) (hdf : d.params.defaults = [])
    (hr : Room D callerA) (hY : ∀ (w : World) (h : Heap), YP w h → (K w.params).In h)
    (F : ∀ (w : World) (mg : Str → Option Value) (fa : Addr) (h : Heap), YP w h → (K w.params).In h → h.Ns mainGlobals mg → mg d.name = some (.ref fa) →
      ∃ (fd : FuncData) (cs : List (Addr × Addr)), (∀ p ∈ cs, h.get? p.2 = some { cls := .none, data := .fields #[] }) ∧ (∀ p ∈ cs, (K w.params).lookup p.2 = none) ∧ (∀ p ∈ cs, PySem.W.CodeHd h p.1 p.2) ∧ (∀ (s : Shared) (u : Value), BindsTo s fd ⟨[u], []⟩ [("script", u)]) ∧
        ∀ base : Heap, (K w.params).In base → base.Ns mainGlobals mg → (∀ p ∈ cs, LamX.TabB base mg p.1 p.2) → FnOk l.prog w (K w.params) mg base (L2.CX l.prog w) D fa fd ["script"] (spLawT (K w.params) cs)) :
    PySem.W.WalkO q loose XP YP l.row.toRowW d [] (fun f vs => PySem.call f vs) :=
  LamX.walk_ofTs (n := 63) (k := D) (x := "script") (CX := fun w => L2.CX l.prog w) hn (by decide) hdf hr hY (fun w mg fa h Y X G hm => by
    obtain ⟨fd, cs, h1, h2, h3, h4, h5⟩ := F w mg fa h Y X G hm
    exact ⟨fd, cs, spLawT (K w.params) cs, h1, h2, h3, h4, fun H a ns hl _ ht hS => ⟨a, ns, rfl, hS, hl, ht, fun _ => rfl⟩, h5⟩) fun _ _ _ _ _ z => by
    obtain ⟨_, _, _, _, _, _, _, _, _, _, _, _, z⟩ := z
    exact z.elim
theorem ex_mk {K : PySem.W.Frag} {h : Heap} {mg : Str → Option Value} {x y : Str} {C D : Addr} {b : Bool} (X : K.In h) (G : h.Ns mainGlobals mg) (hx : PySem.W.nsIn K mainGlobals x = some (some (.ref C))) (hy : PySem.W.nsIn K mainGlobals y = some (some (.ref D))) (e : PySem.W.exmOne K (.ref C) (.ref D) = some b) :
    ∀ C' D' : Addr, mg x = some (.ref C') → mg y = some (.ref D') → PySem.W.exmOne K (.ref C') (.ref D') = some b := fun C' D' h1 h2 => by
  rw [PySem.W.mg_of X G hx] at h1
  rw [PySem.W.mg_of X G hy] at h2
  cases h1
  cases h2
  exact e
/-- of an exception class with a limit -/
structure TMK (K : PySem.W.Frag) (mg : Str → Option Value) (x : Str) (fI : Addr) (fd : FuncData) (C : Addr) : Prop where
  mgC : mg x = some (.ref C)
  cls : OexC K C
  lim : PySem.W.findIn K (.ref C) "limit" = some none
  ini : PySem.W.findIn K (.ref C) "__init__" = some (some (.ref fI))
  tfn : PySem.W.typeIn K (.ref fI) = some (.type "function")
  bd : Binds K fd ["self", "limit"] []
end Pb

namespace Pb
open PySem PySem.Spec L2
section
variable {X : Cx}
theorem rp_rg {K : PySem.W.Frag} {F : Hp} : ∀ (l : List Nat), RpAll K F (l.map fun k : Nat => (.int (0 + (k : Int)) : D)) (l.map fun k : Nat => V.int (0 + (k : Int)))
  | [] => rfl
  | k :: l => ⟨_, _, rfl, rfl, rp_rg l⟩
theorem se_tupRg {Tb : List (Addr × Str)} {σ0 : S0} {W : WX} {cl : Cl} {e : Expr} {i : E} {p1 p2 p3 pos : Pos} (hc : X.calm = true) (hm : X.mg "tuple" = none) (hm2 : X.mg "range" = none) (he : SE X Tb σ0 W cl e i) (hg : Gl X "tuple" := by rfl) (hg2 : Gl X "range" := by rfl)
    (hs : starEach [e] X.env = (false, eval e X.env) :: starEach [] X.env := by rfl) (hs2 : starEach [.Call (.Name "range" p2) [e] [] p3] X.env = (false, eval (.Call (.Name "range" p2) [e] [] p3) X.env) :: starEach [] X.env := by rfl) :
    SE X Tb σ0 W cl (.Call (.Name "tuple" p1) [.Call (.Name "range" p2) [e] [] p3] [] pos) (.op1 .tupRg i) := by
  refine PE.mono (pe_tupRg hc hg hm (prg_1 hg2 hm2 he hs) hs2) fun σ H Q q => ?_
  obtain ⟨G, F, env, R, g⟩ := q
  refine next (L := []) R (fun _ => noL) g fun r v F2 env2 H2 gr R2 hr _ g2 => ?_
  have g3 : GoodB (pm X Tb) σ0 G F2 σ W (OkE (pm X Tb) G σ Q) (resOV ((rd env2 r).bind fTupRg) env2) := g2
  cases hd : rd env2 r with
  | none => rw [hd] at g3; exact (show False from g3).elim
  | some d =>
    rw [hd] at g3
    have rt := rd_ok R2 hr hd
    cases d <;> try (exact (show False from g3).elim)
    rename_i n
    simp only [Option.bind, fTupRg] at g3
    split at g3
    · rename_i hz
      have hz2 := rng_ok hz
      have ev : v = .int n := rt
      subst ev
      refine ⟨n, rfl, ⟨by omega, by omega, by omega, by omega, by omega⟩, fun q hq => ?_⟩
      exact ov_out (p := pm X Tb) (o := .ntup _) R2 g3 (.inr ⟨q, _, hq, rfl, rfl, rp_rg _⟩)
    · exact (show False from g3).elim
end
end Pb

/-! ### the program of the law k09: printed from T.py by a program -/
namespace Law
open PySem PySem.Spec PyProof.Rows L2 Pb
def top (i : Nat) : Stmt := PySem.Challenge.pw_proxybids_k09_whole_least_limits_that_wi.main.body.getD i (.Pass ⟨0, 0, 0, 0⟩)
def hd_0 : List Hd := [⟨"TooMany", some 2, 1, .lim "TooMany"⟩]
def ht_0 : List (Str × Str × Bool) := [("InvalidAuction", "TooMany", false), ("InvalidField", "TooMany", false), ("TooMany", "TooMany", true)]
def hd_1 : List Hd := [⟨"TooMany", some 2, 1, .lim "TooMany"⟩]
def ht_1 : List (Str × Str × Bool) := [("InvalidAuction", "TooMany", false), ("InvalidField", "TooMany", false), ("TooMany", "TooMany", true)]
abbrev s_least_limit : Stmt := top 33
abbrev s__law_limit_of : Stmt := top 50
abbrev s_is_between : Stmt := top 11
def i_is_between : FnIR := ⟨3, 3, false,
  (.ret (.and_ (.isi .int (.var 0)) (.and_ (.not_ (.isi .bool (.var 0))) (.ch2 .le .le (.var 1) (.var 0) (.var 2)))))⟩
abbrev s_is_price : Stmt := top 12
def i_is_price : FnIR := ⟨1, 1, false,
  (.ret (.call 0 (.cons (.var 0) (.cons (.con (.int 1)) (.cons (.glob "MOST_PRICE" (.int 1000000)) .nil)))))⟩
abbrev s_is_name : Stmt := top 13
def i_is_name : FnIR := ⟨1, 2, false,
  (.ret (.and_ (.isi .str (.var 0)) (.and_ (.ch2 .le .le (.con (.int 1)) (.op1 .len (.var 0)) (.con (.int 8))) (.op1 .all (.comp (.op2 .in_ (.var 1) (.glob "LETTERS" (.str "abcdefghijklmnopqrstuvwxyz"))) (.nm 1) (.datS (.var 0)) (.con (.bool true)) [1])))))⟩
abbrev s_is_ascending : Stmt := top 14
def i_is_ascending : FnIR := ⟨1, 3, false,
  (.ret (.op1 .all (.comp (.op2 .lt (.var 1) (.var 2)) (.tp [1, 2]) (.zipL (.var 0) (.op2 .slcL (.var 0) (.con (.int 1)))) (.con (.bool true)) [1, 2])))⟩
abbrev s_is_table : Stmt := top 15
def i_is_table_b1 : S :=
  (.seq (.iff (.or_ (.not_ (.isi .tuple (.var 1))) (.op2 .ne (.op1 .len (.var 1)) (.con (.int 2)))) (.ret (.con (.bool false))) .skip) (.iff (.or_ (.not_ (.call 0 (.cons (.op2 .ix (.var 1) (.con (.int 0))) (.cons (.con (.int 0)) (.cons (.glob "MOST_PRICE" (.int 1000000)) .nil))))) (.not_ (.call 0 (.cons (.op2 .ix (.var 1) (.con (.int 1))) (.cons (.con (.int 1)) (.cons (.glob "MOST_STEP" (.int 1000)) .nil)))))) (.ret (.con (.bool false))) .skip))
def i_is_table_t1 : S :=
  (.seq (.iff (.or_ (.op2 .ne (.op2 .ix (.op2 .ix (.var 0) (.con (.int 0))) (.con (.int 0))) (.con (.int 0))) (.not_ (.call 3 (.cons (.comp (.op2 .ix (.var 1) (.con (.int 0))) (.nm 1) (.datT (.var 0)) (.con (.bool true)) [1]) .nil)))) (.ret (.con (.bool false))) .skip) (.ret (.op1 .all (.comp (.op2 .le (.op2 .ix (.var 2) (.con (.int 1))) (.op2 .ix (.var 3) (.con (.int 1)))) (.tp [2, 3]) (.zipT (.var 0) (.op2 .slcL (.var 0) (.con (.int 1)))) (.con (.bool true)) [2, 3]))))
def i_is_table : FnIR := ⟨1, 4, false,
  (.seq (.iff (.or_ (.not_ (.isi .tuple (.var 0))) (.not_ (.ch2 .le .le (.con (.int 1)) (.op1 .len (.var 0)) (.con (.int 4))))) (.ret (.con (.bool false))) .skip) (.seq (.for_ (.nm 1) (.datT (.var 0)) i_is_table_b1) i_is_table_t1))⟩
abbrev s_is_auction : Stmt := top 16
def i_is_auction : FnIR := ⟨1, 1, false,
  (.ret (.and_ (.isi .tuple (.var 0)) (.and_ (.op2 .eq (.op1 .len (.var 0)) (.con (.int 2))) (.and_ (.call 1 (.cons (.op2 .ix (.var 0) (.con (.int 0))) .nil)) (.call 4 (.cons (.op2 .ix (.var 0) (.con (.int 1))) .nil))))))⟩
abbrev s_is_bid : Stmt := top 17
def i_is_bid : FnIR := ⟨1, 1, false,
  (.ret (.and_ (.isi .tuple (.var 0)) (.and_ (.op2 .eq (.op1 .len (.var 0)) (.con (.int 2))) (.and_ (.call 2 (.cons (.op2 .ix (.var 0) (.con (.int 0))) .nil)) (.call 1 (.cons (.op2 .ix (.var 0) (.con (.int 1))) .nil))))))⟩
abbrev s_is_bids : Stmt := top 18
def i_is_bids : FnIR := ⟨1, 2, false,
  (.ret (.and_ (.isi .tuple (.var 0)) (.and_ (.op2 .le (.op1 .len (.var 0)) (.glob "MOST_BIDS" (.int 30))) (.op1 .all (.comp (.call 6 (.cons (.var 1) .nil)) (.nm 1) (.datT (.var 0)) (.con (.bool true)) [1])))))⟩
abbrev s_is_field : Stmt := top 19
def i_is_field : FnIR := ⟨1, 3, false,
  (.seq (.iff (.or_ (.not_ (.call 7 (.cons (.var 0) .nil))) (.not_ (.ch2 .le .le (.con (.int 1)) (.op1 .len (.var 0)) (.glob "MOST_BIDDERS" (.int 8))))) (.ret (.con (.bool false))) .skip) (.ret (.call 3 (.cons (.comp (.var 1) (.tp [1, 2]) (.datT (.var 0)) (.con (.bool true)) [1, 2]) .nil))))⟩
abbrev s_need_auction : Stmt := top 20
def i_need_auction : FnIR := ⟨1, 1, false,
  (.iff (.not_ (.call 5 (.cons (.var 0) .nil))) (.rse "InvalidAuction") .skip)⟩
abbrev s_need_field : Stmt := top 21
def i_need_field : FnIR := ⟨1, 1, false,
  (.iff (.not_ (.call 8 (.cons (.var 0) .nil))) (.rse "InvalidField") .skip)⟩
abbrev s_step_at : Stmt := top 22
def i_step_at : FnIR := ⟨2, 4, false,
  (.ret (.op2 .ix (.comp (.var 3) (.tp [2, 3]) (.datT (.op2 .ix (.var 0) (.con (.int 1)))) (.op2 .le (.var 2) (.var 1)) [2, 3]) (.op1 .neg (.con (.int 1)))))⟩
abbrev s_after : Stmt := top 23
def i_after : FnIR := ⟨2, 2, false,
  (.ret (.op2 .add (.var 1) (.call 11 (.cons (.var 0) (.cons (.var 1) .nil)))))⟩
abbrev s_others_below : Stmt := top 25
def i_others_below : FnIR := ⟨3, 5, false,
  (.ret (.op1 .all (.comp (.op2 .lt (.var 4) (.var 2)) (.tp [3, 4]) (.datT (.var 0)) (.op2 .nin (.var 3) (.var 1)) [3, 4])))⟩
abbrev s_first_two : Stmt := top 26
def i_first_two : FnIR := ⟨3, 4, false,
  (.seq (.asg 3 (.op2 .ix (.var 0) (.con (.int 0)))) (.seq (.iff (.op2 .gt (.op2 .ix (.var 2) (.con (.int 1))) (.op2 .ix (.var 1) (.con (.int 1)))) (.ret (.con .none)) .skip) (.seq (.iff (.op2 .ge (.op2 .ix (.var 2) (.con (.int 1))) (.call 12 (.cons (.var 0) (.cons (.var 3) .nil)))) (.ret (.tup (.cons (.op2 .ix (.var 1) (.con (.int 0))) (.cons (.op2 .ix (.var 2) (.con (.int 0))) .nil)))) .skip) (.seq (.iff (.and_ (.ch2 .le .lt (.var 3) (.op2 .ix (.var 2) (.con (.int 1))) (.op2 .ix (.var 1) (.con (.int 1)))) (.op2 .ge (.op2 .ix (.var 1) (.con (.int 1))) (.call 12 (.cons (.var 0) (.cons (.var 3) .nil))))) (.ret (.tup (.cons (.op2 .ix (.var 2) (.con (.int 0))) (.cons (.op2 .ix (.var 1) (.con (.int 0))) .nil)))) .skip) (.ret (.con .none))))))⟩
abbrev s_beginnings : Stmt := top 27
def i_beginnings_b1 : S :=
  (.seq (.asg 6 (.ite (.op2 .eq (.op2 .ix (.var 5) (.con (.int 0))) (.op2 .ix (.var 4) (.con (.int 0)))) (.con .none) (.call 14 (.cons (.var 0) (.cons (.var 4) (.cons (.var 5) .nil)))))) (.iff (.op2 .isn (.var 6) (.con .none)) (.seq (.asg 7 (.op2 .min2 (.op2 .ix (.var 4) (.con (.int 1))) (.call 12 (.cons (.var 0) (.cons (.op2 .ix (.var 5) (.con (.int 1))) .nil))))) (.iff (.call 13 (.cons (.var 1) (.cons (.var 6) (.cons (.call 12 (.cons (.var 0) (.cons (.var 7) .nil))) .nil)))) (.dSet 2 (.tup (.cons (.op2 .ix (.var 4) (.con (.int 0))) (.cons (.var 7) .nil))) (.var 6)) .skip)) .skip))
def i_beginnings_b2 : S :=
  (.seq (.iff (.and_ (.op2 .ge (.op2 .ix (.var 4) (.con (.int 1))) (.var 3)) (.call 13 (.cons (.var 1) (.cons (.tup (.cons (.op2 .ix (.var 4) (.con (.int 0))) .nil)) (.cons (.call 12 (.cons (.var 0) (.cons (.var 3) .nil))) .nil))))) (.dSet 2 (.tup (.cons (.op2 .ix (.var 4) (.con (.int 0))) (.cons (.var 3) .nil))) (.tup (.cons (.op2 .ix (.var 4) (.con (.int 0))) .nil))) .skip) (.for_ (.nm 5) (.datT (.var 1)) i_beginnings_b1))
def i_beginnings_t1 : S :=
  (.ret (.var 2))
def i_beginnings : FnIR := ⟨2, 8, false,
  (.seq (.asg 2 .dct0) (.seq (.asg 3 (.op2 .ix (.var 0) (.con (.int 0)))) (.seq (.for_ (.nm 4) (.datT (.var 1)) i_beginnings_b2) i_beginnings_t1)))⟩
abbrev s_all_outcomes : Stmt := top 28
def i_all_outcomes : FnIR := ⟨2, 2, false,
  (.ret (.dSrt (.call 15 (.cons (.var 0) (.cons (.var 1) .nil)))))⟩
abbrev s_winners_of : Stmt := top 32
def i_winners_of_b1 : S :=
  (.iff (.op2 .nin (.var 3) (.var 2)) (.app 2 (.var 3)) .skip)
def i_winners_of_t1 : S :=
  (.ret (.var 2))
def i_winners_of : FnIR := ⟨2, 5, false,
  (.seq (.asg 2 (.lst .nil)) (.seq (.for_ (.tp [3, 4]) (.datL (.call 16 (.cons (.var 0) (.cons (.var 1) .nil)))) i_winners_of_b1) i_winners_of_t1))⟩
abbrev s_need_room : Stmt := top 34
def i_need_room : FnIR := ⟨1, 1, false,
  (.iff (.op2 .gt (.op1 .len (.var 0)) (.glob "MOST_JOINED" (.int 7))) (.rseN "TooMany" (.glob "MOST_JOINED" (.int 7))) .skip)⟩
abbrev s_least_possible : Stmt := top 35
def i_least_possible : FnIR := ⟨2, 2, false,
  (.seq (.exp (.call 9 (.cons (.var 0) .nil))) (.seq (.exp (.call 10 (.cons (.var 1) .nil))) (.seq (.exp (.call 19 (.cons (.var 1) .nil))) (.ret (.blk 1 .nil)))))⟩
abbrev s_least_sure : Stmt := top 36
def i_least_sure : FnIR := ⟨2, 2, false,
  (.seq (.exp (.call 9 (.cons (.var 0) .nil))) (.seq (.exp (.call 10 (.cons (.var 1) .nil))) (.seq (.exp (.call 19 (.cons (.var 1) .nil))) (.ret (.blk 3 .nil)))))⟩
abbrev s__law_source : Stmt := top 38
def i__law_source : FnIR := ⟨2, 3, false,
  (.seq (.asg 2 (.con (.int 0))) (.seq (.iff (.op2 .lt (.var 1) (.op1 .len (.var 0))) (.asg 2 (.op1 .abs (.op2 .ix (.var 0) (.var 1)))) .skip) (.seq (.iff (.op2 .lt (.var 2) (.op2 .pow (.con (.int 10)) (.con (.int 18)))) (.ret (.lst (.cons (.con (.int 0)) (.cons (.op2 .add (.con (.int 1)) (.op2 .mod (.op2 .add (.op2 .mul (.var 2) (.con (.int 7919))) (.op2 .mul (.con (.int 104729)) (.var 1))) (.con (.int 2147483646)))) .nil)))) .skip) (.ret (.lst (.cons (.var 2) (.cons (.op2 .add (.con (.int 1)) (.op2 .mod (.op2 .add (.var 2) (.var 1)) (.con (.int 2147483646)))) .nil)))))))⟩
abbrev s__law_draw : Stmt := top 39
def i__law_draw : FnIR := ⟨2, 3, true,
  (.seq (.iff (.op2 .gt (.op2 .ix (.var 0) (.con (.int 0))) (.con (.int 0))) (.seq (.asg 2 (.op2 .mod (.op2 .ix (.var 0) (.con (.int 0))) (.var 1))) (.seq (.put 0 (.con (.int 0)) (.op2 .div (.op2 .ix (.var 0) (.con (.int 0))) (.var 1))) (.ret (.var 2)))) .skip) (.seq (.put 0 (.con (.int 1)) (.op2 .mod (.op2 .mul (.op2 .ix (.var 0) (.con (.int 1))) (.con (.int 48271))) (.con (.int 2147483647)))) (.ret (.op2 .mod (.op2 .div (.op2 .mod (.op2 .mul (.op2 .ix (.var 0) (.con (.int 1))) (.op2 .ix (.var 0) (.con (.int 1)))) (.con (.int 2147483629))) (.con (.int 64))) (.var 1)))))⟩
abbrev s__law_choice : Stmt := top 40
def i__law_choice : FnIR := ⟨2, 2, true,
  (.ret (.op2 .ix (.var 1) (.callr 23 0 (.cons (.op1 .len (.var 1)) .nil))))⟩
abbrev s__law_next : Stmt := top 41
def i__law_next_b1 : S :=
  (.iff (.op2 .le (.var 3) (.var 1)) (.asg 2 (.op2 .add (.var 1) (.var 4))) .skip)
def i__law_next_t1 : S :=
  (.ret (.var 2))
def i__law_next : FnIR := ⟨2, 5, false,
  (.seq (.asg 2 (.con (.int 0))) (.seq (.for_ (.tp [3, 4]) (.datT (.op2 .ix (.var 0) (.con (.int 1)))) i__law_next_b1) i__law_next_t1))⟩
abbrev s__law_arrive : Stmt := top 42
def i__law_arrive : FnIR := ⟨3, 10, false,
  (.seq (.asgT [3, 4, 5] (.var 1)) (.seq (.asgT [6, 7] (.var 2)) (.seq (.iff (.op2 .is_ (.var 3) (.con .none)) (.ret (.ite (.op2 .ge (.var 7) (.op2 .ix (.var 0) (.con (.int 0)))) (.tup (.cons (.var 6) (.cons (.var 7) (.cons (.op2 .ix (.var 0) (.con (.int 0))) .nil)))) (.var 1))) .skip) (.seq (.iff (.op2 .eq (.var 6) (.var 3)) (.ret (.tup (.cons (.var 3) (.cons (.op2 .max2 (.var 4) (.var 7)) (.cons (.var 5) .nil))))) .skip) (.seq (.iff (.op2 .lt (.var 7) (.call 25 (.cons (.var 0) (.cons (.var 5) .nil)))) (.ret (.var 1)) .skip) (.seq (.par 8 9 (.op2 .max2 (.var 4) (.var 7)) (.op2 .min2 (.var 4) (.var 7))) (.ret (.tup (.cons (.ite (.op2 .ge (.var 4) (.var 7)) (.var 3) (.var 6)) (.cons (.var 8) (.cons (.op2 .min2 (.var 8) (.call 25 (.cons (.var 0) (.cons (.var 9) .nil)))) .nil)))))))))))⟩
abbrev s__law_final : Stmt := top 43
def i__law_final_b1 : S :=
  (.asg 2 (.call 26 (.cons (.var 0) (.cons (.var 2) (.cons (.var 3) .nil)))))
def i__law_final_t1 : S :=
  (.ret (.ite (.op2 .is_ (.op2 .ix (.var 2) (.con (.int 0))) (.con .none)) (.con .none) (.tup (.cons (.op2 .ix (.var 2) (.con (.int 0))) (.cons (.op2 .ix (.var 2) (.con (.int 2))) .nil)))))
def i__law_final : FnIR := ⟨2, 4, false,
  (.seq (.asg 2 (.tup (.cons (.con .none) (.cons (.con (.int 0)) (.cons (.con .none) .nil))))) (.seq (.for_ (.nm 3) (.datT (.var 1)) i__law_final_b1) i__law_final_t1))⟩
abbrev s__law_auction : Stmt := top 44
def i__law_auction_b1 : S :=
  (.seq (.asg 4 (.op2 .add (.op2 .add (.var 4) (.con (.int 1))) (.callr 23 0 (.cons (.callr 24 0 (.cons (.lst (.cons (.con (.int 10)) (.cons (.con (.int 60)) (.cons (.con (.int 1000)) .nil)))) .nil)) .nil)))) (.seq (.asg 2 (.op2 .add (.var 2) (.callr 23 0 (.cons (.con (.int 10)) .nil)))) (.app 3 (.tup (.cons (.var 4) (.cons (.var 2) .nil))))))
def i__law_auction_t1 : S :=
  (.ret (.tup (.cons (.var 1) (.cons (.op1 .tup (.var 3)) .nil))))
def i__law_auction : FnIR := ⟨1, 6, true,
  (.seq (.asg 1 (.callr 24 0 (.cons (.lst (.cons (.con (.int 1)) (.cons (.con (.int 10)) (.cons (.con (.int 10)) (.cons (.op2 .add (.con (.int 1)) (.callr 23 0 (.cons (.con (.int 60)) .nil))) (.cons (.op2 .add (.con (.int 1)) (.callr 23 0 (.cons (.con (.int 1000)) .nil))) .nil)))))) .nil))) (.seq (.asg 2 (.op2 .add (.con (.int 1)) (.callr 23 0 (.cons (.callr 24 0 (.cons (.lst (.cons (.con (.int 1)) (.cons (.con (.int 5)) (.cons (.con (.int 12)) (.cons (.con (.int 100)) .nil))))) .nil)) .nil)))) (.seq (.par 3 4 (.lst (.cons (.tup (.cons (.con (.int 0)) (.cons (.var 2) .nil))) .nil)) (.con (.int 0))) (.seq (.for_ (.nm 5) (.rng1 (.callr 23 0 (.cons (.con (.int 4)) .nil))) i__law_auction_b1) i__law_auction_t1))))⟩
abbrev s__law_limit : Stmt := top 45
def i__law_limit : FnIR := ⟨3, 6, true,
  (.seq (.asg 3 (.callr 23 0 (.cons (.con (.int 6)) .nil))) (.seq (.asg 4 (.op2 .sub (.call 25 (.cons (.var 1) (.cons (.var 2) .nil))) (.var 2))) (.seq (.asg 5 (.op2 .add (.con (.int 1)) (.callr 23 0 (.cons (.op2 .add (.op2 .mul (.con (.int 2)) (.var 2)) (.con (.int 9))) .nil)))) (.seq (.iff (.op2 .lt (.var 3) (.con (.int 4))) (.asg 5 (.op2 .sub (.op2 .add (.var 2) (.callr 23 0 (.cons (.op2 .add (.op2 .mul (.con (.int 4)) (.var 4)) (.con (.int 1))) .nil))) (.op2 .mul (.con (.int 2)) (.var 4)))) .skip) (.seq (.iff (.op2 .eq (.var 3) (.con (.int 4))) (.asg 5 (.op2 .sub (.op2 .add (.op2 .ix (.var 1) (.con (.int 0))) (.callr 23 0 (.cons (.op2 .add (.op2 .mul (.con (.int 2)) (.var 4)) (.con (.int 2))) .nil))) (.con (.int 2)))) .skip) (.ret (.op2 .min2 (.con (.int 900000)) (.op2 .max2 (.con (.int 1)) (.var 5)))))))))⟩
abbrev s__law_names : Stmt := top 46
def i__law_names_b1 : S :=
  (.exp (.pop 2 (.callr 23 0 (.cons (.op1 .len (.var 2)) .nil))))
def i__law_names_t1 : S :=
  (.ret (.var 2))
def i__law_names : FnIR := ⟨2, 3, true,
  (.seq (.asg 2 (.lst (.cons (.con (.str "a")) (.cons (.con (.str "ann")) (.cons (.con (.str "b")) (.cons (.con (.str "bo")) (.cons (.con (.str "cy")) (.cons (.con (.str "dee")) (.cons (.con (.str "ed")) (.cons (.con (.str "fin")) (.cons (.con (.str "gus")) (.cons (.con (.str "z")) .nil)))))))))))) (.seq (.whl (.op2 .gt (.op1 .len (.var 2)) (.var 1)) i__law_names_b1) i__law_names_t1))⟩
abbrev s__law_field : Stmt := top 47
def i__law_field : FnIR := ⟨3, 6, true,
  (.seq (.asg 3 (.op2 .add (.op2 .ix (.var 1) (.con (.int 0))) (.callr 23 0 (.cons (.callr 24 0 (.cons (.lst (.cons (.con (.int 20)) (.cons (.con (.int 300)) (.cons (.con (.int 3000)) .nil)))) .nil)) .nil)))) (.seq (.asg 4 (.callr 30 0 (.cons (.op2 .add (.con (.int 1)) (.callr 23 0 (.cons (.var 2) .nil))) .nil))) (.ret (.op1 .tup (.comp (.tup (.cons (.var 5) (.cons (.callr 29 0 (.cons (.var 1) (.cons (.var 3) .nil))) .nil))) (.nm 5) (.datL (.var 4)) (.con (.bool true)) [5])))))⟩
abbrev s__law_orders : Stmt := top 48
def i__law_orders_b1 : S :=
  (.asg 3 (.op2 .add (.var 3) (.comp (.op2 .add (.op2 .add (.op2 .slcH (.var 4) (.var 5)) (.tup (.cons (.var 2) .nil))) (.op2 .slcL (.var 4) (.var 5))) (.nm 5) (.rng1 (.op2 .add (.op1 .len (.var 4)) (.con (.int 1)))) (.con (.bool true)) [5])))
def i__law_orders_t1 : S :=
  (.asg 1 (.var 3))
def i__law_orders_b2 : S :=
  (.seq (.asg 3 (.lst .nil)) (.seq (.for_ (.nm 4) (.datL (.var 1)) i__law_orders_b1) i__law_orders_t1))
def i__law_orders_t2 : S :=
  (.ret (.var 1))
def i__law_orders : FnIR := ⟨1, 6, false,
  (.seq (.asg 1 (.lst (.cons (.tup .nil) .nil))) (.seq (.for_ (.nm 2) (.datT (.var 0)) i__law_orders_b2) i__law_orders_t2))⟩
abbrev s__law_wins : Stmt := top 49
def i__law_wins : FnIR := ⟨3, 6, false,
  (.seq (.asg 3 (.comp (.call 27 (.cons (.var 0) (.cons (.var 4) .nil))) (.nm 4) (.datL (.call 32 (.cons (.op2 .add (.var 1) (.tup (.cons (.tup (.cons (.con (.str "new")) (.cons (.var 2) .nil))) .nil))) .nil))) (.con (.bool true)) [4])) (.seq (.asg 3 (.comp (.and_ (.op2 .isn (.var 5) (.con .none)) (.op2 .eq (.op2 .ix (.var 5) (.con (.int 0))) (.con (.str "new")))) (.nm 5) (.datL (.var 3)) (.con (.bool true)) [5])) (.ret (.tup (.cons (.op2 .in_ (.con (.bool true)) (.var 3)) (.cons (.op2 .nin (.con (.bool false)) (.var 3)) .nil))))))⟩
abbrev s_law : Stmt := top 51
def i_law_b1 : S :=
  (.iff (.op2 .ne (.call 33 (.cons (.var 3) (.cons (.var 4) (.cons (.var 9) .nil)))) (.tup (.cons (.op2 .ge (.var 9) (.var 5)) (.cons (.op2 .ge (.var 9) (.var 6)) .nil)))) (.ret (.con (.bool false))) .skip)
def i_law_t1 : S :=
  (.seq (.asg 11 (.op1 .tup (.comp (.tup (.cons (.var 12) (.cons (.con (.int 5)) .nil))) (.nm 12) (.datS (.con (.str "abcdefgh"))) (.con (.bool true)) [12]))) (.seq (.iff (.or_ (.op2 .ne (.blk 5 .nil) (.con (.int 7))) (.op2 .is_ (.call 21 (.cons (.var 3) (.cons (.op2 .slcH (.var 11) (.con (.int 7))) .nil))) (.con .none))) (.ret (.con (.bool false))) .skip) (.iff (.op2 .ne (.blk 7 .nil) (.con (.int 7))) (.ret (.con (.bool false))) .skip)))
def i_law_b2 : S :=
  (.seq (.asg 2 (.call 22 (.cons (.var 0) (.cons (.var 1) .nil)))) (.seq (.asg 3 (.callr 28 2 .nil)) (.seq (.asg 4 (.callr 31 2 (.cons (.var 3) (.cons (.con (.int 4)) .nil)))) (.seq (.par 5 6 (.call 20 (.cons (.var 3) (.cons (.var 4) .nil))) (.call 21 (.cons (.var 3) (.cons (.var 4) .nil)))) (.seq (.iff (.or_ (.op2 .is_ (.var 5) (.con .none)) (.or_ (.op2 .is_ (.var 6) (.con .none)) (.op2 .gt (.var 5) (.var 6)))) (.ret (.con (.bool false))) .skip) (.seq (.asg 7 (.op2 .ix (.op2 .ix (.var 4) (.con (.int 0))) (.con (.int 1)))) (.seq (.asg 8 (.lst (.cons (.var 5) (.cons (.var 6) (.cons (.op2 .sub (.var 5) (.con (.int 1))) (.cons (.op2 .sub (.var 6) (.con (.int 1))) (.cons (.var 7) (.cons (.op2 .add (.var 7) (.con (.int 1))) (.cons (.callr 29 2 (.cons (.var 3) (.cons (.var 7) .nil))) .nil))))))))) (.seq (.for_ (.nm 9) (.datL (.comp (.var 10) (.nm 10) (.datL (.var 8)) (.op2 .gt (.var 10) (.con (.int 0))) [10])) i_law_b1) i_law_t1))))))))
def i_law_t2 : S :=
  (.seq (.asg 13 (.tup (.cons (.con (.int 10)) (.cons (.tup (.cons (.tup (.cons (.con (.int 0)) (.cons (.con (.int 1000)) .nil))) .nil)) .nil)))) (.seq (.iff (.op2 .isn (.call 21 (.cons (.var 13) (.cons (.tup (.cons (.tup (.cons (.con (.str "a")) (.cons (.op2 .pow (.con (.int 10)) (.con (.int 6))) .nil))) (.cons (.tup (.cons (.con (.str "b")) (.cons (.op2 .pow (.con (.int 10)) (.con (.int 6))) .nil))) .nil))) .nil))) (.con .none)) (.ret (.con (.bool false))) .skip) (.seq (.asg 4 (.tup (.cons (.tup (.cons (.con (.str "a")) (.cons (.con (.int 60)) .nil))) (.cons (.tup (.cons (.con (.str "b")) (.cons (.con (.int 57)) .nil))) (.cons (.tup (.cons (.con (.str "c")) (.cons (.con (.int 54)) .nil))) .nil))))) (.ret (.op2 .eq (.tup (.cons (.call 20 (.cons (.tup (.cons (.con (.int 10)) (.cons (.tup (.cons (.tup (.cons (.con (.int 0)) (.cons (.con (.int 5)) .nil))) .nil)) .nil))) (.cons (.var 4) .nil))) (.cons (.call 21 (.cons (.tup (.cons (.con (.int 10)) (.cons (.tup (.cons (.tup (.cons (.con (.int 0)) (.cons (.con (.int 5)) .nil))) .nil)) .nil))) (.cons (.var 4) .nil))) .nil))) (.tup (.cons (.con (.int 56)) (.cons (.con (.int 65)) .nil))))))))
def i_law : FnIR := ⟨1, 14, false,
  (.seq (.for_ (.nm 1) (.rng1 (.op2 .add (.con (.int 1)) (.op2 .min2 (.op1 .len (.var 0)) (.con (.int 8))))) i_law_b2) i_law_t2)⟩
def Tf : Nat → Option FnIR
  | 0 => some i_is_between
  | 1 => some i_is_price
  | 2 => some i_is_name
  | 3 => some i_is_ascending
  | 4 => some i_is_table
  | 5 => some i_is_auction
  | 6 => some i_is_bid
  | 7 => some i_is_bids
  | 8 => some i_is_field
  | 9 => some i_need_auction
  | 10 => some i_need_field
  | 11 => some i_step_at
  | 12 => some i_after
  | 13 => some i_others_below
  | 14 => some i_first_two
  | 15 => some i_beginnings
  | 16 => some i_all_outcomes
  | 17 => some i_winners_of
  | 19 => some i_need_room
  | 20 => some i_least_possible
  | 21 => some i_least_sure
  | 22 => some i__law_source
  | 23 => some i__law_draw
  | 24 => some i__law_choice
  | 25 => some i__law_next
  | 26 => some i__law_arrive
  | 27 => some i__law_final
  | 28 => some i__law_auction
  | 29 => some i__law_limit
  | 30 => some i__law_names
  | 31 => some i__law_field
  | 32 => some i__law_orders
  | 33 => some i__law_wins
  | 35 => some i_law
  | _ => none
def i_least_limit_G1_b1 : S :=
  (.seq (.asg 3 (.op2 .div (.op2 .add (.var 1) (.var 2)) (.con (.int 2)))) (.iff (.blk 0 (.cons (.var 3) .nil)) (.asg 2 (.var 3)) (.asg 1 (.op2 .add (.var 3) (.con (.int 1))))))
def i_least_limit_G1_t1 : S :=
  (.ret (.ite (.op2 .le (.var 1) (.glob "MOST_PRICE" (.int 1000000))) (.var 1) (.con .none)))
def i_least_limit_G3_b1 : S :=
  (.seq (.asg 3 (.op2 .div (.op2 .add (.var 1) (.var 2)) (.con (.int 2)))) (.iff (.blk 2 (.cons (.var 3) .nil)) (.asg 2 (.var 3)) (.asg 1 (.op2 .add (.var 3) (.con (.int 1))))))
def i_least_limit_G3_t1 : S :=
  (.ret (.ite (.op2 .le (.var 1) (.glob "MOST_PRICE" (.int 1000000))) (.var 1) (.con .none)))
def k_0 : BkIR := ⟨1, 1, true, .ret (.op2 .in_ (.glob "NEWCOMER" (.str "")) (.call 17 (.cons (.var 5) (.cons (.op2 .add (.tup (.cons (.tup (.cons (.glob "NEWCOMER" (.str "")) (.cons (.var 0) .nil))) .nil)) (.var 6)) .nil))))⟩
def k_1 : BkIR := ⟨0, 4, false, (.seq (.par 1 2 (.con (.int 1)) (.op2 .add (.glob "MOST_PRICE" (.int 1000000)) (.con (.int 1)))) (.seq (.whl (.op2 .lt (.var 1) (.var 2)) i_least_limit_G1_b1) i_least_limit_G1_t1))⟩
def k_2 : BkIR := ⟨1, 1, true, .ret (.op2 .eq (.call 17 (.cons (.var 5) (.cons (.op2 .add (.tup (.cons (.tup (.cons (.glob "NEWCOMER" (.str "")) (.cons (.var 0) .nil))) .nil)) (.var 6)) .nil))) (.lst (.cons (.glob "NEWCOMER" (.str "")) .nil)))⟩
def k_3 : BkIR := ⟨0, 4, false, (.seq (.par 1 2 (.con (.int 1)) (.op2 .add (.glob "MOST_PRICE" (.int 1000000)) (.con (.int 1)))) (.seq (.whl (.op2 .lt (.var 1) (.var 2)) i_least_limit_G3_b1) i_least_limit_G3_t1))⟩
def k_4 : BkIR := ⟨0, 0, true, .ret (.call 20 (.cons (.var 6) (.cons (.var 14) .nil)))⟩
def k_5 : BkIR := ⟨0, 3, false, (.seq (.asg 1 (.con .none)) (.seq (.tryS (.exp (.blk 4 .nil)) hd_0 ht_0) (.ret (.var 1))))⟩
def k_6 : BkIR := ⟨0, 0, true, .ret (.call 21 (.cons (.var 6) (.cons (.var 14) .nil)))⟩
def k_7 : BkIR := ⟨0, 3, false, (.seq (.asg 1 (.con .none)) (.seq (.tryS (.exp (.blk 6 .nil)) hd_1 ht_1) (.ret (.var 1))))⟩
def Tb : Nat → Option BkIR
  | 0 => some k_0
  | 1 => some k_1
  | 2 => some k_2
  | 3 => some k_3
  | 4 => some k_4
  | 5 => some k_5
  | 6 => some k_6
  | 7 => some k_7
  | _ => none
def T : TabT := ⟨Tf, Tb⟩
def nm : Nat → Option Str
  | 0 => some "is_between"
  | 1 => some "is_price"
  | 2 => some "is_name"
  | 3 => some "is_ascending"
  | 4 => some "is_table"
  | 5 => some "is_auction"
  | 6 => some "is_bid"
  | 7 => some "is_bids"
  | 8 => some "is_field"
  | 9 => some "need_auction"
  | 10 => some "need_field"
  | 11 => some "step_at"
  | 12 => some "after"
  | 13 => some "others_below"
  | 14 => some "first_two"
  | 15 => some "beginnings"
  | 16 => some "all_outcomes"
  | 17 => some "winners_of"
  | 19 => some "need_room"
  | 20 => some "least_possible"
  | 21 => some "least_sure"
  | 22 => some "_law_source"
  | 23 => some "_law_draw"
  | 24 => some "_law_choice"
  | 25 => some "_law_next"
  | 26 => some "_law_arrive"
  | 27 => some "_law_final"
  | 28 => some "_law_auction"
  | 29 => some "_law_limit"
  | 30 => some "_law_names"
  | 31 => some "_law_field"
  | 32 => some "_law_orders"
  | 33 => some "_law_wins"
  | 35 => some "law"
  | _ => none
abbrev n_is_between : Nat := 0
theorem r_is_between {n : Nat} {o : Option Ob} {ds : List Pb.D} : evF T (n + 1) 0 o ds = runF (evF T n) i_is_between o ds := rfl
abbrev n_is_price : Nat := 1
theorem r_is_price {n : Nat} {o : Option Ob} {ds : List Pb.D} : evF T (n + 1) 1 o ds = runF (evF T n) i_is_price o ds := rfl
abbrev n_is_name : Nat := 2
theorem r_is_name {n : Nat} {o : Option Ob} {ds : List Pb.D} : evF T (n + 1) 2 o ds = runF (evF T n) i_is_name o ds := rfl
abbrev n_is_ascending : Nat := 3
theorem r_is_ascending {n : Nat} {o : Option Ob} {ds : List Pb.D} : evF T (n + 1) 3 o ds = runF (evF T n) i_is_ascending o ds := rfl
abbrev n_is_table : Nat := 4
theorem r_is_table {n : Nat} {o : Option Ob} {ds : List Pb.D} : evF T (n + 1) 4 o ds = runF (evF T n) i_is_table o ds := rfl
abbrev n_is_auction : Nat := 5
theorem r_is_auction {n : Nat} {o : Option Ob} {ds : List Pb.D} : evF T (n + 1) 5 o ds = runF (evF T n) i_is_auction o ds := rfl
abbrev n_is_bid : Nat := 6
theorem r_is_bid {n : Nat} {o : Option Ob} {ds : List Pb.D} : evF T (n + 1) 6 o ds = runF (evF T n) i_is_bid o ds := rfl
abbrev n_is_bids : Nat := 7
theorem r_is_bids {n : Nat} {o : Option Ob} {ds : List Pb.D} : evF T (n + 1) 7 o ds = runF (evF T n) i_is_bids o ds := rfl
abbrev n_is_field : Nat := 8
theorem r_is_field {n : Nat} {o : Option Ob} {ds : List Pb.D} : evF T (n + 1) 8 o ds = runF (evF T n) i_is_field o ds := rfl
abbrev n_need_auction : Nat := 9
theorem r_need_auction {n : Nat} {o : Option Ob} {ds : List Pb.D} : evF T (n + 1) 9 o ds = runF (evF T n) i_need_auction o ds := rfl
abbrev n_need_field : Nat := 10
theorem r_need_field {n : Nat} {o : Option Ob} {ds : List Pb.D} : evF T (n + 1) 10 o ds = runF (evF T n) i_need_field o ds := rfl
abbrev n_step_at : Nat := 11
theorem r_step_at {n : Nat} {o : Option Ob} {ds : List Pb.D} : evF T (n + 1) 11 o ds = runF (evF T n) i_step_at o ds := rfl
abbrev n_after : Nat := 12
theorem r_after {n : Nat} {o : Option Ob} {ds : List Pb.D} : evF T (n + 1) 12 o ds = runF (evF T n) i_after o ds := rfl
abbrev n_others_below : Nat := 13
theorem r_others_below {n : Nat} {o : Option Ob} {ds : List Pb.D} : evF T (n + 1) 13 o ds = runF (evF T n) i_others_below o ds := rfl
abbrev n_first_two : Nat := 14
theorem r_first_two {n : Nat} {o : Option Ob} {ds : List Pb.D} : evF T (n + 1) 14 o ds = runF (evF T n) i_first_two o ds := rfl
abbrev n_beginnings : Nat := 15
theorem r_beginnings {n : Nat} {o : Option Ob} {ds : List Pb.D} : evF T (n + 1) 15 o ds = runF (evF T n) i_beginnings o ds := rfl
abbrev n_all_outcomes : Nat := 16
theorem r_all_outcomes {n : Nat} {o : Option Ob} {ds : List Pb.D} : evF T (n + 1) 16 o ds = runF (evF T n) i_all_outcomes o ds := rfl
abbrev n_winners_of : Nat := 17
theorem r_winners_of {n : Nat} {o : Option Ob} {ds : List Pb.D} : evF T (n + 1) 17 o ds = runF (evF T n) i_winners_of o ds := rfl
abbrev n_need_room : Nat := 19
theorem r_need_room {n : Nat} {o : Option Ob} {ds : List Pb.D} : evF T (n + 1) 19 o ds = runF (evF T n) i_need_room o ds := rfl
abbrev n_least_possible : Nat := 20
theorem r_least_possible {n : Nat} {o : Option Ob} {ds : List Pb.D} : evF T (n + 1) 20 o ds = runF (evF T n) i_least_possible o ds := rfl
abbrev n_least_sure : Nat := 21
theorem r_least_sure {n : Nat} {o : Option Ob} {ds : List Pb.D} : evF T (n + 1) 21 o ds = runF (evF T n) i_least_sure o ds := rfl
abbrev n__law_source : Nat := 22
theorem r__law_source {n : Nat} {o : Option Ob} {ds : List Pb.D} : evF T (n + 1) 22 o ds = runF (evF T n) i__law_source o ds := rfl
abbrev n__law_draw : Nat := 23
theorem r__law_draw {n : Nat} {o : Option Ob} {ds : List Pb.D} : evF T (n + 1) 23 o ds = runF (evF T n) i__law_draw o ds := rfl
abbrev n__law_choice : Nat := 24
theorem r__law_choice {n : Nat} {o : Option Ob} {ds : List Pb.D} : evF T (n + 1) 24 o ds = runF (evF T n) i__law_choice o ds := rfl
abbrev n__law_next : Nat := 25
theorem r__law_next {n : Nat} {o : Option Ob} {ds : List Pb.D} : evF T (n + 1) 25 o ds = runF (evF T n) i__law_next o ds := rfl
abbrev n__law_arrive : Nat := 26
theorem r__law_arrive {n : Nat} {o : Option Ob} {ds : List Pb.D} : evF T (n + 1) 26 o ds = runF (evF T n) i__law_arrive o ds := rfl
abbrev n__law_final : Nat := 27
theorem r__law_final {n : Nat} {o : Option Ob} {ds : List Pb.D} : evF T (n + 1) 27 o ds = runF (evF T n) i__law_final o ds := rfl
abbrev n__law_auction : Nat := 28
theorem r__law_auction {n : Nat} {o : Option Ob} {ds : List Pb.D} : evF T (n + 1) 28 o ds = runF (evF T n) i__law_auction o ds := rfl
abbrev n__law_limit : Nat := 29
theorem r__law_limit {n : Nat} {o : Option Ob} {ds : List Pb.D} : evF T (n + 1) 29 o ds = runF (evF T n) i__law_limit o ds := rfl
abbrev n__law_names : Nat := 30
theorem r__law_names {n : Nat} {o : Option Ob} {ds : List Pb.D} : evF T (n + 1) 30 o ds = runF (evF T n) i__law_names o ds := rfl
abbrev n__law_field : Nat := 31
theorem r__law_field {n : Nat} {o : Option Ob} {ds : List Pb.D} : evF T (n + 1) 31 o ds = runF (evF T n) i__law_field o ds := rfl
abbrev n__law_orders : Nat := 32
theorem r__law_orders {n : Nat} {o : Option Ob} {ds : List Pb.D} : evF T (n + 1) 32 o ds = runF (evF T n) i__law_orders o ds := rfl
abbrev n__law_wins : Nat := 33
theorem r__law_wins {n : Nat} {o : Option Ob} {ds : List Pb.D} : evF T (n + 1) 33 o ds = runF (evF T n) i__law_wins o ds := rfl
abbrev n_law : Nat := 35
theorem r_law {n : Nat} {o : Option Ob} {ds : List Pb.D} : evF T (n + 1) 35 o ds = runF (evF T n) i_law o ds := rfl
theorem rb_0 {n : Nat} {ds : List Pb.D} {env : En} : (evF T (n + 2)).b 0 ds env = runB (evF T (n + 1)) k_0 ds env := rfl
theorem rb_1 {n : Nat} {ds : List Pb.D} {env : En} : (evF T (n + 2)).b 1 ds env = runB (evF T (n + 1)) k_1 ds env := rfl
theorem rb_2 {n : Nat} {ds : List Pb.D} {env : En} : (evF T (n + 2)).b 2 ds env = runB (evF T (n + 1)) k_2 ds env := rfl
theorem rb_3 {n : Nat} {ds : List Pb.D} {env : En} : (evF T (n + 2)).b 3 ds env = runB (evF T (n + 1)) k_3 ds env := rfl
theorem rb_4 {n : Nat} {ds : List Pb.D} {env : En} : (evF T (n + 2)).b 4 ds env = runB (evF T (n + 1)) k_4 ds env := rfl
theorem rb_5 {n : Nat} {ds : List Pb.D} {env : En} : (evF T (n + 2)).b 5 ds env = runB (evF T (n + 1)) k_5 ds env := rfl
theorem rb_6 {n : Nat} {ds : List Pb.D} {env : En} : (evF T (n + 2)).b 6 ds env = runB (evF T (n + 1)) k_6 ds env := rfl
theorem rb_7 {n : Nat} {ds : List Pb.D} {env : En} : (evF T (n + 2)).b 7 ds env = runB (evF T (n + 1)) k_7 ds env := rfl
abbrev s_TooMany_init : Stmt := (C8.clsBody (top 4)).getD 0 (.Pass ⟨0, 0, 0, 0⟩)
structure Co (K : PySem.W.Frag) (mg : Str → Option Value) : Prop where
  z_abs : mg "abs" = none
  z_all : mg "all" = none
  z_bool : mg "bool" = none
  z_int : mg "int" = none
  z_isinstance : mg "isinstance" = none
  z_len : mg "len" = none
  z_max : mg "max" = none
  z_min : mg "min" = none
  z_range : mg "range" = none
  z_sorted : mg "sorted" = none
  z_str : mg "str" = none
  z_tuple : mg "tuple" = none
  z_zip : mg "zip" = none
  c_LETTERS : GkK K mg "LETTERS" (.str "abcdefghijklmnopqrstuvwxyz")
  c_MOST_BIDDERS : GkK K mg "MOST_BIDDERS" (.int 8)
  c_MOST_BIDS : GkK K mg "MOST_BIDS" (.int 30)
  c_MOST_JOINED : GkK K mg "MOST_JOINED" (.int 7)
  c_MOST_PRICE : GkK K mg "MOST_PRICE" (.int 1000000)
  c_MOST_STEP : GkK K mg "MOST_STEP" (.int 1000)
  c_NEWCOMER : GkK K mg "NEWCOMER" (.str "")
  x_InvalidAuction : XCK K mg "InvalidAuction"
  x_InvalidField : XCK K mg "InvalidField"
  g__law_limit_of : Gd K mg "_law_limit_of" s__law_limit_of "call"
  g_least_limit : Gd K mg "least_limit" s_least_limit "is_enough"
  e_InvalidAuction_TooMany : ∀ C CS : Addr, mg "InvalidAuction" = some (.ref C) → mg "TooMany" = some (.ref CS) → PySem.W.exmOne K (.ref C) (.ref CS) = some false
  e_InvalidField_TooMany : ∀ C CS : Addr, mg "InvalidField" = some (.ref C) → mg "TooMany" = some (.ref CS) → PySem.W.exmOne K (.ref C) (.ref CS) = some false
  e_TooMany_TooMany : ∀ C CS : Addr, mg "TooMany" = some (.ref C) → mg "TooMany" = some (.ref CS) → PySem.W.exmOne K (.ref C) (.ref CS) = some true
  tm : ∃ (C fI : Addr) (fd : FuncData), TMK K mg "TooMany" fI fd C ∧ Fun K "__init__" "TooMany.__init__" s_TooMany_init fI fd ∧ XfC K C
  be : ∃ (B : Addr) (mc : Value), mg "BidError" = some (.ref B) ∧ PySem.W.specialIn K (.ref B) "__getattribute__" = some (some (.builtin "type.__getattribute__")) ∧ PySem.W.readsIn K B mc = true ∧ PySem.W.findCls K (.ref B) mc "__init__" = some (.val (.builtin "ValueError.__init__"))
variable {tb : List (Addr × Str)}
variable {P : Program} {w : World} {K : PySem.W.Frag} {mg : Str → Option Value} {base : Heap} {n : Nat}
theorem sc_TooMany_init : FnScope ["self", "limit"] ["self", "limit"] (defScope s_TooMany_init) := ⟨rfl, rfl, rfl, by decide +kernel, rfl, by decide +kernel, by decide +kernel⟩
theorem tmc (co : Co K mg) : ∃ (C fI : Addr) (fd : FuncData), mg "TooMany" = some (.ref C) ∧ OexC K C ∧ PySem.W.findIn K (.ref C) "limit" = some none ∧ PySem.W.findIn K (.ref C) "__init__" = some (some (.ref fI)) ∧ PySem.W.typeIn K (.ref fI) = some (.type "function") ∧
    FnOk P w K mg base (L2.CX P w) 1 fI fd ["self", "limit"] (spTM K) ∧ Binds K fd ["self", "limit"] [] := by
  obtain ⟨C, fI, fd, tm, fn, _⟩ := co.tm
  obtain ⟨B, mc, b1, b2, b3, b4⟩ := co.be
  refine ⟨C, fI, fd, tm.mgC, tm.cls, tm.lim, tm.ini, tm.tfn, tm_fn (k := 0) fn sc_TooMany_init fun cdv A outer s H E => ?_, tm.bd⟩
  refine ⟨_, pss_cons (ps_expr (pe_oinit (x := "BidError") (mc := mc) rfl b1 b2 b3 b4 (pa_cons (pv 0) (pa_cons pe_str pa_nil)) (by decide))) (pss_one (ps_ost (pv 0) (pv 1))), ?_⟩
  rintro D σ H ⟨a, C2, n, h0, h1, T, hno, ha, q⟩
  exact ⟨.ref a, h0, a, C2, [.str "too many"], rfl, by decide, T, ha, .int n, h1, .ref a, h0, a, C2, rfl, T, hno, .inl ⟨ha, q⟩⟩
theorem sc_is_between : FnScope ["value", "low", "high"] ["value", "low", "high"] (defScope s_is_between) := ⟨rfl, rfl, rfl, by decide +kernel, rfl, by decide +kernel, by decide +kernel⟩
theorem b_is_between (co : Co K mg) (al : ∀ m, m ≤ n → AllOk P w K mg base tb nm T m) {f : Addr} (cdv : Value) (A : Around) (outer : List Env) (s : Shared) (H : Hp) (E : XK) (σ0 : Sg) (hr : Room (n + 2) (A.deeper (envOfC "is_between" (defScope s_is_between) s.heap.objs.size f cdv))) :
    SSs (cxOf (L2.CX P w) P w K mg base ["value", "low", "high"] "is_between" (defScope s_is_between) f cdv A outer s H E) tb ⟨σ0, nofx, []⟩ (fun cls d _ H' => E cls d H') (evF T n) (defBody s_is_between) i_is_between.body := by
  have hN : ((["value", "low", "high"] : List Str)).Nodup := sc_is_between.nd
  have al0 := al n (Nat.le_refl n)
  exact (ss_one (ss_ret (se_and (se_isi (t := .int) co.z_isinstance co.z_int rfl rfl (se_var 0)) (se_and (se_not (se_isi (t := .bool) co.z_isinstance co.z_bool rfl rfl (se_var 0))) (se_one (se_ch2 (o := .le) (o2 := .le) oLe okLe oLe okLe (se_var 1) (se_var 0) (se_var 2) rfl))))))
theorem sc_is_price : FnScope ["value"] ["value"] (defScope s_is_price) := ⟨rfl, rfl, rfl, by decide +kernel, rfl, by decide +kernel, by decide +kernel⟩
theorem b_is_price (co : Co K mg) (al : ∀ m, m ≤ n → AllOk P w K mg base tb nm T m) {f : Addr} (cdv : Value) (A : Around) (outer : List Env) (s : Shared) (H : Hp) (E : XK) (σ0 : Sg) (hr : Room (n + 2) (A.deeper (envOfC "is_price" (defScope s_is_price) s.heap.objs.size f cdv))) :
    SSs (cxOf (L2.CX P w) P w K mg base ["value"] "is_price" (defScope s_is_price) f cdv A outer s H E) tb ⟨σ0, nofx, []⟩ (fun cls d _ H' => E cls d H') (evF T n) (defBody s_is_price) i_is_price.body := by
  have hN : ((["value"] : List Str)).Nodup := sc_is_price.nd
  have al0 := al n (Nat.le_refl n)
  have tk := takes_of (X := cxOf (L2.CX P w) P w K mg base ["value"] "is_price" (defScope s_is_price) f cdv A outer s H E) (E := E) rfl rfl rfl rfl
  exact (ss_one (ss_ret (se_call ⟨al0 0 _ rfl⟩ hr tk (sa_cons (se_var 0) (sa_cons se_int (sa_cons (se_glob ⟨co.c_MOST_PRICE⟩) sa_nil))))))
theorem sc_is_name : FnScope ["value", "sign"] ["value"] (defScope s_is_name) := ⟨rfl, rfl, rfl, by decide +kernel, rfl, by decide +kernel, by decide +kernel⟩
theorem b_is_name (co : Co K mg) (al : ∀ m, m ≤ n → AllOk P w K mg base tb nm T m) {f : Addr} (cdv : Value) (A : Around) (outer : List Env) (s : Shared) (H : Hp) (E : XK) (σ0 : Sg) (hr : Room (n + 2) (A.deeper (envOfC "is_name" (defScope s_is_name) s.heap.objs.size f cdv))) :
    SSs (cxOf (L2.CX P w) P w K mg base ["value", "sign"] "is_name" (defScope s_is_name) f cdv A outer s H E) tb ⟨σ0, nofx, []⟩ (fun cls d _ H' => E cls d H') (evF T n) (defBody s_is_name) i_is_name.body := by
  have hN : ((["value", "sign"] : List Str)).Nodup := sc_is_name.nd
  have al0 := al n (Nat.le_refl n)
  have hc : (true = true) := rfl
  exact (ss_one (ss_ret (se_and (se_isi (t := .str) co.z_isinstance co.z_str rfl rfl (se_var 0)) (se_and (se_ch2 (o := .le) (o2 := .le) oLe okLe oLe okLe se_int (se_b1 (o := .len) call_len okLen co.z_len rfl (se_var 0)) se_int rfl) (se_one (se_b1 (o := .all) (cr_all hc) okAll co.z_all rfl (se_comp (own := [("sign", 1)]) hc hN (si_S (se_var 0)) (show BlkOk ["value", "sign"] (defScope s_is_name) _ [("sign", 1)] from blk_by (by decide +kernel)) (by decide) rfl (fun _ _ _ _ _ => (sg_nm 1 hN)) (fun _ _ _ _ _ => (se_cmp (o := .in_) (oIn hr) okIn (se_var 1) (se_glob ⟨co.c_LETTERS⟩) rfl)))))))))
theorem sc_is_ascending : FnScope ["items", "one", "other"] ["items"] (defScope s_is_ascending) := ⟨rfl, rfl, rfl, by decide +kernel, rfl, by decide +kernel, by decide +kernel⟩
theorem b_is_ascending (co : Co K mg) (al : ∀ m, m ≤ n → AllOk P w K mg base tb nm T m) {f : Addr} (cdv : Value) (A : Around) (outer : List Env) (s : Shared) (H : Hp) (E : XK) (σ0 : Sg) (hr : Room (n + 2) (A.deeper (envOfC "is_ascending" (defScope s_is_ascending) s.heap.objs.size f cdv))) :
    SSs (cxOf (L2.CX P w) P w K mg base ["items", "one", "other"] "is_ascending" (defScope s_is_ascending) f cdv A outer s H E) tb ⟨σ0, nofx, []⟩ (fun cls d _ H' => E cls d H') (evF T n) (defBody s_is_ascending) i_is_ascending.body := by
  have hN : ((["items", "one", "other"] : List Str)).Nodup := sc_is_ascending.nd
  have al0 := al n (Nat.le_refl n)
  have hc : (true = true) := rfl
  exact (ss_one (ss_ret (se_b1 (o := .all) (cr_all hc) okAll co.z_all rfl (se_comp (own := [("one", 1), ("other", 2)]) hc hN (si_zipL co.z_zip (se_var 0) (se_slcL (se_var 0) se_int)) (show BlkOk ["items", "one", "other"] (defScope s_is_ascending) _ [("one", 1), ("other", 2)] from blk_by (by decide +kernel)) (by decide) rfl (fun _ _ _ _ _ => (sg_tp hc (sgs_cons (sg_nm 1 hN) (sgs_cons (sg_nm 2 hN) sgs_nil)))) (fun _ _ _ _ _ => (se_cmp (o := .lt) oLt okLt (se_var 1) (se_var 2) rfl))))))
theorem sc_is_table : FnScope ["value", "pair", "one", "other"] ["value"] (defScope s_is_table) := ⟨rfl, rfl, rfl, by decide +kernel, rfl, by decide +kernel, by decide +kernel⟩
theorem b_is_table (co : Co K mg) (al : ∀ m, m ≤ n → AllOk P w K mg base tb nm T m) {f : Addr} (cdv : Value) (A : Around) (outer : List Env) (s : Shared) (H : Hp) (E : XK) (σ0 : Sg) (hr : Room (n + 2) (A.deeper (envOfC "is_table" (defScope s_is_table) s.heap.objs.size f cdv))) :
    SSs (cxOf (L2.CX P w) P w K mg base ["value", "pair", "one", "other"] "is_table" (defScope s_is_table) f cdv A outer s H E) tb ⟨σ0, nofx, []⟩ (fun cls d _ H' => E cls d H') (evF T n) (defBody s_is_table) i_is_table.body := by
  have hN : ((["value", "pair", "one", "other"] : List Str)).Nodup := sc_is_table.nd
  have al0 := al n (Nat.le_refl n)
  have hc : (true = true) := rfl
  have tk := takes_of (X := cxOf (L2.CX P w) P w K mg base ["value", "pair", "one", "other"] "is_table" (defScope s_is_table) f cdv A outer s H E) (E := E) rfl rfl rfl rfl
  have hp := passes_of (X := cxOf (L2.CX P w) P w K mg base ["value", "pair", "one", "other"] "is_table" (defScope s_is_table) f cdv A outer s H E) rfl
  exact (ss_cons (ss_if (st_w (sw_or (st_not (st_val (se_isi (t := .tuple) co.z_isinstance co.z_tuple rfl rfl (se_var 0)))) (sw_or1 (st_not (st_ch2 (o := .le) (o2 := .le) oLe okLe oLe okLe se_int (se_b1 (o := .len) call_len okLen co.z_len rfl (se_var 0)) se_int rfl))))) (ss_one (ss_ret se_bl)) ss_nil) (ss_cons (ss_for hp hc (si_T (se_var 0)) (sg_nm 1 hN) (ss_cons (ss_if (st_w (sw_or (st_not (st_val (se_isi (t := .tuple) co.z_isinstance co.z_tuple rfl rfl (se_var 1)))) (sw_or1 (st_cmp (o := .ne) (oNe hr) okNe (se_b1 (o := .len) call_len okLen co.z_len rfl (se_var 1)) se_int rfl)))) (ss_one (ss_ret se_bl)) ss_nil) (ss_one (ss_if (st_w (sw_or (st_not (st_val (se_call ⟨al0 0 _ rfl⟩ hr tk (sa_cons (se_ix (se_var 1) se_int) (sa_cons se_int (sa_cons (se_glob ⟨co.c_MOST_PRICE⟩) sa_nil)))))) (sw_or1 (st_not (st_val (se_call ⟨al0 0 _ rfl⟩ hr tk (sa_cons (se_ix (se_var 1) se_int) (sa_cons se_int (sa_cons (se_glob ⟨co.c_MOST_STEP⟩) sa_nil))))))))) (ss_one (ss_ret se_bl)) ss_nil)))) (ss_cons (ss_if (st_w (sw_or (st_cmp (o := .ne) (oNe hr) okNe (se_ix (se_ix (se_var 0) se_int) se_int) se_int rfl) (sw_or1 (st_not (st_val (se_call ⟨al0 3 _ rfl⟩ hr tk (sa_cons (se_comp (own := [("pair", 1)]) hc hN (si_T (se_var 0)) (show BlkOk ["value", "pair", "one", "other"] (defScope s_is_table) _ [("pair", 1)] from blk_by (by decide +kernel)) (by decide) rfl (fun _ _ _ _ _ => (sg_nm 1 hN)) (fun _ _ _ _ _ => (se_ix (se_var 1) se_int))) sa_nil))))))) (ss_one (ss_ret se_bl)) ss_nil) (ss_one (ss_ret (se_b1 (o := .all) (cr_all hc) okAll co.z_all rfl (se_comp (own := [("one", 2), ("other", 3)]) hc hN (si_zipT co.z_zip (se_var 0) (se_slcL (se_var 0) se_int)) (show BlkOk ["value", "pair", "one", "other"] (defScope s_is_table) _ [("one", 2), ("other", 3)] from blk_by (by decide +kernel)) (by decide) rfl (fun _ _ _ _ _ => (sg_tp hc (sgs_cons (sg_nm 2 hN) (sgs_cons (sg_nm 3 hN) sgs_nil)))) (fun _ _ _ _ _ => (se_cmp (o := .le) oLe okLe (se_ix (se_var 2) se_int) (se_ix (se_var 3) se_int) rfl)))))))))
theorem sc_is_auction : FnScope ["value"] ["value"] (defScope s_is_auction) := ⟨rfl, rfl, rfl, by decide +kernel, rfl, by decide +kernel, by decide +kernel⟩
theorem b_is_auction (co : Co K mg) (al : ∀ m, m ≤ n → AllOk P w K mg base tb nm T m) {f : Addr} (cdv : Value) (A : Around) (outer : List Env) (s : Shared) (H : Hp) (E : XK) (σ0 : Sg) (hr : Room (n + 2) (A.deeper (envOfC "is_auction" (defScope s_is_auction) s.heap.objs.size f cdv))) :
    SSs (cxOf (L2.CX P w) P w K mg base ["value"] "is_auction" (defScope s_is_auction) f cdv A outer s H E) tb ⟨σ0, nofx, []⟩ (fun cls d _ H' => E cls d H') (evF T n) (defBody s_is_auction) i_is_auction.body := by
  have hN : ((["value"] : List Str)).Nodup := sc_is_auction.nd
  have al0 := al n (Nat.le_refl n)
  have tk := takes_of (X := cxOf (L2.CX P w) P w K mg base ["value"] "is_auction" (defScope s_is_auction) f cdv A outer s H E) (E := E) rfl rfl rfl rfl
  exact (ss_one (ss_ret (se_and (se_isi (t := .tuple) co.z_isinstance co.z_tuple rfl rfl (se_var 0)) (se_and (se_cmp (o := .eq) (oEq hr) okEq (se_b1 (o := .len) call_len okLen co.z_len rfl (se_var 0)) se_int rfl) (se_and (se_call ⟨al0 1 _ rfl⟩ hr tk (sa_cons (se_ix (se_var 0) se_int) sa_nil)) (se_one (se_call ⟨al0 4 _ rfl⟩ hr tk (sa_cons (se_ix (se_var 0) se_int) sa_nil))))))))
theorem sc_is_bid : FnScope ["value"] ["value"] (defScope s_is_bid) := ⟨rfl, rfl, rfl, by decide +kernel, rfl, by decide +kernel, by decide +kernel⟩
theorem b_is_bid (co : Co K mg) (al : ∀ m, m ≤ n → AllOk P w K mg base tb nm T m) {f : Addr} (cdv : Value) (A : Around) (outer : List Env) (s : Shared) (H : Hp) (E : XK) (σ0 : Sg) (hr : Room (n + 2) (A.deeper (envOfC "is_bid" (defScope s_is_bid) s.heap.objs.size f cdv))) :
    SSs (cxOf (L2.CX P w) P w K mg base ["value"] "is_bid" (defScope s_is_bid) f cdv A outer s H E) tb ⟨σ0, nofx, []⟩ (fun cls d _ H' => E cls d H') (evF T n) (defBody s_is_bid) i_is_bid.body := by
  have hN : ((["value"] : List Str)).Nodup := sc_is_bid.nd
  have al0 := al n (Nat.le_refl n)
  have tk := takes_of (X := cxOf (L2.CX P w) P w K mg base ["value"] "is_bid" (defScope s_is_bid) f cdv A outer s H E) (E := E) rfl rfl rfl rfl
  exact (ss_one (ss_ret (se_and (se_isi (t := .tuple) co.z_isinstance co.z_tuple rfl rfl (se_var 0)) (se_and (se_cmp (o := .eq) (oEq hr) okEq (se_b1 (o := .len) call_len okLen co.z_len rfl (se_var 0)) se_int rfl) (se_and (se_call ⟨al0 2 _ rfl⟩ hr tk (sa_cons (se_ix (se_var 0) se_int) sa_nil)) (se_one (se_call ⟨al0 1 _ rfl⟩ hr tk (sa_cons (se_ix (se_var 0) se_int) sa_nil))))))))
theorem sc_is_bids : FnScope ["value", "bid"] ["value"] (defScope s_is_bids) := ⟨rfl, rfl, rfl, by decide +kernel, rfl, by decide +kernel, by decide +kernel⟩
theorem b_is_bids (co : Co K mg) (al : ∀ m, m ≤ n → AllOk P w K mg base tb nm T m) {f : Addr} (cdv : Value) (A : Around) (outer : List Env) (s : Shared) (H : Hp) (E : XK) (σ0 : Sg) (hr : Room (n + 2) (A.deeper (envOfC "is_bids" (defScope s_is_bids) s.heap.objs.size f cdv))) :
    SSs (cxOf (L2.CX P w) P w K mg base ["value", "bid"] "is_bids" (defScope s_is_bids) f cdv A outer s H E) tb ⟨σ0, nofx, []⟩ (fun cls d _ H' => E cls d H') (evF T n) (defBody s_is_bids) i_is_bids.body := by
  have hN : ((["value", "bid"] : List Str)).Nodup := sc_is_bids.nd
  have al0 := al n (Nat.le_refl n)
  have hc : (true = true) := rfl
  have tk := takes_of (X := cxOf (L2.CX P w) P w K mg base ["value", "bid"] "is_bids" (defScope s_is_bids) f cdv A outer s H E) (E := E) rfl rfl rfl rfl
  exact (ss_one (ss_ret (se_and (se_isi (t := .tuple) co.z_isinstance co.z_tuple rfl rfl (se_var 0)) (se_and (se_cmp (o := .le) oLe okLe (se_b1 (o := .len) call_len okLen co.z_len rfl (se_var 0)) (se_glob ⟨co.c_MOST_BIDS⟩) rfl) (se_one (se_b1 (o := .all) (cr_all hc) okAll co.z_all rfl (se_comp (own := [("bid", 1)]) hc hN (si_T (se_var 0)) (show BlkOk ["value", "bid"] (defScope s_is_bids) _ [("bid", 1)] from blk_by (by decide +kernel)) (by decide) rfl (fun _ _ _ _ _ => (sg_nm 1 hN)) (fun _ _ _ _ _ => have tk := takes0; have lam_takes := @takes0; (se_call ⟨al0 6 _ rfl⟩ hr tk (sa_cons (se_var 1) sa_nil))))))))))
theorem sc_is_field : FnScope ["value", "name", "limit"] ["value"] (defScope s_is_field) := ⟨rfl, rfl, rfl, by decide +kernel, rfl, by decide +kernel, by decide +kernel⟩
theorem b_is_field (co : Co K mg) (al : ∀ m, m ≤ n → AllOk P w K mg base tb nm T m) {f : Addr} (cdv : Value) (A : Around) (outer : List Env) (s : Shared) (H : Hp) (E : XK) (σ0 : Sg) (hr : Room (n + 2) (A.deeper (envOfC "is_field" (defScope s_is_field) s.heap.objs.size f cdv))) :
    SSs (cxOf (L2.CX P w) P w K mg base ["value", "name", "limit"] "is_field" (defScope s_is_field) f cdv A outer s H E) tb ⟨σ0, nofx, []⟩ (fun cls d _ H' => E cls d H') (evF T n) (defBody s_is_field) i_is_field.body := by
  have hN : ((["value", "name", "limit"] : List Str)).Nodup := sc_is_field.nd
  have al0 := al n (Nat.le_refl n)
  have hc : (true = true) := rfl
  have tk := takes_of (X := cxOf (L2.CX P w) P w K mg base ["value", "name", "limit"] "is_field" (defScope s_is_field) f cdv A outer s H E) (E := E) rfl rfl rfl rfl
  exact (ss_cons (ss_if (st_w (sw_or (st_not (st_val (se_call ⟨al0 7 _ rfl⟩ hr tk (sa_cons (se_var 0) sa_nil)))) (sw_or1 (st_not (st_ch2 (o := .le) (o2 := .le) oLe okLe oLe okLe se_int (se_b1 (o := .len) call_len okLen co.z_len rfl (se_var 0)) (se_glob ⟨co.c_MOST_BIDDERS⟩) rfl))))) (ss_one (ss_ret se_bl)) ss_nil) (ss_one (ss_ret (se_call ⟨al0 3 _ rfl⟩ hr tk (sa_cons (se_comp (own := [("name", 1), ("limit", 2)]) hc hN (si_T (se_var 0)) (show BlkOk ["value", "name", "limit"] (defScope s_is_field) _ [("name", 1), ("limit", 2)] from blk_by (by decide +kernel)) (by decide) rfl (fun _ _ _ _ _ => (sg_tp hc (sgs_cons (sg_nm 1 hN) (sgs_cons (sg_nm 2 hN) sgs_nil)))) (fun _ _ _ _ _ => (se_var 1))) sa_nil)))))
theorem sc_need_auction : FnScope ["auction"] ["auction"] (defScope s_need_auction) := ⟨rfl, rfl, rfl, by decide +kernel, rfl, by decide +kernel, by decide +kernel⟩
theorem b_need_auction (co : Co K mg) (al : ∀ m, m ≤ n → AllOk P w K mg base tb nm T m) {f : Addr} (cdv : Value) (A : Around) (outer : List Env) (s : Shared) (H : Hp) (E : XK) (σ0 : Sg) (hr : Room (n + 2) (A.deeper (envOfC "need_auction" (defScope s_need_auction) s.heap.objs.size f cdv))) :
    SSs (cxOf (L2.CX P w) P w K mg base ["auction"] "need_auction" (defScope s_need_auction) f cdv A outer s H E) tb ⟨σ0, nofx, []⟩ (fun cls d _ H' => E cls d H') (evF T n) (defBody s_need_auction) i_need_auction.body := by
  have hN : ((["auction"] : List Str)).Nodup := sc_need_auction.nd
  have al0 := al n (Nat.le_refl n)
  have hc : (true = true) := rfl
  have tk := takes_of (X := cxOf (L2.CX P w) P w K mg base ["auction"] "need_auction" (defScope s_need_auction) f cdv A outer s H E) (E := E) rfl rfl rfl rfl
  exact (ss_one (ss_if (st_not (st_val (se_call ⟨al0 5 _ rfl⟩ hr tk (sa_cons (se_var 0) sa_nil)))) (ss_one (ss_rse "InvalidAuction" hc tk ⟨co.x_InvalidAuction⟩ rfl)) ss_nil))
theorem sc_need_field : FnScope ["field"] ["field"] (defScope s_need_field) := ⟨rfl, rfl, rfl, by decide +kernel, rfl, by decide +kernel, by decide +kernel⟩
theorem b_need_field (co : Co K mg) (al : ∀ m, m ≤ n → AllOk P w K mg base tb nm T m) {f : Addr} (cdv : Value) (A : Around) (outer : List Env) (s : Shared) (H : Hp) (E : XK) (σ0 : Sg) (hr : Room (n + 2) (A.deeper (envOfC "need_field" (defScope s_need_field) s.heap.objs.size f cdv))) :
    SSs (cxOf (L2.CX P w) P w K mg base ["field"] "need_field" (defScope s_need_field) f cdv A outer s H E) tb ⟨σ0, nofx, []⟩ (fun cls d _ H' => E cls d H') (evF T n) (defBody s_need_field) i_need_field.body := by
  have hN : ((["field"] : List Str)).Nodup := sc_need_field.nd
  have al0 := al n (Nat.le_refl n)
  have hc : (true = true) := rfl
  have tk := takes_of (X := cxOf (L2.CX P w) P w K mg base ["field"] "need_field" (defScope s_need_field) f cdv A outer s H E) (E := E) rfl rfl rfl rfl
  exact (ss_one (ss_if (st_not (st_val (se_call ⟨al0 8 _ rfl⟩ hr tk (sa_cons (se_var 0) sa_nil)))) (ss_one (ss_rse "InvalidField" hc tk ⟨co.x_InvalidField⟩ rfl)) ss_nil))
theorem sc_step_at : FnScope ["auction", "price", "bound", "step"] ["auction", "price"] (defScope s_step_at) := ⟨rfl, rfl, rfl, by decide +kernel, rfl, by decide +kernel, by decide +kernel⟩
theorem b_step_at (co : Co K mg) (al : ∀ m, m ≤ n → AllOk P w K mg base tb nm T m) {f : Addr} (cdv : Value) (A : Around) (outer : List Env) (s : Shared) (H : Hp) (E : XK) (σ0 : Sg) (hr : Room (n + 2) (A.deeper (envOfC "step_at" (defScope s_step_at) s.heap.objs.size f cdv))) :
    SSs (cxOf (L2.CX P w) P w K mg base ["auction", "price", "bound", "step"] "step_at" (defScope s_step_at) f cdv A outer s H E) tb ⟨σ0, nofx, []⟩ (fun cls d _ H' => E cls d H') (evF T n) (defBody s_step_at) i_step_at.body := by
  have hN : ((["auction", "price", "bound", "step"] : List Str)).Nodup := sc_step_at.nd
  have al0 := al n (Nat.le_refl n)
  have hc : (true = true) := rfl
  exact (ss_one (ss_ret (se_ix (se_compIf (own := [("bound", 2), ("step", 3)]) hc hN (si_T (se_ix (se_var 0) se_int)) (show BlkOk ["auction", "price", "bound", "step"] (defScope s_step_at) _ [("bound", 2), ("step", 3)] from blk_by (by decide +kernel)) (by decide) rfl (fun _ _ _ _ _ => (sg_tp hc (sgs_cons (sg_nm 2 hN) (sgs_cons (sg_nm 3 hN) sgs_nil)))) (fun _ _ _ _ _ => (st_cmp (o := .le) oLe okLe (se_var 2) (se_var 1) rfl)) (fun _ _ _ _ _ => (se_var 3))) (se_neg se_int))))
theorem sc_after : FnScope ["auction", "price"] ["auction", "price"] (defScope s_after) := ⟨rfl, rfl, rfl, by decide +kernel, rfl, by decide +kernel, by decide +kernel⟩
theorem b_after (co : Co K mg) (al : ∀ m, m ≤ n → AllOk P w K mg base tb nm T m) {f : Addr} (cdv : Value) (A : Around) (outer : List Env) (s : Shared) (H : Hp) (E : XK) (σ0 : Sg) (hr : Room (n + 2) (A.deeper (envOfC "after" (defScope s_after) s.heap.objs.size f cdv))) :
    SSs (cxOf (L2.CX P w) P w K mg base ["auction", "price"] "after" (defScope s_after) f cdv A outer s H E) tb ⟨σ0, nofx, []⟩ (fun cls d _ H' => E cls d H') (evF T n) (defBody s_after) i_after.body := by
  have hN : ((["auction", "price"] : List Str)).Nodup := sc_after.nd
  have al0 := al n (Nat.le_refl n)
  have tk := takes_of (X := cxOf (L2.CX P w) P w K mg base ["auction", "price"] "after" (defScope s_after) f cdv A outer s H E) (E := E) rfl rfl rfl rfl
  exact (ss_one (ss_ret (se_bin (o := .add) op_addA okAdd (se_var 1) (se_call ⟨al0 11 _ rfl⟩ hr tk (sa_cons (se_var 0) (sa_cons (se_var 1) sa_nil))))))
theorem sc_others_below : FnScope ["field", "names", "price", "name", "limit"] ["field", "names", "price"] (defScope s_others_below) := ⟨rfl, rfl, rfl, by decide +kernel, rfl, by decide +kernel, by decide +kernel⟩
theorem b_others_below (co : Co K mg) (al : ∀ m, m ≤ n → AllOk P w K mg base tb nm T m) {f : Addr} (cdv : Value) (A : Around) (outer : List Env) (s : Shared) (H : Hp) (E : XK) (σ0 : Sg) (hr : Room (n + 2) (A.deeper (envOfC "others_below" (defScope s_others_below) s.heap.objs.size f cdv))) :
    SSs (cxOf (L2.CX P w) P w K mg base ["field", "names", "price", "name", "limit"] "others_below" (defScope s_others_below) f cdv A outer s H E) tb ⟨σ0, nofx, []⟩ (fun cls d _ H' => E cls d H') (evF T n) (defBody s_others_below) i_others_below.body := by
  have hN : ((["field", "names", "price", "name", "limit"] : List Str)).Nodup := sc_others_below.nd
  have al0 := al n (Nat.le_refl n)
  have hc : (true = true) := rfl
  exact (ss_one (ss_ret (se_b1 (o := .all) (cr_all hc) okAll co.z_all rfl (se_compIf (own := [("name", 3), ("limit", 4)]) hc hN (si_T (se_var 0)) (show BlkOk ["field", "names", "price", "name", "limit"] (defScope s_others_below) _ [("name", 3), ("limit", 4)] from blk_by (by decide +kernel)) (by decide) rfl (fun _ _ _ _ _ => (sg_tp hc (sgs_cons (sg_nm 3 hN) (sgs_cons (sg_nm 4 hN) sgs_nil)))) (fun _ _ _ _ _ => (st_cmp (o := .nin) (oNin hr) okIn (se_var 3) (se_var 1) rfl)) (fun _ _ _ _ _ => (se_cmp (o := .lt) oLt okLt (se_var 4) (se_var 2) rfl))))))
theorem sc_first_two : FnScope ["auction", "winner", "loser", "start"] ["auction", "winner", "loser"] (defScope s_first_two) := ⟨rfl, rfl, rfl, by decide +kernel, rfl, by decide +kernel, by decide +kernel⟩
theorem b_first_two (co : Co K mg) (al : ∀ m, m ≤ n → AllOk P w K mg base tb nm T m) {f : Addr} (cdv : Value) (A : Around) (outer : List Env) (s : Shared) (H : Hp) (E : XK) (σ0 : Sg) (hr : Room (n + 2) (A.deeper (envOfC "first_two" (defScope s_first_two) s.heap.objs.size f cdv))) :
    SSs (cxOf (L2.CX P w) P w K mg base ["auction", "winner", "loser", "start"] "first_two" (defScope s_first_two) f cdv A outer s H E) tb ⟨σ0, nofx, []⟩ (fun cls d _ H' => E cls d H') (evF T n) (defBody s_first_two) i_first_two.body := by
  have hN : ((["auction", "winner", "loser", "start"] : List Str)).Nodup := sc_first_two.nd
  have al0 := al n (Nat.le_refl n)
  have tk := takes_of (X := cxOf (L2.CX P w) P w K mg base ["auction", "winner", "loser", "start"] "first_two" (defScope s_first_two) f cdv A outer s H E) (E := E) rfl rfl rfl rfl
  exact (ss_cons (ss_asg 3 (se_ix (se_var 0) se_int) hN) (ss_cons (ss_if (st_cmp (o := .gt) oGt okGt (se_ix (se_var 2) se_int) (se_ix (se_var 1) se_int) rfl) (ss_one (ss_ret se_non)) ss_nil) (ss_cons (ss_if (st_cmp (o := .ge) oGe okGe (se_ix (se_var 2) se_int) (se_call ⟨al0 12 _ rfl⟩ hr tk (sa_cons (se_var 0) (sa_cons (se_var 3) sa_nil))) rfl) (ss_one (ss_ret (se_tup (sa_cons (se_ix (se_var 1) se_int) (sa_cons (se_ix (se_var 2) se_int) sa_nil))))) ss_nil) (ss_cons (ss_if (st_w (sw_and (st_ch2 (o := .le) (o2 := .lt) oLe okLe oLt okLt (se_var 3) (se_ix (se_var 2) se_int) (se_ix (se_var 1) se_int) rfl) (sw_and1 (st_cmp (o := .ge) oGe okGe (se_ix (se_var 1) se_int) (se_call ⟨al0 12 _ rfl⟩ hr tk (sa_cons (se_var 0) (sa_cons (se_var 3) sa_nil))) rfl)))) (ss_one (ss_ret (se_tup (sa_cons (se_ix (se_var 2) se_int) (sa_cons (se_ix (se_var 1) se_int) sa_nil))))) ss_nil) (ss_one (ss_ret se_non))))))
theorem sc_beginnings : FnScope ["auction", "field", "found", "start", "winner", "loser", "names", "price"] ["auction", "field"] (defScope s_beginnings) := ⟨rfl, rfl, rfl, by decide +kernel, rfl, by decide +kernel, by decide +kernel⟩
theorem b_beginnings (co : Co K mg) (al : ∀ m, m ≤ n → AllOk P w K mg base tb nm T m) {f : Addr} (cdv : Value) (A : Around) (outer : List Env) (s : Shared) (H : Hp) (E : XK) (σ0 : Sg) (hr : Room (n + 2) (A.deeper (envOfC "beginnings" (defScope s_beginnings) s.heap.objs.size f cdv))) :
    SSs (cxOf (L2.CX P w) P w K mg base ["auction", "field", "found", "start", "winner", "loser", "names", "price"] "beginnings" (defScope s_beginnings) f cdv A outer s H E) tb ⟨σ0, nofx, []⟩ (fun cls d _ H' => E cls d H') (evF T n) (defBody s_beginnings) i_beginnings.body := by
  have hN : ((["auction", "field", "found", "start", "winner", "loser", "names", "price"] : List Str)).Nodup := sc_beginnings.nd
  have al0 := al n (Nat.le_refl n)
  have hc : (true = true) := rfl
  have tk := takes_of (X := cxOf (L2.CX P w) P w K mg base ["auction", "field", "found", "start", "winner", "loser", "names", "price"] "beginnings" (defScope s_beginnings) f cdv A outer s H E) (E := E) rfl rfl rfl rfl
  have hp := passes_of (X := cxOf (L2.CX P w) P w K mg base ["auction", "field", "found", "start", "winner", "loser", "names", "price"] "beginnings" (defScope s_beginnings) f cdv A outer s H E) rfl
  exact (ss_cons (ss_asg 2 se_dct0 hN) (ss_cons (ss_asg 3 (se_ix (se_var 0) se_int) hN) (ss_cons (ss_for hp hc (si_T (se_var 1)) (sg_nm 4 hN) (ss_cons (ss_if (st_w (sw_and (st_cmp (o := .ge) oGe okGe (se_ix (se_var 4) se_int) (se_var 3) rfl) (sw_and1 (st_val (se_call ⟨al0 13 _ rfl⟩ hr tk (sa_cons (se_var 1) (sa_cons (se_tup (sa_cons (se_ix (se_var 4) se_int) sa_nil)) (sa_cons (se_call ⟨al0 12 _ rfl⟩ hr tk (sa_cons (se_var 0) (sa_cons (se_var 3) sa_nil))) sa_nil)))))))) (ss_one (ss_dSet 2 (un65 hr) (se_tup (sa_cons (se_ix (se_var 4) se_int) sa_nil)) (se_tup (sa_cons (se_ix (se_var 4) se_int) (sa_cons (se_var 3) sa_nil))))) ss_nil) (ss_one (ss_for hp hc (si_T (se_var 1)) (sg_nm 5 hN) (ss_cons (ss_asg 6 (se_ite (st_cmp (o := .eq) (oEq hr) okEq (se_ix (se_var 5) se_int) (se_ix (se_var 4) se_int) rfl) se_non (se_call ⟨al0 14 _ rfl⟩ hr tk (sa_cons (se_var 0) (sa_cons (se_var 4) (sa_cons (se_var 5) sa_nil))))) hN) (ss_one (ss_if (st_cmp (o := .isn) oIsn okIsn (se_var 6) se_non rfl) (ss_cons (ss_asg 7 (se_b2 (o := .min2) (call_min2 hc) okMin2 co.z_min rfl (se_ix (se_var 4) se_int) (se_call ⟨al0 12 _ rfl⟩ hr tk (sa_cons (se_var 0) (sa_cons (se_ix (se_var 5) se_int) sa_nil)))) hN) (ss_one (ss_if (st_val (se_call ⟨al0 13 _ rfl⟩ hr tk (sa_cons (se_var 1) (sa_cons (se_var 6) (sa_cons (se_call ⟨al0 12 _ rfl⟩ hr tk (sa_cons (se_var 0) (sa_cons (se_var 7) sa_nil))) sa_nil))))) (ss_one (ss_dSet 2 (un65 hr) (se_var 6) (se_tup (sa_cons (se_ix (se_var 4) se_int) (sa_cons (se_var 7) sa_nil))))) ss_nil))) ss_nil))))))) (ss_one (ss_ret (se_var 2))))))
theorem sc_all_outcomes : FnScope ["auction", "field"] ["auction", "field"] (defScope s_all_outcomes) := ⟨rfl, rfl, rfl, by decide +kernel, rfl, by decide +kernel, by decide +kernel⟩
theorem b_all_outcomes (co : Co K mg) (al : ∀ m, m ≤ n → AllOk P w K mg base tb nm T m) {f : Addr} (cdv : Value) (A : Around) (outer : List Env) (s : Shared) (H : Hp) (E : XK) (σ0 : Sg) (hr : Room (n + 2) (A.deeper (envOfC "all_outcomes" (defScope s_all_outcomes) s.heap.objs.size f cdv))) :
    SSs (cxOf (L2.CX P w) P w K mg base ["auction", "field"] "all_outcomes" (defScope s_all_outcomes) f cdv A outer s H E) tb ⟨σ0, nofx, []⟩ (fun cls d _ H' => E cls d H') (evF T n) (defBody s_all_outcomes) i_all_outcomes.body := by
  have hN : ((["auction", "field"] : List Str)).Nodup := sc_all_outcomes.nd
  have al0 := al n (Nat.le_refl n)
  have hc : (true = true) := rfl
  have tk := takes_of (X := cxOf (L2.CX P w) P w K mg base ["auction", "field"] "all_outcomes" (defScope s_all_outcomes) f cdv A outer s H E) (E := E) rfl rfl rfl rfl
  exact (ss_one (ss_ret (se_dSrt hc (un65 hr) co.z_sorted rfl (se_call ⟨al0 15 _ rfl⟩ hr tk (sa_cons (se_var 0) (sa_cons (se_var 1) sa_nil))))))
theorem sc_winners_of : FnScope ["auction", "field", "found", "name", "price"] ["auction", "field"] (defScope s_winners_of) := ⟨rfl, rfl, rfl, by decide +kernel, rfl, by decide +kernel, by decide +kernel⟩
theorem b_winners_of (co : Co K mg) (al : ∀ m, m ≤ n → AllOk P w K mg base tb nm T m) {f : Addr} (cdv : Value) (A : Around) (outer : List Env) (s : Shared) (H : Hp) (E : XK) (σ0 : Sg) (hr : Room (n + 2) (A.deeper (envOfC "winners_of" (defScope s_winners_of) s.heap.objs.size f cdv))) :
    SSs (cxOf (L2.CX P w) P w K mg base ["auction", "field", "found", "name", "price"] "winners_of" (defScope s_winners_of) f cdv A outer s H E) tb ⟨σ0, nofx, []⟩ (fun cls d _ H' => E cls d H') (evF T n) (defBody s_winners_of) i_winners_of.body := by
  have hN : ((["auction", "field", "found", "name", "price"] : List Str)).Nodup := sc_winners_of.nd
  have al0 := al n (Nat.le_refl n)
  have hc : (true = true) := rfl
  have tk := takes_of (X := cxOf (L2.CX P w) P w K mg base ["auction", "field", "found", "name", "price"] "winners_of" (defScope s_winners_of) f cdv A outer s H E) (E := E) rfl rfl rfl rfl
  have hp := passes_of (X := cxOf (L2.CX P w) P w K mg base ["auction", "field", "found", "name", "price"] "winners_of" (defScope s_winners_of) f cdv A outer s H E) rfl
  exact (ss_cons (ss_asg 2 (se_lst sa_nil) hN) (ss_cons (ss_for hp hc (si_L (se_call ⟨al0 16 _ rfl⟩ hr tk (sa_cons (se_var 0) (sa_cons (se_var 1) sa_nil)))) (sg_tp hc (sgs_cons (sg_nm 3 hN) (sgs_cons (sg_nm 4 hN) sgs_nil))) (ss_one (ss_if (st_cmp (o := .nin) (oNin hr) okIn (se_var 3) (se_var 2) rfl) (ss_one (ss_app 2 (se_var 3) (hp := pe_bm PySem.F.plainAttrs_list PySem.F.slot_list_append PySem.F.type_list_append mt_append (pv 2) (pa_cons (se_var 3) pa_nil)))) ss_nil))) (ss_one (ss_ret (se_var 2)))))
theorem sc_need_room : FnScope ["field"] ["field"] (defScope s_need_room) := ⟨rfl, rfl, rfl, by decide +kernel, rfl, by decide +kernel, by decide +kernel⟩
theorem b_need_room (co : Co K mg) (al : ∀ m, m ≤ n → AllOk P w K mg base tb nm T m) {f : Addr} (cdv : Value) (A : Around) (outer : List Env) (s : Shared) (H : Hp) (E : XK) (σ0 : Sg) (hr : Room (n + 2) (A.deeper (envOfC "need_room" (defScope s_need_room) s.heap.objs.size f cdv))) :
    SSs (cxOf (L2.CX P w) P w K mg base ["field"] "need_room" (defScope s_need_room) f cdv A outer s H E) tb ⟨σ0, nofx, []⟩ (fun cls d _ H' => E cls d H') (evF T n) (defBody s_need_room) i_need_room.body := by
  have hN : ((["field"] : List Str)).Nodup := sc_need_room.nd
  have al0 := al n (Nat.le_refl n)
  have hc : (true = true) := rfl
  have tk := takes_of (X := cxOf (L2.CX P w) P w K mg base ["field"] "need_room" (defScope s_need_room) f cdv A outer s H E) (E := E) rfl rfl rfl rfl
  exact (ss_one (ss_if (st_cmp (o := .gt) oGt okGt (se_b1 (o := .len) call_len okLen co.z_len rfl (se_var 0)) (se_glob ⟨co.c_MOST_JOINED⟩) rfl) (ss_one (ss_rseN "TooMany" hc tk (n := 1) ⟨tmc co⟩ (hr.mono (by omega)) (se_glob ⟨co.c_MOST_JOINED⟩) rfl)) ss_nil))
theorem sc_least_possible : FnScope ["auction", "field"] ["auction", "field"] (defScope s_least_possible) := ⟨rfl, rfl, rfl, by decide +kernel, rfl, by decide +kernel, by decide +kernel⟩
theorem b_least_possible (co : Co K mg) (al : ∀ m, m ≤ n → AllOk P w K mg base tb nm T m) {f : Addr} {c Pt : Addr} (TB : LamX.TabB base mg c Pt) (hmT : (Pt, (("least_possible" : Str) ++ ".<locals>.") ++ "<lambda>") ∈ tb) (hu : ∀ p ∈ tb, p.1 = Pt → p.2 = (("least_possible" : Str) ++ ".<locals>.") ++ "<lambda>") (A : Around) (outer : List Env) (s : Shared) (H : Hp) (E : XK) (σ0 : Sg) (hr : Room (n + 2) (A.deeper (envOfC "least_possible" (defScope s_least_possible) s.heap.objs.size f (.ref c)))) :
    SSs (cxOf (L2.CX P w) P w K mg base ["auction", "field"] "least_possible" (defScope s_least_possible) f (.ref c) A outer s H E) tb ⟨σ0, nofx, []⟩ (fun cls d _ H' => E cls d H') (evF T n) (defBody s_least_possible) i_least_possible.body := by
  have hN : ((["auction", "field"] : List Str)).Nodup := sc_least_possible.nd
  have al0 := al n (Nat.le_refl n)
  have hc : (true = true) := rfl
  have tk := takes_of (X := cxOf (L2.CX P w) P w K mg base ["auction", "field"] "least_possible" (defScope s_least_possible) f (.ref c) A outer s H E) (E := E) rfl rfl rfl rfl
  exact (ss_cons (ss_exp (se_call ⟨al0 9 _ rfl⟩ hr tk (sa_cons (se_var 0) sa_nil))) (ss_cons (ss_exp (se_call ⟨al0 10 _ rfl⟩ hr tk (sa_cons (se_var 1) sa_nil))) (ss_cons (ss_exp (se_call ⟨al0 19 _ rfl⟩ hr tk (sa_cons (se_var 1) sa_nil))) (ss_one (ss_ret (se_lamN (pl := ["limit"]) (ph := ["~0", "~1"]) (Ng0 := ["is_enough", "low", "high", "middle"]) co.g_least_limit ⟨rfl, rfl, rfl, (by decide +kernel), rfl, (by decide +kernel), (by decide +kernel)⟩ rfl (by decide) rfl (by decide +kernel) TB rfl hmT hu hr (show LamP (defScope s_least_possible) _ ["limit"] from lamP_by (by decide +kernel)) rfl (fun k ek {_ _ f c' _ _ _ _ σb} LH hrg hb hb0 => have hN : ((["is_enough", "low", "high", "middle"] : List Str) ++ (["~0", "~1"] : List Str)).Nodup := (by decide +kernel); (ss_cons (ss_par 1 2 se_int (se_bin (o := .add) op_addA okAdd (se_glob ⟨co.c_MOST_PRICE⟩) se_int) hc hN) (ss_cons (ss_while PassesOwn.never (st_cmp (o := .lt) oLt okLt (se_var 1) (se_var 2) rfl) (ss_cons (ss_asg 3 (se_bin (o := .div) op_fdiv okDiv (se_bin (o := .add) op_addA okAdd (se_var 1) (se_var 2)) se_int) hN) (ss_one (ss_if (st_val (se_act1 (pl := ["limit"]) (ph := ["~0", "~1", "~2", "~3"]) (k := k + 2) LH (show LamP (defScope s_least_possible) _ ["limit"] from lamP_by (by decide +kernel)) (fun _ _ _ _ _ us hl => match us, hl with | [_], _ => rfl) LamX.takes0 hrg (show lamNB ["auction", "field"] _ ["limit"] ["~0", "~1", "~2", "~3"] = true from by decide +kernel) rfl rfl hb hb0 (fun A outer s' H' E σv cd hr => have alk := al k (by omega); (se_cmp (o := .in_) (oIn hr) okIn (se_glob ⟨co.c_NEWCOMER⟩) (se_call ⟨alk 17 _ rfl⟩ hr lam_takes (sa_cons (se_var 5) (sa_cons (se_bin (o := .add) op_addA okAdd (se_tup (sa_cons (se_tup (sa_cons (se_glob ⟨co.c_NEWCOMER⟩) (sa_cons (se_var 0) sa_nil))) sa_nil)) (se_var 6)) sa_nil))) rfl)) (blk_or k rfl) (sa_cons (se_var 3) sa_nil))) (ss_one (ss_asg 2 (se_var 3) hN)) (ss_one (ss_asg 1 (se_bin (o := .add) op_addA okAdd (se_var 3) se_int) hN)))))) (ss_one (ss_ret (se_ite (st_cmp (o := .le) oLe okLe (se_var 1) (se_glob ⟨co.c_MOST_PRICE⟩) rfl) (se_var 1) se_non))))))))))))
theorem sc_least_sure : FnScope ["auction", "field"] ["auction", "field"] (defScope s_least_sure) := ⟨rfl, rfl, rfl, by decide +kernel, rfl, by decide +kernel, by decide +kernel⟩
theorem b_least_sure (co : Co K mg) (al : ∀ m, m ≤ n → AllOk P w K mg base tb nm T m) {f : Addr} {c Pt : Addr} (TB : LamX.TabB base mg c Pt) (hmT : (Pt, (("least_sure" : Str) ++ ".<locals>.") ++ "<lambda>") ∈ tb) (hu : ∀ p ∈ tb, p.1 = Pt → p.2 = (("least_sure" : Str) ++ ".<locals>.") ++ "<lambda>") (A : Around) (outer : List Env) (s : Shared) (H : Hp) (E : XK) (σ0 : Sg) (hr : Room (n + 2) (A.deeper (envOfC "least_sure" (defScope s_least_sure) s.heap.objs.size f (.ref c)))) :
    SSs (cxOf (L2.CX P w) P w K mg base ["auction", "field"] "least_sure" (defScope s_least_sure) f (.ref c) A outer s H E) tb ⟨σ0, nofx, []⟩ (fun cls d _ H' => E cls d H') (evF T n) (defBody s_least_sure) i_least_sure.body := by
  have hN : ((["auction", "field"] : List Str)).Nodup := sc_least_sure.nd
  have al0 := al n (Nat.le_refl n)
  have hc : (true = true) := rfl
  have tk := takes_of (X := cxOf (L2.CX P w) P w K mg base ["auction", "field"] "least_sure" (defScope s_least_sure) f (.ref c) A outer s H E) (E := E) rfl rfl rfl rfl
  exact (ss_cons (ss_exp (se_call ⟨al0 9 _ rfl⟩ hr tk (sa_cons (se_var 0) sa_nil))) (ss_cons (ss_exp (se_call ⟨al0 10 _ rfl⟩ hr tk (sa_cons (se_var 1) sa_nil))) (ss_cons (ss_exp (se_call ⟨al0 19 _ rfl⟩ hr tk (sa_cons (se_var 1) sa_nil))) (ss_one (ss_ret (se_lamN (pl := ["limit"]) (ph := ["~0", "~1"]) (Ng0 := ["is_enough", "low", "high", "middle"]) co.g_least_limit ⟨rfl, rfl, rfl, (by decide +kernel), rfl, (by decide +kernel), (by decide +kernel)⟩ rfl (by decide) rfl (by decide +kernel) TB rfl hmT hu hr (show LamP (defScope s_least_sure) _ ["limit"] from lamP_by (by decide +kernel)) rfl (fun k ek {_ _ f c' _ _ _ _ σb} LH hrg hb hb0 => have hN : ((["is_enough", "low", "high", "middle"] : List Str) ++ (["~0", "~1"] : List Str)).Nodup := (by decide +kernel); (ss_cons (ss_par 1 2 se_int (se_bin (o := .add) op_addA okAdd (se_glob ⟨co.c_MOST_PRICE⟩) se_int) hc hN) (ss_cons (ss_while PassesOwn.never (st_cmp (o := .lt) oLt okLt (se_var 1) (se_var 2) rfl) (ss_cons (ss_asg 3 (se_bin (o := .div) op_fdiv okDiv (se_bin (o := .add) op_addA okAdd (se_var 1) (se_var 2)) se_int) hN) (ss_one (ss_if (st_val (se_act1 (pl := ["limit"]) (ph := ["~0", "~1", "~2", "~3"]) (k := k + 2) LH (show LamP (defScope s_least_sure) _ ["limit"] from lamP_by (by decide +kernel)) (fun _ _ _ _ _ us hl => match us, hl with | [_], _ => rfl) LamX.takes0 hrg (show lamNB ["auction", "field"] _ ["limit"] ["~0", "~1", "~2", "~3"] = true from by decide +kernel) rfl rfl hb hb0 (fun A outer s' H' E σv cd hr => have alk := al k (by omega); (se_cmp (o := .eq) (oEq hr) okEq (se_call ⟨alk 17 _ rfl⟩ hr lam_takes (sa_cons (se_var 5) (sa_cons (se_bin (o := .add) op_addA okAdd (se_tup (sa_cons (se_tup (sa_cons (se_glob ⟨co.c_NEWCOMER⟩) (sa_cons (se_var 0) sa_nil))) sa_nil)) (se_var 6)) sa_nil))) (se_lst (sa_cons (se_glob ⟨co.c_NEWCOMER⟩) sa_nil)) rfl)) (blk_or k rfl) (sa_cons (se_var 3) sa_nil))) (ss_one (ss_asg 2 (se_var 3) hN)) (ss_one (ss_asg 1 (se_bin (o := .add) op_addA okAdd (se_var 3) se_int) hN)))))) (ss_one (ss_ret (se_ite (st_cmp (o := .le) oLe okLe (se_var 1) (se_glob ⟨co.c_MOST_PRICE⟩) rfl) (se_var 1) se_non))))))))))))
theorem sc__law_source : FnScope ["script", "index", "cell"] ["script", "index"] (defScope s__law_source) := ⟨rfl, rfl, rfl, by decide +kernel, rfl, by decide +kernel, by decide +kernel⟩
theorem b__law_source (co : Co K mg) (al : ∀ m, m ≤ n → AllOk P w K mg base tb nm T m) {f : Addr} (cdv : Value) (A : Around) (outer : List Env) (s : Shared) (H : Hp) (E : XK) (σ0 : Sg) (hr : Room (n + 2) (A.deeper (envOfC "_law_source" (defScope s__law_source) s.heap.objs.size f cdv))) :
    SSs (cxOf (L2.CX P w) P w K mg base ["script", "index", "cell"] "_law_source" (defScope s__law_source) f cdv A outer s H E) tb ⟨σ0, nofx, []⟩ (fun cls d _ H' => E cls d H') (evF T n) (defBody s__law_source) i__law_source.body := by
  have hN : ((["script", "index", "cell"] : List Str)).Nodup := sc__law_source.nd
  have al0 := al n (Nat.le_refl n)
  exact (ss_cons (ss_asg 2 se_int hN) (ss_cons (ss_if (st_cmp (o := .lt) oLt okLt (se_var 1) (se_b1 (o := .len) call_len okLen co.z_len rfl (se_var 0)) rfl) (ss_one (ss_asg 2 (se_b1 (o := .abs) call_abs okAbs co.z_abs rfl (se_ix (se_var 0) (se_var 1))) hN)) ss_nil) (ss_cons (ss_if (st_cmp (o := .lt) oLt okLt (se_var 2) (se_bin (o := .pow) op_pow okPow se_int se_int) rfl) (ss_one (ss_ret (se_lst (sa_cons se_int (sa_cons (se_bin (o := .add) op_addA okAdd se_int (se_bin (o := .mod) op_mod okMod (se_bin (o := .add) op_addA okAdd (se_bin (o := .mul) op_mulA okMul (se_var 2) se_int) (se_bin (o := .mul) op_mulA okMul se_int (se_var 1))) se_int)) sa_nil))))) ss_nil) (ss_one (ss_ret (se_lst (sa_cons (se_var 2) (sa_cons (se_bin (o := .add) op_addA okAdd se_int (se_bin (o := .mod) op_mod okMod (se_bin (o := .add) op_addA okAdd (se_var 2) (se_var 1)) se_int)) sa_nil))))))))
theorem sc__law_draw : FnScope ["source", "size", "drawn"] ["source", "size"] (defScope s__law_draw) := ⟨rfl, rfl, rfl, by decide +kernel, rfl, by decide +kernel, by decide +kernel⟩
theorem b__law_draw (co : Co K mg) (al : ∀ m, m ≤ n → AllOk P w K mg base tb nm T m) {f : Addr} (cdv : Value) (A : Around) (outer : List Env) (s : Shared) (H : Hp) (E : XK) (σ0 : Sg) (hr : Room (n + 2) (A.deeper (envOfC "_law_draw" (defScope s__law_draw) s.heap.objs.size f cdv))) :
    SSs (cxOf (L2.CX P w) P w K mg base ["source", "size", "drawn"] "_law_draw" (defScope s__law_draw) f cdv A outer s H E) tb ⟨σ0, nofx, []⟩ (fun cls d _ H' => E cls d H') (evF T n) (defBody s__law_draw) i__law_draw.body := by
  have hN : ((["source", "size", "drawn"] : List Str)).Nodup := sc__law_draw.nd
  have al0 := al n (Nat.le_refl n)
  exact (ss_cons (ss_if (st_cmp (o := .gt) oGt okGt (se_ix (se_var 0) se_int) se_int rfl) (ss_cons (ss_asg 2 (se_bin (o := .mod) op_mod okMod (se_ix (se_var 0) se_int) (se_var 1)) hN) (ss_cons (ss_put 0 (se_bin (o := .div) op_fdiv okDiv (se_ix (se_var 0) se_int) (se_var 1)) se_int) (ss_one (ss_ret (se_var 2))))) ss_nil) (ss_cons (ss_put 0 (se_bin (o := .mod) op_mod okMod (se_bin (o := .mul) op_mulA okMul (se_ix (se_var 0) se_int) se_int) se_int) se_int) (ss_one (ss_ret (se_bin (o := .mod) op_mod okMod (se_bin (o := .div) op_fdiv okDiv (se_bin (o := .mod) op_mod okMod (se_bin (o := .mul) op_mulA okMul (se_ix (se_var 0) se_int) (se_ix (se_var 0) se_int)) se_int) se_int) (se_var 1))))))
theorem sc__law_choice : FnScope ["source", "items"] ["source", "items"] (defScope s__law_choice) := ⟨rfl, rfl, rfl, by decide +kernel, rfl, by decide +kernel, by decide +kernel⟩
theorem b__law_choice (co : Co K mg) (al : ∀ m, m ≤ n → AllOk P w K mg base tb nm T m) {f : Addr} (cdv : Value) (A : Around) (outer : List Env) (s : Shared) (H : Hp) (E : XK) (σ0 : Sg) (hr : Room (n + 2) (A.deeper (envOfC "_law_choice" (defScope s__law_choice) s.heap.objs.size f cdv))) :
    SSs (cxOf (L2.CX P w) P w K mg base ["source", "items"] "_law_choice" (defScope s__law_choice) f cdv A outer s H E) tb ⟨σ0, nofx, []⟩ (fun cls d _ H' => E cls d H') (evF T n) (defBody s__law_choice) i__law_choice.body := by
  have hN : ((["source", "items"] : List Str)).Nodup := sc__law_choice.nd
  have al0 := al n (Nat.le_refl n)
  have tk := takes_of (X := cxOf (L2.CX P w) P w K mg base ["source", "items"] "_law_choice" (defScope s__law_choice) f cdv A outer s H E) (E := E) rfl rfl rfl rfl
  exact (ss_one (ss_ret (se_ix (se_var 1) (se_callr (i := 0) ⟨al0 23 _ rfl⟩ hr tk (sa_cons (se_b1 (o := .len) call_len okLen co.z_len rfl (se_var 1)) sa_nil)))))
theorem sc__law_next : FnScope ["auction", "price", "found", "bound", "step"] ["auction", "price"] (defScope s__law_next) := ⟨rfl, rfl, rfl, by decide +kernel, rfl, by decide +kernel, by decide +kernel⟩
theorem b__law_next (co : Co K mg) (al : ∀ m, m ≤ n → AllOk P w K mg base tb nm T m) {f : Addr} (cdv : Value) (A : Around) (outer : List Env) (s : Shared) (H : Hp) (E : XK) (σ0 : Sg) (hr : Room (n + 2) (A.deeper (envOfC "_law_next" (defScope s__law_next) s.heap.objs.size f cdv))) :
    SSs (cxOf (L2.CX P w) P w K mg base ["auction", "price", "found", "bound", "step"] "_law_next" (defScope s__law_next) f cdv A outer s H E) tb ⟨σ0, nofx, []⟩ (fun cls d _ H' => E cls d H') (evF T n) (defBody s__law_next) i__law_next.body := by
  have hN : ((["auction", "price", "found", "bound", "step"] : List Str)).Nodup := sc__law_next.nd
  have al0 := al n (Nat.le_refl n)
  have hc : (true = true) := rfl
  have hp := passes_of (X := cxOf (L2.CX P w) P w K mg base ["auction", "price", "found", "bound", "step"] "_law_next" (defScope s__law_next) f cdv A outer s H E) rfl
  exact (ss_cons (ss_asg 2 se_int hN) (ss_cons (ss_for hp hc (si_T (se_ix (se_var 0) se_int)) (sg_tp hc (sgs_cons (sg_nm 3 hN) (sgs_cons (sg_nm 4 hN) sgs_nil))) (ss_one (ss_if (st_cmp (o := .le) oLe okLe (se_var 3) (se_var 1) rfl) (ss_one (ss_asg 2 (se_bin (o := .add) op_addA okAdd (se_var 1) (se_var 4)) hN)) ss_nil))) (ss_one (ss_ret (se_var 2)))))
theorem sc__law_arrive : FnScope ["auction", "state", "bid", "leader", "top", "price", "name", "limit", "high", "low"] ["auction", "state", "bid"] (defScope s__law_arrive) := ⟨rfl, rfl, rfl, by decide +kernel, rfl, by decide +kernel, by decide +kernel⟩
theorem b__law_arrive (co : Co K mg) (al : ∀ m, m ≤ n → AllOk P w K mg base tb nm T m) {f : Addr} (cdv : Value) (A : Around) (outer : List Env) (s : Shared) (H : Hp) (E : XK) (σ0 : Sg) (hr : Room (n + 2) (A.deeper (envOfC "_law_arrive" (defScope s__law_arrive) s.heap.objs.size f cdv))) :
    SSs (cxOf (L2.CX P w) P w K mg base ["auction", "state", "bid", "leader", "top", "price", "name", "limit", "high", "low"] "_law_arrive" (defScope s__law_arrive) f cdv A outer s H E) tb ⟨σ0, nofx, []⟩ (fun cls d _ H' => E cls d H') (evF T n) (defBody s__law_arrive) i__law_arrive.body := by
  have hN : ((["auction", "state", "bid", "leader", "top", "price", "name", "limit", "high", "low"] : List Str)).Nodup := sc__law_arrive.nd
  have al0 := al n (Nat.le_refl n)
  have hc : (true = true) := rfl
  have tk := takes_of (X := cxOf (L2.CX P w) P w K mg base ["auction", "state", "bid", "leader", "top", "price", "name", "limit", "high", "low"] "_law_arrive" (defScope s__law_arrive) f cdv A outer s H E) (E := E) rfl rfl rfl rfl
  exact (ss_cons (ss_asgT (is := [3, 4, 5]) (se_var 1) (sg_tp hc (sgs_cons (sg_nm 3 hN) (sgs_cons (sg_nm 4 hN) (sgs_cons (sg_nm 5 hN) sgs_nil))))) (ss_cons (ss_asgT (is := [6, 7]) (se_var 2) (sg_tp hc (sgs_cons (sg_nm 6 hN) (sgs_cons (sg_nm 7 hN) sgs_nil)))) (ss_cons (ss_if (st_cmp (o := .is_) oIs okIs (se_var 3) se_non rfl) (ss_one (ss_ret (se_ite (st_cmp (o := .ge) oGe okGe (se_var 7) (se_ix (se_var 0) se_int) rfl) (se_tup (sa_cons (se_var 6) (sa_cons (se_var 7) (sa_cons (se_ix (se_var 0) se_int) sa_nil)))) (se_var 1)))) ss_nil) (ss_cons (ss_if (st_cmp (o := .eq) (oEq hr) okEq (se_var 6) (se_var 3) rfl) (ss_one (ss_ret (se_tup (sa_cons (se_var 3) (sa_cons (se_b2 (o := .max2) (call_max2 hc) okMax2 co.z_max rfl (se_var 4) (se_var 7)) (sa_cons (se_var 5) sa_nil)))))) ss_nil) (ss_cons (ss_if (st_cmp (o := .lt) oLt okLt (se_var 7) (se_call ⟨al0 25 _ rfl⟩ hr tk (sa_cons (se_var 0) (sa_cons (se_var 5) sa_nil))) rfl) (ss_one (ss_ret (se_var 1))) ss_nil) (ss_cons (ss_par 8 9 (se_b2 (o := .max2) (call_max2 hc) okMax2 co.z_max rfl (se_var 4) (se_var 7)) (se_b2 (o := .min2) (call_min2 hc) okMin2 co.z_min rfl (se_var 4) (se_var 7)) hc hN) (ss_one (ss_ret (se_tup (sa_cons (se_ite (st_cmp (o := .ge) oGe okGe (se_var 4) (se_var 7) rfl) (se_var 3) (se_var 6)) (sa_cons (se_var 8) (sa_cons (se_b2 (o := .min2) (call_min2 hc) okMin2 co.z_min rfl (se_var 8) (se_call ⟨al0 25 _ rfl⟩ hr tk (sa_cons (se_var 0) (sa_cons (se_var 9) sa_nil)))) sa_nil))))))))))))
theorem sc__law_final : FnScope ["auction", "bids", "state", "bid"] ["auction", "bids"] (defScope s__law_final) := ⟨rfl, rfl, rfl, by decide +kernel, rfl, by decide +kernel, by decide +kernel⟩
theorem b__law_final (co : Co K mg) (al : ∀ m, m ≤ n → AllOk P w K mg base tb nm T m) {f : Addr} (cdv : Value) (A : Around) (outer : List Env) (s : Shared) (H : Hp) (E : XK) (σ0 : Sg) (hr : Room (n + 2) (A.deeper (envOfC "_law_final" (defScope s__law_final) s.heap.objs.size f cdv))) :
    SSs (cxOf (L2.CX P w) P w K mg base ["auction", "bids", "state", "bid"] "_law_final" (defScope s__law_final) f cdv A outer s H E) tb ⟨σ0, nofx, []⟩ (fun cls d _ H' => E cls d H') (evF T n) (defBody s__law_final) i__law_final.body := by
  have hN : ((["auction", "bids", "state", "bid"] : List Str)).Nodup := sc__law_final.nd
  have al0 := al n (Nat.le_refl n)
  have hc : (true = true) := rfl
  have tk := takes_of (X := cxOf (L2.CX P w) P w K mg base ["auction", "bids", "state", "bid"] "_law_final" (defScope s__law_final) f cdv A outer s H E) (E := E) rfl rfl rfl rfl
  have hp := passes_of (X := cxOf (L2.CX P w) P w K mg base ["auction", "bids", "state", "bid"] "_law_final" (defScope s__law_final) f cdv A outer s H E) rfl
  exact (ss_cons (ss_asg 2 (se_tup (sa_cons se_non (sa_cons se_int (sa_cons se_non sa_nil)))) hN) (ss_cons (ss_for hp hc (si_T (se_var 1)) (sg_nm 3 hN) (ss_one (ss_asg 2 (se_call ⟨al0 26 _ rfl⟩ hr tk (sa_cons (se_var 0) (sa_cons (se_var 2) (sa_cons (se_var 3) sa_nil)))) hN))) (ss_one (ss_ret (se_ite (st_cmp (o := .is_) oIs okIs (se_ix (se_var 2) se_int) se_non rfl) se_non (se_tup (sa_cons (se_ix (se_var 2) se_int) (sa_cons (se_ix (se_var 2) se_int) sa_nil))))))))
theorem sc__law_auction : FnScope ["source", "start", "step", "table", "bound", "turn"] ["source"] (defScope s__law_auction) := ⟨rfl, rfl, rfl, by decide +kernel, rfl, by decide +kernel, by decide +kernel⟩
theorem b__law_auction (co : Co K mg) (al : ∀ m, m ≤ n → AllOk P w K mg base tb nm T m) {f : Addr} (cdv : Value) (A : Around) (outer : List Env) (s : Shared) (H : Hp) (E : XK) (σ0 : Sg) (hr : Room (n + 2) (A.deeper (envOfC "_law_auction" (defScope s__law_auction) s.heap.objs.size f cdv))) :
    SSs (cxOf (L2.CX P w) P w K mg base ["source", "start", "step", "table", "bound", "turn"] "_law_auction" (defScope s__law_auction) f cdv A outer s H E) tb ⟨σ0, nofx, []⟩ (fun cls d _ H' => E cls d H') (evF T n) (defBody s__law_auction) i__law_auction.body := by
  have hN : ((["source", "start", "step", "table", "bound", "turn"] : List Str)).Nodup := sc__law_auction.nd
  have al0 := al n (Nat.le_refl n)
  have hc : (true = true) := rfl
  have tk := takes_of (X := cxOf (L2.CX P w) P w K mg base ["source", "start", "step", "table", "bound", "turn"] "_law_auction" (defScope s__law_auction) f cdv A outer s H E) (E := E) rfl rfl rfl rfl
  have hp := passes_of (X := cxOf (L2.CX P w) P w K mg base ["source", "start", "step", "table", "bound", "turn"] "_law_auction" (defScope s__law_auction) f cdv A outer s H E) rfl
  exact (ss_cons (ss_asg 1 (se_callr (i := 0) ⟨al0 24 _ rfl⟩ hr tk (sa_cons (se_lst (sa_cons se_int (sa_cons se_int (sa_cons se_int (sa_cons (se_bin (o := .add) op_addA okAdd se_int (se_callr (i := 0) ⟨al0 23 _ rfl⟩ hr tk (sa_cons se_int sa_nil))) (sa_cons (se_bin (o := .add) op_addA okAdd se_int (se_callr (i := 0) ⟨al0 23 _ rfl⟩ hr tk (sa_cons se_int sa_nil))) sa_nil)))))) sa_nil)) hN) (ss_cons (ss_asg 2 (se_bin (o := .add) op_addA okAdd se_int (se_callr (i := 0) ⟨al0 23 _ rfl⟩ hr tk (sa_cons (se_callr (i := 0) ⟨al0 24 _ rfl⟩ hr tk (sa_cons (se_lst (sa_cons se_int (sa_cons se_int (sa_cons se_int (sa_cons se_int sa_nil))))) sa_nil)) sa_nil))) hN) (ss_cons (ss_par 3 4 (se_lst (sa_cons (se_tup (sa_cons se_int (sa_cons (se_var 2) sa_nil))) sa_nil)) se_int hc hN) (ss_cons (ss_for hp hc (si_rng1 co.z_range (se_callr (i := 0) ⟨al0 23 _ rfl⟩ hr tk (sa_cons se_int sa_nil))) (sg_nm 5 hN) (ss_cons (ss_asg 4 (se_bin (o := .add) op_addA okAdd (se_bin (o := .add) op_addA okAdd (se_var 4) se_int) (se_callr (i := 0) ⟨al0 23 _ rfl⟩ hr tk (sa_cons (se_callr (i := 0) ⟨al0 24 _ rfl⟩ hr tk (sa_cons (se_lst (sa_cons se_int (sa_cons se_int (sa_cons se_int sa_nil)))) sa_nil)) sa_nil))) hN) (ss_cons (ss_asg 2 (se_bin (o := .add) op_addA okAdd (se_var 2) (se_callr (i := 0) ⟨al0 23 _ rfl⟩ hr tk (sa_cons se_int sa_nil))) hN) (ss_one (ss_app 3 (se_tup (sa_cons (se_var 4) (sa_cons (se_var 2) sa_nil))) (hp := pe_bm PySem.F.plainAttrs_list PySem.F.slot_list_append PySem.F.type_list_append mt_append (pv 3) (pa_cons (se_tup (sa_cons (se_var 4) (sa_cons (se_var 2) sa_nil))) pa_nil))))))) (ss_one (ss_ret (se_tup (sa_cons (se_var 1) (sa_cons (se_t1 (o := .tup) call_tuple_of okTup co.z_tuple rfl (se_var 3)) sa_nil)))))))))
theorem sc__law_limit : FnScope ["source", "auction", "near", "way", "step", "found"] ["source", "auction", "near"] (defScope s__law_limit) := ⟨rfl, rfl, rfl, by decide +kernel, rfl, by decide +kernel, by decide +kernel⟩
theorem b__law_limit (co : Co K mg) (al : ∀ m, m ≤ n → AllOk P w K mg base tb nm T m) {f : Addr} (cdv : Value) (A : Around) (outer : List Env) (s : Shared) (H : Hp) (E : XK) (σ0 : Sg) (hr : Room (n + 2) (A.deeper (envOfC "_law_limit" (defScope s__law_limit) s.heap.objs.size f cdv))) :
    SSs (cxOf (L2.CX P w) P w K mg base ["source", "auction", "near", "way", "step", "found"] "_law_limit" (defScope s__law_limit) f cdv A outer s H E) tb ⟨σ0, nofx, []⟩ (fun cls d _ H' => E cls d H') (evF T n) (defBody s__law_limit) i__law_limit.body := by
  have hN : ((["source", "auction", "near", "way", "step", "found"] : List Str)).Nodup := sc__law_limit.nd
  have al0 := al n (Nat.le_refl n)
  have hc : (true = true) := rfl
  have tk := takes_of (X := cxOf (L2.CX P w) P w K mg base ["source", "auction", "near", "way", "step", "found"] "_law_limit" (defScope s__law_limit) f cdv A outer s H E) (E := E) rfl rfl rfl rfl
  exact (ss_cons (ss_asg 3 (se_callr (i := 0) ⟨al0 23 _ rfl⟩ hr tk (sa_cons se_int sa_nil)) hN) (ss_cons (ss_asg 4 (se_bin (o := .sub) op_subA okSub (se_call ⟨al0 25 _ rfl⟩ hr tk (sa_cons (se_var 1) (sa_cons (se_var 2) sa_nil))) (se_var 2)) hN) (ss_cons (ss_asg 5 (se_bin (o := .add) op_addA okAdd se_int (se_callr (i := 0) ⟨al0 23 _ rfl⟩ hr tk (sa_cons (se_bin (o := .add) op_addA okAdd (se_bin (o := .mul) op_mulA okMul se_int (se_var 2)) se_int) sa_nil))) hN) (ss_cons (ss_if (st_cmp (o := .lt) oLt okLt (se_var 3) se_int rfl) (ss_one (ss_asg 5 (se_bin (o := .sub) op_subA okSub (se_bin (o := .add) op_addA okAdd (se_var 2) (se_callr (i := 0) ⟨al0 23 _ rfl⟩ hr tk (sa_cons (se_bin (o := .add) op_addA okAdd (se_bin (o := .mul) op_mulA okMul se_int (se_var 4)) se_int) sa_nil))) (se_bin (o := .mul) op_mulA okMul se_int (se_var 4))) hN)) ss_nil) (ss_cons (ss_if (st_cmp (o := .eq) (oEq hr) okEq (se_var 3) se_int rfl) (ss_one (ss_asg 5 (se_bin (o := .sub) op_subA okSub (se_bin (o := .add) op_addA okAdd (se_ix (se_var 1) se_int) (se_callr (i := 0) ⟨al0 23 _ rfl⟩ hr tk (sa_cons (se_bin (o := .add) op_addA okAdd (se_bin (o := .mul) op_mulA okMul se_int (se_var 4)) se_int) sa_nil))) se_int) hN)) ss_nil) (ss_one (ss_ret (se_b2 (o := .min2) (call_min2 hc) okMin2 co.z_min rfl se_int (se_b2 (o := .max2) (call_max2 hc) okMax2 co.z_max rfl se_int (se_var 5))))))))))
theorem sc__law_names : FnScope ["source", "count", "names"] ["source", "count"] (defScope s__law_names) := ⟨rfl, rfl, rfl, by decide +kernel, rfl, by decide +kernel, by decide +kernel⟩
theorem b__law_names (co : Co K mg) (al : ∀ m, m ≤ n → AllOk P w K mg base tb nm T m) {f : Addr} (cdv : Value) (A : Around) (outer : List Env) (s : Shared) (H : Hp) (E : XK) (σ0 : Sg) (hr : Room (n + 2) (A.deeper (envOfC "_law_names" (defScope s__law_names) s.heap.objs.size f cdv))) :
    SSs (cxOf (L2.CX P w) P w K mg base ["source", "count", "names"] "_law_names" (defScope s__law_names) f cdv A outer s H E) tb ⟨σ0, nofx, []⟩ (fun cls d _ H' => E cls d H') (evF T n) (defBody s__law_names) i__law_names.body := by
  have hN : ((["source", "count", "names"] : List Str)).Nodup := sc__law_names.nd
  have al0 := al n (Nat.le_refl n)
  have tk := takes_of (X := cxOf (L2.CX P w) P w K mg base ["source", "count", "names"] "_law_names" (defScope s__law_names) f cdv A outer s H E) (E := E) rfl rfl rfl rfl
  have hp := passes_of (X := cxOf (L2.CX P w) P w K mg base ["source", "count", "names"] "_law_names" (defScope s__law_names) f cdv A outer s H E) rfl
  exact (ss_cons (ss_asg 2 (se_lst (sa_cons se_str (sa_cons se_str (sa_cons se_str (sa_cons se_str (sa_cons se_str (sa_cons se_str (sa_cons se_str (sa_cons se_str (sa_cons se_str (sa_cons se_str sa_nil))))))))))) hN) (ss_cons (ss_while hp (st_cmp (o := .gt) oGt okGt (se_b1 (o := .len) call_len okLen co.z_len rfl (se_var 2)) (se_var 1) rfl) (ss_one (ss_exp (se_pop 2 (pe_bm PySem.F.plainAttrs_list PySem.F.slot_list_pop PySem.F.type_list_pop mt_popAt (pv 2) (pa_cons (se_callr (i := 0) ⟨al0 23 _ rfl⟩ hr tk (sa_cons (se_b1 (o := .len) call_len okLen co.z_len rfl (se_var 2)) sa_nil)) pa_nil)))))) (ss_one (ss_ret (se_var 2)))))
theorem sc__law_field : FnScope ["source", "auction", "most", "near", "names", "name"] ["source", "auction", "most"] (defScope s__law_field) := ⟨rfl, rfl, rfl, by decide +kernel, rfl, by decide +kernel, by decide +kernel⟩
theorem b__law_field (co : Co K mg) (al : ∀ m, m ≤ n → AllOk P w K mg base tb nm T m) {f : Addr} (cdv : Value) (A : Around) (outer : List Env) (s : Shared) (H : Hp) (E : XK) (σ0 : Sg) (hr : Room (n + 2) (A.deeper (envOfC "_law_field" (defScope s__law_field) s.heap.objs.size f cdv))) :
    SSs (cxOf (L2.CX P w) P w K mg base ["source", "auction", "most", "near", "names", "name"] "_law_field" (defScope s__law_field) f cdv A outer s H E) tb ⟨σ0, nofx, []⟩ (fun cls d _ H' => E cls d H') (evF T n) (defBody s__law_field) i__law_field.body := by
  have hN : ((["source", "auction", "most", "near", "names", "name"] : List Str)).Nodup := sc__law_field.nd
  have al0 := al n (Nat.le_refl n)
  have hc : (true = true) := rfl
  have tk := takes_of (X := cxOf (L2.CX P w) P w K mg base ["source", "auction", "most", "near", "names", "name"] "_law_field" (defScope s__law_field) f cdv A outer s H E) (E := E) rfl rfl rfl rfl
  exact (ss_cons (ss_asg 3 (se_bin (o := .add) op_addA okAdd (se_ix (se_var 1) se_int) (se_callr (i := 0) ⟨al0 23 _ rfl⟩ hr tk (sa_cons (se_callr (i := 0) ⟨al0 24 _ rfl⟩ hr tk (sa_cons (se_lst (sa_cons se_int (sa_cons se_int (sa_cons se_int sa_nil)))) sa_nil)) sa_nil))) hN) (ss_cons (ss_asg 4 (se_callr (i := 0) ⟨al0 30 _ rfl⟩ hr tk (sa_cons (se_bin (o := .add) op_addA okAdd se_int (se_callr (i := 0) ⟨al0 23 _ rfl⟩ hr tk (sa_cons (se_var 2) sa_nil))) sa_nil)) hN) (ss_one (ss_ret (se_t1 (o := .tup) call_tuple_of okTup co.z_tuple rfl (se_comp (own := [("name", 5)]) hc hN (si_L (se_var 4)) (show BlkOk ["source", "auction", "most", "near", "names", "name"] (defScope s__law_field) _ [("name", 5)] from blk_by (by decide +kernel)) (by decide) rfl (fun _ _ _ _ _ => (sg_nm 5 hN)) (fun _ _ _ _ _ => have tk := takes0; have lam_takes := @takes0; (se_tup (sa_cons (se_var 5) (sa_cons (se_callr (i := 0) ⟨al0 29 _ rfl⟩ hr tk (sa_cons (se_var 1) (sa_cons (se_var 3) sa_nil))) sa_nil))))))))))
theorem sc__law_orders : FnScope ["items", "found", "item", "longer", "order", "at"] ["items"] (defScope s__law_orders) := ⟨rfl, rfl, rfl, by decide +kernel, rfl, by decide +kernel, by decide +kernel⟩
theorem b__law_orders (co : Co K mg) (al : ∀ m, m ≤ n → AllOk P w K mg base tb nm T m) {f : Addr} (cdv : Value) (A : Around) (outer : List Env) (s : Shared) (H : Hp) (E : XK) (σ0 : Sg) (hr : Room (n + 2) (A.deeper (envOfC "_law_orders" (defScope s__law_orders) s.heap.objs.size f cdv))) :
    SSs (cxOf (L2.CX P w) P w K mg base ["items", "found", "item", "longer", "order", "at"] "_law_orders" (defScope s__law_orders) f cdv A outer s H E) tb ⟨σ0, nofx, []⟩ (fun cls d _ H' => E cls d H') (evF T n) (defBody s__law_orders) i__law_orders.body := by
  have hN : ((["items", "found", "item", "longer", "order", "at"] : List Str)).Nodup := sc__law_orders.nd
  have al0 := al n (Nat.le_refl n)
  have hc : (true = true) := rfl
  have hp := passes_of (X := cxOf (L2.CX P w) P w K mg base ["items", "found", "item", "longer", "order", "at"] "_law_orders" (defScope s__law_orders) f cdv A outer s H E) rfl
  exact (ss_cons (ss_asg 1 (se_lst (sa_cons (se_tup sa_nil) sa_nil)) hN) (ss_cons (ss_for hp hc (si_T (se_var 0)) (sg_nm 2 hN) (ss_cons (ss_asg 3 (se_lst sa_nil) hN) (ss_cons (ss_for hp hc (si_L (se_var 1)) (sg_nm 4 hN) (ss_one (ss_asg 3 (se_bin (o := .add) op_addA okAdd (se_var 3) (se_comp (own := [("at", 5)]) hc hN (si_rng1 co.z_range (se_bin (o := .add) op_addA okAdd (se_b1 (o := .len) call_len okLen co.z_len rfl (se_var 4)) se_int)) (show BlkOk ["items", "found", "item", "longer", "order", "at"] (defScope s__law_orders) _ [("at", 5)] from blk_by (by decide +kernel)) (by decide) rfl (fun _ _ _ _ _ => (sg_nm 5 hN)) (fun _ _ _ _ _ => (se_bin (o := .add) op_addA okAdd (se_bin (o := .add) op_addA okAdd (se_slcH (se_var 4) (se_var 5)) (se_tup (sa_cons (se_var 2) sa_nil))) (se_slcL (se_var 4) (se_var 5)))))) hN))) (ss_one (ss_asg 1 (se_var 3) hN))))) (ss_one (ss_ret (se_var 1)))))
theorem sc__law_wins : FnScope ["auction", "field", "limit", "wins", "order", "one"] ["auction", "field", "limit"] (defScope s__law_wins) := ⟨rfl, rfl, rfl, by decide +kernel, rfl, by decide +kernel, by decide +kernel⟩
theorem b__law_wins (co : Co K mg) (al : ∀ m, m ≤ n → AllOk P w K mg base tb nm T m) {f : Addr} (cdv : Value) (A : Around) (outer : List Env) (s : Shared) (H : Hp) (E : XK) (σ0 : Sg) (hr : Room (n + 2) (A.deeper (envOfC "_law_wins" (defScope s__law_wins) s.heap.objs.size f cdv))) :
    SSs (cxOf (L2.CX P w) P w K mg base ["auction", "field", "limit", "wins", "order", "one"] "_law_wins" (defScope s__law_wins) f cdv A outer s H E) tb ⟨σ0, nofx, []⟩ (fun cls d _ H' => E cls d H') (evF T n) (defBody s__law_wins) i__law_wins.body := by
  have hN : ((["auction", "field", "limit", "wins", "order", "one"] : List Str)).Nodup := sc__law_wins.nd
  have al0 := al n (Nat.le_refl n)
  have hc : (true = true) := rfl
  have tk := takes_of (X := cxOf (L2.CX P w) P w K mg base ["auction", "field", "limit", "wins", "order", "one"] "_law_wins" (defScope s__law_wins) f cdv A outer s H E) (E := E) rfl rfl rfl rfl
  exact (ss_cons (ss_asgC 3 (own := [("order", 4)]) hc hN (si_L (se_call ⟨al0 32 _ rfl⟩ hr tk (sa_cons (se_bin (o := .add) op_addA okAdd (se_var 1) (se_tup (sa_cons (se_tup (sa_cons se_str (sa_cons (se_var 2) sa_nil))) sa_nil))) sa_nil))) (show BlkOk ["auction", "field", "limit", "wins", "order", "one"] (defScope s__law_wins) _ [("order", 4)] from blk_by (by decide +kernel)) (by decide) rfl (fun _ _ _ _ _ => (sg_nm 4 hN)) (fun _ _ _ _ _ => have tk := takes0; have lam_takes := @takes0; (se_call ⟨al0 27 _ rfl⟩ hr tk (sa_cons (se_var 0) (sa_cons (se_var 4) sa_nil))))) (ss_cons (ss_asgC 3 (own := [("one", 5)]) hc hN (si_L (se_var 3)) (show BlkOk ["auction", "field", "limit", "wins", "order", "one"] (defScope s__law_wins) _ [("one", 5)] from blk_by (by decide +kernel)) (by decide) rfl (fun _ _ _ _ _ => (sg_nm 5 hN)) (fun _ _ _ _ _ => (se_and (se_cmp (o := .isn) oIsn okIsn (se_var 5) se_non rfl) (se_one (se_cmp (o := .eq) (oEq hr) okEq (se_ix (se_var 5) se_int) se_str rfl))))) (ss_one (ss_ret (se_tup (sa_cons (se_cmp (o := .in_) (oIn hr) okIn se_bl (se_var 3) rfl) (sa_cons (se_cmp (o := .nin) (oNin hr) okIn se_bl (se_var 3) rfl) sa_nil)))))))
theorem sc_law : FnScope ["script", "k", "source", "auction", "field", "some", "sure", "near", "limits", "limit", "one", "eight", "name", "great"] ["script"] (defScope s_law) := ⟨rfl, rfl, rfl, by decide +kernel, rfl, by decide +kernel, by decide +kernel⟩
theorem b_law (co : Co K mg) (al : ∀ m, m ≤ n → AllOk P w K mg base tb nm T m) {f : Addr} {c Pt : Addr} (TB : LamX.TabB base mg c Pt) (hmT : (Pt, (("law" : Str) ++ ".<locals>.") ++ "<lambda>") ∈ tb) (hu : ∀ p ∈ tb, p.1 = Pt → p.2 = (("law" : Str) ++ ".<locals>.") ++ "<lambda>") (A : Around) (outer : List Env) (s : Shared) (H : Hp) (E : XK) (σ0 : Sg) (hr : Room (n + 2) (A.deeper (envOfC "law" (defScope s_law) s.heap.objs.size f (.ref c)))) :
    SSs (cxOf (L2.CX P w) P w K mg base ["script", "k", "source", "auction", "field", "some", "sure", "near", "limits", "limit", "one", "eight", "name", "great"] "law" (defScope s_law) f (.ref c) A outer s H E) tb ⟨σ0, nofx, []⟩ (fun cls d _ H' => E cls d H') (evF T n) (defBody s_law) i_law.body := by
  have hN : ((["script", "k", "source", "auction", "field", "some", "sure", "near", "limits", "limit", "one", "eight", "name", "great"] : List Str)).Nodup := sc_law.nd
  have al0 := al n (Nat.le_refl n)
  obtain ⟨C_TooMany, fI_, fd_, tm_, _, xf_TooMany⟩ := co.tm
  have hC_TooMany := tm_.mgC
  have li_TooMany := tm_.lim
  have hc : (true = true) := rfl
  have tk := takes_of (X := cxOf (L2.CX P w) P w K mg base ["script", "k", "source", "auction", "field", "some", "sure", "near", "limits", "limit", "one", "eight", "name", "great"] "law" (defScope s_law) f (.ref c) A outer s H E) (E := E) rfl rfl rfl rfl
  have hp := passes_of (X := cxOf (L2.CX P w) P w K mg base ["script", "k", "source", "auction", "field", "some", "sure", "near", "limits", "limit", "one", "eight", "name", "great"] "law" (defScope s_law) f (.ref c) A outer s H E) rfl
  exact (ss_cons (ss_for hp hc (si_rng1 co.z_range (se_bin (o := .add) op_addA okAdd se_int (se_b2 (o := .min2) (call_min2 hc) okMin2 co.z_min rfl (se_b1 (o := .len) call_len okLen co.z_len rfl (se_var 0)) se_int))) (sg_nm 1 hN) (ss_cons (ss_asg 2 (se_call ⟨al0 22 _ rfl⟩ hr tk (sa_cons (se_var 0) (sa_cons (se_var 1) sa_nil))) hN) (ss_cons (ss_asg 3 (se_callr (i := 2) ⟨al0 28 _ rfl⟩ hr tk sa_nil) hN) (ss_cons (ss_asg 4 (se_callr (i := 2) ⟨al0 31 _ rfl⟩ hr tk (sa_cons (se_var 3) (sa_cons se_int sa_nil))) hN) (ss_cons (ss_par 5 6 (se_call ⟨al0 20 _ rfl⟩ hr tk (sa_cons (se_var 3) (sa_cons (se_var 4) sa_nil))) (se_call ⟨al0 21 _ rfl⟩ hr tk (sa_cons (se_var 3) (sa_cons (se_var 4) sa_nil))) hc hN) (ss_cons (ss_if (st_w (sw_or (st_cmp (o := .is_) oIs okIs (se_var 5) se_non rfl) (sw_or (st_cmp (o := .is_) oIs okIs (se_var 6) se_non rfl) (sw_or1 (st_cmp (o := .gt) oGt okGt (se_var 5) (se_var 6) rfl))))) (ss_one (ss_ret se_bl)) ss_nil) (ss_cons (ss_asg 7 (se_ix (se_ix (se_var 4) se_int) se_int) hN) (ss_cons (ss_asg 8 (se_lst (sa_cons (se_var 5) (sa_cons (se_var 6) (sa_cons (se_bin (o := .sub) op_subA okSub (se_var 5) se_int) (sa_cons (se_bin (o := .sub) op_subA okSub (se_var 6) se_int) (sa_cons (se_var 7) (sa_cons (se_bin (o := .add) op_addA okAdd (se_var 7) se_int) (sa_cons (se_callr (i := 2) ⟨al0 29 _ rfl⟩ hr tk (sa_cons (se_var 3) (sa_cons (se_var 7) sa_nil))) sa_nil)))))))) hN) (ss_cons (ss_for hp hc (si_L (se_compIf (own := [("one", 10)]) hc hN (si_L (se_var 8)) (show BlkOk ["script", "k", "source", "auction", "field", "some", "sure", "near", "limits", "limit", "one", "eight", "name", "great"] (defScope s_law) _ [("one", 10)] from blk_by (by decide +kernel)) (by decide) rfl (fun _ _ _ _ _ => (sg_nm 10 hN)) (fun _ _ _ _ _ => (st_cmp (o := .gt) oGt okGt (se_var 10) se_int rfl)) (fun _ _ _ _ _ => (se_var 10)))) (sg_nm 9 hN) (ss_one (ss_if (st_cmp (o := .ne) (oNe hr) okNe (se_call ⟨al0 33 _ rfl⟩ hr tk (sa_cons (se_var 3) (sa_cons (se_var 4) (sa_cons (se_var 9) sa_nil)))) (se_tup (sa_cons (se_cmp (o := .ge) oGe okGe (se_var 9) (se_var 5) rfl) (sa_cons (se_cmp (o := .ge) oGe okGe (se_var 9) (se_var 6) rfl) sa_nil))) rfl) (ss_one (ss_ret se_bl)) ss_nil))) (ss_cons (ss_asg 11 (se_t1 (o := .tup) call_tuple_of okTup co.z_tuple rfl (se_comp (own := [("name", 12)]) hc hN (si_S se_str) (show BlkOk ["script", "k", "source", "auction", "field", "some", "sure", "near", "limits", "limit", "one", "eight", "name", "great"] (defScope s_law) _ [("name", 12)] from blk_by (by decide +kernel)) (by decide) rfl (fun _ _ _ _ _ => (sg_nm 12 hN)) (fun _ _ _ _ _ => (se_tup (sa_cons (se_var 12) (sa_cons se_int sa_nil)))))) hN) (ss_cons (ss_if (st_w (sw_or (st_cmp (o := .ne) (oNe hr) okNe (se_lamN (pl := []) (ph := ["~0", "~1", "~2", "~3", "~4", "~5", "~6", "~7", "~8", "~9", "~10", "~11", "~12", "~13"]) (Ng0 := ["call", "found", "e"]) co.g__law_limit_of ⟨rfl, rfl, rfl, (by decide +kernel), rfl, (by decide +kernel), (by decide +kernel)⟩ rfl (by decide) rfl (by decide +kernel) TB rfl hmT hu hr (show LamP (defScope s_law) _ [] from lamP_by (by decide +kernel)) rfl (fun k ek {_ _ f c' _ _ _ _ σb} LH hrg hb hb0 => have hN : ((["call", "found", "e"] : List Str) ++ (["~0", "~1", "~2", "~3", "~4", "~5", "~6", "~7", "~8", "~9", "~10", "~11", "~12", "~13"] : List Str)).Nodup := (by decide +kernel); (ss_cons (ss_asg 1 se_non hN) (ss_cons (ss_try hN LamX.takes0 (fun _ _ _ tk _ => (ss_one (ss_exp (se_act0 (ph := ["~0", "~1", "~2"]) (k := k + 2) LH (show LamP (defScope s_law) _ [] from lamP_by (by decide +kernel)) (fun _ _ _ _ _ us hl => match us, hl with | [], _ => rfl) tk hrg (show lamNB ["script", "k", "source", "auction", "field", "some", "sure", "near", "limits", "limit", "one", "eight", "name", "great"] _ [] ["~0", "~1", "~2"] = true from by decide +kernel) rfl rfl hb hb0 (fun A outer s' H' E σv cd hr => have alk := al k (by omega); (se_call ⟨alk 20 _ rfl⟩ hr lam_takes (sa_cons (se_var 6) (sa_cons (se_var 14) sa_nil)))) (blk_or k rfl))))) (CsOk.cons (ai := some 2) (h := ⟨"TooMany", some 2, 1, .lim "TooMany"⟩) ⟨rfl, by decide, .inl hC_TooMany⟩ ⟨rfl, rfl⟩ (fun _ _ _ _ _ hz hf => su_lim (n := 1) (i := 2) xf_TooMany li_TooMany hN hz hf) (cg_lim (nm := "") rfl rfl (by decide) hC_TooMany) CsOk.nil) (List.forall_mem_cons.mpr ⟨co.e_InvalidAuction_TooMany, (List.forall_mem_cons.mpr ⟨co.e_InvalidField_TooMany, (List.forall_mem_cons.mpr ⟨co.e_TooMany_TooMany, (List.forall_mem_nil _)⟩)⟩)⟩)) (ss_one (ss_ret (se_var 1))))))) se_int rfl) (sw_or1 (st_cmp (o := .is_) oIs okIs (se_call ⟨al0 21 _ rfl⟩ hr tk (sa_cons (se_var 3) (sa_cons (se_slcH (se_var 11) se_int) sa_nil))) se_non rfl)))) (ss_one (ss_ret se_bl)) ss_nil) (ss_one (ss_if (st_cmp (o := .ne) (oNe hr) okNe (se_lamN (pl := []) (ph := ["~0", "~1", "~2", "~3", "~4", "~5", "~6", "~7", "~8", "~9", "~10", "~11", "~12", "~13"]) (Ng0 := ["call", "found", "e"]) co.g__law_limit_of ⟨rfl, rfl, rfl, (by decide +kernel), rfl, (by decide +kernel), (by decide +kernel)⟩ rfl (by decide) rfl (by decide +kernel) TB rfl hmT hu hr (show LamP (defScope s_law) _ [] from lamP_by (by decide +kernel)) rfl (fun k ek {_ _ f c' _ _ _ _ σb} LH hrg hb hb0 => have hN : ((["call", "found", "e"] : List Str) ++ (["~0", "~1", "~2", "~3", "~4", "~5", "~6", "~7", "~8", "~9", "~10", "~11", "~12", "~13"] : List Str)).Nodup := (by decide +kernel); (ss_cons (ss_asg 1 se_non hN) (ss_cons (ss_try hN LamX.takes0 (fun _ _ _ tk _ => (ss_one (ss_exp (se_act0 (ph := ["~0", "~1", "~2"]) (k := k + 2) LH (show LamP (defScope s_law) _ [] from lamP_by (by decide +kernel)) (fun _ _ _ _ _ us hl => match us, hl with | [], _ => rfl) tk hrg (show lamNB ["script", "k", "source", "auction", "field", "some", "sure", "near", "limits", "limit", "one", "eight", "name", "great"] _ [] ["~0", "~1", "~2"] = true from by decide +kernel) rfl rfl hb hb0 (fun A outer s' H' E σv cd hr => have alk := al k (by omega); (se_call ⟨alk 21 _ rfl⟩ hr lam_takes (sa_cons (se_var 6) (sa_cons (se_var 14) sa_nil)))) (blk_or k rfl))))) (CsOk.cons (ai := some 2) (h := ⟨"TooMany", some 2, 1, .lim "TooMany"⟩) ⟨rfl, by decide, .inl hC_TooMany⟩ ⟨rfl, rfl⟩ (fun _ _ _ _ _ hz hf => su_lim (n := 1) (i := 2) xf_TooMany li_TooMany hN hz hf) (cg_lim (nm := "") rfl rfl (by decide) hC_TooMany) CsOk.nil) (List.forall_mem_cons.mpr ⟨co.e_InvalidAuction_TooMany, (List.forall_mem_cons.mpr ⟨co.e_InvalidField_TooMany, (List.forall_mem_cons.mpr ⟨co.e_TooMany_TooMany, (List.forall_mem_nil _)⟩)⟩)⟩)) (ss_one (ss_ret (se_var 1))))))) se_int rfl) (ss_one (ss_ret se_bl)) ss_nil))))))))))))) (ss_cons (ss_asg 13 (se_tup (sa_cons se_int (sa_cons (se_tup (sa_cons (se_tup (sa_cons se_int (sa_cons se_int sa_nil))) sa_nil)) sa_nil))) hN) (ss_cons (ss_if (st_cmp (o := .isn) oIsn okIsn (se_call ⟨al0 21 _ rfl⟩ hr tk (sa_cons (se_var 13) (sa_cons (se_tup (sa_cons (se_tup (sa_cons se_str (sa_cons (se_bin (o := .pow) op_pow okPow se_int se_int) sa_nil))) (sa_cons (se_tup (sa_cons se_str (sa_cons (se_bin (o := .pow) op_pow okPow se_int se_int) sa_nil))) sa_nil))) sa_nil))) se_non rfl) (ss_one (ss_ret se_bl)) ss_nil) (ss_cons (ss_asg 4 (se_tup (sa_cons (se_tup (sa_cons se_str (sa_cons se_int sa_nil))) (sa_cons (se_tup (sa_cons se_str (sa_cons se_int sa_nil))) (sa_cons (se_tup (sa_cons se_str (sa_cons se_int sa_nil))) sa_nil)))) hN) (ss_one (ss_ret (se_cmp (o := .eq) (oEq hr) okEq (se_tup (sa_cons (se_call ⟨al0 20 _ rfl⟩ hr tk (sa_cons (se_tup (sa_cons se_int (sa_cons (se_tup (sa_cons (se_tup (sa_cons se_int (sa_cons se_int sa_nil))) sa_nil)) sa_nil))) (sa_cons (se_var 4) sa_nil))) (sa_cons (se_call ⟨al0 21 _ rfl⟩ hr tk (sa_cons (se_tup (sa_cons se_int (sa_cons (se_tup (sa_cons (se_tup (sa_cons se_int (sa_cons se_int sa_nil))) sa_nil)) sa_nil))) (sa_cons (se_var 4) sa_nil))) sa_nil))) (se_tup (sa_cons se_int (sa_cons se_int sa_nil))) rfl)))))))
theorem all_ok (co : Co K mg) {f0 : Addr} {d0 : FuncData} (a0 : At K mg "is_between" s_is_between ["value", "low", "high"] f0 d0) {f1 : Addr} {d1 : FuncData} (a1 : At K mg "is_price" s_is_price ["value"] f1 d1) {f2 : Addr} {d2 : FuncData} (a2 : At K mg "is_name" s_is_name ["value"] f2 d2) {f3 : Addr} {d3 : FuncData} (a3 : At K mg "is_ascending" s_is_ascending ["items"] f3 d3) {f4 : Addr} {d4 : FuncData} (a4 : At K mg "is_table" s_is_table ["value"] f4 d4) {f5 : Addr} {d5 : FuncData} (a5 : At K mg "is_auction" s_is_auction ["value"] f5 d5) {f6 : Addr} {d6 : FuncData} (a6 : At K mg "is_bid" s_is_bid ["value"] f6 d6) {f7 : Addr} {d7 : FuncData} (a7 : At K mg "is_bids" s_is_bids ["value"] f7 d7) {f8 : Addr} {d8 : FuncData} (a8 : At K mg "is_field" s_is_field ["value"] f8 d8) {f9 : Addr} {d9 : FuncData} (a9 : At K mg "need_auction" s_need_auction ["auction"] f9 d9) {f10 : Addr} {d10 : FuncData} (a10 : At K mg "need_field" s_need_field ["field"] f10 d10) {f11 : Addr} {d11 : FuncData} (a11 : At K mg "step_at" s_step_at ["auction", "price"] f11 d11) {f12 : Addr} {d12 : FuncData} (a12 : At K mg "after" s_after ["auction", "price"] f12 d12) {f13 : Addr} {d13 : FuncData} (a13 : At K mg "others_below" s_others_below ["field", "names", "price"] f13 d13) {f14 : Addr} {d14 : FuncData} (a14 : At K mg "first_two" s_first_two ["auction", "winner", "loser"] f14 d14) {f15 : Addr} {d15 : FuncData} (a15 : At K mg "beginnings" s_beginnings ["auction", "field"] f15 d15) {f16 : Addr} {d16 : FuncData} (a16 : At K mg "all_outcomes" s_all_outcomes ["auction", "field"] f16 d16) {f17 : Addr} {d17 : FuncData} (a17 : At K mg "winners_of" s_winners_of ["auction", "field"] f17 d17) {f19 : Addr} {d19 : FuncData} (a19 : At K mg "need_room" s_need_room ["field"] f19 d19) {f20 c20 p20 : Addr} {d20 : FuncData} (a20 : AtC K mg "least_possible" s_least_possible ["auction", "field"] f20 d20 c20) (t20 : LamX.TabB base mg c20 p20) (m20 : (p20, (("least_possible" : Str) ++ ".<locals>.") ++ "<lambda>") ∈ tb) (u20 : ∀ p ∈ tb, p.1 = p20 → p.2 = (("least_possible" : Str) ++ ".<locals>.") ++ "<lambda>") {f21 c21 p21 : Addr} {d21 : FuncData} (a21 : AtC K mg "least_sure" s_least_sure ["auction", "field"] f21 d21 c21) (t21 : LamX.TabB base mg c21 p21) (m21 : (p21, (("least_sure" : Str) ++ ".<locals>.") ++ "<lambda>") ∈ tb) (u21 : ∀ p ∈ tb, p.1 = p21 → p.2 = (("least_sure" : Str) ++ ".<locals>.") ++ "<lambda>") {f22 : Addr} {d22 : FuncData} (a22 : At K mg "_law_source" s__law_source ["script", "index"] f22 d22) {f23 : Addr} {d23 : FuncData} (a23 : At K mg "_law_draw" s__law_draw ["source", "size"] f23 d23) {f24 : Addr} {d24 : FuncData} (a24 : At K mg "_law_choice" s__law_choice ["source", "items"] f24 d24) {f25 : Addr} {d25 : FuncData} (a25 : At K mg "_law_next" s__law_next ["auction", "price"] f25 d25) {f26 : Addr} {d26 : FuncData} (a26 : At K mg "_law_arrive" s__law_arrive ["auction", "state", "bid"] f26 d26) {f27 : Addr} {d27 : FuncData} (a27 : At K mg "_law_final" s__law_final ["auction", "bids"] f27 d27) {f28 : Addr} {d28 : FuncData} (a28 : At K mg "_law_auction" s__law_auction ["source"] f28 d28) {f29 : Addr} {d29 : FuncData} (a29 : At K mg "_law_limit" s__law_limit ["source", "auction", "near"] f29 d29) {f30 : Addr} {d30 : FuncData} (a30 : At K mg "_law_names" s__law_names ["source", "count"] f30 d30) {f31 : Addr} {d31 : FuncData} (a31 : At K mg "_law_field" s__law_field ["source", "auction", "most"] f31 d31) {f32 : Addr} {d32 : FuncData} (a32 : At K mg "_law_orders" s__law_orders ["items"] f32 d32) {f33 : Addr} {d33 : FuncData} (a33 : At K mg "_law_wins" s__law_wins ["auction", "field", "limit"] f33 d33) {f35 c35 p35 : Addr} {d35 : FuncData} (a35 : AtC K mg "law" s_law ["script"] f35 d35 c35) (t35 : LamX.TabB base mg c35 p35) (m35 : (p35, (("law" : Str) ++ ".<locals>.") ++ "<lambda>") ∈ tb) (u35 : ∀ p ∈ tb, p.1 = p35 → p.2 = (("law" : Str) ++ ".<locals>.") ++ "<lambda>") : ∀ n, ∀ m, m ≤ n → AllOk P w K mg base tb nm T m
  | 0 => fun m hm => by
    have e : m = 0 := Nat.le_zero.mp hm
    subst e
    exact fun j x h => match j, h with
      | 0, h => by cases h; exact a0.row0
      | 1, h => by cases h; exact a1.row0
      | 2, h => by cases h; exact a2.row0
      | 3, h => by cases h; exact a3.row0
      | 4, h => by cases h; exact a4.row0
      | 5, h => by cases h; exact a5.row0
      | 6, h => by cases h; exact a6.row0
      | 7, h => by cases h; exact a7.row0
      | 8, h => by cases h; exact a8.row0
      | 9, h => by cases h; exact a9.row0
      | 10, h => by cases h; exact a10.row0
      | 11, h => by cases h; exact a11.row0
      | 12, h => by cases h; exact a12.row0
      | 13, h => by cases h; exact a13.row0
      | 14, h => by cases h; exact a14.row0
      | 15, h => by cases h; exact a15.row0
      | 16, h => by cases h; exact a16.row0
      | 17, h => by cases h; exact a17.row0
      | 19, h => by cases h; exact a19.row0
      | 20, h => by cases h; exact a20.row0
      | 21, h => by cases h; exact a21.row0
      | 22, h => by cases h; exact a22.row0
      | 23, h => by cases h; exact a23.row0
      | 24, h => by cases h; exact a24.row0
      | 25, h => by cases h; exact a25.row0
      | 26, h => by cases h; exact a26.row0
      | 27, h => by cases h; exact a27.row0
      | 28, h => by cases h; exact a28.row0
      | 29, h => by cases h; exact a29.row0
      | 30, h => by cases h; exact a30.row0
      | 31, h => by cases h; exact a31.row0
      | 32, h => by cases h; exact a32.row0
      | 33, h => by cases h; exact a33.row0
      | 35, h => by cases h; exact a35.row0
      | 18, h => by cases h
      | 34, h => by cases h
      | (_ + 36), h => by cases h
  | n + 1 => fun m hm => by
    by_cases hlt : m ≤ n
    · exact all_ok co a0 a1 a2 a3 a4 a5 a6 a7 a8 a9 a10 a11 a12 a13 a14 a15 a16 a17 a19 a20 t20 m20 u20 a21 t21 m21 u21 a22 a23 a24 a25 a26 a27 a28 a29 a30 a31 a32 a33 a35 t35 m35 u35 n m hlt
    have e : m = n + 1 := by omega
    subst e
    have ih := all_ok co a0 a1 a2 a3 a4 a5 a6 a7 a8 a9 a10 a11 a12 a13 a14 a15 a16 a17 a19 a20 t20 m20 u20 a21 t21 m21 u21 a22 a23 a24 a25 a26 a27 a28 a29 a30 a31 a32 a33 a35 t35 m35 u35 n
    exact fun j x h => match j, h with
      | 0, h => by cases h; exact a0.row rfl sc_is_between rfl rfl fun cdv A outer s H E σ0 hr => b_is_between co ih cdv A outer s H E σ0 hr
      | 1, h => by cases h; exact a1.row rfl sc_is_price rfl rfl fun cdv A outer s H E σ0 hr => b_is_price co ih cdv A outer s H E σ0 hr
      | 2, h => by cases h; exact a2.row rfl sc_is_name rfl rfl fun cdv A outer s H E σ0 hr => b_is_name co ih cdv A outer s H E σ0 hr
      | 3, h => by cases h; exact a3.row rfl sc_is_ascending rfl rfl fun cdv A outer s H E σ0 hr => b_is_ascending co ih cdv A outer s H E σ0 hr
      | 4, h => by cases h; exact a4.row rfl sc_is_table rfl rfl fun cdv A outer s H E σ0 hr => b_is_table co ih cdv A outer s H E σ0 hr
      | 5, h => by cases h; exact a5.row rfl sc_is_auction rfl rfl fun cdv A outer s H E σ0 hr => b_is_auction co ih cdv A outer s H E σ0 hr
      | 6, h => by cases h; exact a6.row rfl sc_is_bid rfl rfl fun cdv A outer s H E σ0 hr => b_is_bid co ih cdv A outer s H E σ0 hr
      | 7, h => by cases h; exact a7.row rfl sc_is_bids rfl rfl fun cdv A outer s H E σ0 hr => b_is_bids co ih cdv A outer s H E σ0 hr
      | 8, h => by cases h; exact a8.row rfl sc_is_field rfl rfl fun cdv A outer s H E σ0 hr => b_is_field co ih cdv A outer s H E σ0 hr
      | 9, h => by cases h; exact a9.row rfl sc_need_auction rfl rfl fun cdv A outer s H E σ0 hr => b_need_auction co ih cdv A outer s H E σ0 hr
      | 10, h => by cases h; exact a10.row rfl sc_need_field rfl rfl fun cdv A outer s H E σ0 hr => b_need_field co ih cdv A outer s H E σ0 hr
      | 11, h => by cases h; exact a11.row rfl sc_step_at rfl rfl fun cdv A outer s H E σ0 hr => b_step_at co ih cdv A outer s H E σ0 hr
      | 12, h => by cases h; exact a12.row rfl sc_after rfl rfl fun cdv A outer s H E σ0 hr => b_after co ih cdv A outer s H E σ0 hr
      | 13, h => by cases h; exact a13.row rfl sc_others_below rfl rfl fun cdv A outer s H E σ0 hr => b_others_below co ih cdv A outer s H E σ0 hr
      | 14, h => by cases h; exact a14.row rfl sc_first_two rfl rfl fun cdv A outer s H E σ0 hr => b_first_two co ih cdv A outer s H E σ0 hr
      | 15, h => by cases h; exact a15.row rfl sc_beginnings rfl rfl fun cdv A outer s H E σ0 hr => b_beginnings co ih cdv A outer s H E σ0 hr
      | 16, h => by cases h; exact a16.row rfl sc_all_outcomes rfl rfl fun cdv A outer s H E σ0 hr => b_all_outcomes co ih cdv A outer s H E σ0 hr
      | 17, h => by cases h; exact a17.row rfl sc_winners_of rfl rfl fun cdv A outer s H E σ0 hr => b_winners_of co ih cdv A outer s H E σ0 hr
      | 19, h => by cases h; exact a19.row rfl sc_need_room rfl rfl fun cdv A outer s H E σ0 hr => b_need_room co ih cdv A outer s H E σ0 hr
      | 20, h => by cases h; exact a20.row rfl sc_least_possible rfl rfl fun A outer s H E σ0 hr => b_least_possible co ih t20 m20 u20 A outer s H E σ0 hr
      | 21, h => by cases h; exact a21.row rfl sc_least_sure rfl rfl fun A outer s H E σ0 hr => b_least_sure co ih t21 m21 u21 A outer s H E σ0 hr
      | 22, h => by cases h; exact a22.row rfl sc__law_source rfl rfl fun cdv A outer s H E σ0 hr => b__law_source co ih cdv A outer s H E σ0 hr
      | 23, h => by cases h; exact a23.row rfl sc__law_draw rfl rfl fun cdv A outer s H E σ0 hr => b__law_draw co ih cdv A outer s H E σ0 hr
      | 24, h => by cases h; exact a24.row rfl sc__law_choice rfl rfl fun cdv A outer s H E σ0 hr => b__law_choice co ih cdv A outer s H E σ0 hr
      | 25, h => by cases h; exact a25.row rfl sc__law_next rfl rfl fun cdv A outer s H E σ0 hr => b__law_next co ih cdv A outer s H E σ0 hr
      | 26, h => by cases h; exact a26.row rfl sc__law_arrive rfl rfl fun cdv A outer s H E σ0 hr => b__law_arrive co ih cdv A outer s H E σ0 hr
      | 27, h => by cases h; exact a27.row rfl sc__law_final rfl rfl fun cdv A outer s H E σ0 hr => b__law_final co ih cdv A outer s H E σ0 hr
      | 28, h => by cases h; exact a28.row rfl sc__law_auction rfl rfl fun cdv A outer s H E σ0 hr => b__law_auction co ih cdv A outer s H E σ0 hr
      | 29, h => by cases h; exact a29.row rfl sc__law_limit rfl rfl fun cdv A outer s H E σ0 hr => b__law_limit co ih cdv A outer s H E σ0 hr
      | 30, h => by cases h; exact a30.row rfl sc__law_names rfl rfl fun cdv A outer s H E σ0 hr => b__law_names co ih cdv A outer s H E σ0 hr
      | 31, h => by cases h; exact a31.row rfl sc__law_field rfl rfl fun cdv A outer s H E σ0 hr => b__law_field co ih cdv A outer s H E σ0 hr
      | 32, h => by cases h; exact a32.row rfl sc__law_orders rfl rfl fun cdv A outer s H E σ0 hr => b__law_orders co ih cdv A outer s H E σ0 hr
      | 33, h => by cases h; exact a33.row rfl sc__law_wins rfl rfl fun cdv A outer s H E σ0 hr => b__law_wins co ih cdv A outer s H E σ0 hr
      | 35, h => by cases h; exact a35.row rfl sc_law rfl rfl fun A outer s H E σ0 hr => b_law co ih t35 m35 u35 A outer s H E σ0 hr
      | 18, h => by cases h
      | 34, h => by cases h
      | (_ + 36), h => by cases h
end Law

namespace Law
open Pb PySem
/-! ### the law's random values -/
def Src (o : Ob) : Prop := ∃ a b : Int, o = .lst [.int a, .int b] ∧ 0 ≤ a ∧ 0 ≤ b ∧ b ≤ 2147483647
def Gv (P : Pb.D → Prop) : RV → Option Ob → Prop := fun r io => ∃ d o', r = .val d ∧ io = some o' ∧ Src o' ∧ P d
def Gl (P : List Pb.D → Prop) : RV → Option Ob → Prop := fun r io => ∃ ds o', r = .fresh (.lst ds) ∧ io = some o' ∧ Src o' ∧ P ds
def isInt (lo hi : Int) (d : Pb.D) : Prop := ∃ k : Int, d = .int k ∧ lo ≤ k ∧ k < hi
theorem call_v {cl : Cl} {f i : Nat} {s : Sl} {o : Ob} {ds : List Pb.D} {env : En} {P : Pb.D → Prop} {Q : RV × En → Prop} (h : SatF (cl f (some o) ds) (Gv P)) (hi : env[i]? = some s) (hs : slOb s = some o)
    (k : ∀ d o', Src o' → P d → Q (.val d, env.set i (putOb s o'))) : Sat (callR cl f i ds env) Q :=
  sat_callR h hi hs (fun r o' ⟨d, o2, e1, e2, hs, p⟩ => by subst e1; cases e2; exact k d o' hs p) fun r ⟨_, _, _, e, _⟩ => by cases e
theorem call_l {cl : Cl} {f i : Nat} {s : Sl} {o : Ob} {ds : List Pb.D} {env : En} {P : List Pb.D → Prop} {Q : RV × En → Prop} (h : SatF (cl f (some o) ds) (Gl P)) (hi : env[i]? = some s) (hs : slOb s = some o)
    (k : ∀ xs o', Src o' → P xs → Q (.fresh (.lst xs), env.set i (putOb s o'))) : Sat (callR cl f i ds env) Q :=
  sat_callR h hi hs (fun r o' ⟨d, o2, e1, e2, hs, p⟩ => by subst e1; cases e2; exact k d o' hs p) fun r ⟨_, _, _, e, _⟩ => by cases e
theorem draw_ok {n : Nat} {o : Ob} {size : Int} (h : Src o) (h0 : 0 < size) (h1 : size < 1073741824) : SatF (evF T (n + 1) n__law_draw (some o) [.int size]) (Gv (isInt 0 size)) := by
  obtain ⟨a, b, rfl, ha, hb, hb2⟩ := h
  rw [r__law_draw]
  refine satF_run rfl rfl (by decide) ?_
  simp [i__law_draw, Gv, isInt, Src]
  have m1 := Int.emod_nonneg (b * 48271) (by decide : (2147483647 : Int) ≠ 0)
  have m2 := Int.emod_lt_of_pos (b * 48271) (by decide : (0 : Int) < 2147483647)
  by_cases h : 0 < a
  · rw [if_pos h]
    refine ⟨h0, ⟨h0, h1⟩, ?_⟩
    have q := Int.ediv_nonneg ha (Int.le_of_lt h0)
    have q1 := Int.emod_nonneg a (show size ≠ 0 by omega)
    have q2 := Int.emod_lt_of_pos a h0
    exact ⟨⟨_, _, ⟨rfl, rfl⟩, q, hb, hb2⟩, q1, q2⟩
  · rw [if_neg h]
    have q1 := Int.emod_nonneg (b * 48271 % 2147483647 * (b * 48271 % 2147483647) % 2147483629 / 64) (show size ≠ 0 by omega)
    have q2 := Int.emod_lt_of_pos (b * 48271 % 2147483647 * (b * 48271 % 2147483647) % 2147483629 / 64) h0
    exact ⟨by omega, h0, ⟨_, _, ⟨rfl, rfl⟩, ha, m1, by omega⟩, q1, q2⟩
theorem choice_ok {n : Nat} {o : Ob} {ds : List Pb.D} (h : Src o) (h0 : ds ≠ []) (h1 : ds.length < 1073741824) : SatF (evF T (n + 2) n__law_choice (some o) [.list ds]) (Gv (· ∈ ds)) := by
  rw [r__law_choice]
  refine satF_run rfl rfl (by decide) ?_
  simp [i__law_choice]
  have := List.length_pos_iff.mpr h0
  refine call_v (draw_ok h (by omega) (by omega)) rfl rfl fun d o' hs ⟨k, ek, hk, hk2⟩ => ?_
  subst ek
  obtain ⟨m, rfl⟩ := Int.eq_ofNat_of_zero_le hk
  have hm : m < ds.length := by omega
  simp [atI_nat, hm, Gv, hs]
def prD (p : Int × Int) : Pb.D := .tuple [.int p.1, .int p.2]
def tbD (tb : List (Int × Int)) : Pb.D := .tuple (tb.map prD)
def aucD (start : Int) (tb : List (Int × Int)) : Pb.D := .tuple [.int start, tbD tb]
structure TbOk (tb : List (Int × Int)) : Prop where
  len : tb.length ≤ 4
  hd : ∃ s, tb.head? = some (0, s)
  pw : tb.Pairwise fun a b => a.1 < b.1 ∧ a.2 ≤ b.2
  rng : ∀ p ∈ tb, 0 ≤ p.1 ∧ p.1 ≤ 3000 ∧ 1 ≤ p.2 ∧ p.2 ≤ 1000
structure Auc (d : Pb.D) (start : Int) (tb : List (Int × Int)) : Prop where
  eq : d = aucD start tb
  lo : 1 ≤ start
  hi : start ≤ 1000
  tb : TbOk tb
def isAuc (d : Pb.D) : Prop := ∃ start tb, Auc d start tb
theorem rngOk_s {k : Int} (h : 0 ≤ k) (h2 : k ≤ 40000) : rngOk k = true := by
  unfold rngOk
  exact decide_eq_true ⟨by omega, h2⟩
theorem rngD_len {k : Int} : (rngD 0 k).length = k.toNat := by simp [rngD]
theorem TbOk.snoc {tb : List (Int × Int)} {b s : Int} (h : TbOk tb) (hl : tb.length < 4) (h1 : ∀ p ∈ tb, p.1 < b ∧ p.2 ≤ s) (h2 : b ≤ 3000) (h3 : s ≤ 1000) : TbOk (tb ++ [(b, s)]) := by
  obtain ⟨s0, e0⟩ := h.hd
  cases tb with
  | nil => cases e0
  | cons p tb =>
    cases e0
    have h0 := h1 (0, s0) (by simp)
    have r0 := h.rng (0, s0) (by simp)
    refine ⟨by simp at hl ⊢; omega, ⟨s0, rfl⟩, ?_, fun q hq => ?_⟩
    · rw [List.pairwise_append]
      exact ⟨h.pw, by simp, fun a ha b hb => by simp at hb; subst hb; exact h1 a ha⟩
    · rcases List.mem_append.mp hq with hq | hq
      · exact h.rng q hq
      · simp at hq
        subst hq
        simp at h0 r0 ⊢
        omega
theorem auction_ok {n : Nat} {o : Ob} (h : Src o) : SatF (evF T (n + 3) n__law_auction (some o) []) (Gv isAuc) := by
  rw [r__law_auction]
  refine satF_run rfl rfl (by decide) ?_
  simp [i__law_auction]
  refine call_v (draw_ok h (by decide) (by decide)) rfl rfl fun d o1 h1 ⟨k1, ek, _, _⟩ => ?_
  subst ek
  simp
  refine call_v (draw_ok h1 (by decide) (by decide)) rfl rfl fun d o2 h2 ⟨k2, ek, _, _⟩ => ?_
  subst ek
  simp [big]
  refine call_v (choice_ok h2 (by simp) (by simp)) rfl rfl fun d o3 h3 hd => ?_
  obtain ⟨start, es, s1, s2⟩ : ∃ s : Int, d = .int s ∧ 1 ≤ s ∧ s ≤ 1000 := by
    simp at hd
    rcases hd with e | e | e | e <;> exact ⟨_, e, by omega, by omega⟩
  subst es
  simp [big]
  refine call_v (choice_ok h3 (by simp) (by simp)) rfl rfl fun d o4 h4 hd => ?_
  obtain ⟨m, es, m1, m2⟩ : ∃ s : Int, d = .int s ∧ 1 ≤ s ∧ s ≤ 100 := by
    simp at hd
    rcases hd with e | e | e | e <;> exact ⟨_, e, by omega, by omega⟩
  subst es
  simp
  refine call_v (draw_ok h4 (by omega) (by omega)) rfl rfl fun d o5 h5 ⟨k5, ek, _, _⟩ => ?_
  subst ek
  simp [big]
  refine call_v (draw_ok h5 (by omega) (by omega)) rfl rfl fun d o6 h6 ⟨k6, ek, _, _⟩ => ?_
  subst ek
  simp [rngOk_s (show 0 ≤ k6 by omega) (by omega)]
  refine fors_inv (fun ds env => ∃ (o' : Ob) (tb : List (Int × Int)) (b s : Int) (t : Sl), Src o' ∧ env = [.inn o', .val (.int start), .val (.int s), .own (.lst (tb.map prD)), .val (.int b), t] ∧ isOwnB (some t) = false ∧ TbOk tb ∧ tb.length + ds.length ≤ 4 ∧ 0 ≤ b ∧ b ≤ 1000 * ((tb.length : Int) - 1) ∧ s ≤ 100 + 9 * ((tb.length : Int) - 1) ∧ ∀ p ∈ tb, p.1 ≤ b ∧ p.2 ≤ s)
    ?_ ?_ _ _ ⟨o6, [(0, 1 + k5)], 0, 1 + k5, .non, h6, rfl, rfl, ⟨by simp, ⟨_, rfl⟩, by simp, by simp; omega⟩, ?_, by simp, by simp, by simp; omega, by simp⟩
  · rintro d0 ds env ⟨o', tb, b, s, t, hs, rfl, ht, hT, hl, hb, hb2, hs2, hp⟩ J hJ
    simp at hl
    have hn : isInn (some t) = false := by cases t <;> first | rfl | cases ht
    refine ⟨[.inn o', .val (.int start), .val (.int s), .own (.lst (tb.map prD)), .val (.int b), .val d0], by simp [hn], ?_⟩
    simp [big, i__law_auction_b1]
    refine call_v (choice_ok hs (by simp) (by simp)) rfl rfl fun d2 o4 h4 hd => ?_
    obtain ⟨m, es, m1, m2⟩ : ∃ s : Int, d2 = .int s ∧ 1 ≤ s ∧ s ≤ 1000 := by
      simp at hd
      rcases hd with e | e | e <;> exact ⟨_, e, by omega, by omega⟩
    subst es
    simp
    refine call_v (draw_ok h4 (by omega) (by omega)) rfl rfl fun d o5 h5 ⟨k5, ek, _, _⟩ => ?_
    subst ek
    simp
    refine call_v (draw_ok h5 (by omega) (by omega)) rfl rfl fun d o6 h6 ⟨k6, ek, _, _⟩ => ?_
    subst ek
    simp [big]
    refine ⟨by omega, hJ _ ⟨o6, tb ++ [(b + 1 + k5, s + k6)], b + 1 + k5, s + k6, .val d0, h6, by simp [prD], rfl, ?_, by simp; omega, by omega, by simp; omega, by simp; omega, ?_⟩⟩
    · exact hT.snoc (by omega) (fun p hp' => by have := hp p hp'; omega) (by omega) (by omega)
    · intro p hp'
      rcases List.mem_append.mp hp' with h | h
      · have := hp p h
        omega
      · simp at h
        subst h
        simp
  · rintro env ⟨o', tb, b, s, t, hs, rfl, ht, hT, hl, hb, hb2, hs2, hp⟩
    simp [big, i__law_auction_t1]
    exact ⟨_, _, rfl, rfl, hs, start, tb, rfl, s1, s2, hT⟩
  · simp [rngD_len]
    omega
end Law

namespace Law
open Pb PySem
def nextP (tb : List (Int × Int)) (p : Int) : Int := tb.foldl (fun acc q => if q.1 ≤ p then p + q.2 else acc) 0
theorem next_ok {n : Nat} {start p : Int} {tb : List (Int × Int)} : evF T (n + 1) n__law_next none [aucD start tb, .int p] = .ok (.val (.int (nextP tb p))) none := by
  refine SatF.val ?_
  rw [r__law_next]
  refine satF_run rfl rfl (by decide) ?_
  simp [i__law_next, aucD, tbD]
  refine fors_inv (fun ds env => ∃ (rest : List (Int × Int)) (acc : Int) (u v : Sl), isOwnB (some u) = false ∧ isOwnB (some v) = false ∧ ds = rest.map prD ∧ env = [.val (.tuple [.int start, .tuple (tb.map prD)]), .val (.int p), .val (.int acc), u, v] ∧ rest.foldl (fun acc q => if q.1 ≤ p then p + q.2 else acc) acc = nextP tb p)
    ?_ ?_ _ _ ⟨tb, 0, .non, .non, rfl, rfl, rfl, rfl, rfl⟩
  · rintro d ds env ⟨rest, acc, u, v, hu, hv, hd, rfl, hr⟩ J hJ
    cases rest with
    | nil => cases hd
    | cons q rest =>
      cases hd
      have hu : isInn (some u) = false := by cases u <;> first | rfl | cases hu
      have hv : isInn (some v) = false := by cases v <;> first | rfl | cases hv
      refine ⟨_, by simp [prD, hu, hv]; rfl, ?_⟩
      simp [i__law_next_b1]
      simp only [List.foldl_cons] at hr
      by_cases h : q.1 ≤ p
      · rw [if_pos h] at hr ⊢
        exact hJ _ ⟨rest, _, _, _, rfl, rfl, rfl, rfl, hr⟩
      · rw [if_neg h] at hr ⊢
        exact hJ _ ⟨rest, _, _, _, rfl, rfl, rfl, rfl, hr⟩
  · rintro env ⟨rest, acc, u, v, hu, hv, hd, rfl, hr⟩
    cases rest with
    | nil =>
      simp at hr
      simp [hr, i__law_next_t1]
    | cons q rest => cases hd
theorem nextP_fold {p : Int} : ∀ (tb : List (Int × Int)) (acc : Int), (∃ q ∈ tb, tb.foldl (fun acc q => if q.1 ≤ p then p + q.2 else acc) acc = p + q.2) ∨ tb.foldl (fun acc q => if q.1 ≤ p then p + q.2 else acc) acc = acc
  | [], acc => .inr rfl
  | q :: tb, acc => by
    simp only [List.foldl_cons]
    rcases nextP_fold tb (if q.1 ≤ p then p + q.2 else acc) with ⟨r, hr, e⟩ | e
    · exact .inl ⟨r, by simp [hr], e⟩
    · rw [e]
      by_cases h : q.1 ≤ p
      · rw [if_pos h]
        exact .inl ⟨q, by simp, rfl⟩
      · rw [if_neg h]
        exact .inr rfl
theorem nextP_in {tb : List (Int × Int)} {p : Int} (h : TbOk tb) (hp : 0 ≤ p) : ∃ q ∈ tb, nextP tb p = p + q.2 := by
  obtain ⟨s, e⟩ := h.hd
  cases tb with
  | nil => cases e
  | cons q tb =>
    cases e
    unfold nextP
    simp only [List.foldl_cons]
    rw [if_pos hp]
    rcases nextP_fold (p := p) tb (p + s) with ⟨r, hr, e⟩ | e
    · exact ⟨r, by simp [hr], e⟩
    · exact ⟨(0, s), by simp, e⟩
theorem nextP_bd {tb : List (Int × Int)} {p : Int} (h : TbOk tb) (hp : 0 ≤ p) : p + 1 ≤ nextP tb p ∧ nextP tb p ≤ p + 1000 := by
  obtain ⟨q, hq, e⟩ := nextP_in h hp
  have := h.rng q hq
  omega
theorem limit_ok {n : Nat} {o : Ob} {start near : Int} {tb : List (Int × Int)} (h : Src o) (hs : 1 ≤ start) (hs2 : start ≤ 1000) (ht : TbOk tb) (h0 : 0 ≤ near) (h1 : near ≤ 1000000) : SatF (evF T (n + 2) n__law_limit (some o) [aucD start tb, .int near]) (Gv (isInt 1 900001)) := by
  rw [r__law_limit]
  refine satF_run rfl rfl (by decide) ?_
  obtain ⟨hb1, hb2⟩ := nextP_bd ht h0
  simp [i__law_limit]
  refine call_v (draw_ok h (by decide) (by decide)) rfl rfl fun d o1 h1 ⟨k1, ek, _, _⟩ => ?_
  subst ek
  simp
  rw [sat_callE_v next_ok]
  simp
  refine call_v (draw_ok h1 (by omega) (by omega)) rfl rfl fun d o2 h2 ⟨k2, ek, _, _⟩ => ?_
  subst ek
  simp
  have hfin : ∀ k : Int, isInt 1 900001 (.int (min 900000 (max 1 k))) := fun k => ⟨_, rfl, by omega, by omega⟩
  by_cases c1 : k1 < 4
  · simp [c1]
    refine call_v (draw_ok h2 (by omega) (by omega)) rfl rfl fun d o3 h3 ⟨k3, ek, _, _⟩ => ?_
    subst ek
    simp [show ¬ k1 = 4 by omega]
    exact ⟨_, _, rfl, rfl, h3, hfin _⟩
  · simp [c1]
    by_cases c2 : k1 = 4
    · simp [c2, aucD]
      refine call_v (draw_ok h2 (by omega) (by omega)) rfl rfl fun d o3 h3 ⟨k3, ek, _, _⟩ => ?_
      subst ek
      simp
      exact ⟨_, _, rfl, rfl, h3, hfin _⟩
    · simp [c2]
      exact ⟨_, _, rfl, rfl, h2, hfin _⟩
def base : List Str := ["a", "ann", "b", "bo", "cy", "dee", "ed", "fin", "gus", "z"]
def namesP (count : Int) (ds : List Pb.D) : Prop := ∃ ns : List Str, ds = ns.map .str ∧ ns.Sublist base ∧ (ns.length : Int) = count
theorem map_er {α β : Type} {f : α → β} : ∀ {l : List α} {i : Nat}, (l.map f).eraseIdx i = (l.eraseIdx i).map f
  | [], i => by simp
  | a :: l, 0 => rfl
  | a :: l, i + 1 => by simp [map_er (l := l) (i := i)]
theorem names_ok {n : Nat} {o : Ob} {count : Int} (h : Src o) (h0 : 1 ≤ count) (h1 : count ≤ 10) : SatF (evF T (n + 2) n__law_names (some o) [.int count]) (Gl (namesP count)) := by
  rw [r__law_names]
  refine satF_run rfl rfl (by decide) ?_
  simp [i__law_names, big]
  refine whl_inv (fun m env => ∃ (o' : Ob) (ns : List Str), Src o' ∧ ns.Sublist base ∧ count ≤ ns.length ∧ ns.length = m ∧ env = [.inn o', .val (.int count), .own (.lst (ns.map .str))]) ?_ _ 10 _ (by decide)
    ⟨o, base, h, List.Sublist.refl _, by simp [base]; omega, rfl, rfl⟩
  rintro m env ⟨o', ns, hs, hb, hc, rfl, rfl⟩ J hJ
  simp
  have h10 : ns.length ≤ 10 := hb.length_le
  by_cases c : count < ns.length
  · simp [c, i__law_names_b1]
    refine call_v (draw_ok hs (by omega) (by omega)) rfl rfl fun d o3 h3 ⟨k, ek, hk, hk2⟩ => ?_
    subst ek
    obtain ⟨j, rfl⟩ := Int.eq_ofNat_of_zero_le hk
    have hj : j < ns.length := by omega
    simp [popE, ixN_nat, hj, big, show ns.length ≤ 100000 by omega]
    refine hJ (ns.length - 1) _ (by omega) ⟨o3, ns.eraseIdx j, h3, (List.eraseIdx_sublist ns j).trans hb, by rw [List.length_eraseIdx_of_lt hj]; omega, List.length_eraseIdx_of_lt hj, ?_⟩
    simp [map_er]
  · simp [c, i__law_names_t1]
    exact ⟨_, _, rfl, rfl, hs, ns, rfl, hb, by omega⟩
def nms : List Str := base ++ (["c", "d", "e", "f", "g", "h", "i", "new", "x"] : List Str)
theorem base_nms {x : Str} (h : x ∈ base) : x ∈ nms := List.mem_append_left _ h
def bidD (b : Str × Int) : Pb.D := .tuple [.str b.1, .int b.2]
def bidsD (bs : List (Str × Int)) : Pb.D := .tuple (bs.map bidD)
structure BidsOk (most : Nat) (bs : List (Str × Int)) : Prop where
  len : bs.length ≤ most
  nm : ∀ b ∈ bs, b.1 ∈ nms
  lo : ∀ b ∈ bs, 1 ≤ b.2
  hi : ∀ b ∈ bs, b.2 ≤ 1000000
def isBids (most : Nat) (d : Pb.D) : Prop := ∃ bs, d = bidsD bs ∧ BidsOk most bs
end Law

namespace Law
open Pb PySem
/-! ### the program's checks on what is valid -/
theorem between_ok {n : Nat} {v lo hi : Int} : evF T (n + 1) n_is_between none [.int v, .int lo, .int hi] = .ok (.val (.bool (decide (lo ≤ v ∧ v ≤ hi)))) none := by
  refine SatF.val ?_
  rw [r_is_between]
  refine satF_run rfl rfl (by decide) ?_
  simp [i_is_between, isiF]
  by_cases h : lo ≤ v <;> simp [h]
theorem price_ok {n : Nat} {v : Int} : evF T (n + 2) n_is_price none [.int v] = .ok (.val (.bool (decide (1 ≤ v ∧ v ≤ 1000000)))) none := by
  refine SatF.val ?_
  rw [r_is_price]
  refine satF_run rfl rfl (by decide) ?_
  simp [i_is_price]
  rw [sat_callE_v between_ok]
  simp
theorem name_ok {n : Nat} {x : Str} (h : x ∈ nms) : evF T (n + 1) n_is_name none [.str x] = .ok (.val (.bool true)) none := by
  simp only [nms, base, List.cons_append, List.nil_append, List.mem_cons, List.not_mem_nil, or_false] at h
  repeat' (rcases h with rfl | h)
  all_goals first | rfl | (subst h; rfl)
def fasc : Pb.D → Option Pb.D
  | .tuple [.int a, .int b] => some (.bool (decide (a < b)))
  | _ => none
theorem asc_all : ∀ {xs : List Int}, xs.Pairwise (· < ·) → asBls ((zipD (xs.map PyData.int) ((xs.map PyData.int).drop 1)).filterMap fasc) = some (List.replicate (xs.length - 1) true)
  | [], _ => rfl
  | [a], _ => rfl
  | a :: b :: xs, h => by
    have ih := asc_all (List.pairwise_cons.mp h).2
    have hab := (List.pairwise_cons.mp h).1 b (by simp)
    simp only [List.map_cons, List.drop_succ_cons, List.drop_zero, zipD, List.filterMap_cons, fasc] at ih ⊢
    simp only [hab, decide_true, asBls]
    rw [ih]
    simp [List.replicate_succ]
theorem all_rep {n : Nat} : (List.replicate n true).all id = true := by
  rw [List.all_eq_true]
  intro x hx
  exact (List.mem_replicate.mp hx).2
theorem mem_zip {P : Pb.D → Prop} : ∀ {as bs : List Pb.D} {d : Pb.D}, d ∈ zipD as bs → ∃ a b, d = .tuple [a, b] ∧ a ∈ as ∧ b ∈ bs
  | [], _, d, h => by simp [zipD] at h
  | _ :: _, [], d, h => by simp [zipD] at h
  | a :: as, b :: bs, d, h => by
    simp only [zipD, List.mem_cons] at h
    rcases h with h | h
    · exact ⟨a, b, h, by simp, by simp⟩
    · obtain ⟨x, y, e, hx, hy⟩ := mem_zip (P := P) h
      exact ⟨x, y, e, by simp [hx], by simp [hy]⟩
theorem asc_ok {n : Nat} {xs : List Int} (h : xs.Pairwise (· < ·)) (hl : xs.length ≤ 1000) : evF T (n + 1) n_is_ascending none [.list (xs.map .int)] = .ok (.val (.bool true)) none := by
  refine SatF.val ?_
  rw [r_is_ascending]
  refine satF_run rfl rfl (by decide) ?_
  simp [i_is_ascending]
  refine comps_pure fasc rfl (fun d hd => ?_) ?_
  · obtain ⟨a, b, rfl, ha, hb⟩ := mem_zip (P := fun _ => True) hd
    have hb := List.mem_of_mem_tail hb
    simp only [List.mem_map] at ha hb
    obtain ⟨i, _, rfl⟩ := ha
    obtain ⟨j, _, rfl⟩ := hb
    refine ⟨_, by simp; rfl, ?_⟩
    simp [fasc]
  · have := asc_all h
    simp at this
    simp [this, all_rep]
end Law

namespace Law
open Pb PySem
theorem prs_ok {n : Nat} {p : Int × Int} (h : 0 ≤ p.1 ∧ p.1 ≤ 3000 ∧ 1 ≤ p.2 ∧ p.2 ≤ 1000) : True := trivial
def fst1 : Pb.D → Option Pb.D
  | .tuple (d :: _) => some d
  | _ => none
def fle2 : Pb.D → Option Pb.D
  | .tuple [.tuple [_, .int a], .tuple [_, .int b]] => some (.bool (decide (a ≤ b)))
  | _ => none
theorem fst1_all {tb : List (Int × Int)} : (tb.map prD).filterMap fst1 = (tb.map (·.1)).map PyData.int := by
  induction tb with
  | nil => rfl
  | cons p tb ih =>
    simp only [List.map_cons, List.filterMap_cons, prD, fst1] at ih ⊢
    rw [ih]
theorem le2_all : ∀ {tb : List (Int × Int)}, (tb.Pairwise fun a b => a.1 < b.1 ∧ a.2 ≤ b.2) → asBls ((zipD (tb.map prD) ((tb.map prD).drop 1)).filterMap fle2) = some (List.replicate (tb.length - 1) true)
  | [], _ => rfl
  | [a], _ => rfl
  | a :: b :: xs, h => by
    have ih := le2_all (List.pairwise_cons.mp h).2
    have hab := ((List.pairwise_cons.mp h).1 b (by simp)).2
    simp only [List.map_cons, List.drop_succ_cons, List.drop_zero, zipD, List.filterMap_cons, fle2, prD] at ih ⊢
    simp only [hab, decide_true, asBls]
    rw [ih]
    simp [List.replicate_succ]
theorem table_ok {n : Nat} {tb : List (Int × Int)} (h : TbOk tb) : evF T (n + 2) n_is_table none [tbD tb] = .ok (.val (.bool true)) none := by
  refine SatF.val ?_
  rw [r_is_table]
  refine satF_run rfl rfl (by decide) ?_
  obtain ⟨s0, e0⟩ := h.hd
  have hl := h.len
  have hpos : 0 < tb.length := by cases tb with | nil => cases e0 | cons p tb => simp
  simp [i_is_table, tbD, isiF, hl, show (1 : Int) ≤ tb.length by omega, show (tb.length : Int) ≤ 4 by omega]
  refine fors_inv (fun ds env => ∃ (rest : List (Int × Int)) (u : Sl), isOwnB (some u) = false ∧ rest.Sublist tb ∧ ds = rest.map prD ∧ env = [.val (.tuple (tb.map prD)), u, .non, .non]) ?_ ?_ _ _ ⟨tb, .non, rfl, List.Sublist.refl _, rfl, rfl⟩
  · rintro d ds env ⟨rest, u, hu, hs, hd, rfl⟩ J hJ
    cases rest with
    | nil => cases hd
    | cons q rest =>
      cases hd
      have hu : isInn (some u) = false := by cases u <;> first | rfl | cases hu
      have hr := h.rng q (hs.subset (by simp))
      refine ⟨_, by simp [hu]; rfl, ?_⟩
      simp [prD, isiF, i_is_table_b1]
      rw [sat_callE_v between_ok]
      simp [hr.1, show q.1 ≤ 1000000 by omega]
      rw [sat_callE_v between_ok]
      simp [hr.2.2.1, show q.2 ≤ 1000 by omega]
      exact hJ _ ⟨rest, _, rfl, (List.sublist_cons_self _ _).trans hs, rfl, rfl⟩
  · rintro env ⟨rest, u, hu, hs, hd, rfl⟩
    have hz : tb[0]? = some (0, s0) := by rw [← List.head?_eq_getElem?]; exact e0
    simp [hz, prD, i_is_table_t1]
    have hu2 : isInn (some u) = false := by cases u <;> first | rfl | cases hu
    refine comps_pure fst1 ?_ (fun d hd => ?_) ?_
    · simp [hu]
    · simp only [List.mem_map] at hd
      obtain ⟨q, hq, rfl⟩ := hd
      refine ⟨_, by simp; rfl, ?_⟩
      simp [prD, fst1]
    · rw [fst1_all]
      simp [-List.map_map]
      rw [sat_callE_v (asc_ok (List.pairwise_map.mpr (h.pw.imp fun h => h.1)) (by simp; omega))]
      simp
      refine comps_pure fle2 rfl (fun d hd => ?_) ?_
      · obtain ⟨a, b, rfl, ha, hb⟩ := mem_zip (P := fun _ => True) hd
        have hb := List.mem_of_mem_tail hb
        simp only [List.mem_map] at ha hb
        obtain ⟨i, _, rfl⟩ := ha
        obtain ⟨j, _, rfl⟩ := hb
        refine ⟨_, by simp; rfl, ?_⟩
        simp [fle2, prD]
      · have := le2_all h.pw
        simp at this
        simp [this, all_rep]
theorem isauc_ok {n : Nat} {start : Int} {tb : List (Int × Int)} (h1 : 1 ≤ start) (h2 : start ≤ 1000) (h : TbOk tb) : evF T (n + 3) n_is_auction none [aucD start tb] = .ok (.val (.bool true)) none := by
  refine SatF.val ?_
  rw [r_is_auction]
  refine satF_run rfl rfl (by decide) ?_
  simp [i_is_auction, aucD, isiF]
  rw [sat_callE_v price_ok]
  simp [h1, show start ≤ 1000000 by omega]
  rw [sat_callE_v (table_ok h)]
  simp
theorem needauc_ok {n : Nat} {start : Int} {tb : List (Int × Int)} (h1 : 1 ≤ start) (h2 : start ≤ 1000) (h : TbOk tb) : evF T (n + 4) n_need_auction none [aucD start tb] = .ok (.val .none) none := by
  refine SatF.val ?_
  rw [r_need_auction]
  refine satF_run rfl rfl (by decide) ?_
  simp [i_need_auction]
  rw [sat_callE_v (isauc_ok h1 h2 h)]
  simp
theorem isbid_ok {n : Nat} {b : Str × Int} (h1 : b.1 ∈ nms) (h2 : 1 ≤ b.2) (h3 : b.2 ≤ 1000000) : evF T (n + 3) n_is_bid none [bidD b] = .ok (.val (.bool true)) none := by
  refine SatF.val ?_
  rw [r_is_bid]
  refine satF_run rfl rfl (by decide) ?_
  simp [i_is_bid, bidD, isiF]
  rw [sat_callE_v (name_ok h1)]
  simp
  rw [sat_callE_v price_ok]
  simp [h2, show b.2 ≤ 1000000 by omega]
def ftrue : Pb.D → Option Pb.D := fun _ => some (.bool true)
theorem true_all : ∀ {ds : List Pb.D}, asBls (ds.filterMap ftrue) = some (List.replicate ds.length true)
  | [] => rfl
  | d :: ds => by
    have ih := true_all (ds := ds)
    simp only [List.filterMap_cons, ftrue, asBls] at ih ⊢
    rw [ih]
    rfl
theorem isbids_ok {n : Nat} {m : Nat} {bs : List (Str × Int)} (h : BidsOk m bs) (hm : m ≤ 30) : evF T (n + 4) n_is_bids none [bidsD bs] = .ok (.val (.bool true)) none := by
  refine SatF.val ?_
  rw [r_is_bids]
  refine satF_run rfl rfl (by decide) ?_
  have hl := h.len
  simp [i_is_bids, bidsD, isiF, show (bs.length : Int) ≤ 30 by omega]
  refine comps_pure ftrue rfl (fun d hd => ?_) ?_
  · simp only [List.mem_map] at hd
    obtain ⟨b, hb, rfl⟩ := hd
    refine ⟨_, by simp; rfl, ?_⟩
    simp
    rw [sat_callE_v (isbid_ok (h.nm b hb) (h.lo b hb) (h.hi b hb))]
    simp [ftrue]
  · simp [true_all, all_rep, -List.filterMap_map]
def fstep (p : Int) : Pb.D → Option Pb.D
  | .tuple [.int b, .int s] => if b ≤ p then some (.int s) else none
  | _ => none
theorem fstep_last {p : Int} : ∀ {tb : List (Int × Int)} {acc : Int}, ((tb.map prD).filterMap (fstep p)).getLast? = if (tb.map prD).filterMap (fstep p) = [] then none else some (.int (tb.foldl (fun acc q => if q.1 ≤ p then p + q.2 else acc) acc - p))
  | [], acc => rfl
  | q :: tb, acc => by
    simp only [List.map_cons, List.filterMap_cons, prD, fstep, List.foldl_cons]
    by_cases h : q.1 ≤ p
    · simp only [h, if_true]
      have ih := fstep_last (p := p) (tb := tb) (acc := p + q.2)
      rw [List.getLast?_cons, ih]
      by_cases e : (tb.map prD).filterMap (fstep p) = []
      · rw [if_pos e]
        simp
        have : ∀ q ∈ tb, ¬ q.1 ≤ p := fun r hr z => by
          rw [List.filterMap_eq_nil_iff] at e
          have := e (prD r) (List.mem_map.mpr ⟨r, hr, rfl⟩)
          simp [prD, fstep, z] at this
        have e2 : ∀ (l : List (Int × Int)) (a : Int), (∀ q ∈ l, ¬ q.1 ≤ p) → l.foldl (fun acc q => if q.1 ≤ p then p + q.2 else acc) a = a := by
          intro l
          induction l with
          | nil => intro a _; rfl
          | cons x l ih =>
            intro a hl
            rw [List.foldl_cons, if_neg (hl x (by simp)), ih a fun q hq => hl q (by simp [hq])]
        rw [e2 tb _ this]
        omega
      · rw [if_neg e]
        simp
    · simp only [h, if_false]
      have ih := fstep_last (p := p) (tb := tb) (acc := acc)
      exact ih
theorem stepat_ok {n : Nat} {start p : Int} {tb : List (Int × Int)} (h : TbOk tb) (hp : 0 ≤ p) : evF T (n + 1) n_step_at none [aucD start tb, .int p] = .ok (.val (.int (nextP tb p - p))) none := by
  refine SatF.val ?_
  rw [r_step_at]
  refine satF_run rfl rfl (by decide) ?_
  simp [i_step_at, aucD, tbD]
  refine comps_pure (fstep p) rfl (fun d hd => ?_) ?_
  · simp only [List.mem_map] at hd
    obtain ⟨q, hq, rfl⟩ := hd
    refine ⟨_, by simp [prD]; rfl, ?_⟩
    simp [prD, fstep]
  · have e := fstep_last (p := p) (tb := tb) (acc := 0)
    obtain ⟨s0, e0⟩ := h.hd
    have ne : (tb.map prD).filterMap (fstep p) ≠ [] := by
      cases tb with
      | nil => cases e0
      | cons q tb =>
        cases e0
        simp [prD, fstep, hp]
    rw [if_neg ne] at e
    simp [e, nextP, -List.filterMap_map]
theorem after_ok {n : Nat} {start p : Int} {tb : List (Int × Int)} (h : TbOk tb) (hp : 0 ≤ p) : evF T (n + 2) n_after none [aucD start tb, .int p] = .ok (.val (.int (nextP tb p))) none := by
  refine SatF.val ?_
  rw [r_after]
  refine satF_run rfl rfl (by decide) ?_
  simp [i_after]
  rw [sat_callE_v (stepat_ok h hp)]
  simp
  omega
end Law

namespace Law
open Pb PySem
/-! ### an auction, bid by bid -/
abbrev St := Option (Str × Int × Int)
def stD : St → Pb.D
  | none => .tuple [.none, .int 0, .none]
  | some (l, t, p) => .tuple [.str l, .int t, .int p]
def arr (start : Int) (tb : List (Int × Int)) (st : St) (b : Str × Int) : Str × St := match st with
  | none => if start ≤ b.2 then ("leads", some (b.1, b.2, start)) else ("refused", none)
  | some (l, t, p) => if b.1 == l then (if t < b.2 then ("extends", some (l, b.2, p)) else ("refused", some (l, t, p)))
    else if b.2 < nextP tb p then ("refused", some (l, t, p))
    else if b.2 ≤ t then ("raises", some (l, t, min t (nextP tb b.2)))
    else ("leads", some (b.1, b.2, min b.2 (nextP tb t)))
def StOk (start : Int) : St → Prop
  | none => True
  | some (_, t, p) => start ≤ p ∧ p ≤ t
theorem arr_ok {start : Int} {tb : List (Int × Int)} {st : St} {b : Str × Int} (hs : 1 ≤ start) (ht : TbOk tb) (h : StOk start st) (hb : 1 ≤ b.2) : StOk start (arr start tb st b).2 := by
  cases st with
  | none =>
    unfold arr
    simp only
    by_cases c : start ≤ b.2
    · rw [if_pos c]
      exact ⟨Int.le_refl _, c⟩
    · rw [if_neg c]
      trivial
  | some z =>
    obtain ⟨l, t, p⟩ := z
    obtain ⟨h1, h2⟩ := h
    have e1 := nextP_bd ht (show 0 ≤ p by omega)
    have e2 := nextP_bd ht (show 0 ≤ b.2 by omega)
    have e3 := nextP_bd ht (show 0 ≤ t by omega)
    unfold arr
    simp only
    split
    · split
      · exact ⟨h1, by omega⟩
      · exact ⟨h1, h2⟩
    · split
      · exact ⟨h1, h2⟩
      · split
        · exact ⟨by omega, by omega⟩
        · exact ⟨by omega, by omega⟩
def rowsF (start : Int) (tb : List (Int × Int)) : St → List (Str × Int) → List (Str × St)
  | _, [] => []
  | st, b :: bs => arr start tb st b :: rowsF start tb (arr start tb st b).2 bs
def finF (start : Int) (tb : List (Int × Int)) : St → List (Str × Int) → St
  | st, [] => st
  | st, b :: bs => finF start tb (arr start tb st b).2 bs
def rowD (r : Str × St) : Pb.D := .tuple [.str r.1, stD r.2]
def ldD : St → Pb.D
  | none => .none
  | some (l, _, _) => .str l
def pcD : St → Pb.D
  | none => .none
  | some (_, _, p) => .int p
def outD (r : Str × St) : Pb.D := .tuple [.str r.1, ldD r.2, pcD r.2]
def ocD : St → Pb.D
  | none => .none
  | some (l, _, p) => .tuple [.str l, .int p]
theorem rowsF_len {start : Int} {tb : List (Int × Int)} : ∀ {bs : List (Str × Int)} {st : St}, (rowsF start tb st bs).length = bs.length
  | [], _ => rfl
  | b :: bs, st => by simp [rowsF, rowsF_len (bs := bs)]
theorem notInn {u : Sl} (h : isOwnB (some u) = false) : isInn (some u) = false := by cases u <;> first | rfl | cases h
end Law

namespace Law
open Pb PySem
theorem arrive_ok {n : Nat} {start : Int} {tb : List (Int × Int)} {st : St} {b : Str × Int} (hs : 1 ≤ start) (ht : TbOk tb) (h : StOk start st) (hb : 1 ≤ b.2) :
    evF T (n + 2) n__law_arrive none [aucD start tb, stD st, bidD b] = .ok (.val (stD (arr start tb st b).2)) none := by
  refine SatF.val ?_
  rw [r__law_arrive]
  refine satF_run rfl rfl (by decide) ?_
  cases st with
  | none =>
    simp [i__law_arrive, stD, bidD, aucD, arr, big]
    by_cases c : start ≤ b.2 <;> simp [c, big, stD]
  | some z =>
    obtain ⟨l, t, p⟩ := z
    obtain ⟨h1, h2⟩ := h
    simp [i__law_arrive, stD, bidD, arr, big]
    by_cases c : b.1 = l
    · by_cases c2 : t < b.2
      · simp [c, c2, big, stD]
        omega
      · simp [c, c2, big, stD]
        omega
    · simp [c]
      rw [sat_callE_v next_ok]
      simp
      by_cases c2 : b.2 < nextP tb p
      · simp [c2, big, stD]
      · simp [c2]
        by_cases c3 : b.2 ≤ t
        · simp [c3, Int.min_eq_right c3, Int.max_eq_left c3]
          rw [sat_callE_v next_ok]
          simp [big, stD]
        · simp [c3, Int.min_eq_left (show t ≤ b.2 by omega), Int.max_eq_right (show t ≤ b.2 by omega)]
          rw [sat_callE_v next_ok]
          simp [big, stD]
end Law

namespace Law
open Pb PySem
theorem final_ok {n m : Nat} {start : Int} {tb : List (Int × Int)} {bs : List (Str × Int)} (hs : 1 ≤ start) (ht : TbOk tb) (hb : BidsOk m bs) :
    evF T (n + 3) n__law_final none [aucD start tb, bidsD bs] = .ok (.val (ocD (finF start tb none bs))) none := by
  refine SatF.val ?_
  rw [r__law_final]
  refine satF_run rfl rfl (by decide) ?_
  simp [i__law_final, bidsD, big]
  refine fors_inv (fun ds env => ∃ (st : St) (rest : List (Str × Int)) (u : Sl), isOwnB (some u) = false ∧ rest.Sublist bs ∧ ds = rest.map bidD ∧ StOk start st ∧
      env = [.val (aucD start tb), .val (.tuple (bs.map bidD)), .val (stD st), u] ∧ finF start tb st rest = finF start tb none bs) ?_ ?_ _ _ ⟨none, bs, .non, rfl, List.Sublist.refl _, rfl, trivial, rfl, rfl⟩
  · rintro d ds env ⟨st, rest, u, hu, hsub, hd, hst, rfl, hr⟩ J hJ
    cases rest with
    | nil => cases hd
    | cons b rest =>
      cases hd
      have hb1 := hb.lo b (hsub.subset (by simp))
      refine ⟨_, by simp [notInn hu]; rfl, ?_⟩
      simp [i__law_final_b1]
      rw [sat_callE_v (arrive_ok hs ht hst hb1)]
      simp
      exact hJ _ ⟨_, rest, _, rfl, (List.sublist_cons_self _ _).trans hsub, rfl, arr_ok hs ht hst hb1, rfl, by rw [← hr]; rfl⟩
  · rintro env ⟨st, rest, u, hu, hsub, hd, hst, rfl, hr⟩
    cases rest with
    | cons b rest => cases hd
    | nil =>
      rw [← hr]
      cases st with
      | none => simp [stD, finF, ocD, i__law_final_t1]
      | some z => simp [stD, finF, ocD, big, i__law_final_t1]
end Law

namespace Law
open Pb PySem
def Gs : RV → Option Ob → Prop := fun r io => ∃ o, r = .fresh o ∧ io = none ∧ Src o
theorem source_ok {n : Nat} {ns : List Int} {k : Int} (hk : 0 ≤ k) : SatF (evF T (n + 1) n__law_source none [.list (ns.map .int), .int k]) Gs := by
  rw [r__law_source]
  refine satF_run rfl rfl (by decide) ?_
  simp [i__law_source]
  obtain ⟨m, rfl⟩ := Int.eq_ofNat_of_zero_le hk
  have fin : ∀ c : Int, 0 ≤ c → Sat (evS (evF T n) (S.seq (.iff (.op2 .lt (.var 2) (.op2 .pow (.con (.int 10)) (.con (.int 18)))) (.ret (.lst (.cons (.con (.int 0)) (.cons (.op2 .add (.con (.int 1)) (.op2 .mod (.op2 .add (.op2 .mul (.var 2) (.con (.int 7919))) (.op2 .mul (.con (.int 104729)) (.var 1))) (.con (.int 2147483646)))) .nil)))) .skip)
      (.ret (.lst (.cons (.var 2) (.cons (.op2 .add (.con (.int 1)) (.op2 .mod (.op2 .add (.var 2) (.var 1)) (.con (.int 2147483646)))) .nil))))) [.val (.list (ns.map .int)), .val (.int m), .val (.int c)]) (isE false Gs) := by
    intro c hc
    have q1 := Int.emod_nonneg (c * 7919 + 104729 * m) (by decide : (2147483646 : Int) ≠ 0)
    have q2 := Int.emod_lt_of_pos (c * 7919 + 104729 * m) (by decide : (0 : Int) < 2147483646)
    have q3 := Int.emod_nonneg (c + m) (by decide : (2147483646 : Int) ≠ 0)
    have q4 := Int.emod_lt_of_pos (c + m) (by decide : (0 : Int) < 2147483646)
    simp
    by_cases h : c < 1000000000000000000
    · simp [h, big]
      exact ⟨_, rfl, rfl, _, _, rfl, by omega, by omega, by omega⟩
    · simp [h, big]
      exact ⟨_, rfl, rfl, _, _, rfl, by omega, by omega, by omega⟩
  simp at fin
  by_cases h : m < ns.length
  · have h2 : (m : Int) < ns.length := by omega
    simp [h, atI_nat]
    refine fin _ ?_
    split <;> omega
  · simp [h]
    have := fin 0 (by decide)
    simpa using this
theorem source_get {n : Nat} {ns : List Int} {k : Int} (hk : 0 ≤ k) : ∃ o, evF T (n + 1) n__law_source none [.list (ns.map .int), .int k] = .ok (.fresh o) none ∧ Src o := by
  obtain ⟨r, io, e, o, h1, h2, h3⟩ := (source_ok (n := n) (ns := ns) hk).get
  exact ⟨o, by rw [e, h1, h2], h3⟩
end Law

namespace Law
open Pb PySem
theorem out_nod {r : Str × St} : nod (outD r) = true := by
  obtain ⟨w, st⟩ := r
  cases st <;> rfl
theorem out_dep {r : Str × St} : (outD r).depth ≤ 1 := by
  obtain ⟨w, st⟩ := r
  cases st <;> simp [outD, ldD, pcD, PyData.depth, PyData.depthAll]
theorem outs_nod {rs : List (Str × St)} : nod (.list (rs.map outD)) = true := nodA_all fun x hx => by
  obtain ⟨r, _, rfl⟩ := List.mem_map.mp hx
  exact out_nod
theorem outs_dep {rs : List (Str × St)} : (PyData.list (rs.map outD)).depth ≤ 64 := by
  unfold PyData.depth
  have := depthAll_le (k := 1) (xs := rs.map outD) fun x hx => by
    obtain ⟨r, _, rfl⟩ := List.mem_map.mp hx
    exact out_dep
  omega
theorem oc_nod {st : St} : nod (ocD st) = true := by cases st <;> rfl
theorem oc_dep {st : St} : (ocD st).depth ≤ 64 := by
  cases st <;> simp [ocD, PyData.depth, PyData.depthAll]
end Law

namespace Law
open Pb PySem
theorem mem_rng {j : Int} {d : Pb.D} (h : d ∈ rngD 0 j) : ∃ k : Int, d = .int k ∧ 0 ≤ k := by
  unfold rngD at h
  obtain ⟨k, _, e⟩ := List.mem_map.mp h
  exact ⟨0 + (k : Int), e.symm, by omega⟩
end Law

namespace Law
open Pb PySem
/-- the next price rises -/
theorem nextP_eq {p : Int} : ∀ (tb : List (Int × Int)) (a : Int), tb.foldl (fun acc q => if q.1 ≤ p then p + q.2 else acc) a = match (tb.filter fun q => decide (q.1 ≤ p)).getLast? with
    | some q => p + q.2
    | none => a
  | [], a => rfl
  | q :: tb, a => by
    rw [List.foldl_cons, nextP_eq tb]
    by_cases h : q.1 ≤ p
    · simp only [h, if_true, List.filter_cons, decide_true, List.getLast?_cons]
      cases h2 : (tb.filter fun q => decide (q.1 ≤ p)).getLast? <;> simp
    · simp [h, List.filter_cons]
theorem nextP_mono {tb : List (Int × Int)} {p q : Int} (h : TbOk tb) (hp : 0 ≤ p) (hpq : p ≤ q) : nextP tb p ≤ nextP tb q := by
  have step : ∀ (tb : List (Int × Int)) (a b : Int), tb.Pairwise (fun x y => x.1 < y.1 ∧ x.2 ≤ y.2) → (∀ r ∈ tb, a ≤ p + r.2 ∨ ¬ r.1 ≤ p) → a ≤ b → (∀ r ∈ tb, a ≤ q + r.2) →
      tb.foldl (fun acc r => if r.1 ≤ p then p + r.2 else acc) a ≤ tb.foldl (fun acc r => if r.1 ≤ q then q + r.2 else acc) b := by
    intro tb
    induction tb with
    | nil => intro a b _ _ h _; exact h
    | cons r tb ih =>
      intro a b hpw h1 hab h2
      rw [List.pairwise_cons] at hpw
      simp only [List.foldl_cons]
      by_cases c : r.1 ≤ p
      · rw [if_pos c, if_pos (show r.1 ≤ q by omega)]
        refine ih _ _ hpw.2 (fun x hx => .inl ?_) (by omega) fun x hx => ?_
        · have := (hpw.1 x hx).2
          omega
        · have := (hpw.1 x hx).2
          omega
      · rw [if_neg c]
        have h2r := h2 r (by simp)
        refine ih _ _ hpw.2 (fun x hx => h1 x (by simp [hx])) ?_ fun x hx => h2 x (by simp [hx])
        split
        · exact h2r
        · exact hab
  refine step tb 0 0 h.pw (fun r hr => .inl ?_) (Int.le_refl _) fun r hr => ?_
  · have := h.rng r hr
    omega
  · have := h.rng r hr
    omega
theorem nextP_strict {tb : List (Int × Int)} {p q : Int} (h : TbOk tb) (hp : 0 ≤ p) (hpq : p < q) : nextP tb p < nextP tb q := by
  have step : ∀ (tb : List (Int × Int)) (a b : Int), tb.Pairwise (fun x y => x.1 < y.1 ∧ x.2 ≤ y.2) → (∀ r ∈ tb, a ≤ p + r.2) → a - p ≤ b - q → (∀ r ∈ tb, b ≤ q + r.2) →
      tb.foldl (fun acc r => if r.1 ≤ p then p + r.2 else acc) a - p ≤ tb.foldl (fun acc r => if r.1 ≤ q then q + r.2 else acc) b - q := by
    intro tb
    induction tb with
    | nil => intro a b _ _ h _; exact h
    | cons r tb ih =>
      intro a b hpw h1 hab h2
      rw [List.pairwise_cons] at hpw
      simp only [List.foldl_cons]
      have h1r := h1 r (by simp)
      by_cases c : r.1 ≤ p
      · rw [if_pos c, if_pos (show r.1 ≤ q by omega)]
        refine ih _ _ hpw.2 (fun x hx => ?_) (by omega) fun x hx => ?_
        · have := (hpw.1 x hx).2
          omega
        · have := (hpw.1 x hx).2
          omega
      · rw [if_neg c]
        by_cases c2 : r.1 ≤ q
        · rw [if_pos c2]
          refine ih _ _ hpw.2 (fun x hx => h1 x (by simp [hx])) (by omega) fun x hx => ?_
          have := (hpw.1 x hx).2
          omega
        · rw [if_neg c2]
          exact ih _ _ hpw.2 (fun x hx => h1 x (by simp [hx])) hab fun x hx => h2 x (by simp [hx])
  obtain ⟨s, e⟩ := h.hd
  cases tb with
  | nil => cases e
  | cons r tb =>
    cases e
    unfold nextP
    simp only [List.foldl_cons]
    rw [if_pos hp, if_pos (show (0 : Int) ≤ q by omega)]
    have hpw := h.pw
    rw [List.pairwise_cons] at hpw
    have := step tb (p + s) (q + s) hpw.2 (fun x hx => by have := (hpw.1 x hx).2; omega) (by omega) (fun x hx => by have := (hpw.1 x hx).2; omega)
    omega
end Law

namespace Law
open Pb PySem
/-! all outcomes of a field: the plain theorem -/
def PairOk (start : Int) (tb : List (Int × Int)) (t u : Int) : Prop := u ≤ t ∧ (nextP tb start ≤ u ∨ (start ≤ u ∧ u < t ∧ nextP tb start ≤ t))
def KeyA (start : Int) (tb : List (Int × Int)) (field : List (Str × Int)) (w : Str) (p : Int) : Prop := ∃ t, (w, t) ∈ field ∧ start ≤ t ∧ p = start ∧ ∀ c ∈ field, c.1 ≠ w → c.2 < nextP tb p
def KeyB (start : Int) (tb : List (Int × Int)) (field : List (Str × Int)) (w : Str) (p : Int) : Prop := ∃ (t : Int) (b : Str × Int), (w, t) ∈ field ∧ b ∈ field ∧ b.1 ≠ w ∧ PairOk start tb t b.2 ∧ p = min t (nextP tb b.2) ∧ ∀ c ∈ field, c.1 ≠ w → c.1 ≠ b.1 → c.2 < nextP tb p
def KeyOf (start : Int) (tb : List (Int × Int)) (field : List (Str × Int)) (w : Str) (p : Int) : Prop := KeyA start tb field w p ∨ KeyB start tb field w p
/-- what the rows so far say of the state, when nobody bids twice -/
def Once (start : Int) (tb : List (Int × Int)) (pre : List (Str × Int)) : St → Prop
  | none => ∀ c ∈ pre, c.2 < start
  | some (l, t, p) => (l, t) ∈ pre ∧ start ≤ p ∧ p ≤ t ∧ (∀ c ∈ pre, c.1 ≠ l → c.2 < nextP tb p) ∧ (p = start ∨ ∃ b ∈ pre, b.1 ≠ l ∧ PairOk start tb t b.2 ∧ p = min t (nextP tb b.2))
theorem once_step {start : Int} {tb : List (Int × Int)} {pre : List (Str × Int)} {st : St} {b : Str × Int} (hs : 1 ≤ start) (ht : TbOk tb) (hb : 1 ≤ b.2) (hu : ∀ x ∈ pre, ∀ y ∈ pre, x.1 = y.1 → x = y) (hn : ∀ c ∈ pre, c.1 ≠ b.1) (h : Once start tb pre st) : Once start tb (pre ++ [b]) (arr start tb st b).2 := by
  have hm : ∀ {x : Str × Int}, x ∈ pre ++ [b] → x ∈ pre ∨ x = b := fun {x} hx => by
    rcases List.mem_append.mp hx with h | h
    · exact .inl h
    · exact .inr (by simpa using h)
  have hin : ∀ {x : Str × Int}, x ∈ pre → x ∈ pre ++ [b] := fun h => List.mem_append_left _ h
  have hbin : b ∈ pre ++ [b] := by simp
  cases st with
  | none =>
    unfold arr
    simp only
    by_cases c : start ≤ b.2
    · rw [if_pos c]
      have e := nextP_bd ht (show 0 ≤ start by omega)
      refine ⟨hbin, Int.le_refl _, c, fun x hx ne => ?_, .inl rfl⟩
      rcases hm hx with hx | rfl
      · have := h x hx
        omega
      · exact absurd rfl ne
    · rw [if_neg c]
      intro x hx
      rcases hm hx with hx | rfl
      · exact h x hx
      · omega
  | some z =>
    obtain ⟨l, t, p⟩ := z
    obtain ⟨top, lo, pt, oth, up⟩ := h
    have e1 := nextP_bd ht (show 0 ≤ p by omega)
    have e2 := nextP_bd ht (show 0 ≤ b.2 by omega)
    have e3 := nextP_bd ht (show 0 ≤ t by omega)
    have e4 := nextP_mono ht (show 0 ≤ start by omega) lo
    have hne : b.1 ≠ l := fun z => hn _ top z.symm
    unfold arr
    simp only
    rw [if_neg (by simpa using hne)]
    by_cases c1 : b.2 < nextP tb p
    · rw [if_pos c1]
      refine ⟨hin top, lo, pt, fun x hx ne => ?_, ?_⟩
      · rcases hm hx with hx | rfl
        · exact oth x hx ne
        · exact c1
      · rcases up with h | ⟨x, hx, h⟩
        · exact .inl h
        · exact .inr ⟨x, hin hx, h⟩
    · rw [if_neg c1]
      by_cases c2 : b.2 ≤ t
      · rw [if_pos c2]
        have q : p ≤ min t (nextP tb b.2) := by omega
        have m1 := nextP_mono ht (show 0 ≤ p by omega) q
        have m2 := nextP_bd ht (show 0 ≤ min t (nextP tb b.2) by omega)
        refine ⟨hin top, by omega, by omega, fun x hx ne => ?_, .inr ⟨b, hbin, hne, ⟨c2, .inl (by omega)⟩, rfl⟩⟩
        rcases hm hx with hx | rfl
        · have := oth x hx ne
          omega
        · by_cases c4 : t ≤ nextP tb x.2
          · rw [Int.min_eq_left c4]; omega
          · rw [Int.min_eq_right (by omega)] at m2 ⊢; omega
      · rw [if_neg c2]
        have q : p ≤ min b.2 (nextP tb t) := by omega
        have m1 := nextP_mono ht (show 0 ≤ p by omega) q
        have m2 := nextP_bd ht (show 0 ≤ min b.2 (nextP tb t) by omega)
        have htn : t < nextP tb (min b.2 (nextP tb t)) := by
          by_cases c4 : b.2 ≤ nextP tb t
          · rw [Int.min_eq_left c4] at m2 ⊢; omega
          · rw [Int.min_eq_right (by omega)] at m2 ⊢; omega
        refine ⟨hbin, by omega, by omega, fun x hx ne => ?_, .inr ⟨(l, t), hin top, fun z => hne z.symm, ⟨by show t ≤ b.2; omega, ?_⟩, rfl⟩⟩
        · rcases hm hx with hx | rfl
          · by_cases c5 : x.1 = l
            · have := hu x hx _ top c5
              subst this
              exact htn
            · have := oth x hx c5
              omega
          · exact absurd rfl ne
        · show nextP tb start ≤ t ∨ (start ≤ t ∧ t < b.2 ∧ nextP tb start ≤ b.2)
          by_cases c6 : nextP tb start ≤ t
          · exact .inl c6
          · exact .inr ⟨by omega, by omega, by omega⟩
theorem uniq_of {l : List (Str × Int)} (h : (l.map (·.1)).Nodup) : ∀ x ∈ l, ∀ y ∈ l, x.1 = y.1 → x = y := by
  induction l with
  | nil => intro x hx; cases hx
  | cons a l ih =>
    rw [List.map_cons, List.nodup_cons] at h
    intro x hx y hy e
    rcases List.mem_cons.mp hx with h1 | h1
    · rcases List.mem_cons.mp hy with h2 | h2
      · rw [h1, h2]
      · rw [h1] at e
        exact absurd (show a.1 ∈ l.map (·.1) from List.mem_map.mpr ⟨y, h2, e.symm⟩) h.1
    · rcases List.mem_cons.mp hy with h2 | h2
      · rw [h2] at e
        exact absurd (show a.1 ∈ l.map (·.1) from List.mem_map.mpr ⟨x, h1, e⟩) h.1
      · exact ih h.2 x h1 y h2 e
theorem once_all {start : Int} {tb : List (Int × Int)} (hs : 1 ≤ start) (ht : TbOk tb) : ∀ (rest pre : List (Str × Int)) (st : St), (∀ b ∈ pre ++ rest, 1 ≤ b.2) → ((pre ++ rest).map (·.1)).Nodup → Once start tb pre st → Once start tb (pre ++ rest) (finF start tb st rest)
  | [], pre, st, _, _, h => by simpa [finF] using h
  | b :: rest, pre, st, hb, hn, h => by
    have hn1 : (pre.map (·.1)).Nodup := by
      rw [List.map_append] at hn
      exact (List.nodup_append.mp hn).1
    have hn2 : ∀ c ∈ pre, c.1 ≠ b.1 := fun c hc e => by
      rw [List.map_append] at hn
      exact (List.nodup_append.mp hn).2.2 c.1 (List.mem_map_of_mem hc) b.1 (by simp) e
    have e := once_step hs ht (hb b (by simp)) (uniq_of hn1) hn2 h
    have := once_all hs ht rest (pre ++ [b]) _ (by simpa using hb) (by simpa using hn) e
    simpa [finF] using this
theorem once_fin {start : Int} {tb : List (Int × Int)} {bs : List (Str × Int)} (hs : 1 ≤ start) (ht : TbOk tb) (hb : ∀ b ∈ bs, 1 ≤ b.2) (hn : (bs.map (·.1)).Nodup) : Once start tb bs (finF start tb none bs) := by
  have := once_all hs ht bs [] none (by simpa using hb) (by simpa using hn) (fun b hb => nomatch hb)
  simpa using this
/-- an outcome of an order is one of the pairs -/
theorem out_key {start : Int} {tb : List (Int × Int)} {field order : List (Str × Int)} (hs : 1 ≤ start) (ht : TbOk tb) (hb : ∀ b ∈ field, 1 ≤ b.2) (hn : (field.map (·.1)).Nodup) (hp : order.Perm field) {l : Str} {t p : Int} (e : finF start tb none order = some (l, t, p)) : KeyOf start tb field l p := by
  have h := once_fin (bs := order) hs ht (fun b hm => hb b (hp.mem_iff.mp hm)) ((hp.map _).nodup_iff.mpr hn)
  rw [e] at h
  obtain ⟨top, lo, pt, oth, up⟩ := h
  have top := hp.mem_iff.mp top
  have oth : ∀ c ∈ field, c.1 ≠ l → c.2 < nextP tb p := fun c hc => oth c (hp.mem_iff.mpr hc)
  rcases up with rfl | ⟨b, hbm, hne, hpo, rfl⟩
  · exact .inl ⟨t, top, pt, rfl, oth⟩
  · exact .inr ⟨t, b, top, hp.mem_iff.mp hbm, hne, hpo, rfl, fun c hc h1 _ => oth c hc h1⟩
theorem none_iff {start : Int} {tb : List (Int × Int)} {field order : List (Str × Int)} (hs : 1 ≤ start) (ht : TbOk tb) (hb : ∀ b ∈ field, 1 ≤ b.2) (hn : (field.map (·.1)).Nodup) (hp : order.Perm field) : finF start tb none order = none ↔ ∀ c ∈ field, c.2 < start := by
  have h := once_fin (bs := order) hs ht (fun b hm => hb b (hp.mem_iff.mp hm)) ((hp.map _).nodup_iff.mpr hn)
  constructor
  · intro e
    rw [e] at h
    exact fun c hc => h c (hp.mem_iff.mpr hc)
  · intro hc
    cases e : finF start tb none order with
    | none => rfl
    | some z =>
      obtain ⟨l, t, p⟩ := z
      rw [e] at h
      have h1 := hc _ (hp.mem_iff.mp h.1)
      have h2 := h.2.1
      have h3 := h.2.2.1
      simp only at h1
      omega
/-- refused bids -/
theorem fin_ref {start : Int} {tb : List (Int × Int)} {l : Str} {t p : Int} : ∀ {rest : List (Str × Int)}, (∀ c ∈ rest, c.1 ≠ l ∧ c.2 < nextP tb p) → finF start tb (some (l, t, p)) rest = some (l, t, p)
  | [], _ => rfl
  | c :: rest, h => by
    have hc := h c (by simp)
    have e : (arr start tb (some (l, t, p)) c).2 = some (l, t, p) := by
      unfold arr
      simp only
      rw [if_neg (by simpa using hc.1), if_pos hc.2]
    show finF start tb (arr start tb (some (l, t, p)) c).2 rest = _
    rw [e]
    exact fin_ref fun d hd => h d (by simp [hd])
/-- the order that shows a pair: its names first, then the others -/
theorem key_outA {start : Int} {tb : List (Int × Int)} {w : Str} {t : Int} {rest : List (Str × Int)} (h1 : start ≤ t) (h2 : ∀ c ∈ rest, c.1 ≠ w ∧ c.2 < nextP tb start) : finF start tb none ((w, t) :: rest) = some (w, t, start) := by
  have e : (arr start tb none (w, t)).2 = some (w, t, start) := by
    unfold arr
    simp only
    rw [if_pos h1]
  show finF start tb (arr start tb none (w, t)).2 rest = _
  rw [e]
  exact fin_ref h2
theorem key_outB1 {start : Int} {tb : List (Int × Int)} {w : Str} {t : Int} {b : Str × Int} {rest : List (Str × Int)} (hs : 1 ≤ start) (ht : TbOk tb) (hne : b.1 ≠ w) (hle : b.2 ≤ t) (h0 : nextP tb start ≤ b.2) (h2 : ∀ c ∈ rest, c.1 ≠ w ∧ c.2 < nextP tb (min t (nextP tb b.2))) :
    finF start tb none ((w, t) :: b :: rest) = some (w, t, min t (nextP tb b.2)) := by
  have e0 := nextP_bd ht (show 0 ≤ start by omega)
  have e : (arr start tb none (w, t)).2 = some (w, t, start) := by
    unfold arr
    simp only
    rw [if_pos (by omega)]
  have e2 : (arr start tb (some (w, t, start)) b).2 = some (w, t, min t (nextP tb b.2)) := by
    unfold arr
    simp only
    rw [if_neg (by simpa using hne), if_neg (by omega), if_pos hle]
  show finF start tb (arr start tb (arr start tb none (w, t)).2 b).2 rest = _
  rw [e, e2]
  exact fin_ref h2
theorem key_outB2 {start : Int} {tb : List (Int × Int)} {w : Str} {t : Int} {b : Str × Int} {rest : List (Str × Int)} (hne : b.1 ≠ w) (h0 : start ≤ b.2) (h1 : b.2 < t) (h3 : nextP tb start ≤ t) (h2 : ∀ c ∈ rest, c.1 ≠ w ∧ c.2 < nextP tb (min t (nextP tb b.2))) :
    finF start tb none (b :: (w, t) :: rest) = some (w, t, min t (nextP tb b.2)) := by
  have e : (arr start tb none b).2 = some (b.1, b.2, start) := by
    unfold arr
    simp only
    rw [if_pos h0]
  have e2 : (arr start tb (some (b.1, b.2, start)) (w, t)).2 = some (w, t, min t (nextP tb b.2)) := by
    unfold arr
    simp only
    rw [if_neg (by simpa using fun z => hne z.symm), if_neg (by omega), if_neg (by omega)]
  show finF start tb (arr start tb (arr start tb none b).2 (w, t)).2 rest = _
  rw [e, e2]
  exact fin_ref h2
theorem erase_ne {field : List (Str × Int)} (hn : (field.map (·.1)).Nodup) {a : Str × Int} (ha : a ∈ field) : ∀ c ∈ field.erase a, c ∈ field ∧ c.1 ≠ a.1 := fun c hc => by
  have hnd : field.Nodup := List.Pairwise.of_map (·.1) (fun x y h e => h (by rw [e])) hn
  have h := hnd.mem_erase_iff.mp hc
  exact ⟨h.2, fun e => h.1 (uniq_of hn c h.2 a ha e)⟩
theorem key_out {start : Int} {tb : List (Int × Int)} {field : List (Str × Int)} {w : Str} {p : Int} (hs : 1 ≤ start) (ht : TbOk tb) (hn : (field.map (·.1)).Nodup) (h : KeyOf start tb field w p) : ∃ order t, order.Perm field ∧ (w, t) ∈ field ∧ finF start tb none order = some (w, t, p) := by
  rcases h with ⟨t, hw, h1, rfl, h2⟩ | ⟨t, b, hw, hb, hne, ⟨hle, hor⟩, rfl, h2⟩
  · refine ⟨(w, t) :: field.erase (w, t), t, (List.perm_cons_erase hw).symm, hw, key_outA h1 fun c hc => ?_⟩
    obtain ⟨a1, a2⟩ := erase_ne hn hw c hc
    exact ⟨a2, h2 c a1 a2⟩
  · have hb2 : b ∈ field.erase (w, t) := (List.mem_erase_of_ne (fun e => hne (by rw [e]))).mpr hb
    have hp : ((w, t) :: b :: (field.erase (w, t)).erase b).Perm field := ((List.perm_cons_erase hb2).symm.cons _).trans (List.perm_cons_erase hw).symm
    have hn2 : ((field.erase (w, t)).map (·.1)).Nodup := hn.sublist ((List.erase_sublist).map _)
    have hrest : ∀ c ∈ (field.erase (w, t)).erase b, c.1 ≠ w ∧ c.2 < nextP tb (min t (nextP tb b.2)) := fun c hc => by
      obtain ⟨a1, a2⟩ := erase_ne hn2 hb2 c hc
      obtain ⟨a3, a4⟩ := erase_ne hn hw c a1
      exact ⟨a4, h2 c a3 a4 a2⟩
    rcases hor with h0 | ⟨h0, h1, h3⟩
    · exact ⟨_, t, hp, hw, key_outB1 hs ht hne hle h0 hrest⟩
    · exact ⟨_, t, (List.Perm.swap _ _ _).trans hp, hw, key_outB2 hne h0 h1 h3 hrest⟩
end Law

namespace Law
open Pb PySem
/-! ### dicts in plain words -/
section
variable {κ : Type} [DecidableEq κ] {α : Type}
def getM : List (κ × α) → κ → Option α
  | [], _ => none
  | q :: r, k => if q.1 = k then some q.2 else getM r k
def setM (k : κ) (v : α) (q : κ × α) : κ × α := if q.1 = k then (q.1, v) else q
def putM (m : List (κ × α)) (k : κ) (v : α) : List (κ × α) := if (getM m k).isSome then m.map (setM k v) else m ++ [(k, v)]
theorem getM_mem : ∀ {m : List (κ × α)} {k : κ}, (getM m k).isSome = true ↔ k ∈ m.map (·.1)
  | [], k => by simp [getM]
  | q :: r, k => by
    unfold getM
    by_cases h : q.1 = k
    · simp [h]
    · rw [if_neg h, getM_mem (m := r)]
      simp [Ne.symm h]
theorem getM_in : ∀ {m : List (κ × α)} {k : κ} {v : α}, getM m k = some v → (k, v) ∈ m
  | [], k, v, h => by cases h
  | q :: r, k, v, h => by
    unfold getM at h
    by_cases e : q.1 = k
    · rw [if_pos e] at h
      cases h
      rw [← e]
      exact List.mem_cons_self
    · rw [if_neg e] at h
      exact List.mem_cons_of_mem _ (getM_in h)
theorem setM_keys {k : κ} {v : α} {m : List (κ × α)} : (m.map (setM k v)).map (·.1) = m.map (·.1) := by
  rw [List.map_map]
  refine List.map_congr_left fun q _ => ?_
  show (setM k v q).1 = q.1
  unfold setM
  split <;> rfl
theorem putM_mem {m : List (κ × α)} {k x : κ} {v : α} : x ∈ (putM m k v).map (·.1) ↔ x = k ∨ x ∈ m.map (·.1) := by
  unfold putM
  split
  · rename_i h
    rw [setM_keys]
    have := getM_mem.mp h
    constructor
    · exact .inr
    · rintro (rfl | h)
      · exact this
      · exact h
  · rw [List.map_append, List.mem_append]
    simp [or_comm]
theorem putM_nd {m : List (κ × α)} {k : κ} {v : α} (h : (m.map (·.1)).Nodup) : ((putM m k v).map (·.1)).Nodup := by
  unfold putM
  split
  · rw [setM_keys]
    exact h
  · rename_i hn
    have hn : k ∉ m.map (·.1) := fun z => hn (getM_mem.mpr z)
    rw [List.map_append, List.nodup_append]
    refine ⟨h, by simp, fun a ha b hb e => ?_⟩
    simp at hb
    subst e
    rw [hb] at ha
    exact hn ha
theorem putM_len {m : List (κ × α)} {k : κ} {v : α} : (putM m k v).length ≤ m.length + 1 := by
  unfold putM
  split
  · rw [List.length_map]; omega
  · rw [List.length_append]; exact Nat.le_refl _
theorem getM_app {k x : κ} {v : α} : ∀ {m : List (κ × α)}, getM (m ++ [(k, v)]) x = if (getM m x).isSome then getM m x else if k = x then some v else none
  | [] => by simp [getM]
  | q :: r => by
    rw [List.cons_append]
    unfold getM
    by_cases h : q.1 = x
    · simp [h]
    · rw [if_neg h, if_neg h]
      exact getM_app
theorem getM_set {k x : κ} {v : α} : ∀ {m : List (κ × α)}, getM (m.map (setM k v)) x = if x = k ∧ (getM m x).isSome then some v else getM m x
  | [] => by simp [getM]
  | q :: r => by
    rw [List.map_cons]
    have e1 : (setM k v q).1 = q.1 := by unfold setM; split <;> rfl
    unfold getM
    rw [e1]
    by_cases h : q.1 = x
    · rw [if_pos h, if_pos h]
      unfold setM
      by_cases h2 : q.1 = k
      · simp [h2, show x = k by rw [← h, h2]]
      · simp [h2, show ¬ x = k by rw [← h]; exact h2]
    · rw [if_neg h, if_neg h]
      exact getM_set
theorem getM_put {m : List (κ × α)} {k x : κ} {v : α} : getM (putM m k v) x = if x = k then some v else getM m x := by
  unfold putM
  split
  · rename_i hs
    rw [getM_set]
    by_cases h : x = k
    · subst h
      rw [if_pos ⟨rfl, hs⟩, if_pos rfl]
    · rw [if_neg (fun z => h z.1), if_neg h]
  · rename_i hs
    rw [getM_app]
    by_cases h : x = k
    · subst h
      rw [if_neg hs, if_pos rfl, if_pos rfl]
    · rw [if_neg h, if_neg (fun z => h (Eq.symm z))]
      cases hg : getM m x with
      | none => rfl
      | some y => rfl
def foldM (m : List (κ × α)) (ps : List (κ × α)) : List (κ × α) := ps.foldl (fun m q => putM m q.1 q.2) m
theorem foldM_cons {m : List (κ × α)} {q : κ × α} {ps : List (κ × α)} : foldM m (q :: ps) = foldM (putM m q.1 q.2) ps := rfl
theorem foldM_mem {x : κ} : ∀ {ps m : List (κ × α)}, x ∈ (foldM m ps).map (·.1) ↔ x ∈ m.map (·.1) ∨ x ∈ ps.map (·.1)
  | [], m => by simp [foldM]
  | q :: ps, m => by
    rw [foldM_cons, foldM_mem (ps := ps), putM_mem, List.map_cons, List.mem_cons]
    constructor
    · rintro ((h | h) | h)
      · exact .inr (.inl h)
      · exact .inl h
      · exact .inr (.inr h)
    · rintro (h | h | h)
      · exact .inl (.inr h)
      · exact .inl (.inl h)
      · exact .inr h
theorem foldM_nd : ∀ {ps m : List (κ × α)}, (m.map (·.1)).Nodup → ((foldM m ps).map (·.1)).Nodup
  | [], _, h => h
  | q :: ps, _, h => foldM_nd (ps := ps) (putM_nd h)
theorem foldM_len : ∀ {ps m : List (κ × α)}, (foldM m ps).length ≤ m.length + ps.length
  | [], m => Nat.le_refl _
  | q :: ps, m => by
    have := foldM_len (ps := ps) (m := putM m q.1 q.2)
    have := putM_len (m := m) (k := q.1) (v := q.2)
    rw [foldM_cons, List.length_cons]
    omega
theorem foldM_get {k : κ} {v : α} : ∀ {ps m : List (κ × α)}, getM (foldM m ps) k = some v → getM m k = some v ∨ (k, v) ∈ ps
  | [], m, h => .inl h
  | q :: ps, m, h => by
    rw [foldM_cons] at h
    rcases foldM_get (ps := ps) h with h | h
    · rw [getM_put] at h
      split at h
      · rename_i e
        cases h
        subst e
        exact .inr List.mem_cons_self
      · exact .inl h
    · exact .inr (List.mem_cons_of_mem _ h)
/-- keys as data -/
structure Enc (κ : Type) where
  enc : κ → Pb.D
  nk : κ → NK
  ok : ∀ k, keyD (enc k) = some (nk k)
  inj : ∀ a b, nk a = nk b → a = b
theorem keyD_nk {d : Pb.D} {k : NK} (h : keyD d = some k) : nkD d = some k := by
  unfold keyD at h
  split at h
  · split at h
    · rename_i e _
      cases h
      exact e
    · cases h
  · cases h
def dM (e : Enc κ) (f : α → Pb.D) (m : List (κ × α)) : List (Pb.D × Pb.D) := m.map fun q => (e.enc q.1, f q.2)
theorem dM_at {e : Enc κ} {f : α → Pb.D} {k : κ} : ∀ {m : List (κ × α)}, dcAt (dM e f m) (e.nk k) = (getM m k).map f
  | [] => rfl
  | q :: r => by
    show dcAt ((e.enc q.1, f q.2) :: dM e f r) (e.nk k) = _
    unfold dcAt getM
    rw [keyD_nk (e.ok q.1)]
    by_cases h : q.1 = k
    · simp [h]
    · have : ¬ (some (e.nk q.1) = some (e.nk k)) := fun z => h (e.inj _ _ (Option.some.inj z))
      rw [if_neg this, if_neg h]
      exact dM_at
theorem dM_set {e : Enc κ} {f : α → Pb.D} {k : κ} {v : α} {m : List (κ × α)} : (dM e f m).map (dcSet (e.nk k) (f v)) = dM e f (m.map (setM k v)) := by
  unfold dM
  rw [List.map_map, List.map_map]
  refine List.map_congr_left fun q _ => ?_
  show dcSet (e.nk k) (f v) (e.enc q.1, f q.2) = (e.enc (setM k v q).1, f (setM k v q).2)
  unfold dcSet setM
  rw [keyD_nk (e.ok q.1)]
  by_cases h : q.1 = k
  · simp [h]
  · have : ¬ (some (e.nk q.1) = some (e.nk k)) := fun z => h (e.inj _ _ (Option.some.inj z))
    rw [if_neg this, if_neg h]
theorem dM_put {e : Enc κ} {f : α → Pb.D} {k : κ} {v : α} {m : List (κ × α)} : dcPut (dM e f m) (e.nk k) (e.enc k) (f v) = dM e f (putM m k v) := by
  unfold dcPut putM
  rw [dM_at, Option.isSome_map, dM_set]
  split
  · rfl
  · simp [dM]
theorem dM_len {e : Enc κ} {f : α → Pb.D} {m : List (κ × α)} : (dM e f m).length = m.length := by simp [dM]
theorem dM_keys {e : Enc κ} {f : α → Pb.D} {m : List (κ × α)} : (dM e f m).map (·.1) = (m.map (·.1)).map e.enc := by simp [dM]
theorem dM_isSome {e : Enc κ} {f : α → Pb.D} {k : κ} {m : List (κ × α)} : (dcAt (dM e f m) (e.nk k)).isSome = decide (k ∈ m.map (·.1)) := by
  rw [dM_at, Option.isSome_map]
  by_cases h : k ∈ m.map (·.1)
  · simp only [h, decide_true]
    exact getM_mem.mpr h
  · simp only [h, decide_false]
    cases hg : (getM m k).isSome with
    | false => rfl
    | true => exact absurd (getM_mem.mp hg) h
end
/-- outcomes, and None -/
def prS (a : Str × Int) : Pb.D := .tuple [.str a.1, .int a.2]
def nkS (a : Str × Int) : NK := .tup [.text a.1, .num a.2]
def eS : Enc (Str × Int) := ⟨prS, nkS, fun _ => keyD_si, fun a b h => by
  obtain ⟨a1, a2⟩ := a
  obtain ⟨b1, b2⟩ := b
  simp [nkS] at h
  simp [h.1, h.2]⟩
def prO : Option (Str × Int) → Pb.D
  | none => .none
  | some a => prS a
def nkO : Option (Str × Int) → NK
  | none => .none
  | some a => nkS a
def eO : Enc (Option (Str × Int)) := ⟨prO, nkO, fun k => by cases k with | none => rfl | some a => exact keyD_si, fun a b h => by
  cases a with
  | none => cases b with
    | none => rfl
    | some b => cases h
  | some a => cases b with
    | none => cases h
    | some b => rw [eS.inj a b h]⟩
/-! the order of outcomes -/
theorem cps_inj {a b : Str} (h : a.cps.toList = b.cps.toList) : a = b := by
  cases a; cases b; simp at h; rw [h]
theorem ltS (a b : Str × Int) : PySem.W.dataLt (prS a) (prS b) = decide (a.1.cps.toList < b.1.cps.toList ∨ (a.1 = b.1 ∧ a.2 < b.2)) := by
  unfold prS
  rw [PySem.W.dataLt_pair rfl rfl, PySem.W.dataLt_int, PySem.W.dataLt_str]
  have e1 : PyData.eqv (.str a.1) (.str b.1) = (a.1 == b.1) := by simp [PyData.eqv]
  have e2 : PyData.eqv (.int a.2) (.int b.2) = (a.2 == b.2) := by simp [PyData.eqv]
  by_cases h : a.1 = b.1
  · have hb : PyData.eqv (.str a.1) (.str b.1) = true := by rw [e1, h]; exact beq_self_eq_true _
    rw [if_pos hb]
    have hirr : ¬ a.1.cps.toList < b.1.cps.toList := by rw [h]; exact List.lt_irrefl _
    by_cases h2 : a.2 = b.2
    · rw [if_pos (by rw [e2, h2]; exact beq_self_eq_true _)]
      simp [h2, hirr]
    · rw [if_neg (by rw [e2]; simpa using h2)]
      simp [h, List.lt_irrefl]
  · rw [if_neg (by rw [e1]; simpa using h)]
    simp [h]
def leS (a b : Str × Int) : Bool := PySem.W.dataLe false prS a b
theorem leS_eq (a b : Str × Int) : leS a b = !decide (b.1.cps.toList < a.1.cps.toList ∨ (b.1 = a.1 ∧ b.2 < a.2)) := by
  unfold leS
  rw [PySem.W.dataLe_eq]
  show (!PySem.W.dataLt (prS b) (prS a)) = _
  rw [ltS]
theorem leS_iff {a b : Str × Int} : leS a b = true ↔ a.1.cps.toList < b.1.cps.toList ∨ (a.1 = b.1 ∧ a.2 ≤ b.2) := by
  rw [leS_eq]
  simp only [Bool.not_eq_true', decide_eq_false_iff_not, not_or, not_and]
  constructor
  · rintro ⟨h1, h2⟩
    by_cases h : a.1.cps.toList < b.1.cps.toList
    · exact .inl h
    · have e : a.1 = b.1 := cps_inj (List.le_antisymm (List.not_lt.mp h1) (List.not_lt.mp h))
      exact .inr ⟨e, by have := h2 e.symm; omega⟩
  · rintro (h | ⟨h1, h2⟩)
    · refine ⟨fun z => List.lt_irrefl _ (List.lt_trans h z), fun e => ?_⟩
      rw [e] at h
      exact absurd h (List.lt_irrefl _)
    · rw [h1]
      exact ⟨List.lt_irrefl _, fun _ => by omega⟩
theorem leS_trans (a b c : Str × Int) (h : leS a b = true) (g : leS b c = true) : leS a c = true := by
  rw [leS_iff] at h g ⊢
  rcases h with h | ⟨h1, h2⟩ <;> rcases g with g | ⟨g1, g2⟩
  · exact .inl (List.lt_trans h g)
  · exact .inl (by rw [← g1]; exact h)
  · exact .inl (by rw [h1]; exact g)
  · exact .inr ⟨h1.trans g1, by omega⟩
theorem leS_total (a b : Str × Int) : (leS a b || leS b a) = true := by
  rw [Bool.or_eq_true, leS_iff, leS_iff]
  by_cases h : a.1.cps.toList < b.1.cps.toList
  · exact .inl (.inl h)
  · by_cases h2 : b.1.cps.toList < a.1.cps.toList
    · exact .inr (.inl h2)
    · have e : a.1 = b.1 := cps_inj (List.le_antisymm (List.not_lt.mp h2) (List.not_lt.mp h))
      by_cases h3 : a.2 ≤ b.2
      · exact .inl (.inr ⟨e, h3⟩)
      · exact .inr (.inr ⟨e.symm, by omega⟩)
theorem leS_anti {a b : Str × Int} (h : leS a b = true) (g : leS b a = true) : a = b := by
  rw [leS_iff] at h g
  obtain ⟨a1, a2⟩ := a
  obtain ⟨b1, b2⟩ := b
  rcases h with h | ⟨h1, h2⟩ <;> rcases g with g | ⟨g1, g2⟩
  · exact absurd (List.lt_trans h g) (List.lt_irrefl _)
  · rw [show b1 = a1 from g1] at h
    exact absurd h (List.lt_irrefl _)
  · rw [show a1 = b1 from h1] at g
    exact absurd g (List.lt_irrefl _)
  · simp only at h1 h2 g2
    rw [h1, show a2 = b2 by omega]
def srtS (l : List (Str × Int)) : List (Str × Int) := l.mergeSort leS
theorem srtS_pw (l : List (Str × Int)) : (srtS l).Pairwise fun a b => leS a b = true := List.pairwise_mergeSort leS_trans leS_total l
theorem srtS_mem {l : List (Str × Int)} {x : Str × Int} : x ∈ srtS l ↔ x ∈ l := (List.mergeSort_perm l leS).mem_iff
theorem srtS_nd {l : List (Str × Int)} (h : l.Nodup) : (srtS l).Nodup := (List.mergeSort_perm l leS).nodup_iff.mpr h
theorem srtS_len {l : List (Str × Int)} : (srtS l).length = l.length := (List.mergeSort_perm l leS).length_eq
/-- lists of the same outcomes, each once, are sorted alike -/
theorem srtS_eq {k l : List (Str × Int)} (hk : k.Nodup) (hl : l.Nodup) (h : ∀ x, x ∈ k ↔ x ∈ l) : srtS k = srtS l :=
  List.Perm.eq_of_pairwise (le := fun a b => leS a b = true) (fun _ _ _ _ => leS_anti) (srtS_pw k) (srtS_pw l) ((List.mergeSort_perm k leS).trans (((List.perm_ext_iff_of_nodup hk hl).mpr h).trans (List.mergeSort_perm l leS).symm))
theorem srtS_id {l : List (Str × Int)} (h : l.Pairwise fun a b => leS a b = true) : srtS l = l := List.mergeSort_of_pairwise h
theorem depthAll_prS : ∀ {l : List (Str × Int)}, PyData.depthAll (l.map prS) ≤ 60
  | [] => by simp [PyData.depthAll]
  | a :: l => by
    have := depthAll_prS (l := l)
    simp [PyData.depthAll, prS, PyData.depth]
    omega
theorem fSrtS {l : List (Str × Int)} (h : l.length ≤ 4000) : fSrtD (.list (l.map prS)) = some (.nlst ((srtS l).map prS)) := by
  have h1 : alikeB (l.map prS) = true := by
    unfold alikeB
    rw [List.all_eq_true]
    intro x hx
    rw [List.all_eq_true]
    intro y hy
    obtain ⟨a, _, rfl⟩ := List.mem_map.mp hx
    obtain ⟨b, _, rfl⟩ := List.mem_map.mp hy
    rfl
  have h2 : ((l.map prS).all tupB || (l.map prS).all notTupB) = true := by
    rw [Bool.or_eq_true]
    left
    rw [List.all_eq_true]
    intro x hx
    obtain ⟨a, _, rfl⟩ := List.mem_map.mp hx
    rfl
  show (if _ then _ else _) = _
  rw [if_pos ⟨h1, h2, depthAll_prS, by rw [List.length_map]; exact h⟩]
  unfold srtS
  rw [List.map_mergeSort (r := leS) (s := PySem.W.dataLe false id) (f := prS) (l := l) (fun a _ b _ => rfl)]
end Law

namespace Law
open Pb PySem
/-! ### beginnings, all outcomes -/
def nsD (ns : List Str) : Pb.D := .tuple (ns.map .str)
theorem inD_strs {x : Str} : ∀ {ns : List Str}, inD (.str x) (ns.map .str) = ns.contains x
  | [] => rfl
  | y :: ns => by
    have ih := inD_strs (x := x) (ns := ns)
    unfold inD at ih ⊢
    rw [List.map_cons, List.any_cons, ih, List.contains_cons]
    have : PyData.eqv (.str y) (.str x) = (x == y) := by
      simp only [PyData.eqv]
      exact Bool.beq_comm
    rw [this]
theorem fIn_strs {neg : Bool} {x : Str} {ns : List Str} : fIn neg (.str x) (nsD ns) = some (.dat (.bool (if neg then !ns.contains x else ns.contains x))) := by
  have h : flatD (.str x) ∧ (ns.map PyData.str).all flatD := ⟨rfl, by rw [List.all_eq_true]; intro d hd; obtain ⟨y, _, rfl⟩ := List.mem_map.mp hd; rfl⟩
  show (if flatD (.str x) ∧ (ns.map PyData.str).all flatD then _ else none) = _
  rw [if_pos h, inD_strs]
  rfl
def fbel (ns : List Str) (p : Int) : Pb.D → Option Pb.D
  | .tuple [.str x, .int v] => if ns.contains x then none else some (.bool (decide (v < p)))
  | _ => none
def below (field : List (Str × Int)) (ns : List Str) (p : Int) : Bool := field.all fun c => ns.contains c.1 || decide (c.2 < p)
theorem bel_all {ns : List Str} {p : Int} : ∀ {field : List (Str × Int)}, ∃ bs, asBls ((field.map bidD).filterMap (fbel ns p)) = some bs ∧ bs.all id = below field ns p
  | [] => ⟨[], rfl, rfl⟩
  | c :: field => by
    obtain ⟨bs, h1, h2⟩ := bel_all (ns := ns) (p := p) (field := field)
    simp only [List.map_cons, List.filterMap_cons, bidD, fbel] at h1 ⊢
    by_cases h : ns.contains c.1 = true
    · rw [if_pos h]
      exact ⟨bs, h1, by rw [h2]; unfold below; rw [List.all_cons, h]; rfl⟩
    · rw [if_neg h]
      refine ⟨decide (c.2 < p) :: bs, by simp only [asBls]; rw [h1]; rfl, ?_⟩
      unfold below at h2 ⊢
      rw [List.all_cons, List.all_cons, h2]
      simp at h
      simp [h]
theorem below_ok {n : Nat} {field : List (Str × Int)} {ns : List Str} {p : Int} : evF T (n + 1) n_others_below none [bidsD field, nsD ns, .int p] = .ok (.val (.bool (below field ns p))) none := by
  refine SatF.val ?_
  rw [r_others_below]
  refine satF_run rfl rfl (by decide) ?_
  simp [i_others_below, bidsD]
  refine comps_pure (fbel ns p) rfl (fun d hd => ?_) ?_
  · obtain ⟨c, hc, rfl⟩ := List.mem_map.mp hd
    refine ⟨_, by simp [bidD]; rfl, ?_⟩
    simp [bidD, fbel, fIn_strs]
    try (by_cases h : c.1 ∈ ns <;> simp [h])
  · obtain ⟨bs, h1, h2⟩ := bel_all (field := field) (ns := ns) (p := p)
    simp [h1, h2, -List.filterMap_map]
def two (start : Int) (tb : List (Int × Int)) (w l : Str × Int) : Option (List Str) :=
  if w.2 < l.2 then none else if nextP tb start ≤ l.2 then some [w.1, l.1] else if start ≤ l.2 ∧ l.2 < w.2 ∧ nextP tb start ≤ w.2 then some [l.1, w.1] else none
def oNs : Option (List Str) → Pb.D
  | none => .none
  | some ns => nsD ns
theorem two_ok {n : Nat} {start : Int} {tb : List (Int × Int)} {w l : Str × Int} (hs : 1 ≤ start) (ht : TbOk tb) : evF T (n + 3) n_first_two none [aucD start tb, bidD w, bidD l] = .ok (.val (oNs (two start tb w l))) none := by
  refine SatF.val ?_
  rw [r_first_two]
  refine satF_run rfl rfl (by decide) ?_
  simp [i_first_two, aucD, bidD, two]
  have e := after_ok (n := n) (start := start) (p := start) ht (by omega)
  unfold aucD at e
  by_cases h1 : w.2 < l.2
  · simp [h1, oNs]
  · simp [h1]
    rw [sat_callE_v e]
    simp
    by_cases h2 : nextP tb start ≤ l.2
    · simp [h2, oNs, nsD, big]
    · simp [h2]
      by_cases h3 : start ≤ l.2
      · simp [h3]
        by_cases h4 : l.2 < w.2
        · simp [h4]
          rw [sat_callE_v e]
          simp
          by_cases h5 : nextP tb start ≤ w.2
          · simp [h5, oNs, nsD, big]
          · simp [h5, oNs]
        · simp [h4, oNs]
      · simp [h3, oNs]
/-- what is put for a winner: alone, and beside a loser -/
abbrev Put := (Str × Int) × List Str
def putA (start : Int) (tb : List (Int × Int)) (field : List (Str × Int)) (w : Str × Int) : List Put :=
  if start ≤ w.2 ∧ below field [w.1] (nextP tb start) = true then [((w.1, start), [w.1])] else []
def putB (start : Int) (tb : List (Int × Int)) (field : List (Str × Int)) (w l : Str × Int) : Option Put :=
  if l.1 = w.1 then none else match two start tb w l with
    | none => none
    | some ns => if below field ns (nextP tb (min w.2 (nextP tb l.2))) = true then some ((w.1, min w.2 (nextP tb l.2)), ns) else none
def putsW (start : Int) (tb : List (Int × Int)) (field : List (Str × Int)) (w : Str × Int) : List Put := putA start tb field w ++ field.filterMap (putB start tb field w)
def puts (start : Int) (tb : List (Int × Int)) (field : List (Str × Int)) : List Put := field.flatMap (putsW start tb field)
def begM (start : Int) (tb : List (Int × Int)) (field : List (Str × Int)) : List Put := foldM [] (puts start tb field)
abbrev begD (m : List Put) : List (Pb.D × Pb.D) := dM eS nsD m
theorem puts_len {start : Int} {tb : List (Int × Int)} {field ws : List (Str × Int)} : (ws.flatMap (putsW start tb field)).length ≤ ws.length * (1 + field.length) := by
  induction ws with
  | nil => simp
  | cons w ws ih =>
    rw [List.flatMap_cons, List.length_append, List.length_cons, Nat.succ_mul]
    have h1 : (putA start tb field w).length ≤ 1 := by unfold putA; split <;> simp
    have h2 : (field.filterMap (putB start tb field w)).length ≤ field.length := List.length_filterMap_le _ _
    have h3 : (putsW start tb field w).length = (putA start tb field w).length + (field.filterMap (putB start tb field w)).length := by unfold putsW; rw [List.length_append]
    omega
theorem beg_ok {n : Nat} {start : Int} {tb : List (Int × Int)} {field : List (Str × Int)} (hs : 1 ≤ start) (ht : TbOk tb) (hb : ∀ b ∈ field, 1 ≤ b.2) (hl : field.length ≤ 9) :
    evF T (n + 4) n_beginnings none [aucD start tb, bidsD field] = .ok (.fresh (.dct (begD (begM start tb field)))) none := by
  obtain ⟨r, io, e, h1, h2⟩ : ∃ r io, evF T (n + 4) n_beginnings none [aucD start tb, bidsD field] = .ok r io ∧ r = .fresh (.dct (begD (begM start tb field))) ∧ io = none := by
    refine SatF.get ?_
    rw [r_beginnings]
    refine satF_run rfl rfl (by decide) ?_
    have epl := puts_len (start := start) (tb := tb) (field := field) (ws := field)
    have ep2 : field.length * (1 + field.length) ≤ 9 * 10 := Nat.mul_le_mul hl (by omega)
    simp [i_beginnings, bidsD, show aucD start tb = .tuple [.int start, tbD tb] from rfl]
    refine fors_inv (fun ds env => ∃ (m : List Put) (rest : List (Str × Int)) (a4 a5 a6 a7 : Sl), isOwnB (some a4) = false ∧ isOwnB (some a5) = false ∧ isOwnB (some a6) = false ∧ isOwnB (some a7) = false ∧ rest.Sublist field ∧ ds = rest.map bidD ∧
        foldM m (rest.flatMap (putsW start tb field)) = begM start tb field ∧ m.length + (rest.flatMap (putsW start tb field)).length ≤ 100 ∧
        env = [.val (aucD start tb), .val (.tuple (field.map bidD)), .own (.dct (begD m)), .val (.int start), a4, a5, a6, a7]) ?_ ?_ _ _ ⟨[], field, .non, .non, .non, .non, rfl, rfl, rfl, rfl, List.Sublist.refl _, rfl, rfl, by simp only [List.length_nil]; omega, rfl⟩
    · rintro d ds env ⟨m, rest, a4, a5, a6, a7, h4, h5, h6, h7, hsub, hd, hm, hz, rfl⟩ J hJ
      cases rest with
      | nil => cases hd
      | cons w rest =>
        cases hd
        have hw := hb w (hsub.subset (by simp))
        rw [List.flatMap_cons] at hm hz
        refine ⟨_, by simp [notInn h4]; rfl, ?_⟩
        have inner : ∀ (m1 : List Put) (Q : Pb.Flow × En → Prop), foldM m1 (field.filterMap (putB start tb field w) ++ rest.flatMap (putsW start tb field)) = begM start tb field → m1.length + (field.filterMap (putB start tb field w) ++ rest.flatMap (putsW start tb field)).length ≤ 100 →
            Sat (forS (evF T (n + 3)) (.nm 5) i_beginnings_b1 (field.map bidD) [.val (aucD start tb), .val (.tuple (field.map bidD)), .own (.dct (begD m1)), .val (.int start), .val (bidD w), a5, a6, a7]) (isL J Q) := by
          intro m1 Q hm1 hz1
          refine fors_inv (fun ds env => ∃ (m : List Put) (ls : List (Str × Int)) (a5 a6 a7 : Sl), isOwnB (some a5) = false ∧ isOwnB (some a6) = false ∧ isOwnB (some a7) = false ∧ ls.Sublist field ∧ ds = ls.map bidD ∧
            foldM m (ls.filterMap (putB start tb field w) ++ rest.flatMap (putsW start tb field)) = begM start tb field ∧ m.length + (ls.filterMap (putB start tb field w) ++ rest.flatMap (putsW start tb field)).length ≤ 100 ∧
            env = [.val (aucD start tb), .val (.tuple (field.map bidD)), .own (.dct (begD m)), .val (.int start), .val (bidD w), a5, a6, a7]) ?_ ?_ _ _ ⟨m1, field, a5, a6, a7, h5, h6, h7, List.Sublist.refl _, rfl, hm1, hz1, rfl⟩
          · rintro d ds env ⟨m, ls, a5, a6, a7, h5, h6, h7, hsub2, hd, hm, hz, rfl⟩ J hJ
            cases ls with
            | nil => cases hd
            | cons l ls =>
              cases hd
              have hl1 := hb l (hsub2.subset (by simp))
              rw [List.filterMap_cons] at hm hz
              refine ⟨_, by simp [notInn h5]; rfl, ?_⟩
              simp [i_beginnings_b1, bidD]
              by_cases c : l.1 = w.1
              · have hp : putB start tb field w l = none := by unfold putB; rw [if_pos c]
                rw [hp] at hm hz
                simp [c, notInn h6]
                exact hJ _ ⟨m, ls, _, _, _, rfl, rfl, h7, (List.sublist_cons_self _ _).trans hsub2, rfl, hm, hz, rfl⟩
              · simp [c]
                have e2 := two_ok (n := n) (w := w) (l := l) hs ht
                unfold bidD at e2
                rw [sat_callE_v e2]
                cases h2 : two start tb w l with
                | none =>
                  have hp : putB start tb field w l = none := by unfold putB; rw [if_neg c, h2]
                  rw [hp] at hm hz
                  simp [oNs, notInn h6]
                  exact hJ _ ⟨m, ls, _, _, _, rfl, rfl, h7, (List.sublist_cons_self _ _).trans hsub2, rfl, hm, hz, rfl⟩
                | some ns =>
                  simp [oNs, nsD, notInn h6]
                  rw [sat_callE_v (after_ok ht (show 0 ≤ l.2 by omega))]
                  simp [notInn h7]
                  have e1 := nextP_bd ht (show 0 ≤ l.2 by omega)
                  rw [sat_callE_v (after_ok ht (show 0 ≤ min w.2 (nextP tb l.2) by omega))]
                  simp
                  have e3 := below_ok (n := n + 2) (field := field) (ns := ns) (p := nextP tb (min w.2 (nextP tb l.2)))
                  unfold bidsD nsD at e3
                  rw [sat_callE_v e3]
                  simp
                  by_cases c2 : below field ns (nextP tb (min w.2 (nextP tb l.2))) = true
                  · have hp : putB start tb field w l = some ((w.1, min w.2 (nextP tb l.2)), ns) := by unfold putB; rw [if_neg c, h2]; simp only [c2, if_true]
                    rw [hp] at hm hz
                    simp at hz
                    simp [c2, big, dM_len, show m.length < 9000 by omega]
                    refine hJ _ ⟨putM m (w.1, min w.2 (nextP tb l.2)) ns, ls, .val (bidD l), .val (nsD ns), .val (.int (min w.2 (nextP tb l.2))), rfl, rfl, rfl, (List.sublist_cons_self _ _).trans hsub2, rfl, hm, ?_, ?_⟩
                    · have := putM_len (m := m) (k := (w.1, min w.2 (nextP tb l.2))) (v := ns)
                      simp
                      omega
                    · have := dM_put (e := eS) (f := nsD) (k := (w.1, min w.2 (nextP tb l.2))) (v := ns) (m := m)
                      rw [show begD (putM m (w.1, min w.2 (nextP tb l.2)) ns) = _ from this.symm]
                      rfl
                  · have hp : putB start tb field w l = none := by unfold putB; rw [if_neg c, h2]; simp only [c2]; rfl
                    rw [hp] at hm hz
                    simp [c2]
                    exact hJ _ ⟨m, ls, _, _, _, rfl, rfl, rfl, (List.sublist_cons_self _ _).trans hsub2, rfl, hm, hz, rfl⟩
          · rintro env ⟨m, ls, a5, a6, a7, h5, h6, h7, hsub2, hd, hm, hz, rfl⟩
            cases ls with
            | cons b ls => cases hd
            | nil => exact hJ _ ⟨m, rest, _, _, _, _, rfl, h5, h6, h7, (List.sublist_cons_self _ _).trans hsub, rfl, by simpa using hm, by simpa using hz, rfl⟩
        simp [i_beginnings_b2, bidD]
        rw [show putsW start tb field w = putA start tb field w ++ field.filterMap (putB start tb field w) from rfl] at hm hz
        by_cases c : start ≤ w.2
        · simp [c]
          rw [sat_callE_v (after_ok ht (show 0 ≤ start by omega))]
          have e3 := below_ok (n := n + 2) (field := field) (ns := [w.1]) (p := nextP tb start)
          unfold bidsD nsD at e3
          simp [big]
          simp at e3
          rw [sat_callE_v e3]
          simp
          by_cases c2 : below field [w.1] (nextP tb start) = true
          · have hp : putA start tb field w = [((w.1, start), [w.1])] := by unfold putA; rw [if_pos ⟨c, c2⟩]
            rw [hp] at hm hz
            simp at hz
            simp [c2, big, dM_len, show m.length < 9000 by omega]
            have q := fun Q => inner (putM m (w.1, start) [w.1]) Q (by simpa [foldM_cons] using hm) (by
              have := putM_len (m := m) (k := (w.1, start)) (v := [w.1])
              simp
              omega)
            have e4 := dM_put (e := eS) (f := nsD) (k := (w.1, start)) (v := [w.1]) (m := m)
            rw [show begD (putM m (w.1, start) [w.1]) = _ from e4.symm] at q
            exact q _
          · have hp : putA start tb field w = [] := by unfold putA; rw [if_neg (fun z => c2 z.2)]
            rw [hp] at hm hz
            simp [c2]
            exact inner m _ (by simpa using hm) (by simpa using hz)
        · have hp : putA start tb field w = [] := by unfold putA; rw [if_neg (fun z => c z.1)]
          rw [hp] at hm hz
          simp [c]
          exact inner m _ (by simpa using hm) (by simpa using hz)
    · rintro env ⟨m, rest, a4, a5, a6, a7, h4, h5, h6, h7, hsub, hd, hm, hz, rfl⟩
      cases rest with
      | cons b rest => cases hd
      | nil =>
        have hm : m = begM start tb field := hm
        simp [i_beginnings_t1, hm]
  rw [e, h1, h2]
end Law

namespace Law
open Pb PySem
/-! what the puts are -/
theorem below_iff {field : List (Str × Int)} {ns : List Str} {p : Int} : below field ns p = true ↔ ∀ c ∈ field, c.1 ∉ ns → c.2 < p := by
  unfold below
  rw [List.all_eq_true]
  constructor
  · intro h c hc hn
    have := h c hc
    simp [hn] at this
    exact this
  · intro h c hc
    by_cases hn : c.1 ∈ ns
    · simp [hn]
    · simp [hn, h c hc hn]
/-- the names of a put: the order that shows it -/
inductive Shows (start : Int) (tb : List (Int × Int)) (field : List (Str × Int)) : Str → Int → List Str → Prop
  | one {w : Str} {t : Int} : (w, t) ∈ field → start ≤ t → (∀ c ∈ field, c.1 ≠ w → c.2 < nextP tb start) → Shows start tb field w start [w]
  | fst {w : Str} {t : Int} {b : Str × Int} : (w, t) ∈ field → b ∈ field → b.1 ≠ w → b.2 ≤ t → nextP tb start ≤ b.2 → (∀ c ∈ field, c.1 ≠ w → c.1 ≠ b.1 → c.2 < nextP tb (min t (nextP tb b.2))) → Shows start tb field w (min t (nextP tb b.2)) [w, b.1]
  | snd {w : Str} {t : Int} {b : Str × Int} : (w, t) ∈ field → b ∈ field → b.1 ≠ w → start ≤ b.2 → b.2 < t → nextP tb start ≤ t → b.2 < nextP tb start → (∀ c ∈ field, c.1 ≠ w → c.1 ≠ b.1 → c.2 < nextP tb (min t (nextP tb b.2))) → Shows start tb field w (min t (nextP tb b.2)) [b.1, w]
theorem puts_mem {start : Int} {tb : List (Int × Int)} {field : List (Str × Int)} {q : Put} : q ∈ puts start tb field ↔ (∃ w ∈ field, q ∈ putA start tb field w) ∨ ∃ w ∈ field, ∃ l ∈ field, putB start tb field w l = some q := by
  unfold puts
  rw [List.mem_flatMap]
  constructor
  · rintro ⟨w, hw, h⟩
    rcases List.mem_append.mp h with h | h
    · exact .inl ⟨w, hw, h⟩
    · obtain ⟨l, hl, e⟩ := List.mem_filterMap.mp h
      exact .inr ⟨w, hw, l, hl, e⟩
  · rintro (⟨w, hw, h⟩ | ⟨w, hw, l, hl, e⟩)
    · exact ⟨w, hw, List.mem_append_left _ h⟩
    · exact ⟨w, hw, List.mem_append_right _ (List.mem_filterMap.mpr ⟨l, hl, e⟩)⟩
theorem puts_shows {start : Int} {tb : List (Int × Int)} {field : List (Str × Int)} {q : Put} (h : q ∈ puts start tb field) : Shows start tb field q.1.1 q.1.2 q.2 := by
  rcases puts_mem.mp h with ⟨w, hw, h⟩ | ⟨w, hw, l, hl, e⟩
  · unfold putA at h
    split at h
    · rename_i c
      have h := List.mem_singleton.mp h
      subst h
      exact .one (t := w.2) hw c.1 fun c2 h2 h3 => below_iff.mp c.2 c2 h2 (by simpa using h3)
    · cases h
  · unfold putB at e
    split at e
    · cases e
    · rename_i c
      cases h2 : two start tb w l with
      | none => rw [h2] at e; cases e
      | some ns =>
        rw [h2] at e
        simp only at e
        split at e
        · rename_i c2
          cases e
          unfold two at h2
          split at h2
          · cases h2
          · rename_i c3
            split at h2
            · rename_i c4
              cases h2
              exact .fst (t := w.2) (b := l) hw hl c (by omega) c4 fun x hx h1 h2 => below_iff.mp c2 x hx (by simpa using ⟨h1, h2⟩)
            · rename_i c4
              split at h2
              · rename_i c5
                cases h2
                exact .snd (t := w.2) (b := l) hw hl c c5.1 c5.2.1 c5.2.2 (by omega) fun x hx h1 h2 => below_iff.mp c2 x hx (by simpa using ⟨h2, h1⟩)
              · cases h2
        · cases e
theorem puts_keys {start : Int} {tb : List (Int × Int)} {field : List (Str × Int)} {w : Str} {p : Int} : (w, p) ∈ (puts start tb field).map (·.1) ↔ KeyOf start tb field w p := by
  constructor
  · intro h
    obtain ⟨q, hq, e⟩ := List.mem_map.mp h
    obtain ⟨⟨w', p'⟩, ns⟩ := q
    cases e
    have hs : Shows start tb field w p ns := puts_shows hq
    cases hs with
    | one h1 h2 h3 => exact .inl ⟨_, h1, h2, rfl, h3⟩
    | fst h1 h2 h3 h4 h5 h6 => exact .inr ⟨_, _, h1, h2, h3, ⟨h4, .inl h5⟩, rfl, h6⟩
    | snd h1 h2 h3 h4 h5 h6 h7 h8 => exact .inr ⟨_, _, h1, h2, h3, ⟨by omega, .inr ⟨h4, h5, h6⟩⟩, rfl, h8⟩
  · rintro (⟨t, h1, h2, rfl, h3⟩ | ⟨t, b, h1, h2, h3, ⟨h4, h5⟩, rfl, h6⟩)
    · refine List.mem_map.mpr ⟨((w, p), [w]), puts_mem.mpr (.inl ⟨(w, t), h1, ?_⟩), rfl⟩
      unfold putA
      rw [if_pos ⟨h2, below_iff.mpr fun c hc hn => h3 c hc (by simpa using hn)⟩]
      exact List.mem_singleton.mpr rfl
    · have key : ∀ ns, two start tb (w, t) b = some ns → (∀ c, c ∉ ns → c ≠ w ∧ c ≠ b.1) → (w, min t (nextP tb b.2)) ∈ (puts start tb field).map (·.1) := fun ns h7 h8 => by
        refine List.mem_map.mpr ⟨((w, min t (nextP tb b.2)), ns), puts_mem.mpr (.inr ⟨(w, t), h1, b, h2, ?_⟩), rfl⟩
        unfold putB
        rw [if_neg h3, h7]
        simp only
        rw [if_pos (below_iff.mpr fun c hc hn => h6 c hc (h8 _ hn).1 (h8 _ hn).2)]
      by_cases c : nextP tb start ≤ b.2
      · refine key [w, b.1] ?_ fun c hc => by simpa using hc
        unfold two
        rw [if_neg (by show ¬ t < b.2; omega), if_pos c]
      · rcases h5 with h5 | h5
        · exact absurd h5 c
        · refine key [b.1, w] ?_ fun c hc => ?_
          · unfold two
            rw [if_neg (by show ¬ t < b.2; omega), if_neg c, if_pos h5]
          · have : ¬ c = b.1 ∧ ¬ c = w := by simpa using hc
            exact ⟨this.2, this.1⟩
/-- all outcomes, in order -/
def keysM (start : Int) (tb : List (Int × Int)) (field : List (Str × Int)) : List (Str × Int) := (begM start tb field).map (·.1)
theorem keysM_mem {start : Int} {tb : List (Int × Int)} {field : List (Str × Int)} {a : Str × Int} : a ∈ keysM start tb field ↔ KeyOf start tb field a.1 a.2 := by
  unfold keysM begM
  rw [foldM_mem, puts_keys.symm]
  simp
theorem keysM_nd {start : Int} {tb : List (Int × Int)} {field : List (Str × Int)} : (keysM start tb field).Nodup := foldM_nd (m := []) (by simp)
theorem keysM_len {start : Int} {tb : List (Int × Int)} {field : List (Str × Int)} (hl : field.length ≤ 9) : (keysM start tb field).length ≤ 90 := by
  unfold keysM begM
  rw [List.length_map]
  have h1 := foldM_len (m := []) (ps := puts start tb field)
  have h2 := puts_len (start := start) (tb := tb) (field := field) (ws := field)
  have h3 : field.length * (1 + field.length) ≤ 9 * 10 := Nat.mul_le_mul hl (by omega)
  unfold puts at *
  simp only [List.length_nil] at h1
  omega
def outs (start : Int) (tb : List (Int × Int)) (field : List (Str × Int)) : List (Str × Int) := srtS (keysM start tb field)
theorem outs_mem {start : Int} {tb : List (Int × Int)} {field : List (Str × Int)} {a : Str × Int} : a ∈ outs start tb field ↔ KeyOf start tb field a.1 a.2 := by
  unfold outs
  rw [srtS_mem, keysM_mem]
theorem outs_nd {start : Int} {tb : List (Int × Int)} {field : List (Str × Int)} : (outs start tb field).Nodup := srtS_nd keysM_nd
theorem outs_len {start : Int} {tb : List (Int × Int)} {field : List (Str × Int)} (hl : field.length ≤ 9) : (outs start tb field).length ≤ 90 := by
  unfold outs
  rw [srtS_len]
  exact keysM_len hl
theorem allout_ok {n : Nat} {start : Int} {tb : List (Int × Int)} {field : List (Str × Int)} (hs : 1 ≤ start) (ht : TbOk tb) (hb : ∀ b ∈ field, 1 ≤ b.2) (hl : field.length ≤ 9) :
    evF T (n + 5) n_all_outcomes none [aucD start tb, bidsD field] = .ok (.fresh (.lst ((outs start tb field).map prS))) none := by
  obtain ⟨r, io, e, h1, h2⟩ : ∃ r io, evF T (n + 5) n_all_outcomes none [aucD start tb, bidsD field] = .ok r io ∧ r = .fresh (.lst ((outs start tb field).map prS)) ∧ io = none := by
    refine SatF.get ?_
    rw [r_all_outcomes]
    refine satF_run rfl rfl (by decide) ?_
    simp [i_all_outcomes]
    rw [sat_callE_f (beg_ok hs ht hb hl)]
    have hk : (begD (begM start tb field)).map (·.1) = (keysM start tb field).map prS := dM_keys
    simp only [kDSrt_eq, dcRd_fresh, kDs_eq]
    rw [hk, fSrtS (by have := keysM_len (start := start) (tb := tb) hl; omega)]
    simp [outs]
  rw [e, h1, h2]
end Law

namespace Law
open Pb PySem
/-! ### fields -/
structure FieldOk (fs : List (Str × Int)) : Prop where
  ne : 1 ≤ fs.length
  len : fs.length ≤ 8
  nm : ∀ b ∈ fs, b.1 ∈ nms
  lo : ∀ b ∈ fs, 1 ≤ b.2
  hi : ∀ b ∈ fs, b.2 ≤ 1000000
  asc : (fs.map (·.1)).Pairwise fun a b => sLt a b = true
theorem FieldOk.bids {fs : List (Str × Int)} (h : FieldOk fs) : BidsOk 8 fs := ⟨h.len, h.nm, h.lo, h.hi⟩
theorem sLt_ne {a b : Str} (h : sLt a b = true) : a ≠ b := fun e => by
  subst e
  unfold sLt at h
  exact List.lt_irrefl _ (of_decide_eq_true h)
theorem FieldOk.nd {fs : List (Str × Int)} (h : FieldOk fs) : (fs.map (·.1)).Nodup := h.asc.imp fun h => sLt_ne h
def fascS : Pb.D → Option Pb.D
  | .tuple [.str a, .str b] => some (.bool (sLt a b))
  | _ => none
theorem ascS_all : ∀ {xs : List Str}, xs.Pairwise (fun a b => sLt a b = true) → asBls ((zipD (xs.map PyData.str) ((xs.map PyData.str).drop 1)).filterMap fascS) = some (List.replicate (xs.length - 1) true)
  | [], _ => rfl
  | [a], _ => rfl
  | a :: b :: xs, h => by
    have ih := ascS_all (List.pairwise_cons.mp h).2
    have hab := (List.pairwise_cons.mp h).1 b (by simp)
    simp only [List.map_cons, List.drop_succ_cons, List.drop_zero, zipD, List.filterMap_cons, fascS] at ih ⊢
    simp only [hab, asBls]
    rw [ih]
    simp [List.replicate_succ]
theorem ascS_ok {n : Nat} {xs : List Str} (h : xs.Pairwise fun a b => sLt a b = true) : evF T (n + 1) n_is_ascending none [.list (xs.map .str)] = .ok (.val (.bool true)) none := by
  refine SatF.val ?_
  rw [r_is_ascending]
  refine satF_run rfl rfl (by decide) ?_
  simp [i_is_ascending]
  refine comps_pure fascS rfl (fun d hd => ?_) ?_
  · obtain ⟨a, b, rfl, ha, hb⟩ := mem_zip (P := fun _ => True) hd
    have hb := List.mem_of_mem_tail hb
    simp only [List.mem_map] at ha hb
    obtain ⟨i, _, rfl⟩ := ha
    obtain ⟨j, _, rfl⟩ := hb
    refine ⟨_, by simp; rfl, ?_⟩
    simp [fascS]
  · have := ascS_all h
    simp at this
    simp [this, all_rep]
def fnm1 : Pb.D → Option Pb.D
  | .tuple [d, _] => some d
  | _ => none
theorem fnm1_all {fs : List (Str × Int)} : (fs.map bidD).filterMap fnm1 = (fs.map (·.1)).map .str := by
  induction fs with
  | nil => rfl
  | cons b fs ih =>
    rw [List.map_cons, List.filterMap_cons, ih]
    rfl
theorem isfield_ok {n : Nat} {fs : List (Str × Int)} (h : FieldOk fs) : evF T (n + 5) n_is_field none [bidsD fs] = .ok (.val (.bool true)) none := by
  refine SatF.val ?_
  rw [r_is_field]
  refine satF_run rfl rfl (by decide) ?_
  have h1 := h.ne
  have h2 := h.len
  simp [i_is_field]
  rw [sat_callE_v (isbids_ok h.bids (by decide))]
  simp [bidsD, show (1 : Int) ≤ fs.length by omega, show (fs.length : Int) ≤ 8 by omega]
  refine comps_pure fnm1 rfl (fun d hd => ?_) ?_
  · obtain ⟨b, _, rfl⟩ := List.mem_map.mp hd
    refine ⟨_, by simp [bidD]; rfl, ?_⟩
    simp [bidD, fnm1]
  · rw [fnm1_all]
    simp [-List.map_map]
    rw [sat_callE_v (ascS_ok h.asc)]
    simp
theorem needfield_ok {n : Nat} {fs : List (Str × Int)} (h : FieldOk fs) : evF T (n + 6) n_need_field none [bidsD fs] = .ok (.val .none) none := by
  refine SatF.val ?_
  rw [r_need_field]
  refine satF_run rfl rfl (by decide) ?_
  simp [i_need_field]
  rw [sat_callE_v (isfield_ok h)]
  simp
/-! random fields -/
theorem compL_acc {cl : Cl} {tg : Tg} {elt : E} {vs : List Nat} (I : List Pb.D → List Pb.D → En → Prop)
    (h : ∀ acc d ds env, I acc (d :: ds) env → ∀ J : Pb.D × En → Prop, (∀ y e, I (acc ++ [y]) ds (wipeE e vs) → J (y, e)) → ∃ e, asgT tg d env = some e ∧ Sat (evE cl elt e) (isF J)) : ∀ (ds acc : List Pb.D) (env : En), I acc ds env →
    ∃ r e, compL (fun d e => mayB (asgT tg d e) fun e => tst (evE cl (.con (.bool true)) e)) (fun e => fz (evE cl elt e)) vs ds env = .ok (r, e) ∧ I (acc ++ r) [] e
  | [], acc, env, hi => ⟨[], env, rfl, by simpa using hi⟩
  | d :: ds, acc, env, hi => by
    obtain ⟨e, he, hs⟩ := h acc d ds env hi (fun z => I (acc ++ [z.1]) ds (wipeE z.2 vs)) fun y e h2 => h2
    rw [← sat_fz] at hs
    obtain ⟨⟨y, e2⟩, hy, hi2⟩ := hs.get
    obtain ⟨r, e3, h1, h2⟩ := compL_acc I h ds _ _ hi2
    refine ⟨y :: r, e3, ?_, by simpa using h2⟩
    unfold compL
    have : (mayB (asgT tg d env) fun e => tst (evE cl (.con (.bool true)) e)) = .ok (true, e) := by
      rw [he]
      simp [mayB, tst, evE]
    rw [this]
    simp only [hy, h1]
theorem comps_acc {cl : Cl} {tg : Tg} {elt : E} {vs : List Nat} {ds : List Pb.D} {env : En} {Q : RV × En → Prop} (I : List Pb.D → List Pb.D → En → Prop) (h0 : (vs.any fun v => isOwnB env[v]?) = false)
    (h : ∀ acc d ds env, I acc (d :: ds) env → ∀ J : Pb.D × En → Prop, (∀ y e, I (acc ++ [y]) ds (wipeE e vs) → J (y, e)) → ∃ e, asgT tg d env = some e ∧ Sat (evE cl elt e) (isF J)) (hi : I [] ds (wipeE env vs))
    (q : ∀ r e, I r [] e → Q (.fresh (.lst r), backE e env vs)) : Sat (compS cl elt tg (.con (.bool true)) vs ds env) Q := by
  obtain ⟨r, e, h1, h4⟩ := compL_acc I h ds [] _ hi
  unfold compS
  rw [runComp_1 h0]
  unfold runComp1
  rw [h0, if_neg (by simp), h1]
  exact sat_ok.mpr (q r e (by simpa using h4))
theorem base_asc : base.Pairwise fun a b => sLt a b = true := by
  have : (base.Pairwise fun a b => sLt a b = true) = true := by
    have h : decide (base.Pairwise fun a b => sLt a b = true) = true := by decide +kernel
    simpa using h
  simpa using this
def isField (most : Nat) (d : Pb.D) : Prop := ∃ fs, d = bidsD fs ∧ FieldOk fs ∧ fs.length ≤ most
/-- .. with names of the ten, and limits of at most 900000 -/
def isFieldB (most : Nat) (d : Pb.D) : Prop := ∃ fs, d = bidsD fs ∧ FieldOk fs ∧ fs.length ≤ most ∧ ∀ b ∈ fs, b.1 ∈ base ∧ b.2 ≤ 900000
theorem field_okB {n : Nat} {o : Ob} {start : Int} {most : Nat} {tb : List (Int × Int)} (ho : Src o) (hs : 1 ≤ start) (hs2 : start ≤ 1000) (ht : TbOk tb) (h1 : 1 ≤ most) (h8 : most ≤ 8) : SatF (evF T (n + 3) n__law_field (some o) [aucD start tb, .int most]) (Gv (isFieldB most)) := by
  rw [r__law_field]
  refine satF_run rfl rfl (by decide) ?_
  simp [i__law_field, aucD, big]
  refine call_v (choice_ok ho (by simp) (by simp)) rfl rfl fun d o1 h1 hd => ?_
  obtain ⟨m, es, m1, m2⟩ : ∃ s : Int, d = .int s ∧ 1 ≤ s ∧ s ≤ 3000 := by
    simp at hd
    rcases hd with e | e | e <;> exact ⟨_, e, by omega, by omega⟩
  subst es
  simp
  refine call_v (draw_ok h1 (by omega) (by omega)) rfl rfl fun d o2 h2 ⟨k2, ek, _, _⟩ => ?_
  subst ek
  simp
  refine call_v (draw_ok h2 (by omega) (by omega)) rfl rfl fun d o3 h3 ⟨k3, ek, _, _⟩ => ?_
  subst ek
  simp
  refine call_l (names_ok h3 (by omega) (by omega)) rfl rfl fun ds o4 h4 ⟨ns, en, hns, hnl⟩ => ?_
  subst en
  have hn10 : ns.length ≤ 10 := hns.length_le
  simp
  refine comps_acc (fun acc ds env => ∃ (o' : Ob) (fs : List (Str × Int)) (rest : List Str), Src o' ∧ env = [.inn o', .val (aucD start tb), .val (.int most), .val (.int (start + k2)), .val (.list (ns.map .str)), .non] ∧
    acc = fs.map bidD ∧ ds = rest.map .str ∧ fs.map (·.1) ++ rest = ns ∧ (∀ b ∈ fs, 1 ≤ b.2) ∧ ∀ b ∈ fs, b.2 ≤ 900000) rfl ?_ ⟨o4, [], ns, h4, rfl, rfl, rfl, rfl, by simp, by simp⟩ ?_
  · rintro acc d ds env ⟨o', fs, rest, hso, rfl, rfl, hd, hn, hlo, hhi⟩ J hJ
    cases rest with
    | nil => cases hd
    | cons x rest =>
      cases hd
      refine ⟨[.inn o', .val (aucD start tb), .val (.int most), .val (.int (start + k2)), .val (.list (ns.map .str)), .val (.str x)], by simp, ?_⟩
      simp
      refine call_v (limit_ok (near := start + k2) hso hs hs2 ht (by omega) (by omega)) rfl rfl fun d o5 h5 ⟨k5, ek, l1, l2⟩ => ?_
      subst ek
      simp [big]
      refine hJ _ _ ⟨o5, fs ++ [(x, k5)], rest, h5, by simp, by simp [bidD], rfl, by simpa using hn, fun b hb => ?_, fun b hb => ?_⟩
      · rcases List.mem_append.mp hb with hb | hb
        · exact hlo b hb
        · rw [List.mem_singleton.mp hb]
          exact l1
      · rcases List.mem_append.mp hb with hb | hb
        · exact hhi b hb
        · rw [List.mem_singleton.mp hb]
          show k5 ≤ 900000
          omega
  · rintro r e ⟨o', fs, rest, hso, rfl, rfl, hd, hn, hlo, hhi⟩
    cases rest with
    | cons x rest => cases hd
    | nil =>
      have hn : fs.map (·.1) = ns := by simpa using hn
      have hl : fs.length = ns.length := by rw [← hn, List.length_map]
      simp
      refine ⟨_, _, rfl, rfl, hso, fs, rfl, ⟨by omega, by omega, fun b hb => base_nms (hns.subset (by rw [← hn]; exact List.mem_map_of_mem hb)), hlo, fun b hb => by have := hhi b hb; omega, ?_⟩, by omega, fun b hb => ⟨hns.subset (by rw [← hn]; exact List.mem_map_of_mem hb), hhi b hb⟩⟩
      rw [hn]
      exact base_asc.sublist hns
theorem field_ok {n : Nat} {o : Ob} {start : Int} {most : Nat} {tb : List (Int × Int)} (ho : Src o) (hs : 1 ≤ start) (hs2 : start ≤ 1000) (ht : TbOk tb) (h1 : 1 ≤ most) (h8 : most ≤ 8) : SatF (evF T (n + 3) n__law_field (some o) [aucD start tb, .int most]) (Gv (isField most)) :=
  (field_okB ho hs hs2 ht h1 h8).mono fun r io ⟨d, o', e1, e2, h3, fs, h4, h5, h6, _⟩ => ⟨d, o', e1, e2, h3, fs, h4, h5, h6⟩
end Law

namespace Law
open Pb PySem
/-! ### all orders -/
def insL (o : List (Str × Int)) (x : Str × Int) (j : Nat) : List (Str × Int) := o.take j ++ x :: o.drop j
def insA (o : List (Str × Int)) (x : Str × Int) : List (List (Str × Int)) := (List.range (o.length + 1)).map (insL o x)
def ordF (found : List (List (Str × Int))) (items : List (Str × Int)) : List (List (Str × Int)) := items.foldl (fun found x => found.flatMap fun o => insA o x) found
theorem insL_perm {o : List (Str × Int)} {x : Str × Int} {j : Nat} : (insL o x j).Perm (x :: o) := by
  unfold insL
  refine List.perm_middle.trans ?_
  rw [List.take_append_drop]
theorem ordF_perm : ∀ {items : List (Str × Int)} {found : List (List (Str × Int))} {pre : List (Str × Int)}, (∀ o, o ∈ found ↔ o.Perm pre) → ∀ o, o ∈ ordF found items ↔ o.Perm (pre ++ items)
  | [], found, pre, h, o => by simpa [ordF] using h o
  | x :: items, found, pre, h, o => by
    have := ordF_perm (items := items) (found := found.flatMap fun o => insA o x) (pre := pre ++ [x]) (fun o => ?_) o
    · simpa [ordF] using this
    · rw [List.mem_flatMap]
      constructor
      · rintro ⟨o', ho', h2⟩
        unfold insA at h2
        obtain ⟨j, _, rfl⟩ := List.mem_map.mp h2
        exact insL_perm.trans (((h o').mp ho').cons x |>.trans (List.perm_append_singleton x pre).symm)
      · intro hp
        have hx : x ∈ o := hp.mem_iff.mpr (by simp)
        obtain ⟨s, t, rfl⟩ := List.append_of_mem hx
        have hp2 : (s ++ t).Perm pre := (List.perm_cons x).mp ((List.perm_middle.symm.trans hp).trans (List.perm_append_singleton x pre))
        refine ⟨s ++ t, (h _).mpr hp2, ?_⟩
        unfold insA
        refine List.mem_map.mpr ⟨s.length, List.mem_range.mpr (by simp; omega), ?_⟩
        unfold insL
        simp
theorem ords_mem {items o : List (Str × Int)} : o ∈ ordF [[]] items ↔ o.Perm items := by
  have := ordF_perm (items := items) (found := [[]]) (pre := []) (fun o => by simp) o
  simpa using this
def facN : Nat → Nat
  | 0 => 1
  | n + 1 => (n + 1) * facN n
theorem facN_s {n : Nat} : facN (n + 1) = (n + 1) * facN n := rfl
theorem flat_len {x : Str × Int} {k : Nat} : ∀ {found : List (List (Str × Int))}, (∀ o ∈ found, o.length = k) → (found.flatMap fun o => insA o x).length = found.length * (k + 1)
  | [], _ => by simp
  | o :: found, h => by
    rw [List.flatMap_cons, List.length_append, flat_len fun o ho => h o (by simp [ho]), List.length_cons, Nat.succ_mul]
    have : (insA o x).length = k + 1 := by unfold insA; simp [h o (by simp)]
    omega
theorem flat_all {x : Str × Int} {k : Nat} {found : List (List (Str × Int))} (h : ∀ o ∈ found, o.length = k) : ∀ o ∈ found.flatMap fun o => insA o x, o.length = k + 1 := fun o ho => by
  obtain ⟨o', h1, h2⟩ := List.mem_flatMap.mp ho
  unfold insA at h2
  obtain ⟨j, _, rfl⟩ := List.mem_map.mp h2
  have := (insL_perm (o := o') (x := x) (j := j)).length_eq
  rw [this, List.length_cons, h o' h1]
theorem ordF_len : ∀ {items : List (Str × Int)} {found : List (List (Str × Int))} {k : Nat}, (∀ o ∈ found, o.length = k) → found.length = facN k → (ordF found items).length = facN (k + items.length) ∧ ∀ o ∈ ordF found items, o.length = k + items.length
  | [], found, k, h, h2 => ⟨h2, h⟩
  | x :: items, found, k, h, h2 => by
    have e := flat_len (x := x) h
    have := ordF_len (items := items) (found := found.flatMap fun o => insA o x) (k := k + 1) (flat_all h) (by rw [e, h2, facN_s]; exact Nat.mul_comm _ _)
    rw [List.length_cons]
    rw [show k + (items.length + 1) = k + 1 + items.length by omega]
    exact this
theorem facN_mono {a b : Nat} (h : a ≤ b) : facN a ≤ facN b := by
  induction h with
  | refl => exact Nat.le_refl _
  | step _ ih => exact Nat.le_trans ih (by rw [facN_s]; exact Nat.le_mul_of_pos_left _ (Nat.succ_pos _))
def fins (o : List (Str × Int)) (x : Str × Int) : Pb.D → Option Pb.D
  | .int j => some (bidsD (insL o x j.toNat))
  | _ => none
theorem rngD_natQ {k : Nat} : rngD 0 (k : Int) = (List.range k).map fun j : Nat => .int (j : Int) := by
  unfold rngD
  simp
theorem fins_all {o : List (Str × Int)} {x : Str × Int} {k : Nat} : ((List.range k).map fun j : Nat => PyData.int (j : Int)).filterMap (fins o x) = ((List.range k).map (insL o x)).map bidsD := by
  rw [List.filterMap_map]
  generalize List.range k = l
  induction l with
  | nil => rfl
  | cons a l ih =>
    rw [List.filterMap_cons, ih, List.map_cons, List.map_cons]
    simp [fins]
theorem orders_ok {n : Nat} {items : List (Str × Int)} (hl : items.length ≤ 7) : evF T (n + 1) n__law_orders none [bidsD items] = .ok (.val (.list ((ordF [[]] items).map bidsD))) none ∨ evF T (n + 1) n__law_orders none [bidsD items] = .ok (.fresh (.lst ((ordF [[]] items).map bidsD))) none := by
  have key : SatF (evF T (n + 1) n__law_orders none [bidsD items]) fun r io => (r = .val (.list ((ordF [[]] items).map bidsD)) ∨ r = .fresh (.lst ((ordF [[]] items).map bidsD))) ∧ io = none := by
    rw [r__law_orders]
    refine satF_run rfl rfl (by decide) ?_
    simp [i__law_orders, bidsD, big]
    refine fors_inv (fun ds env => ∃ (rest : List (Str × Int)) (found : List (List (Str × Int))) (k : Nat) (a1 a2 a3 a4 a5 : Sl), (a1 = .own (.lst (found.map bidsD)) ∨ a1 = .val (.list (found.map bidsD))) ∧ isInn (some a2) = false ∧ isInn (some a3) = false ∧ isInn (some a4) = false ∧ isOwnB (some a5) = false ∧
        ds = rest.map bidD ∧ ordF found rest = ordF [[]] items ∧ (∀ o ∈ found, o.length = k) ∧ found.length = facN k ∧ k + rest.length = items.length ∧ env = [.val (.tuple (items.map bidD)), a1, a2, a3, a4, a5]) ?_ ?_ _ _
      ⟨items, [[]], 0, _, .non, .non, .non, .non, .inl rfl, rfl, rfl, rfl, rfl, rfl, rfl, by simp, rfl, by simp, rfl⟩
    · rintro d ds env ⟨rest, found, k, a1, a2, a3, a4, a5, h1, h2, h3, h4, h5, hd, ho, hk, hf, hkl, rfl⟩ J hJ
      cases rest with
      | nil => cases hd
      | cons x rest =>
        cases hd
        refine ⟨_, by simp [h2]; rfl, ?_⟩
        simp at hkl
        have hfl : found.length * (k + 1) ≤ 5040 := by
          have e : facN (k + 1) = (k + 1) * facN k := rfl
          have := facN_mono (show k + 1 ≤ 7 by omega)
          have e7 : facN 7 = 5040 := rfl
          rw [hf, Nat.mul_comm]
          omega
        have inner : ∀ Q : Pb.Flow × En → Prop, (∀ (a4 a5 : Sl), isInn (some a4) = false → isOwnB (some a5) = false → Q (.nx, [.val (.tuple (items.map bidD)), .val (.list (found.map bidsD)), .val (bidD x), .own (.lst ((found.flatMap fun o => insA o x).map bidsD)), a4, a5])) →
            Sat (forS (evF T n) (.nm 4) i__law_orders_b1 (found.map bidsD) [.val (.tuple (items.map bidD)), .val (.list (found.map bidsD)), .val (bidD x), .own (.lst []), a4, a5]) Q := by
          intro Q hQ
          refine fors_inv (fun ds env => ∃ (rf pf : List (List (Str × Int))) (a4 a5 : Sl), pf ++ rf = found ∧ ds = rf.map bidsD ∧ isInn (some a4) = false ∧ isOwnB (some a5) = false ∧ env = [.val (.tuple (items.map bidD)), .val (.list (found.map bidsD)), .val (bidD x), .own (.lst ((pf.flatMap fun o => insA o x).map bidsD)), a4, a5]) ?_ ?_ _ _
            ⟨found, [], a4, a5, rfl, rfl, h4, h5, rfl⟩
          · rintro d ds env ⟨rf, pf, a4, a5, hpf, hd, h4, h5, rfl⟩ J hJ
            cases rf with
            | nil => cases hd
            | cons o rf =>
              cases hd
              have hol : o.length = k := hk o (by rw [← hpf]; simp)
              refine ⟨_, by simp [h4]; rfl, ?_⟩
              simp [i__law_orders_b1, bidsD]
              refine ⟨rngOk_s (by omega) (by omega), ?_⟩
              rw [show ((o.length : Int) + 1) = ((o.length + 1 : Nat) : Int) by simp, rngD_natQ]
              refine comps_pure (fins o x) (by simp [h5]) (fun d hd => ?_) ?_
              · obtain ⟨j, hj, rfl⟩ := List.mem_map.mp hd
                have hj := List.mem_range.mp hj
                refine ⟨_, by simp; rfl, ?_⟩
                simp [big, cut_hi, cut_lo, fins, bidsD, insL, ← List.map_take, ← List.map_drop]
                omega
              · rw [fins_all]
                have hpl : (pf.flatMap fun o => insA o x).length + (k + 1) ≤ 5040 := by
                  have h0 : ∀ o ∈ pf, o.length = k := fun o ho => hk o (by rw [← hpf]; simp [ho])
                  rw [flat_len h0]
                  have : pf.length + 1 ≤ found.length := by rw [← hpf, List.length_append, List.length_cons]; omega
                  have := Nat.mul_le_mul_right (k + 1) this
                  rw [Nat.succ_mul] at this
                  omega
                simp only [k2'_eq]
                show Sat (resOV (fAdd (.list ((pf.flatMap fun o => insA o x).map bidsD)) (.list (((List.range (o.length + 1)).map (insL o x)).map bidsD))) _) _
                have hz : ((pf.flatMap fun o => insA o x).map bidsD).length + (((List.range (o.length + 1)).map (insL o x)).map bidsD).length ≤ big := by
                  simp only [List.length_map, List.length_range, big]
                  omega
                rw [fAdd_l, if_pos hz]
                simp only [sat_res, rv_lst]
                simp
                exact hJ _ ⟨rf, pf ++ [o], .val (bidsD o), a5, by simp [hpf], rfl, rfl, h5, by simp [insA, bidsD]⟩
          · rintro env ⟨rf, pf, a4, a5, hpf, hd, h4, h5, rfl⟩
            cases rf with
            | cons b rf => cases hd
            | nil =>
              have : pf = found := by simpa using hpf
              subst this
              exact hQ a4 a5 h4 h5
        rcases h1 with rfl | rfl
        all_goals
          simp [i__law_orders_b2, h3, big]
          refine inner _ fun a4 a5 h4 h5 => ?_
          simp [i__law_orders_t1]
          exact hJ _ ⟨rest, found.flatMap fun o => insA o x, k + 1, _, _, _, a4, a5, .inr rfl, rfl, rfl, h4, h5, rfl, ho, flat_all hk, by rw [flat_len hk, hf, facN_s]; exact Nat.mul_comm _ _, by omega, rfl⟩
    · rintro env ⟨rest, found, k, a1, a2, a3, a4, a5, h1, h2, h3, h4, h5, hd, ho, hk, hf, hkl, rfl⟩
      cases rest with
      | cons x rest => cases hd
      | nil =>
        have ho : found = ordF [[]] items := ho
        rw [← ho]
        rcases h1 with rfl | rfl <;> simp [i__law_orders_t2]
  obtain ⟨r, io, e, h1, h2⟩ := key.get
  rw [e, h2]
  rcases h1 with rfl | rfl
  · exact .inl rfl
  · exact .inr rfl
end Law

namespace Law
open Pb PySem
/-! ### winners, prices -/
theorem depthAll_strs : ∀ {l : List Str}, PyData.depthAll (l.map PyData.str) ≤ 60
  | [] => by simp [PyData.depthAll]
  | a :: l => by
    have := depthAll_strs (l := l)
    simp only [List.map_cons, PyData.depthAll, PyData.depth]
    omega
theorem dep_strs {l : List Str} : (PyData.list (l.map PyData.str)).depth ≤ 64 := by
  unfold PyData.depth
  have := depthAll_strs (l := l)
  omega
theorem nod_strs {l : List Str} : nod (.list (l.map PyData.str)) = true := nodA_all fun x hx => by
  obtain ⟨r, _, rfl⟩ := List.mem_map.mp hx
  rfl
theorem fIn_strsL {neg : Bool} {x : Str} {ns : List Str} : fIn neg (.str x) (.list (ns.map .str)) = some (.dat (.bool (if neg then !ns.contains x else ns.contains x))) := by
  show (if _ ∧ _ then _ else none) = _
  rw [if_pos ⟨by simp [PyData.depth], dep_strs⟩, inD_strs]
  rfl
def addW (acc : List Str) (x : Str) : List Str := if acc.contains x then acc else acc ++ [x]
def winL (l : List (Str × Int)) (acc : List Str) : List Str := l.foldl (fun acc a => addW acc a.1) acc
theorem addW_mem {acc : List Str} {x y : Str} : y ∈ addW acc x ↔ y = x ∨ y ∈ acc := by
  unfold addW
  split
  · rename_i h
    have h : x ∈ acc := by simpa using h
    constructor
    · exact .inr
    · rintro (rfl | h2)
      · exact h
      · exact h2
  · rw [List.mem_append, List.mem_singleton]
    exact or_comm
theorem winL_mem {y : Str} : ∀ {l : List (Str × Int)} {acc : List Str}, y ∈ winL l acc ↔ y ∈ acc ∨ ∃ p, (y, p) ∈ l
  | [], acc => by simp [winL]
  | a :: l, acc => by
    have := winL_mem (y := y) (l := l) (acc := addW acc a.1)
    unfold winL at this ⊢
    rw [List.foldl_cons, this, addW_mem]
    constructor
    · rintro ((rfl | h) | ⟨p, h⟩)
      · exact .inr ⟨a.2, by simp⟩
      · exact .inl h
      · exact .inr ⟨p, by simp [h]⟩
    · rintro (h | ⟨p, h⟩)
      · exact .inl (.inr h)
      · rcases List.mem_cons.mp h with e | h
        · exact .inl (.inl (by rw [← e]))
        · exact .inr ⟨p, h⟩
/-- the winners stand in order, each once -/
theorem winL_pw : ∀ {l : List (Str × Int)} {acc : List Str}, l.Pairwise (fun a b => leS a b = true) → acc.Pairwise (fun a b => a.cps.toList ≤ b.cps.toList) → acc.Nodup → (∀ x ∈ acc, ∀ a ∈ l, x.cps.toList ≤ a.1.cps.toList) →
    (winL l acc).Pairwise (fun a b => a.cps.toList ≤ b.cps.toList) ∧ (winL l acc).Nodup
  | [], acc, _, h1, h2, _ => ⟨h1, h2⟩
  | a :: l, acc, h, h1, h2, h3 => by
    rw [List.pairwise_cons] at h
    show (winL l (addW acc a.1)).Pairwise _ ∧ (winL l (addW acc a.1)).Nodup
    have la : ∀ b ∈ l, a.1.cps.toList ≤ b.1.cps.toList := fun b hb => by
      rcases leS_iff.mp (h.1 b hb) with e | ⟨e, _⟩
      · exact List.not_lt.mp fun z => List.lt_irrefl _ (List.lt_trans e z)
      · rw [e]; exact List.not_lt.mp (List.lt_irrefl _)
    refine winL_pw h.2 ?_ ?_ fun x hx b hb => ?_
    · unfold addW
      split
      · exact h1
      · rw [List.pairwise_append]
        exact ⟨h1, by simp, fun x hx y hy => by rw [List.mem_singleton.mp hy]; exact h3 x hx a (by simp)⟩
    · unfold addW
      split
      · exact h2
      · rename_i hc
        rw [List.nodup_append]
        exact ⟨h2, by simp, fun x hx y hy e => hc (by rw [List.mem_singleton] at hy; subst hy; subst e; simpa using hx)⟩
    · rcases addW_mem.mp hx with rfl | hx
      · exact la b hb
      · exact h3 x hx b (by simp [hb])
def wins (start : Int) (tb : List (Int × Int)) (field : List (Str × Int)) : List Str := winL (outs start tb field) []
theorem wins_mem {start : Int} {tb : List (Int × Int)} {field : List (Str × Int)} {x : Str} : x ∈ wins start tb field ↔ ∃ p, (x, p) ∈ outs start tb field := by
  unfold wins
  rw [winL_mem]
  simp
theorem wins_pw {start : Int} {tb : List (Int × Int)} {field : List (Str × Int)} : (wins start tb field).Pairwise (fun a b => a.cps.toList ≤ b.cps.toList) ∧ (wins start tb field).Nodup :=
  winL_pw (srtS_pw _) (by simp) (by simp) (by simp)
theorem winL_len : ∀ {l : List (Str × Int)} {acc : List Str}, (winL l acc).length ≤ acc.length + l.length
  | [], acc => by simp [winL]
  | a :: l, acc => by
    have := winL_len (l := l) (acc := addW acc a.1)
    have h : (addW acc a.1).length ≤ acc.length + 1 := by unfold addW; split <;> simp
    show (winL l (addW acc a.1)).length ≤ _
    rw [List.length_cons]
    omega
theorem winnersof_ok {n : Nat} {start : Int} {tb : List (Int × Int)} {field : List (Str × Int)} (hs : 1 ≤ start) (ht : TbOk tb) (hb : ∀ b ∈ field, 1 ≤ b.2) (hl : field.length ≤ 9) :
    evF T (n + 6) n_winners_of none [aucD start tb, bidsD field] = .ok (.fresh (.lst ((wins start tb field).map .str))) none := by
  obtain ⟨r, io, e, h1, h2⟩ : ∃ r io, evF T (n + 6) n_winners_of none [aucD start tb, bidsD field] = .ok r io ∧ r = .fresh (.lst ((wins start tb field).map .str)) ∧ io = none := by
    refine SatF.get ?_
    rw [r_winners_of]
    refine satF_run rfl rfl (by decide) ?_
    have hol := outs_len (start := start) (tb := tb) hl
    simp [i_winners_of, big]
    rw [sat_callE_f (allout_ok hs ht hb hl)]
    simp
    refine fors_inv (fun ds env => ∃ (rest : List (Str × Int)) (acc : List Str) (a3 a4 : Sl), isOwnB (some a3) = false ∧ isOwnB (some a4) = false ∧ ds = rest.map prS ∧ winL rest acc = wins start tb field ∧ acc.length + rest.length ≤ 90 ∧
        env = [.val (aucD start tb), .val (bidsD field), .own (.lst (acc.map .str)), a3, a4]) ?_ ?_ _ _ ⟨outs start tb field, [], .non, .non, rfl, rfl, rfl, rfl, by simpa using hol, rfl⟩
    · rintro d ds env ⟨rest, acc, a3, a4, h3, h4, hd, hw, hz, rfl⟩ J hJ
      cases rest with
      | nil => cases hd
      | cons a rest =>
        cases hd
        simp at hz
        refine ⟨_, by simp [prS, notInn h3, notInn h4]; rfl, ?_⟩
        simp [i_winners_of_b1, fIn_strsL]
        by_cases c : a.1 ∈ acc
        · simp [c]
          exact hJ _ ⟨rest, acc, _, _, rfl, rfl, rfl, by rw [← hw]; show _ = winL rest (addW acc a.1); unfold addW; rw [if_pos (by simpa using c)], by omega, rfl⟩
        · simp [c, big, show acc.length < 100000 by omega]
          exact hJ _ ⟨rest, acc ++ [a.1], .val (.str a.1), .val (.int a.2), rfl, rfl, rfl, by rw [← hw]; show _ = winL rest (addW acc a.1); unfold addW; rw [if_neg (by simpa using c)], by simp; omega, by simp⟩
    · rintro env ⟨rest, acc, a3, a4, h3, h4, hd, hw, hz, rfl⟩
      cases rest with
      | cons a rest => cases hd
      | nil =>
        have hw : acc = wins start tb field := hw
        simp [i_winners_of_t1, hw]
  rw [e, h1, h2]
def sureD (ws : List Str) : Pb.D := match ws with
  | [x] => .str x
  | _ => .none
/-! smallest and largest -/
theorem mnR : ∀ (l : List Int), l ≠ [] → mn l ∈ l ∧ ∀ x ∈ l, mn l ≤ x
  | [], h => absurd rfl h
  | [i], _ => by simp [mn]
  | i :: j :: r, _ => by
    obtain ⟨h1, h2⟩ := mnR (j :: r) (by simp)
    have e : mn (i :: j :: r) = if mn (j :: r) < i then mn (j :: r) else i := rfl
    rw [e]
    split
    · refine ⟨List.mem_cons_of_mem _ h1, fun x hx => ?_⟩
      rcases List.mem_cons.mp hx with rfl | hx
      · omega
      · exact h2 x hx
    · refine ⟨by simp, fun x hx => ?_⟩
      rcases List.mem_cons.mp hx with rfl | hx
      · omega
      · have := h2 x hx
        omega
theorem mxR : ∀ (l : List Int), l ≠ [] → mx l ∈ l ∧ ∀ x ∈ l, x ≤ mx l
  | [], h => absurd rfl h
  | [i], _ => by simp [mx]
  | i :: j :: r, _ => by
    obtain ⟨h1, h2⟩ := mxR (j :: r) (by simp)
    have e : mx (i :: j :: r) = if mx (j :: r) > i then mx (j :: r) else i := rfl
    rw [e]
    split
    · refine ⟨List.mem_cons_of_mem _ h1, fun x hx => ?_⟩
      rcases List.mem_cons.mp hx with rfl | hx
      · omega
      · exact h2 x hx
    · refine ⟨by simp, fun x hx => ?_⟩
      rcases List.mem_cons.mp hx with rfl | hx
      · omega
      · have := h2 x hx
        omega
theorem mn_same {k l : List Int} (hk : k ≠ []) (hl : l ≠ []) (h : ∀ x, x ∈ k ↔ x ∈ l) : mn k = mn l := by
  obtain ⟨a1, a2⟩ := mnR k hk
  obtain ⟨b1, b2⟩ := mnR l hl
  have := a2 _ ((h _).mpr b1)
  have := b2 _ ((h _).mp a1)
  omega
theorem mx_same {k l : List Int} (hk : k ≠ []) (hl : l ≠ []) (h : ∀ x, x ∈ k ↔ x ∈ l) : mx k = mx l := by
  obtain ⟨a1, a2⟩ := mxR k hk
  obtain ⟨b1, b2⟩ := mxR l hl
  have := a2 _ ((h _).mpr b1)
  have := b2 _ ((h _).mp a1)
  omega
theorem asInts_mapR : ∀ {l : List Int}, asInts (l.map PyData.int) = some l
  | [] => rfl
  | i :: l => by
    show (asInts (l.map PyData.int)).map (i :: ·) = _
    rw [asInts_mapR]
    rfl
theorem fMinR {l : List Int} (h : l ≠ []) : fMin (.list (l.map .int)) = some (.dat (.int (mn l))) := by
  cases l with
  | nil => exact absurd rfl h
  | cons i l =>
    show (asInts ((i :: l).map PyData.int)).map _ = _
    rw [asInts_mapR]
    rfl
theorem fMaxR {l : List Int} (h : l ≠ []) : fMax (.list (l.map .int)) = some (.dat (.int (mx l))) := by
  cases l with
  | nil => exact absurd rfl h
  | cons i l =>
    show (asInts ((i :: l).map PyData.int)).map _ = _
    rw [asInts_mapR]
    rfl
theorem dep_intsR {l : List Int} : (PyData.list (l.map PyData.int)).depth ≤ 64 := by
  unfold PyData.depth
  have := depthAll_le (k := 0) (xs := l.map PyData.int) fun x hx => by
    obtain ⟨r, _, rfl⟩ := List.mem_map.mp hx
    simp [PyData.depth]
  omega
theorem fNe_nilQ {ds : List Pb.D} (h : (PyData.list ds).depth ≤ 64) : fNe (.list ds) (.list []) = some (.dat (.bool (!ds.isEmpty))) := by
  unfold fNe
  rw [if_pos ⟨h, by simp [PyData.depth, PyData.depthAll]⟩]
  cases ds <;> rfl
def rngP (l : List Int) : Pb.D := if l = [] then .none else .tuple [.int (mn l), .int (mx l)]
def fsnd : Pb.D → Option Pb.D
  | .tuple [_, d] => some d
  | _ => none
theorem fsnd_all : ∀ {l : List (Str × Int)}, (l.map prS).filterMap fsnd = (l.map (·.2)).map .int
  | [] => rfl
  | a :: l => by
    rw [List.map_cons, List.filterMap_cons, fsnd_all]
    rfl
end Law

namespace Law
open Pb PySem
/-! bids read back -/
def unB1 : Pb.D → Option (Str × Int)
  | .tuple [.str x, .int v] => some (x, v)
  | _ => none
def unBs : List Pb.D → Option (List (Str × Int))
  | [] => some []
  | d :: ds => (unB1 d).bind fun b => (unBs ds).map (b :: ·)
def unB : Pb.D → Option (List (Str × Int))
  | .tuple ds => unBs ds
  | _ => none
theorem unBs_ok : ∀ {l : List (Str × Int)}, unBs (l.map bidD) = some l
  | [] => rfl
  | b :: l => by
    show (unB1 (bidD b)).bind (fun b => (unBs (l.map bidD)).map (b :: ·)) = _
    rw [unBs_ok]
    rfl
theorem unB_ok {l : List (Str × Int)} : unB (bidsD l) = some l := unBs_ok
end Law

namespace Law
open Pb PySem
def ocK : St → Option (Str × Int)
  | none => none
  | some (l, _, p) => some (l, p)
theorem ocD_eq {st : St} : ocD st = prO (ocK st) := by cases st <;> rfl
theorem FieldOk.perm {fs o : List (Str × Int)} (h : FieldOk fs) (hp : o.Perm fs) : BidsOk 8 o := ⟨by rw [hp.length_eq]; exact h.len, fun b hb => h.nm b (hp.mem_iff.mp hb), fun b hb => h.lo b (hp.mem_iff.mp hb), fun b hb => h.hi b (hp.mem_iff.mp hb)⟩
theorem orders_c {n : Nat} {items : List (Str × Int)} {env : En} {Q : RV × En → Prop} (hl : items.length ≤ 7) (h1 : Q (.val (.list ((ordF [[]] items).map bidsD)), env)) (h2 : Q (.fresh (.lst ((ordF [[]] items).map bidsD)), env)) : Sat (callE (evF T (n + 1)) n__law_orders [bidsD items] env) Q := by
  rcases orders_ok (n := n) hl with e | e
  · rw [sat_callE_v e]; exact h1
  · rw [sat_callE_f e]; exact h2
def fnn (d : Pb.D) : Option Pb.D := if isNn d then none else some d
theorem fnn_all : ∀ {ks : List (Option (Str × Int))}, (ks.map prO).filterMap fnn = (ks.filterMap id).map prS
  | [] => rfl
  | none :: ks => by
    have ih := fnn_all (ks := ks)
    rw [List.map_cons, List.filterMap_cons, List.filterMap_cons]
    exact ih
  | some a :: ks => by
    have ih := fnn_all (ks := ks)
    rw [List.map_cons, List.filterMap_cons, List.filterMap_cons]
    show prS a :: _ = prS a :: _
    rw [ih]
end Law

namespace Law
open Pb PySem
/-! one more bidder: when it can win, when another can -/
section
variable {start : Int} {tb : List (Int × Int)} {fs F : List (Str × Int)} {x : Str} {L : Int}
/-- F is fs and one more -/
structure Join (fs F : List (Str × Int)) (x : Str) (L : Int) : Prop where
  mem : ∀ a, a ∈ F ↔ a = (x, L) ∨ a ∈ fs
  nd : (F.map (·.1)).Nodup
  out : ∀ a ∈ fs, a.1 ≠ x
def PIa (start : Int) (tb : List (Int × Int)) (fs : List (Str × Int)) (L : Int) : Prop := start ≤ L ∧ ∀ c ∈ fs, c.2 < nextP tb start
def PIb (start : Int) (tb : List (Int × Int)) (fs : List (Str × Int)) (L : Int) : Prop := ∃ b ∈ fs, PairOk start tb L b.2 ∧ ∀ c ∈ fs, c.1 ≠ b.1 → c.2 < nextP tb (min L (nextP tb b.2))
def PI (start : Int) (tb : List (Int × Int)) (fs : List (Str × Int)) (L : Int) : Prop := PIa start tb fs L ∨ PIb start tb fs L
theorem join_new (J : Join fs F x L) : (∃ p, KeyOf start tb F x p) ↔ PI start tb fs L := by
  have ux : ∀ t, (x, t) ∈ F → t = L := fun t h => by
    rcases (J.mem _).mp h with e | e
    · cases e; rfl
    · exact absurd rfl (J.out _ e)
  constructor
  · rintro ⟨p, ⟨t, h1, h2, rfl, h3⟩ | ⟨t, b, h1, h2, h3, h4, rfl, h5⟩⟩
    · have := ux t h1
      subst this
      exact .inl ⟨h2, fun c hc => h3 c ((J.mem c).mpr (.inr hc)) (J.out c hc)⟩
    · have := ux t h1
      subst this
      have hb : b ∈ fs := by
        rcases (J.mem b).mp h2 with e | e
        · rw [e] at h3; exact absurd rfl h3
        · exact e
      exact .inr ⟨b, hb, h4, fun c hc hne => h5 c ((J.mem c).mpr (.inr hc)) (J.out c hc) hne⟩
  · have hx : (x, L) ∈ F := (J.mem _).mpr (.inl rfl)
    rintro (⟨h1, h2⟩ | ⟨b, hb, h1, h2⟩)
    · refine ⟨start, .inl ⟨L, hx, h1, rfl, fun c hc hne => ?_⟩⟩
      rcases (J.mem c).mp hc with e | e
      · rw [e] at hne; exact absurd rfl hne
      · exact h2 c e
    · refine ⟨_, .inr ⟨L, b, hx, (J.mem b).mpr (.inr hb), J.out b hb, h1, rfl, fun c hc hne hne2 => ?_⟩⟩
      rcases (J.mem c).mp hc with e | e
      · rw [e] at hne; exact absurd rfl hne
      · exact h2 c e hne2
/-- a bidder of fs can win -/
def WIa (start : Int) (tb : List (Int × Int)) (fs : List (Str × Int)) (L : Int) (w : Str × Int) : Prop := start ≤ w.2 ∧ L < nextP tb start ∧ ∀ c ∈ fs, c.1 ≠ w.1 → c.2 < nextP tb start
def WIb (start : Int) (tb : List (Int × Int)) (fs : List (Str × Int)) (L : Int) (w : Str × Int) : Prop := ∃ b ∈ fs, b.1 ≠ w.1 ∧ PairOk start tb w.2 b.2 ∧ L < nextP tb (min w.2 (nextP tb b.2)) ∧ ∀ c ∈ fs, c.1 ≠ w.1 → c.1 ≠ b.1 → c.2 < nextP tb (min w.2 (nextP tb b.2))
def WIc (start : Int) (tb : List (Int × Int)) (fs : List (Str × Int)) (L : Int) (w : Str × Int) : Prop := PairOk start tb w.2 L ∧ ∀ c ∈ fs, c.1 ≠ w.1 → c.2 < nextP tb (min w.2 (nextP tb L))
def WI (start : Int) (tb : List (Int × Int)) (fs : List (Str × Int)) (L : Int) : Prop := ∃ w ∈ fs, WIa start tb fs L w ∨ WIb start tb fs L w ∨ WIc start tb fs L w
theorem join_old (J : Join fs F x L) : (∃ w p, w ≠ x ∧ KeyOf start tb F w p) ↔ WI start tb fs L := by
  have hx : (x, L) ∈ F := (J.mem _).mpr (.inl rfl)
  have inF : ∀ {c}, c ∈ fs → c ∈ F := fun {c} h => (J.mem c).mpr (.inr h)
  constructor
  · rintro ⟨w, p, hw, ⟨t, h1, h2, rfl, h3⟩ | ⟨t, b, h1, h2, h3, h4, rfl, h5⟩⟩
    · have hm : (w, t) ∈ fs := by
        rcases (J.mem _).mp h1 with e | e
        · cases e; exact absurd rfl hw
        · exact e
      exact ⟨(w, t), hm, .inl ⟨h2, h3 (x, L) hx (fun z => hw z.symm), fun c hc hne => h3 c (inF hc) hne⟩⟩
    · have hm : (w, t) ∈ fs := by
        rcases (J.mem _).mp h1 with e | e
        · cases e; exact absurd rfl hw
        · exact e
      rcases (J.mem b).mp h2 with e | e
      · rw [e] at h4 h5
        exact ⟨(w, t), hm, .inr (.inr ⟨h4, fun c hc hne => h5 c (inF hc) hne (J.out c hc)⟩)⟩
      · exact ⟨(w, t), hm, .inr (.inl ⟨b, e, h3, h4, h5 (x, L) hx (fun z => hw z.symm) (fun z => J.out b e z.symm), fun c hc h6 h7 => h5 c (inF hc) h6 h7⟩)⟩
  · rintro ⟨w, hm, ⟨h1, h2, h3⟩ | ⟨b, hb, h1, h2, h3, h4⟩ | ⟨h1, h2⟩⟩
    · refine ⟨w.1, start, J.out w hm, .inl ⟨w.2, inF hm, h1, rfl, fun c hc hne => ?_⟩⟩
      rcases (J.mem c).mp hc with e | e
      · rw [e]; exact h2
      · exact h3 c e hne
    · refine ⟨w.1, _, J.out w hm, .inr ⟨w.2, b, inF hm, inF hb, h1, h2, rfl, fun c hc hne hne2 => ?_⟩⟩
      rcases (J.mem c).mp hc with e | e
      · rw [e]; exact h3
      · exact h4 c e hne hne2
    · refine ⟨w.1, _, J.out w hm, .inr ⟨w.2, (x, L), inF hm, hx, fun z => J.out w hm z.symm, h1, rfl, fun c hc hne hne2 => ?_⟩⟩
      rcases (J.mem c).mp hc with e | e
      · rw [e] at hne2; exact absurd rfl hne2
      · exact h2 c e hne
/-! more is no worse -/
theorem PI_mono {L' : Int} (hs : 1 ≤ start) (ht : TbOk tb) (hb : ∀ b ∈ fs, 1 ≤ b.2) (h : L ≤ L') (hp : PI start tb fs L) : PI start tb fs L' := by
  rcases hp with ⟨h1, h2⟩ | ⟨b, hb1, ⟨h1, h2⟩, h3⟩
  · exact .inl ⟨by omega, h2⟩
  · have e0 := nextP_bd ht (show 0 ≤ start by omega)
    have hb0 := hb b hb1
    have e1 := nextP_bd ht (show 0 ≤ b.2 by omega)
    refine .inr ⟨b, hb1, ⟨by omega, ?_⟩, fun c hc hne => ?_⟩
    · rcases h2 with h2 | h2
      · exact .inl h2
      · exact .inr ⟨by omega, by omega, by omega⟩
    · have := h3 c hc hne
      have := nextP_mono ht (show 0 ≤ min L (nextP tb b.2) by omega) (show min L (nextP tb b.2) ≤ min L' (nextP tb b.2) by omega)
      omega
theorem PI_start (hs : 1 ≤ start) (ht : TbOk tb) (hp : PI start tb fs L) : start ≤ L := by
  rcases hp with ⟨h1, h2⟩ | ⟨b, hb1, ⟨h1, h2⟩, h3⟩
  · exact h1
  · have e0 := nextP_bd ht (show 0 ≤ start by omega)
    rcases h2 with h2 | h2 <;> omega
/-- where no other can win, no other is as high -/
theorem only_top (hs : 1 ≤ start) (ht : TbOk tb) (hb : ∀ b ∈ fs, 1 ≤ b.2) (hn : (fs.map (·.1)).Nodup) (hL : start ≤ L) (h : ¬ WI start tb fs L) : ∀ c ∈ fs, c.2 < L := by
  intro c hc
  refine Decidable.byContradiction fun z => h ?_
  -- the highest of fs
  obtain ⟨w, hw, hmx⟩ : ∃ w ∈ fs, ∀ d ∈ fs, d.2 ≤ w.2 := by
    have hne : fs.map (·.2) ≠ [] := fun e => by rw [List.map_eq_nil_iff] at e; rw [e] at hc; cases hc
    obtain ⟨m1, m2⟩ := mxR (fs.map (·.2)) hne
    obtain ⟨w, hw, e⟩ := List.mem_map.mp m1
    exact ⟨w, hw, fun d hd => by rw [e]; exact m2 _ (List.mem_map_of_mem hd)⟩
  have hwL : L ≤ w.2 := by have := hmx c hc; omega
  have e0 := nextP_bd ht (show 0 ≤ start by omega)
  have eL := nextP_bd ht (show 0 ≤ L by omega)
  have ew := nextP_bd ht (show 0 ≤ w.2 by omega)
  -- the second of all but w, with L
  by_cases hall : L < nextP tb start ∧ ∀ c ∈ fs, c.1 ≠ w.1 → c.2 < nextP tb start
  · exact ⟨w, hw, .inl ⟨by omega, hall.1, hall.2⟩⟩
  · -- b the highest of fs but w
    let rest := fs.filter fun d => d.1 != w.1
    by_cases hr : rest.map (·.2) = []
    · have hno : ∀ d ∈ fs, d.1 ≠ w.1 → False := fun d hd hne => by
        have : d ∈ rest := List.mem_filter.mpr ⟨hd, by simpa using hne⟩
        rw [List.map_eq_nil_iff] at hr
        rw [hr] at this
        cases this
      have hLn : nextP tb start ≤ L := by
        refine Decidable.byContradiction fun z => hall ⟨by omega, fun d hd hne => (hno d hd hne).elim⟩
      exact ⟨w, hw, .inr (.inr ⟨⟨hwL, .inl hLn⟩, fun d hd hne => (hno d hd hne).elim⟩)⟩
    · obtain ⟨m1, m2⟩ := mxR _ hr
      obtain ⟨b, hbr, eb⟩ := List.mem_map.mp m1
      obtain ⟨hbf, hbne⟩ := List.mem_filter.mp hbr
      have hbne : b.1 ≠ w.1 := by simpa using hbne
      have hbm : ∀ d ∈ fs, d.1 ≠ w.1 → d.2 ≤ b.2 := fun d hd hne => by
        rw [eb]
        exact m2 _ (List.mem_map_of_mem (List.mem_filter.mpr ⟨hd, by simpa using hne⟩))
      have hbw := hmx b hbf
      have hb1 := hb b hbf
      have eb1 := nextP_bd ht (show 0 ≤ b.2 by omega)
      by_cases hbL : L ≤ b.2
      · -- b is second
        have hn0 : nextP tb start ≤ b.2 := by
          refine Decidable.byContradiction fun z => hall ⟨by omega, fun d hd hne => ?_⟩
          have := hbm d hd hne
          omega
        have ep := nextP_bd ht (show 0 ≤ min w.2 (nextP tb b.2) by omega)
        exact ⟨w, hw, .inr (.inl ⟨b, hbf, hbne, ⟨hbw, .inl hn0⟩, by omega, fun d hd hne _ => by have := hbm d hd hne; omega⟩)⟩
      · have hn0 : nextP tb start ≤ L := by
          refine Decidable.byContradiction fun z => hall ⟨by omega, fun d hd hne => ?_⟩
          have := hbm d hd hne
          omega
        have ep := nextP_bd ht (show 0 ≤ min w.2 (nextP tb L) by omega)
        exact ⟨w, hw, .inr (.inr ⟨⟨hwL, .inl hn0⟩, fun d hd hne => by have := hbm d hd hne; omega⟩)⟩
theorem WI_mono {L' : Int} (hs : 1 ≤ start) (ht : TbOk tb) (hb : ∀ b ∈ fs, 1 ≤ b.2) (hn : (fs.map (·.1)).Nodup) (hL : start ≤ L) (h : L ≤ L') (hw : WI start tb fs L') : WI start tb fs L := by
  refine Classical.byContradiction fun z => ?_
  have top := only_top hs ht hb hn hL z
  obtain ⟨w, hm, ⟨h1, h2, h3⟩ | ⟨b, hb1, h1, h2, h3, h4⟩ | ⟨⟨h1, h2⟩, h3⟩⟩ := hw
  · exact z ⟨w, hm, .inl ⟨h1, by omega, h3⟩⟩
  · exact z ⟨w, hm, .inr (.inl ⟨b, hb1, h1, h2, by omega, h4⟩)⟩
  · have := top w hm
    omega
theorem WI_high (hs : 1 ≤ start) (ht : TbOk tb) (hb : ∀ b ∈ fs, 1 ≤ b.2) (hh : ∀ b ∈ fs, nextP tb b.2 ≤ L) (hsl : nextP tb start ≤ L) : ¬ WI start tb fs L := by
  rintro ⟨w, hm, ⟨h1, h2, h3⟩ | ⟨b, hb1, h1, h2, h3, h4⟩ | ⟨⟨h1, h2⟩, h3⟩⟩
  · omega
  · have := hh w hm
    have hb0 := hb b hb1
    have hw0 := hb w hm
    have e1 := nextP_bd ht (show 0 ≤ b.2 by omega)
    have := nextP_mono ht (show 0 ≤ min w.2 (nextP tb b.2) by omega) (show min w.2 (nextP tb b.2) ≤ w.2 by omega)
    omega
  · have := hh w hm
    have hw0 := hb w hm
    have e1 := nextP_bd ht (show 0 ≤ w.2 by omega)
    omega
theorem PI_high (hs : 1 ≤ start) (ht : TbOk tb) (hb : ∀ b ∈ fs, 1 ≤ b.2) (hh : ∀ b ∈ fs, b.2 ≤ L) (hsl : start ≤ L) : PI start tb fs L := by
  by_cases hall : ∀ c ∈ fs, c.2 < nextP tb start
  · exact .inl ⟨hsl, hall⟩
  · obtain ⟨c, hc, hcn⟩ : ∃ c ∈ fs, nextP tb start ≤ c.2 := by
      refine Decidable.byContradiction fun z => hall fun c hc => ?_
      exact Decidable.byContradiction fun y => z ⟨c, hc, by omega⟩
    have hne : fs.map (·.2) ≠ [] := fun e => by rw [List.map_eq_nil_iff] at e; rw [e] at hc; cases hc
    obtain ⟨m1, m2⟩ := mxR (fs.map (·.2)) hne
    obtain ⟨b, hbf, eb⟩ := List.mem_map.mp m1
    have hbm : ∀ d ∈ fs, d.2 ≤ b.2 := fun d hd => by rw [eb]; exact m2 _ (List.mem_map_of_mem hd)
    have hb1 := hb b hbf
    have eb1 := nextP_bd ht (show 0 ≤ b.2 by omega)
    have hbL := hh b hbf
    have := hbm c hc
    have ep := nextP_bd ht (show 0 ≤ min L (nextP tb b.2) by omega)
    exact .inr ⟨b, hbf, ⟨hbL, .inl (by omega)⟩, fun d hd _ => by have := hbm d hd; omega⟩
end
end Law

namespace Law
open Pb PySem
def whB (j : Nat) : S := .seq (.asg 3 (.op2 .div (.op2 .add (.var 1) (.var 2)) (.con (.int 2)))) (.iff (.blk j (.cons (.var 3) .nil)) (.asg 2 (.var 3)) (.asg 1 (.op2 .add (.var 3) (.con (.int 1)))))
def leastD (m : Int) : Pb.D := if m ≤ 1000000 then .int m else .none
/-- the search of the least enough -/
theorem search_ok {cl : Cl} {j : Nat} {a5 a4 : Sl} {pb : Int → Bool} (hB : ∀ (L lo hi : Int), 1 ≤ L → L ≤ 1000000 → Sat (cl.b j [.int L] [.non, .val (.int lo), .val (.int hi), .val (.int L), a4, a5]) fun x => x = (.val (.bool (pb L)), [.non, .val (.int lo), .val (.int hi), .val (.int L), a4, a5]))
    (hm : ∀ L L', 1 ≤ L → L ≤ L' → L' ≤ 1000000 → pb L = true → pb L' = true) {Q : Pb.Flow × En → Prop} (hQ : ∀ (m : Int) (a3 : Sl), 1 ≤ m → m ≤ 1000001 → (∀ L, 1 ≤ L → L ≤ 1000000 → (pb L = true ↔ m ≤ L)) → Q (.nx, [.non, .val (.int m), .val (.int m), a3, a4, a5])) :
    Sat (whlL (evT cl (.op2 .lt (.var 1) (.var 2))) (evS cl (whB j)) fuel [.non, .val (.int 1), .val (.int 1000001), .non, a4, a5]) Q := by
  refine whl_inv (fun n env => ∃ (lo hi : Int) (a3 : Sl), isOwnB (some a3) = false ∧ 1 ≤ lo ∧ lo ≤ hi ∧ hi ≤ 1000001 ∧ hi - lo < 2 ^ n ∧ (∀ L, 1 ≤ L → L < lo → pb L = false) ∧ (∀ L, hi ≤ L → L ≤ 1000000 → pb L = true) ∧ env = [.non, .val (.int lo), .val (.int hi), a3, a4, a5]) ?_ fuel 20 _ (by unfold fuel; omega)
    ⟨1, 1000001, .non, rfl, by omega, by omega, by omega, by omega, fun L _ _ => by omega, fun L _ _ => by omega, rfl⟩
  rintro n env ⟨lo, hi, a3, h3, h1, h2, h4, h5, h6, h7, rfl⟩ J hJ
  simp
  by_cases c : lo < hi
  · have hmid1 : lo ≤ (lo + hi) / 2 := by omega
    have hmid2 : (lo + hi) / 2 < hi := by omega
    simp [c, whB, notInn h3]
    have hn : ∃ m, n = m + 1 := by
      cases n with
      | zero => simp at h5; omega
      | succ m => exact ⟨m, rfl⟩
    obtain ⟨m, rfl⟩ := hn
    have e2 : (2 : Int) ^ (m + 1) = 2 * 2 ^ m := by rw [Int.pow_succ]; omega
    rw [e2] at h5
    refine (hB ((lo + hi) / 2) lo hi (by omega) (by omega)).mono fun x hx => ?_
    subst hx
    by_cases cp : pb ((lo + hi) / 2) = true
    · simp [cp]
      refine hJ m _ (by omega) ⟨lo, (lo + hi) / 2, _, rfl, h1, by omega, by omega, by omega, h6, fun L hL hL2 => hm _ L (by omega) hL hL2 cp, rfl⟩
    · have cp2 : pb ((lo + hi) / 2) = false := by simpa using cp
      simp [cp2]
      refine hJ m _ (by omega) ⟨(lo + hi) / 2 + 1, hi, _, rfl, by omega, by omega, by omega, by omega, fun L hL hL2 => ?_, h7, rfl⟩
      cases hp : pb L with
      | false => rfl
      | true => exact absurd (hm L _ hL (by omega) (by omega) hp) cp
  · have : lo = hi := by omega
    subst this
    simp [c]
    refine hQ lo a3 h1 (by omega) fun L hL hL2 => ⟨fun hp => ?_, fun hl => h7 L hl hL2⟩
    refine Classical.byContradiction fun z => ?_
    rw [h6 L hL (by omega)] at hp
    cases hp
section
variable {n : Nat} {start : Int} {tb : List (Int × Int)} {fs : List (Str × Int)}
def withN (fs : List (Str × Int)) (L : Int) : List (Str × Int) := ("", L) :: fs
def posB (start : Int) (tb : List (Int × Int)) (fs : List (Str × Int)) (L : Int) : Bool := (wins start tb (withN fs L)).contains ""
def surB (start : Int) (tb : List (Int × Int)) (fs : List (Str × Int)) (L : Int) : Bool := wins start tb (withN fs L) == ([""] : List Str)
theorem blk0_ok {a1 a2 a3 a0 : Sl} (hs : 1 ≤ start) (ht : TbOk tb) (hb : ∀ b ∈ fs, 1 ≤ b.2) (hl : fs.length ≤ 8) {L : Int} (hL : 1 ≤ L) {env : En} (he : env = [a0, a1, a2, a3, .val (aucD start tb), .val (bidsD fs)]) :
    Sat ((evF T (n + 8)).b 0 [.int L] env) fun x => x = (.val (.bool (posB start tb fs L)), env) := by
  rw [rb_0]
  refine sat_runB rfl (by decide) ?_
  show Sat (evS (evF T (n + 7)) k_0.body (.val (.int L) :: env.map toInn)) (isR k_0 env fun x => x = (.val (.bool (posB start tb fs L)), env))
  have h5 : env[4]? = some (.val (aucD start tb)) := by rw [he]; rfl
  have h6 : env[5]? = some (.val (bidsD fs)) := by rw [he]; rfl
  simp [k_0, big, h5, h6, bidsD]
  refine ⟨by omega, ?_⟩
  have e := winnersof_ok (n := n + 1) (start := start) (tb := tb) (field := withN fs L) hs ht (fun b hb' => by
    rcases List.mem_cons.mp hb' with rfl | hb'
    · exact hL
    · exact hb b hb') (by simp [withN]; omega)
  simp only [bidsD, withN, List.map_cons, bidD] at e
  rw [sat_callE_f e]
  simp
  rw [fIn_strsL]
  simp
  rw [isR_val (e' := env) (by simp [k_0, fromInn_map])]
  simp [posB, withN]
theorem eq_strs {a : List Str} : fEq (.list (a.map .str)) (.list [.str ""]) = some (.dat (.bool (a == ([""] : List Str)))) := by
  unfold fEq
  rw [if_pos ⟨dep_strs, by simp [PyData.depth, PyData.depthAll]⟩]
  cases a with
  | nil => rfl
  | cons x a =>
    cases a with
    | nil => simp [PyData.eqv, PyData.eqvAll, oBl]
    | cons y a => simp [PyData.eqv, PyData.eqvAll, oBl]
theorem blk2_ok {a1 a2 a3 a0 : Sl} (hs : 1 ≤ start) (ht : TbOk tb) (hb : ∀ b ∈ fs, 1 ≤ b.2) (hl : fs.length ≤ 8) {L : Int} (hL : 1 ≤ L) {env : En} (he : env = [a0, a1, a2, a3, .val (aucD start tb), .val (bidsD fs)]) :
    Sat ((evF T (n + 8)).b 2 [.int L] env) fun x => x = (.val (.bool (surB start tb fs L)), env) := by
  rw [rb_2]
  refine sat_runB rfl (by decide) ?_
  show Sat (evS (evF T (n + 7)) k_2.body (.val (.int L) :: env.map toInn)) (isR k_2 env fun x => x = (.val (.bool (surB start tb fs L)), env))
  have h5 : env[4]? = some (.val (aucD start tb)) := by rw [he]; rfl
  have h6 : env[5]? = some (.val (bidsD fs)) := by rw [he]; rfl
  simp [k_2, big, h5, h6, bidsD]
  refine ⟨by omega, ?_⟩
  have e := winnersof_ok (n := n + 1) (start := start) (tb := tb) (field := withN fs L) hs ht (fun b hb' => by
    rcases List.mem_cons.mp hb' with rfl | hb'
    · exact hL
    · exact hb b hb') (by simp [withN]; omega)
  simp only [bidsD, withN, List.map_cons, bidD] at e
  rw [sat_callE_f e]
  simp
  rw [eq_strs]
  simp
  rw [isR_val (e' := env) (by simp [k_2, fromInn_map])]
  simp [surB, withN, big]
end
end Law

namespace Law
open Pb PySem
section
variable {n : Nat} {start : Int} {tb : List (Int × Int)} {fs : List (Str × Int)}
theorem needroom_ok (hl : fs.length ≤ 7) : evF T (n + 1) n_need_room none [bidsD fs] = .ok (.val .none) none := by
  refine SatF.val ?_
  rw [r_need_room]
  refine satF_run rfl rfl (by decide) ?_
  simp [i_need_room, bidsD, show ¬ (7 : Int) < fs.length by omega]
theorem empty_nms : ("" : Str) ∉ nms := by decide +kernel
theorem withN_join (h : FieldOk fs) {L : Int} : Join fs (withN fs L) "" L := ⟨fun a => by simp [withN], by
  unfold withN
  rw [List.map_cons, List.nodup_cons]
  refine ⟨fun z => ?_, h.nd⟩
  obtain ⟨b, hb, e⟩ := List.mem_map.mp z
  have := h.nm b hb
  rw [e] at this
  exact empty_nms this, fun a ha e => empty_nms (by rw [← e]; exact h.nm a ha)⟩
theorem pos_iff (h : FieldOk fs) {L : Int} : posB start tb fs L = true ↔ PI start tb fs L := by
  unfold posB
  rw [List.contains_iff_mem, wins_mem, ← join_new (withN_join h)]
  constructor
  · rintro ⟨p, hp⟩
    exact ⟨p, (outs_mem (a := ("", p))).mp hp⟩
  · rintro ⟨p, hp⟩
    exact ⟨p, (outs_mem (a := ("", p))).mpr hp⟩
theorem sole_iff {l : List Str} {x : Str} (hn : l.Nodup) : l = [x] ↔ x ∈ l ∧ ∀ y ∈ l, y = x := by
  constructor
  · rintro rfl
    simp
  · rintro ⟨h1, h2⟩
    cases l with
    | nil => cases h1
    | cons a l =>
      have e := h2 a (by simp)
      subst e
      cases l with
      | nil => rfl
      | cons b l =>
        have e2 := h2 b (by simp)
        subst e2
        simp at hn
theorem sur_iff (h : FieldOk fs) {L : Int} : surB start tb fs L = true ↔ PI start tb fs L ∧ ¬ WI start tb fs L := by
  unfold surB
  rw [beq_iff_eq, sole_iff wins_pw.2, ← join_old (withN_join h), ← pos_iff h]
  unfold posB
  rw [List.contains_iff_mem]
  refine and_congr Iff.rfl ⟨fun h1 => ?_, fun h1 y hy => ?_⟩
  · rintro ⟨w, p, hw, hk⟩
    exact hw (h1 w (wins_mem.mpr ⟨p, (outs_mem (a := (w, p))).mpr hk⟩))
  · obtain ⟨p, hp⟩ := wins_mem.mp hy
    exact Classical.byContradiction fun z => h1 ⟨y, p, z, (outs_mem (a := (y, p))).mp hp⟩
theorem pos_mono (hs : 1 ≤ start) (ht : TbOk tb) (h : FieldOk fs) : ∀ L L', 1 ≤ L → L ≤ L' → L' ≤ 1000000 → posB start tb fs L = true → posB start tb fs L' = true := fun L L' _ h2 _ hp => (pos_iff h).mpr (PI_mono hs ht h.lo h2 ((pos_iff h).mp hp))
theorem sur_mono (hs : 1 ≤ start) (ht : TbOk tb) (h : FieldOk fs) : ∀ L L', 1 ≤ L → L ≤ L' → L' ≤ 1000000 → surB start tb fs L = true → surB start tb fs L' = true := fun L L' _ h2 _ hp => by
  obtain ⟨p1, p2⟩ := (sur_iff h).mp hp
  exact (sur_iff h).mpr ⟨PI_mono hs ht h.lo h2 p1, fun z => p2 (WI_mono hs ht h.lo h.nd (PI_start hs ht p1) h2 z)⟩
def IsLeast (pb : Int → Bool) (m : Int) : Prop := 1 ≤ m ∧ m ≤ 1000001 ∧ ∀ L, 1 ≤ L → L ≤ 1000000 → (pb L = true ↔ m ≤ L)
theorem least_ok (hs : 1 ≤ start) (hs2 : start ≤ 1000) (ht : TbOk tb) (h : FieldOk fs) (hl : fs.length ≤ 7) :
    ∃ m, IsLeast (posB start tb fs) m ∧ evF T (n + 10) n_least_possible none [aucD start tb, bidsD fs] = .ok (.val (leastD m)) none := by
  obtain ⟨r, io, e, m, h1, h2, h3⟩ : ∃ r io, evF T (n + 10) n_least_possible none [aucD start tb, bidsD fs] = .ok r io ∧ ∃ m, r = .val (leastD m) ∧ io = none ∧ IsLeast (posB start tb fs) m := by
    refine SatF.get ?_
    rw [r_least_possible]
    refine satF_run rfl rfl (by decide) ?_
    simp [i_least_possible]
    rw [sat_callE_v (needauc_ok hs hs2 ht)]
    simp
    rw [sat_callE_v (needfield_ok h)]
    simp
    rw [sat_callE_v (needroom_ok hl)]
    simp
    rw [rb_1]
    refine sat_runB rfl (by decide) ?_
    show Sat (evS (evF T (n + 8)) k_1.body (.non :: .non :: .non :: .non :: .val (aucD start tb) :: .val (bidsD fs) :: [])) (isR k_1 [.val (aucD start tb), .val (bidsD fs)] _)
    simp [k_1]
    refine search_ok (cl := evF T (n + 8)) (j := 0) (pb := posB start tb fs) (fun L lo hi hL hL2 => blk0_ok hs ht h.lo (by omega) hL rfl) (pos_mono hs ht h) fun m a3 g1 g2 g3 => ?_
    have fin : ∀ d, d = leastD m → isR k_1 [.val (aucD start tb), .val (bidsD fs)] (kRet (isE false fun r io => ∃ m, r = .val (leastD m) ∧ io = none ∧ IsLeast (posB start tb fs) m)) (.ret (.val d), [.non, .val (.int m), .val (.int m), a3, .val (aucD start tb), .val (bidsD fs)]) := by
      intro d hd
      rw [isR_val (e' := [.val (aucD start tb), .val (bidsD fs)]) (by simp [k_1])]
      simp [hd]
      exact ⟨m, rfl, g1, g2, g3⟩
    simp [i_least_limit_G1_t1]
    by_cases c : m ≤ 1000000
    · simp [c]
      exact fin _ (by simp [leastD, c])
    · simp [c]
      exact fin _ (by simp [leastD, c])
  exact ⟨m, h3, by rw [e, h1, h2]⟩
theorem sure_least_ok (hs : 1 ≤ start) (hs2 : start ≤ 1000) (ht : TbOk tb) (h : FieldOk fs) (hl : fs.length ≤ 7) :
    ∃ m, IsLeast (surB start tb fs) m ∧ evF T (n + 10) n_least_sure none [aucD start tb, bidsD fs] = .ok (.val (leastD m)) none := by
  obtain ⟨r, io, e, m, h1, h2, h3⟩ : ∃ r io, evF T (n + 10) n_least_sure none [aucD start tb, bidsD fs] = .ok r io ∧ ∃ m, r = .val (leastD m) ∧ io = none ∧ IsLeast (surB start tb fs) m := by
    refine SatF.get ?_
    rw [r_least_sure]
    refine satF_run rfl rfl (by decide) ?_
    simp [i_least_sure]
    rw [sat_callE_v (needauc_ok hs hs2 ht)]
    simp
    rw [sat_callE_v (needfield_ok h)]
    simp
    rw [sat_callE_v (needroom_ok hl)]
    simp
    rw [rb_3]
    refine sat_runB rfl (by decide) ?_
    show Sat (evS (evF T (n + 8)) k_3.body (.non :: .non :: .non :: .non :: .val (aucD start tb) :: .val (bidsD fs) :: [])) (isR k_3 [.val (aucD start tb), .val (bidsD fs)] _)
    simp [k_3]
    refine search_ok (cl := evF T (n + 8)) (j := 2) (pb := surB start tb fs) (fun L lo hi hL hL2 => blk2_ok hs ht h.lo (by omega) hL rfl) (sur_mono hs ht h) fun m a3 g1 g2 g3 => ?_
    have fin : ∀ d, d = leastD m → isR k_3 [.val (aucD start tb), .val (bidsD fs)] (kRet (isE false fun r io => ∃ m, r = .val (leastD m) ∧ io = none ∧ IsLeast (surB start tb fs) m)) (.ret (.val d), [.non, .val (.int m), .val (.int m), a3, .val (aucD start tb), .val (bidsD fs)]) := by
      intro d hd
      rw [isR_val (e' := [.val (aucD start tb), .val (bidsD fs)]) (by simp [k_3])]
      simp [hd]
      exact ⟨m, rfl, g1, g2, g3⟩
    simp [i_least_limit_G3_t1]
    by_cases c : m ≤ 1000000
    · simp [c]
      exact fin _ (by simp [leastD, c])
    · simp [c]
      exact fin _ (by simp [leastD, c])
  exact ⟨m, h3, by rw [e, h1, h2]⟩
end
end Law

namespace Law
open Pb PySem
section
variable {n : Nat} {start : Int} {tb : List (Int × Int)} {fs : List (Str × Int)}
theorem final_lo {bs : List (Str × Int)} (hs : 1 ≤ start) (ht : TbOk tb) (hb : ∀ b ∈ bs, 1 ≤ b.2) :
    evF T (n + 3) n__law_final none [aucD start tb, bidsD bs] = .ok (.val (ocD (finF start tb none bs))) none := by
  refine SatF.val ?_
  rw [r__law_final]
  refine satF_run rfl rfl (by decide) ?_
  simp [i__law_final, bidsD, big]
  refine fors_inv (fun ds env => ∃ (st : St) (rest : List (Str × Int)) (u : Sl), isOwnB (some u) = false ∧ rest.Sublist bs ∧ ds = rest.map bidD ∧ StOk start st ∧
      env = [.val (aucD start tb), .val (.tuple (bs.map bidD)), .val (stD st), u] ∧ finF start tb st rest = finF start tb none bs) ?_ ?_ _ _ ⟨none, bs, .non, rfl, List.Sublist.refl _, rfl, trivial, rfl, rfl⟩
  · rintro d ds env ⟨st, rest, u, hu, hsub, hd, hst, rfl, hr⟩ J hJ
    cases rest with
    | nil => cases hd
    | cons b rest =>
      cases hd
      have hb1 := hb b (hsub.subset (by simp))
      refine ⟨_, by simp [notInn hu]; rfl, ?_⟩
      simp [i__law_final_b1]
      rw [sat_callE_v (arrive_ok hs ht hst hb1)]
      simp
      exact hJ _ ⟨_, rest, _, rfl, (List.sublist_cons_self _ _).trans hsub, rfl, arr_ok hs ht hst hb1, rfl, by rw [← hr]; rfl⟩
  · rintro env ⟨st, rest, u, hu, hsub, hd, hst, rfl, hr⟩
    cases rest with
    | cons b rest => cases hd
    | nil =>
      rw [← hr]
      cases st with
      | none => simp [stD, finF, ocD, i__law_final_t1]
      | some z => simp [stD, finF, ocD, big, i__law_final_t1]
def joinN (fs : List (Str × Int)) (L : Int) : List (Str × Int) := fs ++ [(("new" : Str), L)]
def newB : Option (Str × Int) → Bool
  | none => false
  | some a => a.1 == ("new" : Str)
def fjo (start : Int) (tb : List (Int × Int)) : Pb.D → Option Pb.D := fun d => match unB d with
  | some o => some (prO (ocK (finF start tb none o)))
  | none => none
theorem fjo_all : ∀ {os : List (List (Str × Int))}, (os.map bidsD).filterMap (fjo start tb) = (os.map fun o => ocK (finF start tb none o)).map prO
  | [] => rfl
  | o :: os => by
    rw [List.map_cons, List.filterMap_cons, fjo_all]
    simp only [fjo, unB_ok]
    rfl
def fnb : Pb.D → Option Pb.D
  | .none => some (.bool false)
  | .tuple (.str x :: _) => some (.bool (x == "new"))
  | _ => none
theorem fnb_all : ∀ {ks : List (Option (Str × Int))}, (ks.map prO).filterMap fnb = (ks.map newB).map .bool
  | [] => rfl
  | none :: ks => by
    rw [List.map_cons, List.filterMap_cons, fnb_all]
    rfl
  | some a :: ks => by
    rw [List.map_cons, List.filterMap_cons, fnb_all]
    rfl
theorem inD_bools {b : Bool} : ∀ {bs : List Bool}, inD (.bool b) (bs.map .bool) = bs.contains b
  | [] => rfl
  | c :: bs => by
    have ih := inD_bools (b := b) (bs := bs)
    unfold inD at ih ⊢
    rw [List.map_cons, List.any_cons, ih, List.contains_cons]
    have : PyData.eqv (.bool c) (.bool b) = (b == c) := by
      cases b <;> cases c <;> rfl
    rw [this]
theorem dep_bools {l : List Bool} : (PyData.list (l.map PyData.bool)).depth ≤ 64 := by
  unfold PyData.depth
  have := depthAll_le (k := 0) (xs := l.map PyData.bool) fun x hx => by
    obtain ⟨r, _, rfl⟩ := List.mem_map.mp hx
    simp [PyData.depth]
  omega
theorem fIn_bools {neg b : Bool} {bs : List Bool} : fIn neg (.bool b) (.list (bs.map .bool)) = some (.dat (.bool (if neg then !bs.contains b else bs.contains b))) := by
  show (if _ ∧ _ then _ else none) = _
  rw [if_pos ⟨by simp [PyData.depth], dep_bools⟩, inD_bools]
  rfl
theorem new_base : ("new" : Str) ∉ base := by decide +kernel
theorem joinN_join (h : FieldOk fs) (hB : ∀ b ∈ fs, b.1 ∈ base) {L : Int} : Join fs (joinN fs L) "new" L := ⟨fun a => by simp [joinN, or_comm], by
  unfold joinN
  rw [List.map_append, List.nodup_append]
  refine ⟨h.nd, by simp, fun a ha b hb e => ?_⟩
  simp at hb
  obtain ⟨c, hc, e2⟩ := List.mem_map.mp ha
  have := hB c hc
  rw [e2, e, hb] at this
  exact new_base this, fun a ha e => new_base (by rw [← e]; exact hB a ha)⟩
theorem wins_law (hs : 1 ≤ start) (ht : TbOk tb) (h : FieldOk fs) (hB : ∀ b ∈ fs, b.1 ∈ base) {L : Int} (hL : 1 ≤ L) :
    (((ordF [[]] (joinN fs L)).map fun o => ocK (finF start tb none o)).map newB).contains true = posB start tb fs L ∧ (!(((ordF [[]] (joinN fs L)).map fun o => ocK (finF start tb none o)).map newB).contains false) = surB start tb fs L := by
  have J := joinN_join h hB (L := L)
  have hlo : ∀ b ∈ joinN fs L, 1 ≤ b.2 := fun b hb => by
    rcases (J.mem b).mp hb with rfl | hb
    · exact hL
    · exact h.lo b hb
  have keyN : (∃ o, o.Perm (joinN fs L) ∧ newB (ocK (finF start tb none o)) = true) ↔ PI start tb fs L := by
    rw [← join_new J]
    constructor
    · rintro ⟨o, hp, e⟩
      cases e2 : finF start tb none o with
      | none => rw [e2] at e; cases e
      | some z =>
        obtain ⟨l, t, p⟩ := z
        rw [e2] at e
        have e : l = "new" := by simpa [ocK, newB] using e
        subst e
        exact ⟨p, out_key hs ht hlo J.nd hp e2⟩
    · rintro ⟨p, hk⟩
      obtain ⟨o, t, h1, h2, h3⟩ := key_out hs ht J.nd hk
      exact ⟨o, h1, by rw [h3]; rfl⟩
  have mem : ∀ b : Bool, b ∈ ((ordF [[]] (joinN fs L)).map fun o => ocK (finF start tb none o)).map newB ↔ ∃ o, o.Perm (joinN fs L) ∧ newB (ocK (finF start tb none o)) = b := fun b => by
    rw [List.mem_map]
    constructor
    · rintro ⟨k, hk, rfl⟩
      obtain ⟨o, ho, rfl⟩ := List.mem_map.mp hk
      exact ⟨o, ords_mem.mp ho, rfl⟩
    · rintro ⟨o, ho, rfl⟩
      exact ⟨_, List.mem_map.mpr ⟨o, ords_mem.mpr ho, rfl⟩, rfl⟩
  refine ⟨?_, ?_⟩
  · rw [Bool.eq_iff_iff, List.contains_iff_mem, mem true, keyN, pos_iff h]
  · rw [Bool.eq_iff_iff, Bool.not_eq_true', sur_iff h]
    constructor
    · intro hc
      have hc : ∀ o, o.Perm (joinN fs L) → newB (ocK (finF start tb none o)) = true := fun o ho => by
        refine Classical.byContradiction fun z => ?_
        have : false ∈ ((ordF [[]] (joinN fs L)).map fun o => ocK (finF start tb none o)).map newB := (mem false).mpr ⟨o, ho, by simpa using z⟩
        rw [← List.contains_iff_mem, hc] at this
        cases this
      refine ⟨keyN.mp ⟨_, List.Perm.refl _, hc _ (List.Perm.refl _)⟩, fun hw => ?_⟩
      obtain ⟨w, p, hne, hk⟩ := (join_old J).mpr hw
      obtain ⟨o, t, h1, h2, h3⟩ := key_out hs ht J.nd hk
      have := hc o h1
      rw [h3] at this
      simp [ocK, newB] at this
      exact hne this
    · rintro ⟨hp, hw⟩
      refine Bool.eq_false_iff.mpr fun hc => ?_
      rw [List.contains_iff_mem, mem false] at hc
      obtain ⟨o, ho, e⟩ := hc
      cases e2 : finF start tb none o with
      | none =>
        have := (none_iff hs ht hlo J.nd ho).mp e2 ("new", L) ((J.mem _).mpr (.inl rfl))
        have := PI_start hs ht hp
        simp at *
        omega
      | some z =>
        obtain ⟨l, t, p⟩ := z
        rw [e2] at e
        have e : l ≠ "new" := by simpa [ocK, newB] using e
        exact hw ((join_old J).mp ⟨l, p, e, out_key hs ht hlo J.nd ho e2⟩)
theorem lawwins_ok (hs : 1 ≤ start) (ht : TbOk tb) (h : FieldOk fs) (hB : ∀ b ∈ fs, b.1 ∈ base) (hl : fs.length ≤ 4) {L : Int} (hL : 1 ≤ L) :
    evF T (n + 4) n__law_wins none [aucD start tb, bidsD fs, .int L] = .ok (.val (.tuple [.bool (posB start tb fs L), .bool (surB start tb fs L)])) none := by
  refine SatF.val ?_
  rw [r__law_wins]
  refine satF_run rfl rfl (by decide) ?_
  simp [i__law_wins, big, bidsD]
  refine ⟨by omega, ?_⟩
  have hj : joinN fs L = fs ++ [(("new" : Str), L)] := rfl
  have hjl : (joinN fs L).length ≤ 7 := by rw [hj, List.length_append]; simp; omega
  have hlo : ∀ b ∈ joinN fs L, 1 ≤ b.2 := fun b hb => by
    rcases ((joinN_join h hB (L := L)).mem b).mp hb with rfl | hb
    · exact hL
    · exact h.lo b hb
  obtain ⟨w1, w2⟩ := wins_law hs ht h hB hL
  have eb : PyData.tuple (fs.map bidD ++ [.tuple [.str "new", .int L]]) = bidsD (joinN fs L) := by
    unfold bidsD
    rw [hj, List.map_append]
    rfl
  rw [eb]
  refine orders_c hjl ?_ ?_
  all_goals
    simp
    refine comps_pure (fjo start tb) rfl (fun d hd => ?_) ?_
    · obtain ⟨o, ho, rfl⟩ := List.mem_map.mp hd
      refine ⟨_, by simp; rfl, ?_⟩
      simp
      rw [sat_callE_v (final_lo hs ht fun b hb => hlo b ((ords_mem.mp ho).mem_iff.mp hb))]
      simp [fjo, unB_ok, ocD_eq]
    rw [fjo_all]
    simp
    refine comps_pure fnb rfl (fun d hd => ?_) ?_
    · obtain ⟨k, hk, rfl⟩ := List.mem_map.mp (by rw [← List.map_map] at hd; exact hd)
      refine ⟨_, by simp; rfl, ?_⟩
      cases k with
      | none => simp [prO, fnb]
      | some a => simp [prO, prS, fnb]
    rw [← List.map_map, fnb_all]
    generalize ((ordF [[]] (joinN fs L)).map fun o => ocK (finF start tb none o)).map newB = bs at w1 w2 ⊢
    rw [← w1, ← w2]
    simp [fIn_bools, big]
end
end Law

namespace Law
open Pb PySem
section
variable {n : Nat} {start : Int} {tb : List (Int × Int)} {env : En}
def eightB : List (Str × Int) := [("a", 5), ("b", 5), ("c", 5), ("d", 5), ("e", 5), ("f", 5), ("g", 5), ("h", 5)]
theorem eight_fo : FieldOk eightB := ⟨by decide, by decide, by simp [eightB, nms, base], by simp [eightB], by simp [eightB], by decide +kernel⟩
theorem seven_fo : FieldOk (eightB.take 7) := ⟨by decide, by decide, by simp [eightB, nms, base], by simp [eightB], by simp [eightB], by decide +kernel⟩
theorem needroom_exc : evF T (n + 1) n_need_room none [bidsD eightB] = .exc ⟨"TooMany", some 7⟩ none := by
  rw [r_need_room]
  refine excF_run rfl rfl (by decide) (x_if ?_)
  simp [bidsD, show eightB.length = 8 from rfl]
  refine x_rseN ?_
  simp
theorem possX (hs : 1 ≤ start) (hs2 : start ≤ 1000) (ht : TbOk tb) : evF T (n + 8) n_least_possible none [aucD start tb, bidsD eightB] = .exc ⟨"TooMany", some 7⟩ none := by
  rw [r_least_possible]
  refine excF_run rfl rfl (by decide) (x_seq2 ?_)
  simp
  rw [sat_callE_v (needauc_ok hs hs2 ht)]
  simp
  refine x_seq2 ?_
  simp
  rw [sat_callE_v (needfield_ok eight_fo)]
  simp
  refine x_seq1 (x_exp (x_call ?_))
  simp
  rw [x_callE needroom_exc]
  simp
theorem sureX (hs : 1 ≤ start) (hs2 : start ≤ 1000) (ht : TbOk tb) : evF T (n + 8) n_least_sure none [aucD start tb, bidsD eightB] = .exc ⟨"TooMany", some 7⟩ none := by
  rw [r_least_sure]
  refine excF_run rfl rfl (by decide) (x_seq2 ?_)
  simp
  rw [sat_callE_v (needauc_ok hs hs2 ht)]
  simp
  refine x_seq2 ?_
  simp
  rw [sat_callE_v (needfield_ok eight_fo)]
  simp
  refine x_seq1 (x_exp (x_call ?_))
  simp
  rw [x_callE needroom_exc]
  simp
theorem blk5_ok (hs : 1 ≤ start) (hs2 : start ≤ 1000) (ht : TbOk tb) (e3 : env[3]? = some (.val (aucD start tb))) (e11 : env[11]? = some (.val (bidsD eightB))) :
    Sat ((evF T (n + 10)).b 5 [] env) fun x => x = (.val (.int 7), env) := by
  rw [rb_5]
  refine sat_runB rfl (by decide) ?_
  show Sat (evS (evF T (n + 9)) k_5.body (.non :: .non :: .non :: env.map toInn)) (isR k_5 env fun x => x = (.val (.int 7), env))
  simp [k_5]
  refine w_tryX (x_exp (x_blk ?_))
  simp
  rw [rb_4]
  refine satX_of (lam_exc (cl := evF T (n + 8)) (f := n_least_possible) (ds := [aucD start tb, bidsD eightB]) ?_ (possX hs hs2 ht)) ?_
  · simp [map_get e3, map_get e11, e3, e11]
  · rw [xHd_eq, show hdl ht_0 ⟨"TooMany", some 7⟩ (Sl.non :: Sl.val .none :: Sl.non :: env.map toInn) hd_0 = .ok (.nx, Sl.non :: Sl.val (.int 7) :: Sl.non :: env.map toInn) from by kernel_rfl, sat_ok]
    simp
    rw [isR_val (e' := env) (by simp [fromInn_map])]
theorem blk7_ok (hs : 1 ≤ start) (hs2 : start ≤ 1000) (ht : TbOk tb) (e3 : env[3]? = some (.val (aucD start tb))) (e11 : env[11]? = some (.val (bidsD eightB))) :
    Sat ((evF T (n + 10)).b 7 [] env) fun x => x = (.val (.int 7), env) := by
  rw [rb_7]
  refine sat_runB rfl (by decide) ?_
  show Sat (evS (evF T (n + 9)) k_7.body (.non :: .non :: .non :: env.map toInn)) (isR k_7 env fun x => x = (.val (.int 7), env))
  simp [k_7]
  refine w_tryX (x_exp (x_blk ?_))
  simp
  rw [rb_6]
  refine satX_of (lam_exc (cl := evF T (n + 8)) (f := n_least_sure) (ds := [aucD start tb, bidsD eightB]) ?_ (sureX hs hs2 ht)) ?_
  · simp [map_get e3, map_get e11, e3, e11]
  · rw [xHd_eq, show hdl ht_1 ⟨"TooMany", some 7⟩ (Sl.non :: Sl.val .none :: Sl.non :: env.map toInn) hd_1 = .ok (.nx, Sl.non :: Sl.val (.int 7) :: Sl.non :: env.map toInn) from by kernel_rfl, sat_ok]
    simp
    rw [isR_val (e' := env) (by simp [fromInn_map])]
end
section
variable {start : Int} {tb : List (Int × Int)} {fs : List (Str × Int)} {m k : Int}
theorem IsLeast.at {pb : Int → Bool} (h : IsLeast pb m) {L : Int} (h1 : 1 ≤ L) (h2 : L ≤ 1000000) : pb L = decide (m ≤ L) := by
  have := h.2.2 L h1 h2
  cases hp : pb L with
  | true => exact (decide_eq_true (this.mp hp)).symm
  | false =>
    refine (decide_eq_false fun z => ?_).symm
    rw [this.mpr z] at hp
    cases hp
/-- there is a least sure limit -/
theorem sure_le (hs : 1 ≤ start) (hs2 : start ≤ 1000) (ht : TbOk tb) (h : FieldOk fs) (hh : ∀ b ∈ fs, b.2 ≤ 900000) (hm : IsLeast (surB start tb fs) m) : m ≤ 1000000 := by
  refine (hm.2.2 1000000 (by decide) (by decide)).mp ((sur_iff h).mpr ⟨PI_high hs ht h.lo (fun b hb => by have := hh b hb; omega) (by omega), WI_high hs ht h.lo (fun b hb => ?_) ?_⟩)
  · have := hh b hb
    have := h.lo b hb
    have := nextP_bd ht (show 0 ≤ b.2 by omega)
    omega
  · have := nextP_bd ht (show 0 ≤ start by omega)
    omega
theorem some_le (h : FieldOk fs) (hk : IsLeast (posB start tb fs) k) (hm : IsLeast (surB start tb fs) m) (h0 : m ≤ 1000000) : k ≤ m :=
  (hk.2.2 m hm.1 h0).mp ((pos_iff h).mpr ((sur_iff h).mp ((hm.2.2 m hm.1 h0).mpr (Int.le_refl _))).1)
theorem great_tb : TbOk [(0, 1000)] := ⟨by simp, ⟨_, rfl⟩, by simp, by simp⟩
def greatF : List (Str × Int) := [("a", 1000000), ("b", 1000000)]
theorem great_fo : FieldOk greatF := ⟨by decide, by decide, by simp [greatF, nms, base], by simp [greatF], by simp [greatF], by decide +kernel⟩
theorem great_sure (hm : IsLeast (surB 10 [(0, 1000)] greatF) m) : ¬ m ≤ 1000000 := fun z => by
  obtain ⟨p1, p2⟩ := (sur_iff great_fo).mp ((hm.2.2 m hm.1 z).mpr (Int.le_refl _))
  have := only_top (by decide) great_tb great_fo.lo great_fo.nd (PI_start (by decide) great_tb p1) p2 ("a", 1000000) (by simp [greatF])
  simp at this
  omega
theorem five_tb : TbOk [(0, 5)] := ⟨by simp, ⟨_, rfl⟩, by simp, by simp⟩
def threeF : List (Str × Int) := [("a", 60), ("b", 57), ("c", 54)]
theorem three_fo : FieldOk threeF := ⟨by decide, by decide, by simp [threeF, nms, base], by simp [threeF], by simp [threeF], by decide +kernel⟩
theorem five_next {p : Int} (h : 0 ≤ p) : nextP [(0, 5)] p = p + 5 := by simp [nextP, h]
theorem three_some (hk : IsLeast (posB 10 [(0, 5)] threeF) k) : k = 56 := by
  have h1 : PI 10 [(0, 5)] threeF 56 := .inr ⟨("c", 54), by simp [threeF], ⟨by decide, .inl (by decide)⟩, fun c hc hne => by
    simp [threeF] at hc
    rcases hc with rfl | rfl | rfl
    · decide
    · decide
    · exact absurd rfl hne⟩
  have h2 : ¬ PI 10 [(0, 5)] threeF 55 := by
    rintro (⟨h1, h2⟩ | ⟨b, hb, ⟨h1, h2⟩, h3⟩)
    · have := h2 ("a", 60) (by simp [threeF])
      revert this
      decide
    · simp [threeF] at hb
      rcases hb with rfl | rfl | rfl
      · simp at h1
      · simp at h1
      · have := h3 ("a", 60) (by simp [threeF]) (by decide)
        revert this
        decide
  have q1 := (hk.2.2 56 (by decide) (by decide)).mp ((pos_iff three_fo).mpr h1)
  have q2 : ¬ k ≤ 55 := fun z => h2 ((pos_iff three_fo).mp ((hk.2.2 55 (by decide) (by decide)).mpr z))
  omega
theorem three_sure (hm : IsLeast (surB 10 [(0, 5)] threeF) m) : m = 65 := by
  have h1 : PI 10 [(0, 5)] threeF 65 := PI_high (by decide) five_tb three_fo.lo (fun b hb => by simp [threeF] at hb; rcases hb with rfl | rfl | rfl <;> decide) (by decide)
  have h2 : ¬ WI 10 [(0, 5)] threeF 65 := WI_high (by decide) five_tb three_fo.lo (fun b hb => by simp [threeF] at hb; rcases hb with rfl | rfl | rfl <;> decide) (by decide)
  have h3 : WI 10 [(0, 5)] threeF 64 := ⟨("a", 60), by simp [threeF], .inr (.inl ⟨("b", 57), by simp [threeF], by decide, ⟨by decide, .inl (by decide)⟩, by decide, fun c hc hne hne2 => by
    simp [threeF] at hc
    rcases hc with rfl | rfl | rfl
    · exact absurd rfl hne
    · exact absurd rfl hne2
    · decide⟩)⟩
  have q1 := (hm.2.2 65 (by decide) (by decide)).mp ((sur_iff three_fo).mpr ⟨h1, h2⟩)
  have q2 : ¬ m ≤ 64 := fun z => ((sur_iff three_fo).mp ((hm.2.2 64 (by decide) (by decide)).mpr z)).2 h3
  omega
end
end Law

namespace Law
open Pb PySem
def fpos : Pb.D → Option Pb.D
  | .int v => if 0 < v then some (.int v) else none
  | _ => none
def fn5 : Pb.D → Option Pb.D
  | .str x => some (.tuple [.str x, .int 5])
  | _ => none
theorem fpos_all : ∀ {l : List Int}, (l.map PyData.int).filterMap fpos = (l.filter fun v => decide (0 < v)).map .int
  | [] => rfl
  | v :: l => by
    rw [List.map_cons, List.filterMap_cons, List.filter_cons, fpos_all]
    by_cases h : 0 < v <;> simp [fpos, h]
theorem fEq_bb {a b c d : Bool} : fNe (.tuple [.bool a, .bool b]) (.tuple [.bool c, .bool d]) = some (.dat (.bool (!(a == c && b == d)))) := by
  unfold fNe
  rw [if_pos ⟨by simp [PyData.depth, PyData.depthAll], by simp [PyData.depth, PyData.depthAll]⟩]
  cases a <;> cases b <;> cases c <;> cases d <;> rfl
theorem chars8 : (Str.ofString "abcdefgh").cps.toList.map (fun c => PyData.str { cps := #[c] }) = (eightB.map (·.1)).map .str := by rfl
theorem eight8 : ((eightB.map (·.1)).map PyData.str).filterMap fn5 = eightB.map bidD := by rfl
theorem cut7 : fSlcH (bidsD eightB) (.int 7) = some (.ntup ((eightB.take 7).map bidD)) := by
  unfold bidsD
  simp
  exact cut_hi (k := 7)
theorem tail_ok {cl : Cl} {a0 a1 a2 a3 a4 a5 a6 a7 a8 a9 a11 a13 : Sl} (h4 : isInn (some a4) = false) (h13 : isInn (some a13) = false) (e1 : cl n_least_sure none [aucD 10 [(0, 1000)], bidsD greatF] = .ok (.val .none) none)
    (e2 : cl n_least_possible none [aucD 10 [(0, 5)], bidsD threeF] = .ok (.val (.int 56)) none) (e3 : cl n_least_sure none [aucD 10 [(0, 5)], bidsD threeF] = .ok (.val (.int 65)) none) :
    Sat (evS cl i_law_t2 [a0, a1, a2, a3, a4, a5, a6, a7, a8, a9, .non, a11, .non, a13]) (isE false fun r o => r = .val (.bool true) ∧ o = none) := by
  simp [aucD, tbD, prD, bidsD, bidD, greatF, threeF] at e1 e2 e3
  simp [i_law_t2, h13, big]
  rw [sat_callE_v e1]
  simp [h4, big]
  rw [sat_callE_v e2]
  simp
  rw [sat_callE_v e3]
  simp [big]
  rw [fEq_same (by rfl) (by simp [PyData.depth, PyData.depthAll])]
  simp
theorem law_true {n : Nat} {ns : List Int} (hlen : ns.length ≤ 63) : evF T (n + 11) n_law none [.list (ns.map .int)] = .ok (.val (.bool true)) none := by
  refine SatF.val ?_
  rw [r_law]
  refine satF_run rfl rfl (by decide) ?_
  simp [i_law]
  refine ⟨rngOk_s (by omega) (by omega), ?_⟩
  refine fors_inv (fun ds env => ∃ a1 a2 a3 a4 a5 a6 a7 a8 a9 a11 a13 : Sl, env = [.val (.list (ns.map .int)), a1, a2, a3, a4, a5, a6, a7, a8, a9, .non, a11, .non, a13] ∧
      (isInn (some a1) = false ∧ isInn (some a2) = false ∧ isInn (some a3) = false ∧ isInn (some a4) = false ∧ isInn (some a5) = false ∧ isInn (some a6) = false ∧ isInn (some a7) = false ∧ isInn (some a8) = false ∧ isInn (some a9) = false ∧ isInn (some a11) = false ∧ isInn (some a13) = false) ∧ ∀ d ∈ ds, ∃ k : Int, d = .int k ∧ 0 ≤ k)
    ?_ ?_ _ _ ⟨.non, .non, .non, .non, .non, .non, .non, .non, .non, .non, .non, rfl, by simp [isInn], fun d hd => mem_rng hd⟩
  · rintro d ds env ⟨a1, a2, a3, a4, a5, a6, a7, a8, a9, a11, a13, rfl, ⟨h1, h2, h3, h4, h5, h6, h7, h8, h9, h11, h13⟩, hds⟩ J hJ
    obtain ⟨k, rfl, hk⟩ := hds d (by simp)
    refine ⟨_, by simp [h1]; rfl, ?_⟩
    simp [i_law_b2]
    obtain ⟨o, eo, ho⟩ := source_get (n := n + 9) (ns := ns) hk
    rw [sat_callE_f eo]
    simp [h2]
    refine call_v (auction_ok ho) rfl rfl fun d o1 ho1 ⟨start, tb, ha, hs, hs2, ht⟩ => ?_
    subst ha
    simp [h3]
    refine call_v (field_okB (most := 4) ho1 hs hs2 ht (by decide) (by decide)) rfl rfl fun d o2 ho2 ⟨fs, hd, hf, hl, hB⟩ => ?_
    subst hd
    simp [h4]
    obtain ⟨p, hp, ep⟩ := least_ok (n := n) hs hs2 ht hf (by omega)
    obtain ⟨q, hq, eq⟩ := sure_least_ok (n := n) hs hs2 ht hf (by omega)
    have q0 := sure_le hs hs2 ht hf (fun b hb => (hB b hb).2) hq
    have pq := some_le hf hp hq q0
    rw [sat_callE_v ep]
    simp
    rw [sat_callE_v eq]
    simp only [leastD, if_pos q0, if_pos (show p ≤ 1000000 by omega)]
    obtain ⟨b0, fsr, e0⟩ : ∃ b0 r, fs = b0 :: r := by
      cases fs with
      | nil => have := hf.ne; simp at this
      | cons b r => exact ⟨b, r, rfl⟩
    have hb0 := hB b0 (by rw [e0]; simp)
    have hb0l := hf.lo b0 (by rw [e0]; simp)
    have h0 : fs[0]? = some b0 := by rw [e0]; rfl
    have p1 := hp.1
    have q1 := hq.1
    simp [h5, h6, h7, pq, show ¬ q < p by omega, bidsD, h0, bidD, big]
    refine call_v (limit_ok ho2 hs hs2 ht (show 0 ≤ b0.2 by omega) (by omega)) rfl rfl fun d o3 ho3 ⟨k3, ek, l1, l2⟩ => ?_
    subst ek
    simp [h8]
    rw [show [PyData.int p, .int q, .int (p - 1), .int (q - 1), .int b0.2, .int (b0.2 + 1), .int k3] = ([p, q, p - 1, q - 1, b0.2, b0.2 + 1, k3] : List Int).map PyData.int from rfl]
    have hlim : ∀ v ∈ ([p, q, p - 1, q - 1, b0.2, b0.2 + 1, k3] : List Int), v ≤ 1000000 := fun v hv => by
      simp at hv
      rcases hv with rfl | rfl | rfl | rfl | rfl | rfl | rfl <;> omega
    generalize ([p, q, p - 1, q - 1, b0.2, b0.2 + 1, k3] : List Int) = lims at hlim ⊢
    refine ⟨by unfold big; omega, ?_⟩
    refine comps_pure fpos rfl (fun d hd => ?_) ?_
    · obtain ⟨v, _, rfl⟩ := List.mem_map.mp hd
      refine ⟨_, by simp; rfl, ?_⟩
      by_cases c : 0 < v <;> simp [fpos, c]
    rw [fpos_all]
    have hlim2 : ∀ v ∈ lims.filter (fun v => decide (0 < v)), 1 ≤ v ∧ v ≤ 1000000 := fun v hv => by
      obtain ⟨w1, w2⟩ := List.mem_filter.mp hv
      have := of_decide_eq_true w2
      have := hlim v w1
      omega
    generalize lims.filter (fun v => decide (0 < v)) = ls at hlim2 ⊢
    simp
    refine fors_inv (fun ds2 env => ∃ (rest : List Int) (a9 : Sl), isInn (some a9) = false ∧ rest.Sublist ls ∧ ds2 = rest.map .int ∧
        env = [.val (.list (ns.map .int)), .val (.int k), .own o3, .val (aucD start tb), .val (.tuple (fs.map bidD)), .val (.int p), .val (.int q), .val (.int b0.2), .val (.list (lims.map .int)), a9, .non, a11, .non, a13]) ?_ ?_ _ _ ⟨ls, a9, h9, List.Sublist.refl _, rfl, rfl⟩
    · rintro d2 ds2 env ⟨rest, a9, h9, hsub, hd, rfl⟩ J2 hJ2
      cases rest with
      | nil => cases hd
      | cons v rest =>
        cases hd
        obtain ⟨v1, v2⟩ := hlim2 v (hsub.subset (by simp))
        refine ⟨_, by simp [h9]; rfl, ?_⟩
        simp [i_law_b1]
        have ew := lawwins_ok (n := n + 6) hs ht hf (fun b hb => (hB b hb).1) (by omega) v1
        unfold bidsD at ew
        rw [sat_callE_v ew, hp.at v1 v2, hq.at v1 v2]
        simp [big, fEq_bb]
        exact hJ2 _ ⟨rest, _, rfl, (List.sublist_cons_self _ _).trans hsub, rfl, rfl⟩
    · rintro env ⟨rest, a9, h9, hsub, hd, rfl⟩
      simp [i_law_t1]
      refine ⟨by decide +kernel, ?_⟩
      rw [chars8]
      refine comps_pure fn5 rfl (fun d hd => ?_) ?_
      · obtain ⟨x, _, rfl⟩ := List.mem_map.mp hd
        refine ⟨_, by simp; rfl, ?_⟩
        simp [fn5, big]
      rw [eight8]
      obtain ⟨m7, hm7, e7⟩ := sure_least_ok (n := n) hs hs2 ht seven_fo (by decide)
      have m70 := sure_le hs hs2 ht seven_fo (fun b hb => by
        have := List.mem_of_mem_take hb
        simp [eightB] at this
        rcases this with rfl | rfl | rfl | rfl | rfl | rfl | rfl | rfl <;> decide) hm7
      rw [leastD, if_pos m70] at e7
      simp [h11]
      rw [show PyData.tuple (eightB.map bidD) = bidsD eightB from rfl]
      refine (blk5_ok (n := n) hs hs2 ht rfl rfl).mono fun x hx => ?_
      subst hx
      simp
      rw [cut7]
      rw [sat_res, rv_tup, isF_val, kCons_eq, w_nil, kCons'_eq, kCons'_eq, kCall_eq]
      rw [show PyData.tuple ((eightB.take 7).map bidD) = bidsD (eightB.take 7) from rfl, sat_callE_v e7]
      simp
      refine (blk7_ok (n := n) hs hs2 ht rfl rfl).mono fun x hx => ?_
      subst hx
      simp
      exact hJ _ ⟨_, _, _, _, _, _, _, _, _, _, _, rfl, ⟨rfl, rfl, rfl, rfl, rfl, rfl, rfl, rfl, h9, rfl, h13⟩, fun d hd => hds d (by simp [hd])⟩
  · rintro env ⟨a1, a2, a3, a4, a5, a6, a7, a8, a9, a11, a13, rfl, ⟨h1, h2, h3, h4, h5, h6, h7, h8, h9, h11, h13⟩, _⟩
    obtain ⟨m1, hm1, e1⟩ := sure_least_ok (n := n) (start := 10) (by decide) (by decide) great_tb great_fo (by decide)
    obtain ⟨m2, hm2, e2⟩ := least_ok (n := n) (start := 10) (by decide) (by decide) five_tb three_fo (by decide)
    obtain ⟨m3, hm3, e3⟩ := sure_least_ok (n := n) (start := 10) (by decide) (by decide) five_tb three_fo (by decide)
    have g1 := great_sure hm1
    have g2 := three_some hm2
    have g3 := three_sure hm3
    subst g2 g3
    rw [show leastD m1 = .none from if_neg g1] at e1
    rw [show leastD 56 = .int 56 from rfl] at e2
    rw [show leastD 65 = .int 65 from rfl] at e3
    exact tail_ok (cl := evF T (n + 10)) h4 h13 e1 e2 e3
end Law


namespace Law
open PySem PySem.Spec PyProof.Rows L2 Pb
theorem all_mk {l : PySem.W.OpenLaw} {w : World} {K : PySem.W.Frag} {h : Heap} {mg : Str → Option Value} {fa : Addr} (X : K.In h) (G : h.Ns mainGlobals mg) (hfa : mg "law" = some (.ref fa))
    {f0 : Addr} {oc0 kV0 dc0 pm0 ct0 : Value} {od0 an0 : Option Addr} {sl0 : Array (Option Value)} {cd0 : Value}
    {f1 : Addr} {oc1 kV1 dc1 pm1 ct1 : Value} {od1 an1 : Option Addr} {sl1 : Array (Option Value)} {cd1 : Value}
    {f2 : Addr} {oc2 kV2 dc2 pm2 ct2 : Value} {od2 an2 : Option Addr} {sl2 : Array (Option Value)} {cd2 : Value}
    {f3 : Addr} {oc3 kV3 dc3 pm3 ct3 : Value} {od3 an3 : Option Addr} {sl3 : Array (Option Value)} {cd3 : Value}
    {f4 : Addr} {oc4 kV4 dc4 pm4 ct4 : Value} {od4 an4 : Option Addr} {sl4 : Array (Option Value)} {cd4 : Value}
    {f5 : Addr} {oc5 kV5 dc5 pm5 ct5 : Value} {od5 an5 : Option Addr} {sl5 : Array (Option Value)} {cd5 : Value}
    {f6 : Addr} {oc6 kV6 dc6 pm6 ct6 : Value} {od6 an6 : Option Addr} {sl6 : Array (Option Value)} {cd6 : Value}
    {f7 : Addr} {oc7 kV7 dc7 pm7 ct7 : Value} {od7 an7 : Option Addr} {sl7 : Array (Option Value)} {cd7 : Value}
    {f8 : Addr} {oc8 kV8 dc8 pm8 ct8 : Value} {od8 an8 : Option Addr} {sl8 : Array (Option Value)} {cd8 : Value}
    {f9 : Addr} {oc9 kV9 dc9 pm9 ct9 : Value} {od9 an9 : Option Addr} {sl9 : Array (Option Value)} {cd9 : Value}
    {f10 : Addr} {oc10 kV10 dc10 pm10 ct10 : Value} {od10 an10 : Option Addr} {sl10 : Array (Option Value)} {cd10 : Value}
    {f11 : Addr} {oc11 kV11 dc11 pm11 ct11 : Value} {od11 an11 : Option Addr} {sl11 : Array (Option Value)} {cd11 : Value}
    {f12 : Addr} {oc12 kV12 dc12 pm12 ct12 : Value} {od12 an12 : Option Addr} {sl12 : Array (Option Value)} {cd12 : Value}
    {f13 : Addr} {oc13 kV13 dc13 pm13 ct13 : Value} {od13 an13 : Option Addr} {sl13 : Array (Option Value)} {cd13 : Value}
    {f14 : Addr} {oc14 kV14 dc14 pm14 ct14 : Value} {od14 an14 : Option Addr} {sl14 : Array (Option Value)} {cd14 : Value}
    {f15 : Addr} {oc15 kV15 dc15 pm15 ct15 : Value} {od15 an15 : Option Addr} {sl15 : Array (Option Value)} {cd15 : Value}
    {f16 : Addr} {oc16 kV16 dc16 pm16 ct16 : Value} {od16 an16 : Option Addr} {sl16 : Array (Option Value)} {cd16 : Value}
    {f17 : Addr} {oc17 kV17 dc17 pm17 ct17 : Value} {od17 an17 : Option Addr} {sl17 : Array (Option Value)} {cd17 : Value}
    {f19 : Addr} {oc19 kV19 dc19 pm19 ct19 : Value} {od19 an19 : Option Addr} {sl19 : Array (Option Value)} {cd19 : Value}
    {f20 : Addr} {oc20 kV20 dc20 pm20 ct20 : Value} {od20 an20 : Option Addr} {sl20 : Array (Option Value)} {cc20 pt20 : Addr}
    {f21 : Addr} {oc21 kV21 dc21 pm21 ct21 : Value} {od21 an21 : Option Addr} {sl21 : Array (Option Value)} {cc21 pt21 : Addr}
    {f22 : Addr} {oc22 kV22 dc22 pm22 ct22 : Value} {od22 an22 : Option Addr} {sl22 : Array (Option Value)} {cd22 : Value}
    {f23 : Addr} {oc23 kV23 dc23 pm23 ct23 : Value} {od23 an23 : Option Addr} {sl23 : Array (Option Value)} {cd23 : Value}
    {f24 : Addr} {oc24 kV24 dc24 pm24 ct24 : Value} {od24 an24 : Option Addr} {sl24 : Array (Option Value)} {cd24 : Value}
    {f25 : Addr} {oc25 kV25 dc25 pm25 ct25 : Value} {od25 an25 : Option Addr} {sl25 : Array (Option Value)} {cd25 : Value}
    {f26 : Addr} {oc26 kV26 dc26 pm26 ct26 : Value} {od26 an26 : Option Addr} {sl26 : Array (Option Value)} {cd26 : Value}
    {f27 : Addr} {oc27 kV27 dc27 pm27 ct27 : Value} {od27 an27 : Option Addr} {sl27 : Array (Option Value)} {cd27 : Value}
    {f28 : Addr} {oc28 kV28 dc28 pm28 ct28 : Value} {od28 an28 : Option Addr} {sl28 : Array (Option Value)} {cd28 : Value}
    {f29 : Addr} {oc29 kV29 dc29 pm29 ct29 : Value} {od29 an29 : Option Addr} {sl29 : Array (Option Value)} {cd29 : Value}
    {f30 : Addr} {oc30 kV30 dc30 pm30 ct30 : Value} {od30 an30 : Option Addr} {sl30 : Array (Option Value)} {cd30 : Value}
    {f31 : Addr} {oc31 kV31 dc31 pm31 ct31 : Value} {od31 an31 : Option Addr} {sl31 : Array (Option Value)} {cd31 : Value}
    {f32 : Addr} {oc32 kV32 dc32 pm32 ct32 : Value} {od32 an32 : Option Addr} {sl32 : Array (Option Value)} {cd32 : Value}
    {f33 : Addr} {oc33 kV33 dc33 pm33 ct33 : Value} {od33 an33 : Option Addr} {sl33 : Array (Option Value)} {cd33 : Value}
    {f35 : Addr} {oc35 kV35 dc35 pm35 ct35 : Value} {od35 an35 : Option Addr} {sl35 : Array (Option Value)} {cc35 pt35 : Addr}
    {f18 : Addr} {oc18 kV18 dc18 pm18 ct18 : Value} {od18 an18 : Option Addr} {sl18 : Array (Option Value)} {cd18 : Value}
    {f34 : Addr} {oc34 kV34 dc34 pm34 ct34 : Value} {od34 an34 : Option Addr} {sl34 : Array (Option Value)} {cd34 : Value}
    {t_LETTERS : Tok}
    {t_MOST_BIDDERS : Tok}
    {t_MOST_BIDS : Tok}
    {t_MOST_JOINED : Tok}
    {t_MOST_PRICE : Tok}
    {t_MOST_STEP : Tok}
    {t_NEWCOMER : Tok}
    {C_InvalidAuction : Addr}
    {C_InvalidField : Addr}
    {C_TooMany fI B_ : Addr} {ocI kVI dcI pmI cdI ctI : Value} {odI anI : Option Addr} {slI : Array (Option Value)}
    (a0 : PySem.W.nsIn K mainGlobals "is_between" = some (some (.ref f0)))
    (l0 : K.lookup f0 = some ⟨oc0, od0, .func (PySem.W.fnOf "is_between" "is_between" (defArgs s_is_between) (defBody s_is_between) (defScope s_is_between) .none kV0 dc0 pm0 an0 cd0 ct0), sl0⟩)
    (c0 : PySem.W.codeIn K cd0 "is_between" = true)
    (k0 : PySem.W.keepIn K (.ref f0) = true)
    (a1 : PySem.W.nsIn K mainGlobals "is_price" = some (some (.ref f1)))
    (l1 : K.lookup f1 = some ⟨oc1, od1, .func (PySem.W.fnOf "is_price" "is_price" (defArgs s_is_price) (defBody s_is_price) (defScope s_is_price) .none kV1 dc1 pm1 an1 cd1 ct1), sl1⟩)
    (c1 : PySem.W.codeIn K cd1 "is_price" = true)
    (k1 : PySem.W.keepIn K (.ref f1) = true)
    (a2 : PySem.W.nsIn K mainGlobals "is_name" = some (some (.ref f2)))
    (l2 : K.lookup f2 = some ⟨oc2, od2, .func (PySem.W.fnOf "is_name" "is_name" (defArgs s_is_name) (defBody s_is_name) (defScope s_is_name) .none kV2 dc2 pm2 an2 cd2 ct2), sl2⟩)
    (c2 : PySem.W.codeIn K cd2 "is_name" = true)
    (k2 : PySem.W.keepIn K (.ref f2) = true)
    (a3 : PySem.W.nsIn K mainGlobals "is_ascending" = some (some (.ref f3)))
    (l3 : K.lookup f3 = some ⟨oc3, od3, .func (PySem.W.fnOf "is_ascending" "is_ascending" (defArgs s_is_ascending) (defBody s_is_ascending) (defScope s_is_ascending) .none kV3 dc3 pm3 an3 cd3 ct3), sl3⟩)
    (c3 : PySem.W.codeIn K cd3 "is_ascending" = true)
    (k3 : PySem.W.keepIn K (.ref f3) = true)
    (a4 : PySem.W.nsIn K mainGlobals "is_table" = some (some (.ref f4)))
    (l4 : K.lookup f4 = some ⟨oc4, od4, .func (PySem.W.fnOf "is_table" "is_table" (defArgs s_is_table) (defBody s_is_table) (defScope s_is_table) .none kV4 dc4 pm4 an4 cd4 ct4), sl4⟩)
    (c4 : PySem.W.codeIn K cd4 "is_table" = true)
    (k4 : PySem.W.keepIn K (.ref f4) = true)
    (a5 : PySem.W.nsIn K mainGlobals "is_auction" = some (some (.ref f5)))
    (l5 : K.lookup f5 = some ⟨oc5, od5, .func (PySem.W.fnOf "is_auction" "is_auction" (defArgs s_is_auction) (defBody s_is_auction) (defScope s_is_auction) .none kV5 dc5 pm5 an5 cd5 ct5), sl5⟩)
    (c5 : PySem.W.codeIn K cd5 "is_auction" = true)
    (k5 : PySem.W.keepIn K (.ref f5) = true)
    (a6 : PySem.W.nsIn K mainGlobals "is_bid" = some (some (.ref f6)))
    (l6 : K.lookup f6 = some ⟨oc6, od6, .func (PySem.W.fnOf "is_bid" "is_bid" (defArgs s_is_bid) (defBody s_is_bid) (defScope s_is_bid) .none kV6 dc6 pm6 an6 cd6 ct6), sl6⟩)
    (c6 : PySem.W.codeIn K cd6 "is_bid" = true)
    (k6 : PySem.W.keepIn K (.ref f6) = true)
    (a7 : PySem.W.nsIn K mainGlobals "is_bids" = some (some (.ref f7)))
    (l7 : K.lookup f7 = some ⟨oc7, od7, .func (PySem.W.fnOf "is_bids" "is_bids" (defArgs s_is_bids) (defBody s_is_bids) (defScope s_is_bids) .none kV7 dc7 pm7 an7 cd7 ct7), sl7⟩)
    (c7 : PySem.W.codeIn K cd7 "is_bids" = true)
    (k7 : PySem.W.keepIn K (.ref f7) = true)
    (a8 : PySem.W.nsIn K mainGlobals "is_field" = some (some (.ref f8)))
    (l8 : K.lookup f8 = some ⟨oc8, od8, .func (PySem.W.fnOf "is_field" "is_field" (defArgs s_is_field) (defBody s_is_field) (defScope s_is_field) .none kV8 dc8 pm8 an8 cd8 ct8), sl8⟩)
    (c8 : PySem.W.codeIn K cd8 "is_field" = true)
    (k8 : PySem.W.keepIn K (.ref f8) = true)
    (a9 : PySem.W.nsIn K mainGlobals "need_auction" = some (some (.ref f9)))
    (l9 : K.lookup f9 = some ⟨oc9, od9, .func (PySem.W.fnOf "need_auction" "need_auction" (defArgs s_need_auction) (defBody s_need_auction) (defScope s_need_auction) .none kV9 dc9 pm9 an9 cd9 ct9), sl9⟩)
    (c9 : PySem.W.codeIn K cd9 "need_auction" = true)
    (k9 : PySem.W.keepIn K (.ref f9) = true)
    (a10 : PySem.W.nsIn K mainGlobals "need_field" = some (some (.ref f10)))
    (l10 : K.lookup f10 = some ⟨oc10, od10, .func (PySem.W.fnOf "need_field" "need_field" (defArgs s_need_field) (defBody s_need_field) (defScope s_need_field) .none kV10 dc10 pm10 an10 cd10 ct10), sl10⟩)
    (c10 : PySem.W.codeIn K cd10 "need_field" = true)
    (k10 : PySem.W.keepIn K (.ref f10) = true)
    (a11 : PySem.W.nsIn K mainGlobals "step_at" = some (some (.ref f11)))
    (l11 : K.lookup f11 = some ⟨oc11, od11, .func (PySem.W.fnOf "step_at" "step_at" (defArgs s_step_at) (defBody s_step_at) (defScope s_step_at) .none kV11 dc11 pm11 an11 cd11 ct11), sl11⟩)
    (c11 : PySem.W.codeIn K cd11 "step_at" = true)
    (k11 : PySem.W.keepIn K (.ref f11) = true)
    (a12 : PySem.W.nsIn K mainGlobals "after" = some (some (.ref f12)))
    (l12 : K.lookup f12 = some ⟨oc12, od12, .func (PySem.W.fnOf "after" "after" (defArgs s_after) (defBody s_after) (defScope s_after) .none kV12 dc12 pm12 an12 cd12 ct12), sl12⟩)
    (c12 : PySem.W.codeIn K cd12 "after" = true)
    (k12 : PySem.W.keepIn K (.ref f12) = true)
    (a13 : PySem.W.nsIn K mainGlobals "others_below" = some (some (.ref f13)))
    (l13 : K.lookup f13 = some ⟨oc13, od13, .func (PySem.W.fnOf "others_below" "others_below" (defArgs s_others_below) (defBody s_others_below) (defScope s_others_below) .none kV13 dc13 pm13 an13 cd13 ct13), sl13⟩)
    (c13 : PySem.W.codeIn K cd13 "others_below" = true)
    (k13 : PySem.W.keepIn K (.ref f13) = true)
    (a14 : PySem.W.nsIn K mainGlobals "first_two" = some (some (.ref f14)))
    (l14 : K.lookup f14 = some ⟨oc14, od14, .func (PySem.W.fnOf "first_two" "first_two" (defArgs s_first_two) (defBody s_first_two) (defScope s_first_two) .none kV14 dc14 pm14 an14 cd14 ct14), sl14⟩)
    (c14 : PySem.W.codeIn K cd14 "first_two" = true)
    (k14 : PySem.W.keepIn K (.ref f14) = true)
    (a15 : PySem.W.nsIn K mainGlobals "beginnings" = some (some (.ref f15)))
    (l15 : K.lookup f15 = some ⟨oc15, od15, .func (PySem.W.fnOf "beginnings" "beginnings" (defArgs s_beginnings) (defBody s_beginnings) (defScope s_beginnings) .none kV15 dc15 pm15 an15 cd15 ct15), sl15⟩)
    (c15 : PySem.W.codeIn K cd15 "beginnings" = true)
    (k15 : PySem.W.keepIn K (.ref f15) = true)
    (a16 : PySem.W.nsIn K mainGlobals "all_outcomes" = some (some (.ref f16)))
    (l16 : K.lookup f16 = some ⟨oc16, od16, .func (PySem.W.fnOf "all_outcomes" "all_outcomes" (defArgs s_all_outcomes) (defBody s_all_outcomes) (defScope s_all_outcomes) .none kV16 dc16 pm16 an16 cd16 ct16), sl16⟩)
    (c16 : PySem.W.codeIn K cd16 "all_outcomes" = true)
    (k16 : PySem.W.keepIn K (.ref f16) = true)
    (a17 : PySem.W.nsIn K mainGlobals "winners_of" = some (some (.ref f17)))
    (l17 : K.lookup f17 = some ⟨oc17, od17, .func (PySem.W.fnOf "winners_of" "winners_of" (defArgs s_winners_of) (defBody s_winners_of) (defScope s_winners_of) .none kV17 dc17 pm17 an17 cd17 ct17), sl17⟩)
    (c17 : PySem.W.codeIn K cd17 "winners_of" = true)
    (k17 : PySem.W.keepIn K (.ref f17) = true)
    (a19 : PySem.W.nsIn K mainGlobals "need_room" = some (some (.ref f19)))
    (l19 : K.lookup f19 = some ⟨oc19, od19, .func (PySem.W.fnOf "need_room" "need_room" (defArgs s_need_room) (defBody s_need_room) (defScope s_need_room) .none kV19 dc19 pm19 an19 cd19 ct19), sl19⟩)
    (c19 : PySem.W.codeIn K cd19 "need_room" = true)
    (k19 : PySem.W.keepIn K (.ref f19) = true)
    (a20 : PySem.W.nsIn K mainGlobals "least_possible" = some (some (.ref f20)))
    (l20 : K.lookup f20 = some ⟨oc20, od20, .func (PySem.W.fnOf "least_possible" "least_possible" (defArgs s_least_possible) (defBody s_least_possible) (defScope s_least_possible) .none kV20 dc20 pm20 an20 (.ref cc20) ct20), sl20⟩)
    (c20 : PySem.W.codeIn K (.ref cc20) "least_possible" = true)
    (k20 : PySem.W.keepIn K (.ref f20) = true)
    (tab20 : Pb.codeTab K cc20 = some pt20)
    (hd20 : PySem.W.codeHdIn K cc20 pt20 = true)
    (nl20 : K.lookup pt20 = none)
    (ht20 : h.get? pt20 = some { cls := .none, data := .fields #[] })
    (a21 : PySem.W.nsIn K mainGlobals "least_sure" = some (some (.ref f21)))
    (l21 : K.lookup f21 = some ⟨oc21, od21, .func (PySem.W.fnOf "least_sure" "least_sure" (defArgs s_least_sure) (defBody s_least_sure) (defScope s_least_sure) .none kV21 dc21 pm21 an21 (.ref cc21) ct21), sl21⟩)
    (c21 : PySem.W.codeIn K (.ref cc21) "least_sure" = true)
    (k21 : PySem.W.keepIn K (.ref f21) = true)
    (tab21 : Pb.codeTab K cc21 = some pt21)
    (hd21 : PySem.W.codeHdIn K cc21 pt21 = true)
    (nl21 : K.lookup pt21 = none)
    (ht21 : h.get? pt21 = some { cls := .none, data := .fields #[] })
    (a22 : PySem.W.nsIn K mainGlobals "_law_source" = some (some (.ref f22)))
    (l22 : K.lookup f22 = some ⟨oc22, od22, .func (PySem.W.fnOf "_law_source" "_law_source" (defArgs s__law_source) (defBody s__law_source) (defScope s__law_source) .none kV22 dc22 pm22 an22 cd22 ct22), sl22⟩)
    (c22 : PySem.W.codeIn K cd22 "_law_source" = true)
    (k22 : PySem.W.keepIn K (.ref f22) = true)
    (a23 : PySem.W.nsIn K mainGlobals "_law_draw" = some (some (.ref f23)))
    (l23 : K.lookup f23 = some ⟨oc23, od23, .func (PySem.W.fnOf "_law_draw" "_law_draw" (defArgs s__law_draw) (defBody s__law_draw) (defScope s__law_draw) .none kV23 dc23 pm23 an23 cd23 ct23), sl23⟩)
    (c23 : PySem.W.codeIn K cd23 "_law_draw" = true)
    (k23 : PySem.W.keepIn K (.ref f23) = true)
    (a24 : PySem.W.nsIn K mainGlobals "_law_choice" = some (some (.ref f24)))
    (l24 : K.lookup f24 = some ⟨oc24, od24, .func (PySem.W.fnOf "_law_choice" "_law_choice" (defArgs s__law_choice) (defBody s__law_choice) (defScope s__law_choice) .none kV24 dc24 pm24 an24 cd24 ct24), sl24⟩)
    (c24 : PySem.W.codeIn K cd24 "_law_choice" = true)
    (k24 : PySem.W.keepIn K (.ref f24) = true)
    (a25 : PySem.W.nsIn K mainGlobals "_law_next" = some (some (.ref f25)))
    (l25 : K.lookup f25 = some ⟨oc25, od25, .func (PySem.W.fnOf "_law_next" "_law_next" (defArgs s__law_next) (defBody s__law_next) (defScope s__law_next) .none kV25 dc25 pm25 an25 cd25 ct25), sl25⟩)
    (c25 : PySem.W.codeIn K cd25 "_law_next" = true)
    (k25 : PySem.W.keepIn K (.ref f25) = true)
    (a26 : PySem.W.nsIn K mainGlobals "_law_arrive" = some (some (.ref f26)))
    (l26 : K.lookup f26 = some ⟨oc26, od26, .func (PySem.W.fnOf "_law_arrive" "_law_arrive" (defArgs s__law_arrive) (defBody s__law_arrive) (defScope s__law_arrive) .none kV26 dc26 pm26 an26 cd26 ct26), sl26⟩)
    (c26 : PySem.W.codeIn K cd26 "_law_arrive" = true)
    (k26 : PySem.W.keepIn K (.ref f26) = true)
    (a27 : PySem.W.nsIn K mainGlobals "_law_final" = some (some (.ref f27)))
    (l27 : K.lookup f27 = some ⟨oc27, od27, .func (PySem.W.fnOf "_law_final" "_law_final" (defArgs s__law_final) (defBody s__law_final) (defScope s__law_final) .none kV27 dc27 pm27 an27 cd27 ct27), sl27⟩)
    (c27 : PySem.W.codeIn K cd27 "_law_final" = true)
    (k27 : PySem.W.keepIn K (.ref f27) = true)
    (a28 : PySem.W.nsIn K mainGlobals "_law_auction" = some (some (.ref f28)))
    (l28 : K.lookup f28 = some ⟨oc28, od28, .func (PySem.W.fnOf "_law_auction" "_law_auction" (defArgs s__law_auction) (defBody s__law_auction) (defScope s__law_auction) .none kV28 dc28 pm28 an28 cd28 ct28), sl28⟩)
    (c28 : PySem.W.codeIn K cd28 "_law_auction" = true)
    (k28 : PySem.W.keepIn K (.ref f28) = true)
    (a29 : PySem.W.nsIn K mainGlobals "_law_limit" = some (some (.ref f29)))
    (l29 : K.lookup f29 = some ⟨oc29, od29, .func (PySem.W.fnOf "_law_limit" "_law_limit" (defArgs s__law_limit) (defBody s__law_limit) (defScope s__law_limit) .none kV29 dc29 pm29 an29 cd29 ct29), sl29⟩)
    (c29 : PySem.W.codeIn K cd29 "_law_limit" = true)
    (k29 : PySem.W.keepIn K (.ref f29) = true)
    (a30 : PySem.W.nsIn K mainGlobals "_law_names" = some (some (.ref f30)))
    (l30 : K.lookup f30 = some ⟨oc30, od30, .func (PySem.W.fnOf "_law_names" "_law_names" (defArgs s__law_names) (defBody s__law_names) (defScope s__law_names) .none kV30 dc30 pm30 an30 cd30 ct30), sl30⟩)
    (c30 : PySem.W.codeIn K cd30 "_law_names" = true)
    (k30 : PySem.W.keepIn K (.ref f30) = true)
    (a31 : PySem.W.nsIn K mainGlobals "_law_field" = some (some (.ref f31)))
    (l31 : K.lookup f31 = some ⟨oc31, od31, .func (PySem.W.fnOf "_law_field" "_law_field" (defArgs s__law_field) (defBody s__law_field) (defScope s__law_field) .none kV31 dc31 pm31 an31 cd31 ct31), sl31⟩)
    (c31 : PySem.W.codeIn K cd31 "_law_field" = true)
    (k31 : PySem.W.keepIn K (.ref f31) = true)
    (a32 : PySem.W.nsIn K mainGlobals "_law_orders" = some (some (.ref f32)))
    (l32 : K.lookup f32 = some ⟨oc32, od32, .func (PySem.W.fnOf "_law_orders" "_law_orders" (defArgs s__law_orders) (defBody s__law_orders) (defScope s__law_orders) .none kV32 dc32 pm32 an32 cd32 ct32), sl32⟩)
    (c32 : PySem.W.codeIn K cd32 "_law_orders" = true)
    (k32 : PySem.W.keepIn K (.ref f32) = true)
    (a33 : PySem.W.nsIn K mainGlobals "_law_wins" = some (some (.ref f33)))
    (l33 : K.lookup f33 = some ⟨oc33, od33, .func (PySem.W.fnOf "_law_wins" "_law_wins" (defArgs s__law_wins) (defBody s__law_wins) (defScope s__law_wins) .none kV33 dc33 pm33 an33 cd33 ct33), sl33⟩)
    (c33 : PySem.W.codeIn K cd33 "_law_wins" = true)
    (k33 : PySem.W.keepIn K (.ref f33) = true)
    (a35 : PySem.W.nsIn K mainGlobals "law" = some (some (.ref f35)))
    (l35 : K.lookup f35 = some ⟨oc35, od35, .func (PySem.W.fnOf "law" "law" (defArgs s_law) (defBody s_law) (defScope s_law) .none kV35 dc35 pm35 an35 (.ref cc35) ct35), sl35⟩)
    (c35 : PySem.W.codeIn K (.ref cc35) "law" = true)
    (k35 : PySem.W.keepIn K (.ref f35) = true)
    (tab35 : Pb.codeTab K cc35 = some pt35)
    (hd35 : PySem.W.codeHdIn K cc35 pt35 = true)
    (nl35 : K.lookup pt35 = none)
    (ht35 : h.get? pt35 = some { cls := .none, data := .fields #[] })
    (a18 : PySem.W.nsIn K mainGlobals "least_limit" = some (some (.ref f18)))
    (l18 : K.lookup f18 = some ⟨oc18, od18, .func (PySem.W.fnOf "least_limit" "least_limit" (defArgs s_least_limit) (defBody s_least_limit) (defScope s_least_limit) .none kV18 dc18 pm18 an18 cd18 ct18), sl18⟩)
    (c18 : PySem.W.codeIn K cd18 "least_limit" = true)
    (k18 : PySem.W.keepIn K (.ref f18) = true)
    (a34 : PySem.W.nsIn K mainGlobals "_law_limit_of" = some (some (.ref f34)))
    (l34 : K.lookup f34 = some ⟨oc34, od34, .func (PySem.W.fnOf "_law_limit_of" "_law_limit_of" (defArgs s__law_limit_of) (defBody s__law_limit_of) (defScope s__law_limit_of) .none kV34 dc34 pm34 an34 cd34 ct34), sl34⟩)
    (c34 : PySem.W.codeIn K cd34 "_law_limit_of" = true)
    (k34 : PySem.W.keepIn K (.ref f34) = true)
    (ne20_21 : pt20 ≠ pt21)
    (ne20_35 : pt20 ≠ pt35)
    (ne21_35 : pt21 ≠ pt35)
    (z_abs : PySem.W.nsIn K mainGlobals "abs" = some none)
    (z_all : PySem.W.nsIn K mainGlobals "all" = some none)
    (z_bool : PySem.W.nsIn K mainGlobals "bool" = some none)
    (z_int : PySem.W.nsIn K mainGlobals "int" = some none)
    (z_isinstance : PySem.W.nsIn K mainGlobals "isinstance" = some none)
    (z_len : PySem.W.nsIn K mainGlobals "len" = some none)
    (z_max : PySem.W.nsIn K mainGlobals "max" = some none)
    (z_min : PySem.W.nsIn K mainGlobals "min" = some none)
    (z_range : PySem.W.nsIn K mainGlobals "range" = some none)
    (z_sorted : PySem.W.nsIn K mainGlobals "sorted" = some none)
    (z_str : PySem.W.nsIn K mainGlobals "str" = some none)
    (z_tuple : PySem.W.nsIn K mainGlobals "tuple" = some none)
    (z_zip : PySem.W.nsIn K mainGlobals "zip" = some none)
    (g_LETTERS : PySem.W.nsIn K mainGlobals "LETTERS" = some (some (.str "abcdefghijklmnopqrstuvwxyz" t_LETTERS)))
    (g_MOST_BIDDERS : PySem.W.nsIn K mainGlobals "MOST_BIDDERS" = some (some (.int 8 t_MOST_BIDDERS)))
    (g_MOST_BIDS : PySem.W.nsIn K mainGlobals "MOST_BIDS" = some (some (.int 30 t_MOST_BIDS)))
    (g_MOST_JOINED : PySem.W.nsIn K mainGlobals "MOST_JOINED" = some (some (.int 7 t_MOST_JOINED)))
    (g_MOST_PRICE : PySem.W.nsIn K mainGlobals "MOST_PRICE" = some (some (.int 1000000 t_MOST_PRICE)))
    (g_MOST_STEP : PySem.W.nsIn K mainGlobals "MOST_STEP" = some (some (.int 1000 t_MOST_STEP)))
    (g_NEWCOMER : PySem.W.nsIn K mainGlobals "NEWCOMER" = some (some (.str "" t_NEWCOMER)))
    (x_InvalidAuction : PySem.W.nsIn K mainGlobals "InvalidAuction" = some (some (.ref C_InvalidAuction)))
    (q_InvalidAuction : PySem.W.excIn K C_InvalidAuction veB "ValueError.__new__" = true)
    (k_InvalidAuction : PySem.W.keepIn K (.ref C_InvalidAuction) = true)
    (s_InvalidAuction : PySem.W.subIn K (.ref C_InvalidAuction) (.type "BaseException") = some true)
    (t_InvalidAuction : PySem.W.typeIn K (.ref C_InvalidAuction) = some (.type "type"))
    (x_InvalidField : PySem.W.nsIn K mainGlobals "InvalidField" = some (some (.ref C_InvalidField)))
    (q_InvalidField : PySem.W.excIn K C_InvalidField veB "ValueError.__new__" = true)
    (k_InvalidField : PySem.W.keepIn K (.ref C_InvalidField) = true)
    (s_InvalidField : PySem.W.subIn K (.ref C_InvalidField) (.type "BaseException") = some true)
    (t_InvalidField : PySem.W.typeIn K (.ref C_InvalidField) = some (.type "type"))
    (x_TooMany : PySem.W.nsIn K mainGlobals "TooMany" = some (some (.ref C_TooMany)))
    (q_TooMany : oexB K C_TooMany = true)
    (sa_TooMany : PySem.W.findIn K (.ref C_TooMany) "__setattr__" = some (some (.builtin "object.__setattr__")))
    (s_TooMany : PySem.W.subIn K (.ref C_TooMany) (.type "BaseException") = some true)
    (t_TooMany : PySem.W.typeIn K (.ref C_TooMany) = some (.type "type"))
    (k_TooMany : PySem.W.keepIn K (.ref C_TooMany) = true)
    (li_TooMany : PySem.W.findIn K (.ref C_TooMany) "limit" = some none)
    (in_TooMany : PySem.W.findIn K (.ref C_TooMany) "__init__" = some (some (.ref fI)))
    (tf_TooMany : PySem.W.typeIn K (.ref fI) = some (.type "function"))
    (lI : K.lookup fI = some ⟨ocI, odI, .func (PySem.W.fnOf "__init__" "TooMany.__init__" (defArgs s_TooMany_init) (defBody s_TooMany_init) (defScope s_TooMany_init) .none kVI dcI pmI anI cdI ctI), slI⟩)
    (cI : PySem.W.codeIn K cdI "TooMany.__init__" = true)
    (kI : PySem.W.keepIn K (.ref fI) = true)
    (q_xf : xfB K C_TooMany = true)
    (x_BidError : PySem.W.nsIn K mainGlobals "BidError" = some (some (.ref B_)))
    (sp_BidError : PySem.W.specialIn K (.ref B_) "__getattribute__" = some (some (.builtin "type.__getattribute__")))
    (q_rd : PySem.W.readsIn K B_ (.type "type") = true)
    (fc_BidError : PySem.W.findCls K (.ref B_) (.type "type") "__init__" = some (.val (.builtin "ValueError.__init__")))
    (e_InvalidAuction_TooMany : PySem.W.exmOne K (.ref C_InvalidAuction) (.ref C_TooMany) = some false)
    (e_InvalidField_TooMany : PySem.W.exmOne K (.ref C_InvalidField) (.ref C_TooMany) = some false)
    (e_TooMany_TooMany : PySem.W.exmOne K (.ref C_TooMany) (.ref C_TooMany) = some true)
    (nol : noLst K = true)
    : ∃ (fd : FuncData) (cs : List (Addr × Addr)), (∀ p ∈ cs, h.get? p.2 = some { cls := .none, data := .fields #[] }) ∧ (∀ p ∈ cs, K.lookup p.2 = none) ∧ (∀ p ∈ cs, PySem.W.CodeHd h p.1 p.2) ∧ (∀ (s : Shared) (u : Value), BindsTo s fd ⟨[u], []⟩ [("script", u)]) ∧ ∀ base : Heap, K.In base → base.Ns mainGlobals mg → (∀ p ∈ cs, LamX.TabB base mg p.1 p.2) → FnOk l.prog w K mg base (L2.CX l.prog w) 13 fa fd ["script"] (spLawT K cs) := by
  have e := hfa.symm.trans (PySem.W.mg_of X G a35)
  cases e
  have m0 := at_mk (x := "is_between") (st := s_is_between) (ps := ["value", "low", "high"]) X G a0 l0 c0 k0 (fun _ _ _ _ _ _ us hl => match us, hl with | [_, _, _], _ => rfl)
  have m1 := at_mk (x := "is_price") (st := s_is_price) (ps := ["value"]) X G a1 l1 c1 k1 (fun _ _ _ _ _ _ us hl => match us, hl with | [_], _ => rfl)
  have m2 := at_mk (x := "is_name") (st := s_is_name) (ps := ["value"]) X G a2 l2 c2 k2 (fun _ _ _ _ _ _ us hl => match us, hl with | [_], _ => rfl)
  have m3 := at_mk (x := "is_ascending") (st := s_is_ascending) (ps := ["items"]) X G a3 l3 c3 k3 (fun _ _ _ _ _ _ us hl => match us, hl with | [_], _ => rfl)
  have m4 := at_mk (x := "is_table") (st := s_is_table) (ps := ["value"]) X G a4 l4 c4 k4 (fun _ _ _ _ _ _ us hl => match us, hl with | [_], _ => rfl)
  have m5 := at_mk (x := "is_auction") (st := s_is_auction) (ps := ["value"]) X G a5 l5 c5 k5 (fun _ _ _ _ _ _ us hl => match us, hl with | [_], _ => rfl)
  have m6 := at_mk (x := "is_bid") (st := s_is_bid) (ps := ["value"]) X G a6 l6 c6 k6 (fun _ _ _ _ _ _ us hl => match us, hl with | [_], _ => rfl)
  have m7 := at_mk (x := "is_bids") (st := s_is_bids) (ps := ["value"]) X G a7 l7 c7 k7 (fun _ _ _ _ _ _ us hl => match us, hl with | [_], _ => rfl)
  have m8 := at_mk (x := "is_field") (st := s_is_field) (ps := ["value"]) X G a8 l8 c8 k8 (fun _ _ _ _ _ _ us hl => match us, hl with | [_], _ => rfl)
  have m9 := at_mk (x := "need_auction") (st := s_need_auction) (ps := ["auction"]) X G a9 l9 c9 k9 (fun _ _ _ _ _ _ us hl => match us, hl with | [_], _ => rfl)
  have m10 := at_mk (x := "need_field") (st := s_need_field) (ps := ["field"]) X G a10 l10 c10 k10 (fun _ _ _ _ _ _ us hl => match us, hl with | [_], _ => rfl)
  have m11 := at_mk (x := "step_at") (st := s_step_at) (ps := ["auction", "price"]) X G a11 l11 c11 k11 (fun _ _ _ _ _ _ us hl => match us, hl with | [_, _], _ => rfl)
  have m12 := at_mk (x := "after") (st := s_after) (ps := ["auction", "price"]) X G a12 l12 c12 k12 (fun _ _ _ _ _ _ us hl => match us, hl with | [_, _], _ => rfl)
  have m13 := at_mk (x := "others_below") (st := s_others_below) (ps := ["field", "names", "price"]) X G a13 l13 c13 k13 (fun _ _ _ _ _ _ us hl => match us, hl with | [_, _, _], _ => rfl)
  have m14 := at_mk (x := "first_two") (st := s_first_two) (ps := ["auction", "winner", "loser"]) X G a14 l14 c14 k14 (fun _ _ _ _ _ _ us hl => match us, hl with | [_, _, _], _ => rfl)
  have m15 := at_mk (x := "beginnings") (st := s_beginnings) (ps := ["auction", "field"]) X G a15 l15 c15 k15 (fun _ _ _ _ _ _ us hl => match us, hl with | [_, _], _ => rfl)
  have m16 := at_mk (x := "all_outcomes") (st := s_all_outcomes) (ps := ["auction", "field"]) X G a16 l16 c16 k16 (fun _ _ _ _ _ _ us hl => match us, hl with | [_, _], _ => rfl)
  have m17 := at_mk (x := "winners_of") (st := s_winners_of) (ps := ["auction", "field"]) X G a17 l17 c17 k17 (fun _ _ _ _ _ _ us hl => match us, hl with | [_, _], _ => rfl)
  have m19 := at_mk (x := "need_room") (st := s_need_room) (ps := ["field"]) X G a19 l19 c19 k19 (fun _ _ _ _ _ _ us hl => match us, hl with | [_], _ => rfl)
  have m20 := atC_mk (x := "least_possible") (st := s_least_possible) (ps := ["auction", "field"]) X G a20 l20 c20 k20 (fun _ _ _ _ _ _ us hl => match us, hl with | [_, _], _ => rfl)
  have m21 := atC_mk (x := "least_sure") (st := s_least_sure) (ps := ["auction", "field"]) X G a21 l21 c21 k21 (fun _ _ _ _ _ _ us hl => match us, hl with | [_, _], _ => rfl)
  have m22 := at_mk (x := "_law_source") (st := s__law_source) (ps := ["script", "index"]) X G a22 l22 c22 k22 (fun _ _ _ _ _ _ us hl => match us, hl with | [_, _], _ => rfl)
  have m23 := at_mk (x := "_law_draw") (st := s__law_draw) (ps := ["source", "size"]) X G a23 l23 c23 k23 (fun _ _ _ _ _ _ us hl => match us, hl with | [_, _], _ => rfl)
  have m24 := at_mk (x := "_law_choice") (st := s__law_choice) (ps := ["source", "items"]) X G a24 l24 c24 k24 (fun _ _ _ _ _ _ us hl => match us, hl with | [_, _], _ => rfl)
  have m25 := at_mk (x := "_law_next") (st := s__law_next) (ps := ["auction", "price"]) X G a25 l25 c25 k25 (fun _ _ _ _ _ _ us hl => match us, hl with | [_, _], _ => rfl)
  have m26 := at_mk (x := "_law_arrive") (st := s__law_arrive) (ps := ["auction", "state", "bid"]) X G a26 l26 c26 k26 (fun _ _ _ _ _ _ us hl => match us, hl with | [_, _, _], _ => rfl)
  have m27 := at_mk (x := "_law_final") (st := s__law_final) (ps := ["auction", "bids"]) X G a27 l27 c27 k27 (fun _ _ _ _ _ _ us hl => match us, hl with | [_, _], _ => rfl)
  have m28 := at_mk (x := "_law_auction") (st := s__law_auction) (ps := ["source"]) X G a28 l28 c28 k28 (fun _ _ _ _ _ _ us hl => match us, hl with | [_], _ => rfl)
  have m29 := at_mk (x := "_law_limit") (st := s__law_limit) (ps := ["source", "auction", "near"]) X G a29 l29 c29 k29 (fun _ _ _ _ _ _ us hl => match us, hl with | [_, _, _], _ => rfl)
  have m30 := at_mk (x := "_law_names") (st := s__law_names) (ps := ["source", "count"]) X G a30 l30 c30 k30 (fun _ _ _ _ _ _ us hl => match us, hl with | [_, _], _ => rfl)
  have m31 := at_mk (x := "_law_field") (st := s__law_field) (ps := ["source", "auction", "most"]) X G a31 l31 c31 k31 (fun _ _ _ _ _ _ us hl => match us, hl with | [_, _, _], _ => rfl)
  have m32 := at_mk (x := "_law_orders") (st := s__law_orders) (ps := ["items"]) X G a32 l32 c32 k32 (fun _ _ _ _ _ _ us hl => match us, hl with | [_], _ => rfl)
  have m33 := at_mk (x := "_law_wins") (st := s__law_wins) (ps := ["auction", "field", "limit"]) X G a33 l33 c33 k33 (fun _ _ _ _ _ _ us hl => match us, hl with | [_, _, _], _ => rfl)
  have m35 := atC_mk (x := "law") (st := s_law) (ps := ["script"]) X G a35 l35 c35 k35 (fun _ _ _ _ _ _ us hl => match us, hl with | [_], _ => rfl)
  have m18 := at_mk (x := "least_limit") (st := s_least_limit) (ps := ["is_enough"]) X G a18 l18 c18 k18 (fun _ _ _ _ _ _ us hl => match us, hl with | [_], _ => rfl)
  have m34 := at_mk (x := "_law_limit_of") (st := s__law_limit_of) (ps := ["call"]) X G a34 l34 c34 k34 (fun _ _ _ _ _ _ us hl => match us, hl with | [_], _ => rfl)
  have co : Co K mg := ⟨PySem.W.mg_none_of X G z_abs, PySem.W.mg_none_of X G z_all, PySem.W.mg_none_of X G z_bool, PySem.W.mg_none_of X G z_int, PySem.W.mg_none_of X G z_isinstance, PySem.W.mg_none_of X G z_len, PySem.W.mg_none_of X G z_max, PySem.W.mg_none_of X G z_min, PySem.W.mg_none_of X G z_range, PySem.W.mg_none_of X G z_sorted, PySem.W.mg_none_of X G z_str, PySem.W.mg_none_of X G z_tuple, PySem.W.mg_none_of X G z_zip, gk_str X G (by decide +kernel) g_LETTERS, gk_int X G g_MOST_BIDDERS, gk_int X G g_MOST_BIDS, gk_int X G g_MOST_JOINED, gk_int X G g_MOST_PRICE, gk_int X G g_MOST_STEP, gk_str X G (by decide +kernel) g_NEWCOMER, xc_mk X G x_InvalidAuction q_InvalidAuction k_InvalidAuction s_InvalidAuction t_InvalidAuction, xc_mk X G x_InvalidField q_InvalidField k_InvalidField s_InvalidField t_InvalidField, m34.gd, m18.gd, ex_mk X G x_InvalidAuction x_TooMany e_InvalidAuction_TooMany, ex_mk X G x_InvalidField x_TooMany e_InvalidField_TooMany, ex_mk X G x_TooMany x_TooMany e_TooMany_TooMany, ⟨C_TooMany, fI, _, ⟨PySem.W.mg_of X G x_TooMany, oexC_of q_TooMany sa_TooMany s_TooMany t_TooMany k_TooMany, li_TooMany, in_TooMany, tf_TooMany, (fun_mk lI cI kI).binds (ps := ["self", "limit"]) (fun _ _ _ _ _ _ us hl => match us, hl with | [_, _], _ => rfl)⟩, fun_mk lI cI kI, xfB_ok q_xf⟩, ⟨B_, .type "type", PySem.W.mg_of X G x_BidError, sp_BidError, q_rd, fc_BidError⟩⟩
  refine ⟨PySem.W.fnOf "law" "law" (defArgs s_law) (defBody s_law) (defScope s_law) .none kV35 dc35 pm35 an35 (.ref cc35) ct35, [(cc20, pt20), (cc21, pt21), (cc35, pt35)], (List.forall_mem_cons.mpr ⟨ht20, (List.forall_mem_cons.mpr ⟨ht21, (List.forall_mem_cons.mpr ⟨ht35, (List.forall_mem_nil _)⟩)⟩)⟩), (List.forall_mem_cons.mpr ⟨nl20, (List.forall_mem_cons.mpr ⟨nl21, (List.forall_mem_cons.mpr ⟨nl35, (List.forall_mem_nil _)⟩)⟩)⟩), (List.forall_mem_cons.mpr ⟨PySem.W.codeHd_of_K X hd20, (List.forall_mem_cons.mpr ⟨PySem.W.codeHd_of_K X hd21, (List.forall_mem_cons.mpr ⟨PySem.W.codeHd_of_K X hd35, (List.forall_mem_nil _)⟩)⟩)⟩), fun s v => .of_eq rfl, fun base _ _ hTB => ?_⟩
  have t20 : LamX.TabB base mg cc20 pt20 := hTB (cc20, pt20) (by simp)
  have mt20 : (pt20, (("least_possible" : Str) ++ ".<locals>.") ++ "<lambda>") ∈ ([(pt20, (("least_possible" : Str) ++ ".<locals>.") ++ "<lambda>"), (pt21, (("least_sure" : Str) ++ ".<locals>.") ++ "<lambda>"), (pt35, (("law" : Str) ++ ".<locals>.") ++ "<lambda>")] : List (Addr × Str)) := by simp
  have u20 : ∀ p ∈ ([(pt20, (("least_possible" : Str) ++ ".<locals>.") ++ "<lambda>"), (pt21, (("least_sure" : Str) ++ ".<locals>.") ++ "<lambda>"), (pt35, (("law" : Str) ++ ".<locals>.") ++ "<lambda>")] : List (Addr × Str)), p.1 = pt20 → p.2 = (("least_possible" : Str) ++ ".<locals>.") ++ "<lambda>" := by
    intro p hp hq
    simp only [List.mem_cons, List.not_mem_nil, or_false] at hp
    rcases hp with rfl | rfl | rfl
    all_goals (simp only at hq; first | (exact absurd hq (by assumption)) | (exact absurd hq.symm (by assumption)) | rfl)
  have t21 : LamX.TabB base mg cc21 pt21 := hTB (cc21, pt21) (by simp)
  have mt21 : (pt21, (("least_sure" : Str) ++ ".<locals>.") ++ "<lambda>") ∈ ([(pt20, (("least_possible" : Str) ++ ".<locals>.") ++ "<lambda>"), (pt21, (("least_sure" : Str) ++ ".<locals>.") ++ "<lambda>"), (pt35, (("law" : Str) ++ ".<locals>.") ++ "<lambda>")] : List (Addr × Str)) := by simp
  have u21 : ∀ p ∈ ([(pt20, (("least_possible" : Str) ++ ".<locals>.") ++ "<lambda>"), (pt21, (("least_sure" : Str) ++ ".<locals>.") ++ "<lambda>"), (pt35, (("law" : Str) ++ ".<locals>.") ++ "<lambda>")] : List (Addr × Str)), p.1 = pt21 → p.2 = (("least_sure" : Str) ++ ".<locals>.") ++ "<lambda>" := by
    intro p hp hq
    simp only [List.mem_cons, List.not_mem_nil, or_false] at hp
    rcases hp with rfl | rfl | rfl
    all_goals (simp only at hq; first | (exact absurd hq (by assumption)) | (exact absurd hq.symm (by assumption)) | rfl)
  have t35 : LamX.TabB base mg cc35 pt35 := hTB (cc35, pt35) (by simp)
  have mt35 : (pt35, (("law" : Str) ++ ".<locals>.") ++ "<lambda>") ∈ ([(pt20, (("least_possible" : Str) ++ ".<locals>.") ++ "<lambda>"), (pt21, (("least_sure" : Str) ++ ".<locals>.") ++ "<lambda>"), (pt35, (("law" : Str) ++ ".<locals>.") ++ "<lambda>")] : List (Addr × Str)) := by simp
  have u35 : ∀ p ∈ ([(pt20, (("least_possible" : Str) ++ ".<locals>.") ++ "<lambda>"), (pt21, (("least_sure" : Str) ++ ".<locals>.") ++ "<lambda>"), (pt35, (("law" : Str) ++ ".<locals>.") ++ "<lambda>")] : List (Addr × Str)), p.1 = pt35 → p.2 = (("law" : Str) ++ ".<locals>.") ++ "<lambda>" := by
    intro p hp hq
    simp only [List.mem_cons, List.not_mem_nil, or_false] at hp
    rcases hp with rfl | rfl | rfl
    all_goals (simp only at hq; first | (exact absurd hq (by assumption)) | (exact absurd hq.symm (by assumption)) | rfl)
  have F : FnOk l.prog w K mg base (L2.CX l.prog w) 13 fa _ ["script"] (spIR ⟨K, w, mg, [(pt20, (("least_possible" : Str) ++ ".<locals>.") ++ "<lambda>"), (pt21, (("least_sure" : Str) ++ ".<locals>.") ++ "<lambda>"), (pt35, (("law" : Str) ++ ".<locals>.") ++ "<lambda>")]⟩ (evF T 11 n_law)) := Pb.row_ok rfl (Pb.fn_okC m35 sc_law rfl rfl fun A outer s H E σ0 hr => b_law co (all_ok co m0 m1 m2 m3 m4 m5 m6 m7 m8 m9 m10 m11 m12 m13 m14 m15 m16 m17 m19 m20 t20 mt20 u20 m21 t21 mt21 u21 m22 m23 m24 m25 m26 m27 m28 m29 m30 m31 m32 m33 m35 t35 mt35 u35 10) t35 mt35 u35 A outer s H E σ0 hr)
  exact F.imp fun vs H Q E hh => law_impT (List.forall_mem_cons.mpr ⟨⟨cc20, by simp⟩, (List.forall_mem_cons.mpr ⟨⟨cc21, by simp⟩, (List.forall_mem_cons.mpr ⟨⟨cc35, by simp⟩, (List.forall_mem_nil _)⟩)⟩)⟩) nol (fun ns hl => law_true hl) vs H Q E hh
end Law

open PySem PySem.W PyProof.Rows in
set_option maxRecDepth 100000 in
set_option maxHeartbeats 0 in
theorem PySem.Challenge.cw_proxybids_k09_whole_least_limits_that_wi_holds : PySem.Challenge.rw_proxybids_k09_whole_least_limits_that_wi.Holds := by
  w_on; o_law; k_head; (case hw => w_witness2)
  k_fill
  refine Pb.walkT (D := 13) (l := PySem.Challenge.rw_proxybids_k09_whole_least_limits_that_wi) rfl rfl ⟨rfl, by decide, by decide⟩ (fun w h Y => PySem.W.km_in_of Y) ?F
  case F =>
    intro w mg fa h Y KX G hmg
    refine' Law.all_mk KX G hmg ?a0 ?l0 ?c0 ?k0 ?a1 ?l1 ?c1 ?k1 ?a2 ?l2 ?c2 ?k2 ?a3 ?l3 ?c3 ?k3 ?a4 ?l4 ?c4 ?k4 ?a5 ?l5 ?c5 ?k5 ?a6 ?l6 ?c6 ?k6 ?a7 ?l7 ?c7 ?k7 ?a8 ?l8 ?c8 ?k8 ?a9 ?l9 ?c9 ?k9 ?a10 ?l10 ?c10 ?k10 ?a11 ?l11 ?c11 ?k11 ?a12 ?l12 ?c12 ?k12 ?a13 ?l13 ?c13 ?k13 ?a14 ?l14 ?c14 ?k14 ?a15 ?l15 ?c15 ?k15 ?a16 ?l16 ?c16 ?k16 ?a17 ?l17 ?c17 ?k17 ?a19 ?l19 ?c19 ?k19 ?a20 ?l20 ?c20 ?k20 ?tab20 ?hd20 ?nl20 ?ht20 ?a21 ?l21 ?c21 ?k21 ?tab21 ?hd21 ?nl21 ?ht21 ?a22 ?l22 ?c22 ?k22 ?a23 ?l23 ?c23 ?k23 ?a24 ?l24 ?c24 ?k24 ?a25 ?l25 ?c25 ?k25 ?a26 ?l26 ?c26 ?k26 ?a27 ?l27 ?c27 ?k27 ?a28 ?l28 ?c28 ?k28 ?a29 ?l29 ?c29 ?k29 ?a30 ?l30 ?c30 ?k30 ?a31 ?l31 ?c31 ?k31 ?a32 ?l32 ?c32 ?k32 ?a33 ?l33 ?c33 ?k33 ?a35 ?l35 ?c35 ?k35 ?tab35 ?hd35 ?nl35 ?ht35 ?a18 ?l18 ?c18 ?k18 ?a34 ?l34 ?c34 ?k34 ?ne20_21 ?ne20_35 ?ne21_35 ?z_abs ?z_all ?z_bool ?z_int ?z_isinstance ?z_len ?z_max ?z_min ?z_range ?z_sorted ?z_str ?z_tuple ?z_zip ?g_LETTERS ?g_MOST_BIDDERS ?g_MOST_BIDS ?g_MOST_JOINED ?g_MOST_PRICE ?g_MOST_STEP ?g_NEWCOMER ?x_InvalidAuction ?q_InvalidAuction ?k_InvalidAuction ?s_InvalidAuction ?t_InvalidAuction ?x_InvalidField ?q_InvalidField ?k_InvalidField ?s_InvalidField ?t_InvalidField ?x_TooMany ?q_TooMany ?sa_TooMany ?s_TooMany ?t_TooMany ?k_TooMany ?li_TooMany ?in_TooMany ?tf_TooMany ?lI ?cI ?kI ?q_xf ?x_BidError ?sp_BidError ?q_rd ?fc_BidError ?e_InvalidAuction_TooMany ?e_InvalidField_TooMany ?e_TooMany_TooMany ?nol
    (case a0 => k_is)
    (case l0 => k_is)
    (case c0 => k_is)
    (case k0 => k_is)
    (case a1 => k_is)
    (case l1 => k_is)
    (case c1 => k_is)
    (case k1 => k_is)
    (case a2 => k_is)
    (case l2 => k_is)
    (case c2 => k_is)
    (case k2 => k_is)
    (case a3 => k_is)
    (case l3 => k_is)
    (case c3 => k_is)
    (case k3 => k_is)
    (case a4 => k_is)
    (case l4 => k_is)
    (case c4 => k_is)
    (case k4 => k_is)
    (case a5 => k_is)
    (case l5 => k_is)
    (case c5 => k_is)
    (case k5 => k_is)
    (case a6 => k_is)
    (case l6 => k_is)
    (case c6 => k_is)
    (case k6 => k_is)
    (case a7 => k_is)
    (case l7 => k_is)
    (case c7 => k_is)
    (case k7 => k_is)
    (case a8 => k_is)
    (case l8 => k_is)
    (case c8 => k_is)
    (case k8 => k_is)
    (case a9 => k_is)
    (case l9 => k_is)
    (case c9 => k_is)
    (case k9 => k_is)
    (case a10 => k_is)
    (case l10 => k_is)
    (case c10 => k_is)
    (case k10 => k_is)
    (case a11 => k_is)
    (case l11 => k_is)
    (case c11 => k_is)
    (case k11 => k_is)
    (case a12 => k_is)
    (case l12 => k_is)
    (case c12 => k_is)
    (case k12 => k_is)
    (case a13 => k_is)
    (case l13 => k_is)
    (case c13 => k_is)
    (case k13 => k_is)
    (case a14 => k_is)
    (case l14 => k_is)
    (case c14 => k_is)
    (case k14 => k_is)
    (case a15 => k_is)
    (case l15 => k_is)
    (case c15 => k_is)
    (case k15 => k_is)
    (case a16 => k_is)
    (case l16 => k_is)
    (case c16 => k_is)
    (case k16 => k_is)
    (case a17 => k_is)
    (case l17 => k_is)
    (case c17 => k_is)
    (case k17 => k_is)
    (case a19 => k_is)
    (case l19 => k_is)
    (case c19 => k_is)
    (case k19 => k_is)
    (case a20 => k_is)
    (case l20 => k_is)
    (case c20 => k_is)
    (case k20 => k_is)
    (case tab20 => first | k_is | rfl | kernel_rfl)
    (case hd20 => kernel_rfl)
    (case nl20 => first | k_is | rfl | kernel_rfl)
    (case ht20 => exact PySem.W.km_tabs_of Y _ (by simp))
    (case a21 => k_is)
    (case l21 => k_is)
    (case c21 => k_is)
    (case k21 => k_is)
    (case tab21 => first | k_is | rfl | kernel_rfl)
    (case hd21 => kernel_rfl)
    (case nl21 => first | k_is | rfl | kernel_rfl)
    (case ht21 => exact PySem.W.km_tabs_of Y _ (by simp))
    (case a22 => k_is)
    (case l22 => k_is)
    (case c22 => k_is)
    (case k22 => k_is)
    (case a23 => k_is)
    (case l23 => k_is)
    (case c23 => k_is)
    (case k23 => k_is)
    (case a24 => k_is)
    (case l24 => k_is)
    (case c24 => k_is)
    (case k24 => k_is)
    (case a25 => k_is)
    (case l25 => k_is)
    (case c25 => k_is)
    (case k25 => k_is)
    (case a26 => k_is)
    (case l26 => k_is)
    (case c26 => k_is)
    (case k26 => k_is)
    (case a27 => k_is)
    (case l27 => k_is)
    (case c27 => k_is)
    (case k27 => k_is)
    (case a28 => k_is)
    (case l28 => k_is)
    (case c28 => k_is)
    (case k28 => k_is)
    (case a29 => k_is)
    (case l29 => k_is)
    (case c29 => k_is)
    (case k29 => k_is)
    (case a30 => k_is)
    (case l30 => k_is)
    (case c30 => k_is)
    (case k30 => k_is)
    (case a31 => k_is)
    (case l31 => k_is)
    (case c31 => k_is)
    (case k31 => k_is)
    (case a32 => k_is)
    (case l32 => k_is)
    (case c32 => k_is)
    (case k32 => k_is)
    (case a33 => k_is)
    (case l33 => k_is)
    (case c33 => k_is)
    (case k33 => k_is)
    (case a35 => k_is)
    (case l35 => k_is)
    (case c35 => k_is)
    (case k35 => k_is)
    (case tab35 => first | k_is | rfl | kernel_rfl)
    (case hd35 => kernel_rfl)
    (case nl35 => first | k_is | rfl | kernel_rfl)
    (case ht35 => exact PySem.W.km_tabs_of Y _ (by simp))
    (case a18 => k_is)
    (case l18 => k_is)
    (case c18 => k_is)
    (case k18 => k_is)
    (case a34 => k_is)
    (case l34 => k_is)
    (case c34 => k_is)
    (case k34 => k_is)
    (case ne20_21 => decide)
    (case ne20_35 => decide)
    (case ne21_35 => decide)
    (case z_abs => k_is)
    (case z_all => k_is)
    (case z_bool => k_is)
    (case z_int => k_is)
    (case z_isinstance => k_is)
    (case z_len => k_is)
    (case z_max => k_is)
    (case z_min => k_is)
    (case z_range => k_is)
    (case z_sorted => k_is)
    (case z_str => k_is)
    (case z_tuple => k_is)
    (case z_zip => k_is)
    (case g_LETTERS => k_is)
    (case g_MOST_BIDDERS => k_is)
    (case g_MOST_BIDS => k_is)
    (case g_MOST_JOINED => k_is)
    (case g_MOST_PRICE => k_is)
    (case g_MOST_STEP => k_is)
    (case g_NEWCOMER => k_is)
    (case x_InvalidAuction => k_is)
    (case q_InvalidAuction => kernel_rfl)
    (case k_InvalidAuction => k_is)
    (case s_InvalidAuction => k_is)
    (case t_InvalidAuction => k_is)
    (case x_InvalidField => k_is)
    (case q_InvalidField => kernel_rfl)
    (case k_InvalidField => k_is)
    (case s_InvalidField => k_is)
    (case t_InvalidField => k_is)
    (case x_TooMany => k_is)
    (case q_TooMany => kernel_rfl)
    (case sa_TooMany => k_is)
    (case s_TooMany => k_is)
    (case t_TooMany => k_is)
    (case k_TooMany => k_is)
    (case li_TooMany => k_is)
    (case in_TooMany => k_is)
    (case tf_TooMany => k_is)
    (case lI => k_is)
    (case cI => k_is)
    (case kI => k_is)
    (case q_xf => kernel_rfl)
    (case x_BidError => k_is)
    (case sp_BidError => k_is)
    (case q_rd => kernel_rfl)
    (case fc_BidError => k_is)
    (case e_InvalidAuction_TooMany => kernel_rfl)
    (case e_InvalidField_TooMany => kernel_rfl)
    (case e_TooMany_TooMany => kernel_rfl)
    (case nol => kernel_rfl)
