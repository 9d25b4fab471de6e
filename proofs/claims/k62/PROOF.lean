import PyProof.Rows.All
import Wide.All
import OpenK.AllK
import Wide.FinOn
import HandS.ForMost
import HandS.ForExc
import HandS.Deep
import HandS.Style
import KE.KeyNested
import HandS.DictTup
import KE.KDictCopyH
import HandS.SortInts
import HandS.RaiseMore
import HandS.TupAny
import HandS.IsInst
import HandS.Conv
import HandS.Codes
import HandS.SetFor
import HandS.Defaults
import HandS.Lambda
import HandS.Ends
import HandS.Head0
import HandS.Head1
import HandS.Head2
import HandS.HeadEnd
import HandS.HeadHook1
import HandS.HeadHook2
import PySem.Challenge.RW_riverknown_k62_whole_stairs_of_delays
set_option Elab.async false
set_option linter.all false
set_option maxRecDepth 100000
set_option maxHeartbeats 0
/-! Dicts whose keys are None, whole numbers and tuples, mixed: what stands in the heap, exactly; the lookups. -/
namespace DL
open PySem PySem.Spec L2
open PySem.Sem (wp)

/-- no text as a key: the table's road for texts is another -/
def NoText : NestedKey → Prop
  | .text _ => False
  | _ => True
abbrev MixE := NestedKey × Value × Value
def entM (w : World) (x : MixE) : DictEntry := ⟨x.1.hash w, x.2.1, x.2.2⟩
/-- the dict at d holds just these entries -/
structure MixOf (w : World) (h : Heap) (d : Addr) (xs : List MixE) : Prop where
  ex : ∃ o es ep, h.get? d = some o ∧ o.ExactDict ∧ o.data = .dict es ep ∧ es.toList = xs.map (entM w)
structure MixKeys (h : Heap) (xs : List MixE) : Prop where
  is : ∀ x ∈ xs, NestedIs h x.1 x.2.1 ∧ x.1.depth ≤ 8 ∧ NoText x.1
  nd : (xs.map (·.1)).Nodup
def placeM (xs : List MixE) (k : NestedKey) : Option Nat := xs.findIdx? fun x => decide (x.1 = k)

section
variable {prog : Program} {w : World} {A : Around} {E : Value → Shared → Prop} {s : Shared} {xs : List MixE} {k : NestedKey} {key : Value}
theorem noText_str (h : NoText k) {x : Str} {t : Tok} (e : key = .str x t) (q : NestedIs s.heap k key) : False := by
  subst e
  cases q
  exact h
theorem placeM_some {j : Nat} {p : Value × Value} (nd : (xs.map (·.1)).Nodup) (h : xs[j]? = some (k, p)) : placeM xs k = some j := by
  unfold placeM
  rw [List.findIdx?_eq_some_iff_getElem]
  have hj := (List.getElem?_eq_some_iff.mp h).1
  have hx : xs[j] = (k, p) := (List.getElem?_eq_some_iff.mp h).2
  refine ⟨hj, by rw [hx]; simp, fun i hi => ?_⟩
  simp only [decide_eq_true_eq]
  intro z
  have e1 : (xs.map (·.1))[i]? = some k := by rw [List.getElem?_map, List.getElem?_eq_getElem (by omega)]; simp [z]
  have e2 : (xs.map (·.1))[j]? = some k := by rw [List.getElem?_map, h]; rfl
  have := (List.getElem?_inj (List.getElem?_eq_some_iff.mp e1).1 nd).mp (e1.trans e2.symm)
  omega
theorem placeM_none (h : ∀ (j : Nat) (p : Value × Value), xs[j]? ≠ some (k, p)) : placeM xs k = none := by
  unfold placeM
  rw [List.findIdx?_eq_none_iff]
  intro x hx
  obtain ⟨j, hj⟩ := List.mem_iff_getElem?.mp hx
  simp only [decide_eq_false_iff_not]
  rintro rfl
  exact h j x.2 hj
theorem mix_at {es : Array DictEntry} (he : es.toList = xs.map (entM w)) (j : Nat) : es[j]? = (xs[j]?).map (entM w) := by
  rw [← Array.getElem?_toList, he, List.getElem?_map]
theorem mix_size {es : Array DictEntry} (he : es.toList = xs.map (entM w)) : es.size = xs.length := by
  rw [← Array.length_toList, he, List.length_map]
/-- one question of the table: is the stored key the one asked for? -/
theorem mix_eq {a b : NestedKey} {u v : Value} {Q : Bool → Shared → Prop} (hu : A.units + 8 < cLine) (ha : NestedIs s.heap a u) (hb : NestedIs s.heap b v) (da : a.depth ≤ 8) (h : Q (decide (a = b)) s) : wpAny (model prog w) A (PySem.eqBool u v) Q E s :=
  eqAt_key a b A s _ _ ha hb (by omega) _ _ _ _ (by rw [← NestedKey.decide_eq]; exact h)
theorem mix_tell {stored : List Value} {Q : Bool → Shared → Prop} (hk : NestedIs s.heap k key) (dk : k.depth ≤ 8) (hst : ∀ v ∈ stored, ∃ a : NestedKey, NestedIs s.heap a v ∧ a.depth ≤ 8) (h : Q false s) : wpAny (model prog w) A (tableMayTell key stored) Q E s := by
  unfold tableMayTell
  split
  · exact wpAny_pure h
  · refine wpAny_bind (quiet_key k key 8 s hk dk A E _ ?_)
    simp only [Bool.not_true, Bool.false_eq_true, if_false]
    refine wpAny_bind (wpAny_forIn_list _ (fun rest r t => t = s ∧ r = (none, ()) ∧ ∀ v ∈ rest, ∃ a : NestedKey, NestedIs s.heap a v ∧ a.depth ≤ 8) _ (fun v rest r t ht => ?_) (fun r t ht => ?_) _ _ ⟨rfl, rfl, hst⟩)
    · obtain ⟨rfl, rfl, hr⟩ := ht
      obtain ⟨a, ha, da⟩ := hr v (List.mem_cons_self ..)
      refine wpAny_bind (quiet_key a v 8 t ha da A E _ ?_)
      simp only [Bool.not_true, Bool.false_eq_true, if_false]
      exact wpAny_pure ⟨rfl, rfl, fun z hz => hr z (List.mem_cons_of_mem _ hz)⟩
    · obtain ⟨rfl, rfl, _⟩ := ht
      exact wpAny_pure h
/-- what the walk knows after the places of pre -/
def Seen (xs : List MixE) (k : NestedKey) (pre : List Nat) (hit : Option Nat) : Prop := (hit = none ∧ ∀ i ∈ pre, ∀ p, xs[i]? ≠ some (k, p)) ∨ ∃ j p, hit = some j ∧ j ∈ pre ∧ xs[j]? = some (k, p)
theorem seen_one {pre : List Nat} {hit : Option Nat} {i : Nat} (h : Seen xs k pre hit) (hi : ∀ p, xs[i]? ≠ some (k, p)) : Seen xs k (pre ++ [i]) hit := by
  rcases h with ⟨rfl, h⟩ | ⟨j, p, rfl, h1, h2⟩
  · refine .inl ⟨rfl, fun m hm => ?_⟩
    rcases List.mem_append.mp hm with hm | hm
    · exact h m hm
    · rw [List.mem_singleton] at hm
      subst hm
      exact hi
  · exact .inr ⟨j, p, rfl, List.mem_append.mpr (.inl h1), h2⟩
theorem mix_find {d : Addr} {o : Obj} {es : Array DictEntry} {ep : Nat} {Q : Option Nat → Shared → Prop} (hu : A.units + 8 < cLine) (hkey : NestedIs s.heap k key) (dk : k.depth ≤ 8) (nt : NoText k)
    (ho : s.heap.get? d = some o) (hd : o.data = .dict es ep) (he : es.toList = xs.map (entM w)) (hk : MixKeys s.heap xs) (hQ : Q (placeM xs k) s) : wpAny (model prog w) A (dictFind d key (k.hash w)) Q E s := by
  have hsz := mix_size he
  -- the places: all of the hash, each once
  have pin : ∀ i, i ∈ placesWithHash es.size (fun i => es[i]?.map (·.hash)) (k.hash w) ↔ i < es.size ∧ (es[i]?.map (·.hash)) = some (k.hash w) := fun i => by
    unfold placesWithHash
    rw [List.mem_filter, List.mem_range, beq_iff_eq]
  have pnd : (placesWithHash es.size (fun i => es[i]?.map (·.hash)) (k.hash w)).Nodup := List.Pairwise.filter _ List.nodup_range
  have pk : ∀ (j : Nat) (p : Value × Value), xs[j]? = some (k, p) → j ∈ placesWithHash es.size (fun i => es[i]?.map (·.hash)) (k.hash w) := fun j p hj => by
    rw [pin]
    have := (List.getElem?_eq_some_iff.mp hj).1
    refine ⟨by omega, ?_⟩
    rw [mix_at he, hj]
    rfl
  have last : ∀ hit, Seen xs k (placesWithHash es.size (fun i => es[i]?.map (·.hash)) (k.hash w)) hit → hit = placeM xs k := fun hit h => by
    rcases h with ⟨rfl, h⟩ | ⟨j, p, rfl, _, h2⟩
    · exact (placeM_none fun j p hj => h j (pk j p hj) p hj).symm
    · exact (placeM_some hk.nd h2).symm
  unfold dictFind
  try with_reducible refine wpAny_holding ?_
  refine wpAny_bind (wpAny_dictEntries ho hd ?_)
  dsimp only
  have notS : ∀ (x : Str) (t : Tok), key ≠ .str x t := fun x t e => noText_str nt e hkey
  have hany : ∀ a : Addr, key = .ref a → ¬ (es.any fun e => e.key == Value.ref a && e.hash != k.hash w) = true := fun a ea => by
    subst ea
    rw [← Array.any_toList, List.any_eq_true]
    rintro ⟨e, hin, hc⟩
    rw [he] at hin
    obtain ⟨x, hx, rfl⟩ := List.mem_map.mp hin
    simp only [entM, Bool.and_eq_true, beq_iff_eq, bne_iff_ne, ne_eq] at hc
    have h1 := (hk.is x hx).1
    rw [hc.1] at h1
    exact hc.2 (by rw [h1.inj _ _ _ hkey])
  have hst : ∀ v ∈ (placesWithHash es.size (fun i => es[i]?.map (·.hash)) (k.hash w)).filterMap (fun i => es[i]?.map (·.key)), ∃ a : NestedKey, NestedIs s.heap a v ∧ a.depth ≤ 8 := fun v hv => by
    obtain ⟨i, _, hi⟩ := List.mem_filterMap.mp hv
    rw [mix_at he] at hi
    cases hx : xs[i]? with
    | none => rw [hx] at hi; cases hi
    | some x =>
      rw [hx] at hi
      obtain rfl : x.2.1 = v := by simpa [entM] using hi
      obtain ⟨a, b, _⟩ := hk.is x (List.mem_of_getElem? hx)
      exact ⟨_, a, b⟩
  have plain : wpAny (model prog w) A (dictWalkPlain d key (k.hash w) es (placesWithHash es.size (fun i => es[i]?.map (·.hash)) (k.hash w))) Q E s := by
    unfold dictWalkPlain
    refine wpAny_bind (wpAny_forIn_list _ (fun rest b t => t = s ∧ ∃ pre hit, b = (none, ()) ∧ placesWithHash es.size (fun i => es[i]?.map (·.hash)) (k.hash w) = pre ++ rest ∧ hit = none ∧ Seen xs k pre hit) _ (fun x rest b t hI => ?_) (fun b t hI => ?_) _ _ ⟨rfl, [], none, rfl, rfl, rfl, .inl ⟨rfl, fun i h => by cases h⟩⟩)
    · obtain ⟨rfl, pre, hit, rfl, hp, rfl, hs⟩ := hI
      have hxp := (pin x).mp (by rw [hp]; simp)
      have hlt : x < xs.length := by omega
      have hx : xs[x]? = some xs[x] := List.getElem?_eq_getElem hlt
      obtain ⟨kx, dx, _⟩ := hk.is xs[x] (List.getElem_mem hlt)
      have hex : es[x]? = some (entM w xs[x]) := by rw [mix_at he, hx]; rfl
      have hhx : (entM w xs[x]).hash = k.hash w := by
        have h2 := hxp.2
        rw [hex] at h2
        exact Option.some.inj h2
      have nx : ¬ xs[x].1 = k → ∀ p, xs[x]? ≠ some (k, p) := fun ne p z => by
        rw [hx] at z
        exact ne (by rw [Option.some.inj z])
      have yx : xs[x].1 = k → xs[x]? = some (k, xs[x].2) := fun z => by rw [hx, ← z]
      have hp' : placesWithHash es.size (fun i => es[i]?.map (·.hash)) (k.hash w) = (pre ++ [x]) ++ rest := by rw [hp]; simp
      simp only [hex]
      rw [if_pos (beq_iff_eq.mpr hhx)]
      refine wpAny_bind (wpAny_dictEpoch ho hd (wpAny_bind (mix_eq hu kx hkey dx (wpAny_bind (wpAny_dictEpoch ho hd ?_)))))
      show wpAny _ _ (if (ep != ep) = true then _ else _) _ E _
      rw [if_neg (by simp)]
      by_cases hkk : xs[x].1 = k
      · rw [decide_eq_true hkk]
        refine wpAny_bind (wpAny_rule (wpAny_pure ?_))
        rw [placeM_some hk.nd (yx hkk)] at hQ
        exact wpAny_pure hQ
      · rw [decide_eq_false hkk]
        refine wpAny_bind (wpAny_rule (wpAny_pure ⟨rfl, pre ++ [x], none, rfl, hp', rfl, seen_one hs (nx hkk)⟩))
    · obtain ⟨rfl, pre, hit, rfl, hp, rfl, hs⟩ := hI
      rw [List.append_nil] at hp
      rw [← hp] at hs
      rw [← last _ hs] at hQ
      exact wpAny_pure hQ
  cases key with
  | str x t => exact absurd rfl (notS x t)
  | ref a =>
    dsimp only
    rw [if_neg (by simp [carriedByValue])]
    rw [if_neg (hany a rfl)]
    by_cases hone : (((placesWithHash es.size (fun i => es[i]?.map (·.hash)) (k.hash w)).filterMap fun i => es[i]?.map (·.key)) == [Value.ref a]) = true
    · rw [if_pos hone]
      refine wpAny_bind (wpAny_pure ?_)
      rw [if_neg (by simp)]
      refine wpAny_bind (wpAny_forIn_list _ (fun rest b t => t = s ∧ ∃ pre hit, b = (none, hit) ∧ placesWithHash es.size (fun i => es[i]?.map (·.hash)) (k.hash w) = pre ++ rest ∧ Seen xs k pre hit) _ (fun x rest b t hI => ?_) (fun b t hI => ?_) _ _ ⟨rfl, [], none, rfl, rfl, .inl ⟨rfl, fun i h => by cases h⟩⟩)
      · obtain ⟨rfl, pre, hit, rfl, hp, hs⟩ := hI
        have hxp := (pin x).mp (by rw [hp]; simp)
        have hlt : x < xs.length := by omega
        have hx : xs[x]? = some xs[x] := List.getElem?_eq_getElem hlt
        obtain ⟨kx, dx, _⟩ := hk.is xs[x] (List.getElem_mem hlt)
        have hex : es[x]? = some (entM w xs[x]) := by rw [mix_at he, hx]; rfl
        have hhx : (entM w xs[x]).hash = k.hash w := by
          have h2 := hxp.2
          rw [hex] at h2
          exact Option.some.inj h2
        have nx : ¬ xs[x].1 = k → ∀ p, xs[x]? ≠ some (k, p) := fun ne p z => by
          rw [hx] at z
          exact ne (by rw [Option.some.inj z])
        have yx : xs[x].1 = k → xs[x]? = some (k, xs[x].2) := fun z => by rw [hx, ← z]
        have hp' : placesWithHash es.size (fun i => es[i]?.map (·.hash)) (k.hash w) = (pre ++ [x]) ++ rest := by rw [hp]; simp
        simp only [hex]
        rw [if_pos (beq_iff_eq.mpr hhx)]
        refine wpAny_bind (wpAny_dictEpoch ho hd (wpAny_bind (mix_eq hu kx hkey dx (wpAny_bind (wpAny_dictEpoch ho hd ?_)))))
        show wpAny _ _ (if (ep != ep) = true then _ else _) _ E _
        rw [if_neg (by simp)]
        by_cases hkk : xs[x].1 = k
        · rw [decide_eq_true hkk]
          rcases hs with ⟨rfl, hs⟩ | ⟨j, p, rfl, hj, hjk⟩
          · rw [if_pos rfl, if_neg (by simp)]
            refine wpAny_bind (wpAny_rule ?_)
            split
            · rw [placeM_some hk.nd (yx hkk)] at hQ
              exact wpAny_pure (wpAny_pure hQ)
            · exact wpAny_pure ⟨rfl, pre ++ [x], some x, rfl, hp', .inr ⟨x, _, rfl, by simp, yx hkk⟩⟩
          · have ej : j = x := Option.some.inj ((placeM_some hk.nd hjk).symm.trans (placeM_some hk.nd (yx hkk)))
            subst ej
            rw [hp] at pnd
            exact absurd rfl ((List.nodup_append.mp pnd).2.2 j hj j (List.mem_cons_self ..))
        · rw [decide_eq_false hkk]
          rw [if_neg (by simp)]
          refine wpAny_bind (wpAny_rule ?_)
          rw [if_neg (by simp)]
          exact wpAny_pure ⟨rfl, pre ++ [x], hit, rfl, hp', seen_one hs (nx hkk)⟩
      · obtain ⟨rfl, pre, hit, rfl, hp, hs⟩ := hI
        rw [List.append_nil] at hp
        rw [← hp] at hs
        rw [← last _ hs] at hQ
        exact wpAny_pure hQ
    · rw [if_neg hone]
      refine wpAny_bind (mix_tell hkey dk hst ?_)
      rw [if_neg (by simp)]
      refine wpAny_bind (wpAny_forIn_list _ (fun rest b t => t = s ∧ ∃ pre hit, b = (none, hit) ∧ placesWithHash es.size (fun i => es[i]?.map (·.hash)) (k.hash w) = pre ++ rest ∧ Seen xs k pre hit) _ (fun x rest b t hI => ?_) (fun b t hI => ?_) _ _ ⟨rfl, [], none, rfl, rfl, .inl ⟨rfl, fun i h => by cases h⟩⟩)
      · obtain ⟨rfl, pre, hit, rfl, hp, hs⟩ := hI
        have hxp := (pin x).mp (by rw [hp]; simp)
        have hlt : x < xs.length := by omega
        have hx : xs[x]? = some xs[x] := List.getElem?_eq_getElem hlt
        obtain ⟨kx, dx, _⟩ := hk.is xs[x] (List.getElem_mem hlt)
        have hex : es[x]? = some (entM w xs[x]) := by rw [mix_at he, hx]; rfl
        have hhx : (entM w xs[x]).hash = k.hash w := by
          have h2 := hxp.2
          rw [hex] at h2
          exact Option.some.inj h2
        have nx : ¬ xs[x].1 = k → ∀ p, xs[x]? ≠ some (k, p) := fun ne p z => by
          rw [hx] at z
          exact ne (by rw [Option.some.inj z])
        have yx : xs[x].1 = k → xs[x]? = some (k, xs[x].2) := fun z => by rw [hx, ← z]
        have hp' : placesWithHash es.size (fun i => es[i]?.map (·.hash)) (k.hash w) = (pre ++ [x]) ++ rest := by rw [hp]; simp
        simp only [hex]
        rw [if_pos (beq_iff_eq.mpr hhx)]
        refine wpAny_bind (wpAny_dictEpoch ho hd (wpAny_bind (mix_eq hu kx hkey dx (wpAny_bind (wpAny_dictEpoch ho hd ?_)))))
        show wpAny _ _ (if (ep != ep) = true then _ else _) _ E _
        rw [if_neg (by simp)]
        by_cases hkk : xs[x].1 = k
        · rw [decide_eq_true hkk]
          rcases hs with ⟨rfl, hs⟩ | ⟨j, p, rfl, hj, hjk⟩
          · rw [if_pos rfl, if_neg (by simp)]
            refine wpAny_bind (wpAny_rule ?_)
            split
            · rw [placeM_some hk.nd (yx hkk)] at hQ
              exact wpAny_pure (wpAny_pure hQ)
            · exact wpAny_pure ⟨rfl, pre ++ [x], some x, rfl, hp', .inr ⟨x, _, rfl, by simp, yx hkk⟩⟩
          · have ej : j = x := Option.some.inj ((placeM_some hk.nd hjk).symm.trans (placeM_some hk.nd (yx hkk)))
            subst ej
            rw [hp] at pnd
            exact absurd rfl ((List.nodup_append.mp pnd).2.2 j hj j (List.mem_cons_self ..))
        · rw [decide_eq_false hkk]
          rw [if_neg (by simp)]
          refine wpAny_bind (wpAny_rule ?_)
          rw [if_neg (by simp)]
          exact wpAny_pure ⟨rfl, pre ++ [x], hit, rfl, hp', seen_one hs (nx hkk)⟩
      · obtain ⟨rfl, pre, hit, rfl, hp, hs⟩ := hI
        rw [List.append_nil] at hp
        rw [← hp] at hs
        rw [← last _ hs] at hQ
        exact wpAny_pure hQ
  | none =>
    dsimp only
    by_cases hall : ((Value.none :: (placesWithHash es.size (fun i => es[i]?.map (·.hash)) (k.hash w)).filterMap fun i => es[i]?.map (·.key)).all carriedByValue) = true
    · rw [if_pos hall]
      exact plain
    rw [if_neg hall]
    by_cases hone : (((placesWithHash es.size (fun i => es[i]?.map (·.hash)) (k.hash w)).filterMap fun i => es[i]?.map (·.key)) == [Value.none]) = true
    · rw [if_pos hone]
      refine wpAny_bind (wpAny_pure ?_)
      rw [if_neg (by simp)]
      refine wpAny_bind (wpAny_forIn_list _ (fun rest b t => t = s ∧ ∃ pre hit, b = (none, hit) ∧ placesWithHash es.size (fun i => es[i]?.map (·.hash)) (k.hash w) = pre ++ rest ∧ Seen xs k pre hit) _ (fun x rest b t hI => ?_) (fun b t hI => ?_) _ _ ⟨rfl, [], none, rfl, rfl, .inl ⟨rfl, fun i h => by cases h⟩⟩)
      · obtain ⟨rfl, pre, hit, rfl, hp, hs⟩ := hI
        have hxp := (pin x).mp (by rw [hp]; simp)
        have hlt : x < xs.length := by omega
        have hx : xs[x]? = some xs[x] := List.getElem?_eq_getElem hlt
        obtain ⟨kx, dx, _⟩ := hk.is xs[x] (List.getElem_mem hlt)
        have hex : es[x]? = some (entM w xs[x]) := by rw [mix_at he, hx]; rfl
        have hhx : (entM w xs[x]).hash = k.hash w := by
          have h2 := hxp.2
          rw [hex] at h2
          exact Option.some.inj h2
        have nx : ¬ xs[x].1 = k → ∀ p, xs[x]? ≠ some (k, p) := fun ne p z => by
          rw [hx] at z
          exact ne (by rw [Option.some.inj z])
        have yx : xs[x].1 = k → xs[x]? = some (k, xs[x].2) := fun z => by rw [hx, ← z]
        have hp' : placesWithHash es.size (fun i => es[i]?.map (·.hash)) (k.hash w) = (pre ++ [x]) ++ rest := by rw [hp]; simp
        simp only [hex]
        rw [if_pos (beq_iff_eq.mpr hhx)]
        refine wpAny_bind (wpAny_dictEpoch ho hd (wpAny_bind (mix_eq hu kx hkey dx (wpAny_bind (wpAny_dictEpoch ho hd ?_)))))
        show wpAny _ _ (if (ep != ep) = true then _ else _) _ E _
        rw [if_neg (by simp)]
        by_cases hkk : xs[x].1 = k
        · rw [decide_eq_true hkk]
          rcases hs with ⟨rfl, hs⟩ | ⟨j, p, rfl, hj, hjk⟩
          · rw [if_pos rfl, if_neg (by simp)]
            refine wpAny_bind (wpAny_rule ?_)
            split
            · rw [placeM_some hk.nd (yx hkk)] at hQ
              exact wpAny_pure (wpAny_pure hQ)
            · exact wpAny_pure ⟨rfl, pre ++ [x], some x, rfl, hp', .inr ⟨x, _, rfl, by simp, yx hkk⟩⟩
          · have ej : j = x := Option.some.inj ((placeM_some hk.nd hjk).symm.trans (placeM_some hk.nd (yx hkk)))
            subst ej
            rw [hp] at pnd
            exact absurd rfl ((List.nodup_append.mp pnd).2.2 j hj j (List.mem_cons_self ..))
        · rw [decide_eq_false hkk]
          rw [if_neg (by simp)]
          refine wpAny_bind (wpAny_rule ?_)
          rw [if_neg (by simp)]
          exact wpAny_pure ⟨rfl, pre ++ [x], hit, rfl, hp', seen_one hs (nx hkk)⟩
      · obtain ⟨rfl, pre, hit, rfl, hp, hs⟩ := hI
        rw [List.append_nil] at hp
        rw [← hp] at hs
        rw [← last _ hs] at hQ
        exact wpAny_pure hQ
    · rw [if_neg hone]
      refine wpAny_bind (mix_tell hkey dk hst ?_)
      rw [if_neg (by simp)]
      refine wpAny_bind (wpAny_forIn_list _ (fun rest b t => t = s ∧ ∃ pre hit, b = (none, hit) ∧ placesWithHash es.size (fun i => es[i]?.map (·.hash)) (k.hash w) = pre ++ rest ∧ Seen xs k pre hit) _ (fun x rest b t hI => ?_) (fun b t hI => ?_) _ _ ⟨rfl, [], none, rfl, rfl, .inl ⟨rfl, fun i h => by cases h⟩⟩)
      · obtain ⟨rfl, pre, hit, rfl, hp, hs⟩ := hI
        have hxp := (pin x).mp (by rw [hp]; simp)
        have hlt : x < xs.length := by omega
        have hx : xs[x]? = some xs[x] := List.getElem?_eq_getElem hlt
        obtain ⟨kx, dx, _⟩ := hk.is xs[x] (List.getElem_mem hlt)
        have hex : es[x]? = some (entM w xs[x]) := by rw [mix_at he, hx]; rfl
        have hhx : (entM w xs[x]).hash = k.hash w := by
          have h2 := hxp.2
          rw [hex] at h2
          exact Option.some.inj h2
        have nx : ¬ xs[x].1 = k → ∀ p, xs[x]? ≠ some (k, p) := fun ne p z => by
          rw [hx] at z
          exact ne (by rw [Option.some.inj z])
        have yx : xs[x].1 = k → xs[x]? = some (k, xs[x].2) := fun z => by rw [hx, ← z]
        have hp' : placesWithHash es.size (fun i => es[i]?.map (·.hash)) (k.hash w) = (pre ++ [x]) ++ rest := by rw [hp]; simp
        simp only [hex]
        rw [if_pos (beq_iff_eq.mpr hhx)]
        refine wpAny_bind (wpAny_dictEpoch ho hd (wpAny_bind (mix_eq hu kx hkey dx (wpAny_bind (wpAny_dictEpoch ho hd ?_)))))
        show wpAny _ _ (if (ep != ep) = true then _ else _) _ E _
        rw [if_neg (by simp)]
        by_cases hkk : xs[x].1 = k
        · rw [decide_eq_true hkk]
          rcases hs with ⟨rfl, hs⟩ | ⟨j, p, rfl, hj, hjk⟩
          · rw [if_pos rfl, if_neg (by simp)]
            refine wpAny_bind (wpAny_rule ?_)
            split
            · rw [placeM_some hk.nd (yx hkk)] at hQ
              exact wpAny_pure (wpAny_pure hQ)
            · exact wpAny_pure ⟨rfl, pre ++ [x], some x, rfl, hp', .inr ⟨x, _, rfl, by simp, yx hkk⟩⟩
          · have ej : j = x := Option.some.inj ((placeM_some hk.nd hjk).symm.trans (placeM_some hk.nd (yx hkk)))
            subst ej
            rw [hp] at pnd
            exact absurd rfl ((List.nodup_append.mp pnd).2.2 j hj j (List.mem_cons_self ..))
        · rw [decide_eq_false hkk]
          rw [if_neg (by simp)]
          refine wpAny_bind (wpAny_rule ?_)
          rw [if_neg (by simp)]
          exact wpAny_pure ⟨rfl, pre ++ [x], hit, rfl, hp', seen_one hs (nx hkk)⟩
      · obtain ⟨rfl, pre, hit, rfl, hp, hs⟩ := hI
        rw [List.append_nil] at hp
        rw [← hp] at hs
        rw [← last _ hs] at hQ
        exact wpAny_pure hQ
  | bool b =>
    dsimp only
    by_cases hall : ((Value.bool b :: (placesWithHash es.size (fun i => es[i]?.map (·.hash)) (k.hash w)).filterMap fun i => es[i]?.map (·.key)).all carriedByValue) = true
    · rw [if_pos hall]
      exact plain
    rw [if_neg hall]
    by_cases hone : (((placesWithHash es.size (fun i => es[i]?.map (·.hash)) (k.hash w)).filterMap fun i => es[i]?.map (·.key)) == [Value.bool b]) = true
    · rw [if_pos hone]
      refine wpAny_bind (wpAny_pure ?_)
      rw [if_neg (by simp)]
      refine wpAny_bind (wpAny_forIn_list _ (fun rest b t => t = s ∧ ∃ pre hit, b = (none, hit) ∧ placesWithHash es.size (fun i => es[i]?.map (·.hash)) (k.hash w) = pre ++ rest ∧ Seen xs k pre hit) _ (fun x rest b t hI => ?_) (fun b t hI => ?_) _ _ ⟨rfl, [], none, rfl, rfl, .inl ⟨rfl, fun i h => by cases h⟩⟩)
      · obtain ⟨rfl, pre, hit, rfl, hp, hs⟩ := hI
        have hxp := (pin x).mp (by rw [hp]; simp)
        have hlt : x < xs.length := by omega
        have hx : xs[x]? = some xs[x] := List.getElem?_eq_getElem hlt
        obtain ⟨kx, dx, _⟩ := hk.is xs[x] (List.getElem_mem hlt)
        have hex : es[x]? = some (entM w xs[x]) := by rw [mix_at he, hx]; rfl
        have hhx : (entM w xs[x]).hash = k.hash w := by
          have h2 := hxp.2
          rw [hex] at h2
          exact Option.some.inj h2
        have nx : ¬ xs[x].1 = k → ∀ p, xs[x]? ≠ some (k, p) := fun ne p z => by
          rw [hx] at z
          exact ne (by rw [Option.some.inj z])
        have yx : xs[x].1 = k → xs[x]? = some (k, xs[x].2) := fun z => by rw [hx, ← z]
        have hp' : placesWithHash es.size (fun i => es[i]?.map (·.hash)) (k.hash w) = (pre ++ [x]) ++ rest := by rw [hp]; simp
        simp only [hex]
        rw [if_pos (beq_iff_eq.mpr hhx)]
        refine wpAny_bind (wpAny_dictEpoch ho hd (wpAny_bind (mix_eq hu kx hkey dx (wpAny_bind (wpAny_dictEpoch ho hd ?_)))))
        show wpAny _ _ (if (ep != ep) = true then _ else _) _ E _
        rw [if_neg (by simp)]
        by_cases hkk : xs[x].1 = k
        · rw [decide_eq_true hkk]
          rcases hs with ⟨rfl, hs⟩ | ⟨j, p, rfl, hj, hjk⟩
          · rw [if_pos rfl, if_neg (by simp)]
            refine wpAny_bind (wpAny_rule ?_)
            split
            · rw [placeM_some hk.nd (yx hkk)] at hQ
              exact wpAny_pure (wpAny_pure hQ)
            · exact wpAny_pure ⟨rfl, pre ++ [x], some x, rfl, hp', .inr ⟨x, _, rfl, by simp, yx hkk⟩⟩
          · have ej : j = x := Option.some.inj ((placeM_some hk.nd hjk).symm.trans (placeM_some hk.nd (yx hkk)))
            subst ej
            rw [hp] at pnd
            exact absurd rfl ((List.nodup_append.mp pnd).2.2 j hj j (List.mem_cons_self ..))
        · rw [decide_eq_false hkk]
          rw [if_neg (by simp)]
          refine wpAny_bind (wpAny_rule ?_)
          rw [if_neg (by simp)]
          exact wpAny_pure ⟨rfl, pre ++ [x], hit, rfl, hp', seen_one hs (nx hkk)⟩
      · obtain ⟨rfl, pre, hit, rfl, hp, hs⟩ := hI
        rw [List.append_nil] at hp
        rw [← hp] at hs
        rw [← last _ hs] at hQ
        exact wpAny_pure hQ
    · rw [if_neg hone]
      refine wpAny_bind (mix_tell hkey dk hst ?_)
      rw [if_neg (by simp)]
      refine wpAny_bind (wpAny_forIn_list _ (fun rest b t => t = s ∧ ∃ pre hit, b = (none, hit) ∧ placesWithHash es.size (fun i => es[i]?.map (·.hash)) (k.hash w) = pre ++ rest ∧ Seen xs k pre hit) _ (fun x rest b t hI => ?_) (fun b t hI => ?_) _ _ ⟨rfl, [], none, rfl, rfl, .inl ⟨rfl, fun i h => by cases h⟩⟩)
      · obtain ⟨rfl, pre, hit, rfl, hp, hs⟩ := hI
        have hxp := (pin x).mp (by rw [hp]; simp)
        have hlt : x < xs.length := by omega
        have hx : xs[x]? = some xs[x] := List.getElem?_eq_getElem hlt
        obtain ⟨kx, dx, _⟩ := hk.is xs[x] (List.getElem_mem hlt)
        have hex : es[x]? = some (entM w xs[x]) := by rw [mix_at he, hx]; rfl
        have hhx : (entM w xs[x]).hash = k.hash w := by
          have h2 := hxp.2
          rw [hex] at h2
          exact Option.some.inj h2
        have nx : ¬ xs[x].1 = k → ∀ p, xs[x]? ≠ some (k, p) := fun ne p z => by
          rw [hx] at z
          exact ne (by rw [Option.some.inj z])
        have yx : xs[x].1 = k → xs[x]? = some (k, xs[x].2) := fun z => by rw [hx, ← z]
        have hp' : placesWithHash es.size (fun i => es[i]?.map (·.hash)) (k.hash w) = (pre ++ [x]) ++ rest := by rw [hp]; simp
        simp only [hex]
        rw [if_pos (beq_iff_eq.mpr hhx)]
        refine wpAny_bind (wpAny_dictEpoch ho hd (wpAny_bind (mix_eq hu kx hkey dx (wpAny_bind (wpAny_dictEpoch ho hd ?_)))))
        show wpAny _ _ (if (ep != ep) = true then _ else _) _ E _
        rw [if_neg (by simp)]
        by_cases hkk : xs[x].1 = k
        · rw [decide_eq_true hkk]
          rcases hs with ⟨rfl, hs⟩ | ⟨j, p, rfl, hj, hjk⟩
          · rw [if_pos rfl, if_neg (by simp)]
            refine wpAny_bind (wpAny_rule ?_)
            split
            · rw [placeM_some hk.nd (yx hkk)] at hQ
              exact wpAny_pure (wpAny_pure hQ)
            · exact wpAny_pure ⟨rfl, pre ++ [x], some x, rfl, hp', .inr ⟨x, _, rfl, by simp, yx hkk⟩⟩
          · have ej : j = x := Option.some.inj ((placeM_some hk.nd hjk).symm.trans (placeM_some hk.nd (yx hkk)))
            subst ej
            rw [hp] at pnd
            exact absurd rfl ((List.nodup_append.mp pnd).2.2 j hj j (List.mem_cons_self ..))
        · rw [decide_eq_false hkk]
          rw [if_neg (by simp)]
          refine wpAny_bind (wpAny_rule ?_)
          rw [if_neg (by simp)]
          exact wpAny_pure ⟨rfl, pre ++ [x], hit, rfl, hp', seen_one hs (nx hkk)⟩
      · obtain ⟨rfl, pre, hit, rfl, hp, hs⟩ := hI
        rw [List.append_nil] at hp
        rw [← hp] at hs
        rw [← last _ hs] at hQ
        exact wpAny_pure hQ
  | int i t =>
    dsimp only
    by_cases hall : ((Value.int i t :: (placesWithHash es.size (fun i => es[i]?.map (·.hash)) (k.hash w)).filterMap fun i => es[i]?.map (·.key)).all carriedByValue) = true
    · rw [if_pos hall]
      exact plain
    rw [if_neg hall]
    by_cases hone : (((placesWithHash es.size (fun i => es[i]?.map (·.hash)) (k.hash w)).filterMap fun i => es[i]?.map (·.key)) == [Value.int i t]) = true
    · rw [if_pos hone]
      refine wpAny_bind (wpAny_pure ?_)
      rw [if_neg (by simp)]
      refine wpAny_bind (wpAny_forIn_list _ (fun rest b t => t = s ∧ ∃ pre hit, b = (none, hit) ∧ placesWithHash es.size (fun i => es[i]?.map (·.hash)) (k.hash w) = pre ++ rest ∧ Seen xs k pre hit) _ (fun x rest b t hI => ?_) (fun b t hI => ?_) _ _ ⟨rfl, [], none, rfl, rfl, .inl ⟨rfl, fun i h => by cases h⟩⟩)
      · obtain ⟨rfl, pre, hit, rfl, hp, hs⟩ := hI
        have hxp := (pin x).mp (by rw [hp]; simp)
        have hlt : x < xs.length := by omega
        have hx : xs[x]? = some xs[x] := List.getElem?_eq_getElem hlt
        obtain ⟨kx, dx, _⟩ := hk.is xs[x] (List.getElem_mem hlt)
        have hex : es[x]? = some (entM w xs[x]) := by rw [mix_at he, hx]; rfl
        have hhx : (entM w xs[x]).hash = k.hash w := by
          have h2 := hxp.2
          rw [hex] at h2
          exact Option.some.inj h2
        have nx : ¬ xs[x].1 = k → ∀ p, xs[x]? ≠ some (k, p) := fun ne p z => by
          rw [hx] at z
          exact ne (by rw [Option.some.inj z])
        have yx : xs[x].1 = k → xs[x]? = some (k, xs[x].2) := fun z => by rw [hx, ← z]
        have hp' : placesWithHash es.size (fun i => es[i]?.map (·.hash)) (k.hash w) = (pre ++ [x]) ++ rest := by rw [hp]; simp
        simp only [hex]
        rw [if_pos (beq_iff_eq.mpr hhx)]
        refine wpAny_bind (wpAny_dictEpoch ho hd (wpAny_bind (mix_eq hu kx hkey dx (wpAny_bind (wpAny_dictEpoch ho hd ?_)))))
        show wpAny _ _ (if (ep != ep) = true then _ else _) _ E _
        rw [if_neg (by simp)]
        by_cases hkk : xs[x].1 = k
        · rw [decide_eq_true hkk]
          rcases hs with ⟨rfl, hs⟩ | ⟨j, p, rfl, hj, hjk⟩
          · rw [if_pos rfl, if_neg (by simp)]
            refine wpAny_bind (wpAny_rule ?_)
            split
            · rw [placeM_some hk.nd (yx hkk)] at hQ
              exact wpAny_pure (wpAny_pure hQ)
            · exact wpAny_pure ⟨rfl, pre ++ [x], some x, rfl, hp', .inr ⟨x, _, rfl, by simp, yx hkk⟩⟩
          · have ej : j = x := Option.some.inj ((placeM_some hk.nd hjk).symm.trans (placeM_some hk.nd (yx hkk)))
            subst ej
            rw [hp] at pnd
            exact absurd rfl ((List.nodup_append.mp pnd).2.2 j hj j (List.mem_cons_self ..))
        · rw [decide_eq_false hkk]
          rw [if_neg (by simp)]
          refine wpAny_bind (wpAny_rule ?_)
          rw [if_neg (by simp)]
          exact wpAny_pure ⟨rfl, pre ++ [x], hit, rfl, hp', seen_one hs (nx hkk)⟩
      · obtain ⟨rfl, pre, hit, rfl, hp, hs⟩ := hI
        rw [List.append_nil] at hp
        rw [← hp] at hs
        rw [← last _ hs] at hQ
        exact wpAny_pure hQ
    · rw [if_neg hone]
      refine wpAny_bind (mix_tell hkey dk hst ?_)
      rw [if_neg (by simp)]
      refine wpAny_bind (wpAny_forIn_list _ (fun rest b t => t = s ∧ ∃ pre hit, b = (none, hit) ∧ placesWithHash es.size (fun i => es[i]?.map (·.hash)) (k.hash w) = pre ++ rest ∧ Seen xs k pre hit) _ (fun x rest b t hI => ?_) (fun b t hI => ?_) _ _ ⟨rfl, [], none, rfl, rfl, .inl ⟨rfl, fun i h => by cases h⟩⟩)
      · obtain ⟨rfl, pre, hit, rfl, hp, hs⟩ := hI
        have hxp := (pin x).mp (by rw [hp]; simp)
        have hlt : x < xs.length := by omega
        have hx : xs[x]? = some xs[x] := List.getElem?_eq_getElem hlt
        obtain ⟨kx, dx, _⟩ := hk.is xs[x] (List.getElem_mem hlt)
        have hex : es[x]? = some (entM w xs[x]) := by rw [mix_at he, hx]; rfl
        have hhx : (entM w xs[x]).hash = k.hash w := by
          have h2 := hxp.2
          rw [hex] at h2
          exact Option.some.inj h2
        have nx : ¬ xs[x].1 = k → ∀ p, xs[x]? ≠ some (k, p) := fun ne p z => by
          rw [hx] at z
          exact ne (by rw [Option.some.inj z])
        have yx : xs[x].1 = k → xs[x]? = some (k, xs[x].2) := fun z => by rw [hx, ← z]
        have hp' : placesWithHash es.size (fun i => es[i]?.map (·.hash)) (k.hash w) = (pre ++ [x]) ++ rest := by rw [hp]; simp
        simp only [hex]
        rw [if_pos (beq_iff_eq.mpr hhx)]
        refine wpAny_bind (wpAny_dictEpoch ho hd (wpAny_bind (mix_eq hu kx hkey dx (wpAny_bind (wpAny_dictEpoch ho hd ?_)))))
        show wpAny _ _ (if (ep != ep) = true then _ else _) _ E _
        rw [if_neg (by simp)]
        by_cases hkk : xs[x].1 = k
        · rw [decide_eq_true hkk]
          rcases hs with ⟨rfl, hs⟩ | ⟨j, p, rfl, hj, hjk⟩
          · rw [if_pos rfl, if_neg (by simp)]
            refine wpAny_bind (wpAny_rule ?_)
            split
            · rw [placeM_some hk.nd (yx hkk)] at hQ
              exact wpAny_pure (wpAny_pure hQ)
            · exact wpAny_pure ⟨rfl, pre ++ [x], some x, rfl, hp', .inr ⟨x, _, rfl, by simp, yx hkk⟩⟩
          · have ej : j = x := Option.some.inj ((placeM_some hk.nd hjk).symm.trans (placeM_some hk.nd (yx hkk)))
            subst ej
            rw [hp] at pnd
            exact absurd rfl ((List.nodup_append.mp pnd).2.2 j hj j (List.mem_cons_self ..))
        · rw [decide_eq_false hkk]
          rw [if_neg (by simp)]
          refine wpAny_bind (wpAny_rule ?_)
          rw [if_neg (by simp)]
          exact wpAny_pure ⟨rfl, pre ++ [x], hit, rfl, hp', seen_one hs (nx hkk)⟩
      · obtain ⟨rfl, pre, hit, rfl, hp, hs⟩ := hI
        rw [List.append_nil] at hp
        rw [← hp] at hs
        rw [← last _ hs] at hQ
        exact wpAny_pure hQ
  | _ => cases hkey
def atM (xs : List MixE) (k : NestedKey) : Option Value := (placeM xs k).bind fun j => xs[j]?.map (·.2.2)
def putM (xs : List MixE) (k : NestedKey) (key v : Value) : List MixE := match placeM xs k with
  | some j => xs.modify j fun x => (x.1, x.2.1, v)
  | none => xs ++ [(k, key, v)]
theorem mix_get {d : Addr} {Q : Option Value → Shared → Prop} (hu : A.units + 8 < cLine) (hkey : NestedIs s.heap k key) (dk : k.depth ≤ 8) (nt : NoText k) (hm : MixOf w s.heap d xs) (hk : MixKeys s.heap xs)
    (h : Q (atM xs k) { s with toks := s.toks + k.draws }) : wpAny (model prog w) A (dictGet d key) Q E s := by
  obtain ⟨o, es, ep, ho, _, hd, he⟩ := hm.ex
  unfold dictGet
  try with_reducible refine wpAny_holding ?_
  refine wpAny_bind (pyHash_key _ _ _ _ _ hkey (by omega) (wpAny_bind (mix_find (s := { s with toks := s.toks + k.draws }) hu hkey dk nt ho hd he hk ?_)))
  unfold atM at h
  cases q : placeM xs k with
  | none =>
    rw [q] at h
    exact wpAny_pure h
  | some j =>
    rw [q] at h
    refine wpAny_bind (wpAny_dictEntries (s := { s with toks := s.toks + k.draws }) ho hd ?_)
    rw [mix_at he]
    refine wpAny_pure ?_
    have e : Option.map (fun x : DictEntry => x.val) (Option.map (entM w) xs[j]?) = xs[j]?.map (·.2.2) := by cases xs[j]? <;> rfl
    rw [e]
    exact h
theorem mix_set {d : Addr} {v : Value} {Q : Unit → Shared → Prop} (hu : A.units + 8 < cLine) (hkey : NestedIs s.heap k key) (dk : k.depth ≤ 8) (nt : NoText k) (hm : MixOf w s.heap d xs) (hk : MixKeys s.heap xs) (hsz : xs.length ≤ sizeLine)
    (hQ : ∀ h', MixOf w h' d (putM xs k key v) → Heap.SameBut d s.heap h' → Q () { s with heap := h', toks := s.toks + k.draws }) : wpAny (model prog w) A (dictSet d key v) Q E s := by
  obtain ⟨o, es, ep, ho, hc, hd, he⟩ := hm.ex
  have es2 := mix_size he
  unfold dictSet
  try with_reducible refine wpAny_holding ?_
  refine wpAny_bind (pyHash_key _ _ _ _ _ hkey (by omega) ?_)
  unfold dictSetHashed
  try with_reducible refine wpAny_holding ?_
  refine wpAny_bind (mix_find (s := { s with toks := s.toks + k.draws }) hu hkey dk nt ho hd he hk ?_)
  unfold putM at hQ
  cases q : placeM xs k with
  | none =>
    rw [q] at hQ
    refine wpAny_bind (wpAny_rule (wpAny_updateDictKeys (hz := by omega) (s := { s with toks := s.toks + k.draws }) ho hd (hQ _ ⟨_, _, ep + 1, Heap.get?_update_self _ ho (Obj.isFreed_of_dict (Obj.data_mapDictKeys hd _)), hc.mapDictKeys _, Obj.data_mapDictKeys hd _, ?_⟩ (Heap.SameBut.update ..))))
    simp [he, entM]
  | some j =>
    rw [q] at hQ
    refine wpAny_bind (wpAny_rule (wpAny_bind (wpAny_updateDict (s := { s with toks := s.toks + k.draws }) ho hd (wpAny_point (hQ _ ⟨_, _, ep, Heap.get?_update_self _ ho (Obj.isFreed_of_dict (Obj.data_mapDict hd _)), hc.mapDict _, Obj.data_mapDict hd _, ?_⟩ (Heap.SameBut.update ..))))))
    obtain ⟨l⟩ := es
    have e : ∀ (l : List MixE) (j : Nat), (l.map (entM w)).modify j (fun e : DictEntry => { e with val := v }) = (l.modify j fun x => (x.1, x.2.1, v)).map (entM w) := fun l => by
      induction l with
      | nil => intro j; cases j <;> rfl
      | cons x l ih =>
        intro j
        cases j with
        | zero => rfl
        | succ j => simp [ih]
    have he' : l = xs.map (entM w) := he
    simp [he', e]
theorem MixOf.typeIs {d : Addr} (hm : MixOf w s.heap d xs) : s.TypeIs (.ref d) "dict" := by
  obtain ⟨o, _, _, ho, hc, _⟩ := hm.ex
  exact ⟨o, ho, hc.1⟩
/-- d[key] -/
theorem mix_getItem {d : Addr} {v : Value} {Q : Value → Shared → Prop} (hu : A.in1.units + 8 < cLine) (hkey : NestedIs s.heap k key) (dk : k.depth ≤ 8) (nt : NoText k) (hm : MixOf w s.heap d xs) (hk : MixKeys s.heap xs) (hv : atM xs k = some v)
    (h : Q v { s with toks := s.toks + k.draws }) : wpAny (model prog w) A (getItem (.ref d) key) Q E s := by
  unfold getItem
  try with_reducible refine wpAny_holding ?_
  refine wpAny_bind (wpAny_sequenceKey hm.typeIs (by decide) ?_)
  refine wpAny_bind (wpAny_callSpecial?_slot (name := Str.ofString "__getitem__") hm.typeIs slot_dict_getitem (wpAny_call_entry slot_dict_getitem hm.typeIs entry_dict_getitem ?_ (args_dict_getitem _ _)))
  show wpAny _ _ (dictGet d key >>= _) _ _ s
  refine wpAny_bind (mix_get hu hkey dk nt hm hk ?_)
  rw [hv]
  exact wpAny_pure ⟨v, rfl, wpAny_pure h⟩
/-- d[key] = v -/
theorem mix_setItem {d : Addr} {v : Value} {Q : Unit → Shared → Prop} (hu : A.in1.units + 8 < cLine) (hkey : NestedIs s.heap k key) (dk : k.depth ≤ 8) (nt : NoText k) (hm : MixOf w s.heap d xs) (hk : MixKeys s.heap xs) (hsz : xs.length ≤ sizeLine)
    (hQ : ∀ h', MixOf w h' d (putM xs k key v) → Heap.SameBut d s.heap h' → Q () { s with heap := h', toks := s.toks + k.draws }) : wpAny (model prog w) A (setItem (.ref d) key v) Q E s := by
  unfold setItem
  try with_reducible refine wpAny_holding ?_
  refine wpAny_bind (wpAny_sequenceKey hm.typeIs (by decide) ?_)
  refine wpAny_bind (wpAny_callSpecial?_slot (name := Str.ofString "__setitem__") hm.typeIs slot_dict_setitem (wpAny_call_entry slot_dict_setitem hm.typeIs entry_dict_setitem ?_ (args_dict_setitem _ _ _)))
  show wpAny _ _ (Builtin.Dict.notOrdered "__setitem__" ⟨[.ref d, key, v], []⟩ >>= _) _ _ s
  refine wpAny_bind (wpAny_notOrdered_dict hm.typeIs ?_)
  show wpAny _ _ (dictSet d key v >>= _) _ _ s
  exact wpAny_bind (mix_set hu hkey dk nt hm hk hsz fun h' m sb => wpAny_pure ⟨.none, rfl, wpAny_pure (hQ h' m sb)⟩)
/-- d.get(key, dflt) -/
theorem mix_meets_get (d : Addr) (hd : (d == sysModules) = false) (key dflt : Value) : MeetsIn prog w (Builtin.«dict.get» ⟨[.ref d, key, dflt], []⟩) (fun A R s => A.in1.units + 8 < cLine ∧ ∃ (k : NestedKey) (xs : List MixE), NestedIs s.heap k key ∧ k.depth ≤ 8 ∧ NoText k ∧ MixOf w s.heap d xs ∧ MixKeys s.heap xs ∧
      R (.ok (.ret ((atM xs k).getD dflt))) { s with toks := s.toks + k.draws }) :=
  .of_wp fun A R s ⟨hu, k, xs, hkey, dk, nt, hm, hk, h⟩ => by
    show wpAny _ _ (dictGet d key >>= _) _ _ s
    refine wpAny_bind (mix_get hu hkey dk nt hm hk ?_)
    cases hf : atM xs k with
    | some v =>
      rw [hf] at h
      exact wpAny_pure ⟨v, rfl, h⟩
    | none =>
      rw [hf] at h
      show wpAny _ _ (Builtin.Dict.missed d key >>= _) _ _ _
      exact wpAny_bind (wpAny_missed_other hd (wpAny_pure ⟨dflt, rfl, h⟩))
end
/-! ### keys without texts hash alike in all worlds -/
mutual
def textFree : NestedKey → Bool
  | .none | .num _ => true
  | .text _ => false
  | .tup ks => textFrees ks
def textFrees : List NestedKey → Bool
  | [] => true
  | k :: ks => textFree k && textFrees ks
end
mutual
def hash0 : NestedKey → Int
  | .none => reduceHash 0xFCA86420
  | .num i => hashInt i
  | .text _ => 0
  | .tup ks => reduceHash (Builtin.Tuple.tupleHashOf (hashes0 ks))
def hashes0 : List NestedKey → List Int
  | [] => []
  | k :: ks => hash0 k :: hashes0 ks
end
mutual
theorem hash0_eq (w : World) : ∀ k : NestedKey, textFree k = true → k.hash w = hash0 k
  | .none, _ => by simp only [NestedKey.hash, hash0]
  | .num i, _ => by simp only [NestedKey.hash, hash0]
  | .text _, h => by simp [textFree] at h
  | .tup ks, h => by
    simp only [NestedKey.hash, hash0]
    rw [hashes0_eq w ks (by simpa [textFree] using h)]
theorem hashes0_eq (w : World) : ∀ ks : List NestedKey, textFrees ks = true → NestedKey.hashes w ks = hashes0 ks
  | [], _ => by simp only [NestedKey.hashes, hashes0]
  | k :: ks, h => by
    simp only [textFrees, Bool.and_eq_true] at h
    simp only [NestedKey.hashes, hashes0]
    rw [hash0_eq w k h.1, hashes0_eq w ks h.2]
end
theorem noText_of {k : NestedKey} (h : textFree k = true) : NoText k := by
  cases k with
  | text x => simp [textFree] at h
  | none => trivial
  | num i => trivial
  | tup ks => trivial
/-- the dict's object, told without a world -/
structure MixAt (h : Heap) (d : Addr) (xs : List MixE) : Prop where
  ex : ∃ o es ep, h.get? d = some o ∧ o.ExactDict ∧ o.data = .dict es ep ∧ es.toList = xs.map fun x => (⟨hash0 x.1, x.2.1, x.2.2⟩ : DictEntry)
theorem MixAt.of {w : World} {h : Heap} {d : Addr} {xs : List MixE} (t : ∀ x ∈ xs, textFree x.1 = true) (m : MixAt h d xs) : MixOf w h d xs := by
  obtain ⟨o, es, ep, a, b, c, e⟩ := m.ex
  refine ⟨o, es, ep, a, b, c, ?_⟩
  rw [e]
  exact List.map_congr_left fun x hx => by unfold entM; rw [hash0_eq w x.1 (t x hx)]
theorem MixOf.at {w : World} {h : Heap} {d : Addr} {xs : List MixE} (t : ∀ x ∈ xs, textFree x.1 = true) (m : MixOf w h d xs) : MixAt h d xs := by
  obtain ⟨o, es, ep, a, b, c, e⟩ := m.ex
  refine ⟨o, es, ep, a, b, c, ?_⟩
  rw [e]
  exact List.map_congr_left fun x hx => by unfold entM; rw [hash0_eq w x.1 (t x hx)]
theorem MixAt.stay {h1 h2 : Heap} {d : Addr} {xs : List MixE} (m : MixAt h1 d xs) (e : ∀ o, h1.get? d = some o → h2.get? d = some o) : MixAt h2 d xs := by
  obtain ⟨o, es, ep, a, b⟩ := m.ex
  exact ⟨o, es, ep, e o a, b⟩
/-- such a dict in the abstract heap -/
def mixO (d : Addr) (xs : List MixE) : HO := .ext fun h => MixAt h d xs ∧ (d == sysModules) = false ∧ xs.length ≤ sizeLine
theorem mixO_ok {P : Program} {w : World} {H : Hp} {h : Heap} {d : Addr} {xs : List MixE} (m : MixAt h d xs) (hd : (d == sysModules) = false) (hl : xs.length ≤ sizeLine) : ObjOk P w H h d (mixO d xs) := by
  refine ⟨⟨m, hd, hl⟩, ?_, fun h1 h2 q e => ⟨q.1.stay e, q.2⟩⟩
  obtain ⟨o, _, _, a, _⟩ := m.ex
  exact ⟨o, a⟩
theorem mixO_get {P : Program} {w : World} {H : Hp} {h : Heap} {d : Addr} {xs : List MixE} (ok : HOk P w H h) (e : H d = some (mixO d xs)) : MixAt h d xs ∧ (d == sysModules) = false ∧ xs.length ≤ sizeLine :=
  (show ObjOk P w H h d (mixO d xs) from ok d _ e).1
theorem placeM_lt {xs : List MixE} {k : NestedKey} {j : Nat} (h : placeM xs k = some j) : ∃ hj : j < xs.length, xs[j].1 = k := by
  unfold placeM at h
  obtain ⟨h1, h2, _⟩ := List.findIdx?_eq_some_iff_getElem.mp h
  exact ⟨h1, by simpa using h2⟩
theorem putM_keys {xs : List MixE} {k : NestedKey} {key v : Value} : (putM xs k key v).map (·.1) = match placeM xs k with
    | some _ => xs.map (·.1)
    | none => xs.map (·.1) ++ [k] := by
  unfold putM
  cases placeM xs k with
  | none => simp
  | some j =>
    have : ∀ (l : List MixE) (j : Nat), (l.modify j fun x => (x.1, x.2.1, v)).map (·.1) = l.map (·.1) := fun l => by
      induction l with
      | nil => intro j; cases j <;> rfl
      | cons x l ih =>
        intro j
        cases j with
        | zero => rfl
        | succ j => simp [ih]
    exact this xs j
end DL

/-! Mixed dicts in the hand layer: {}, d[k], d.get(k, e), d[k] = v. -/
namespace DL
open PySem PySem.Spec L2

/-- y is the key k, whatever value stands for it -/
def KeyAt (P : Program) (w : World) (K : PySem.W.Frag) (H : Hp) (y : V) (k : NestedKey) : Prop := ∀ (h : Heap) (u : Value), HOk P w H h → K.In h → RelV y u → NestedIs h k u
structure KeyOkM (P : Program) (w : World) (K : PySem.W.Frag) (H : Hp) (y : V) (k : NestedKey) : Prop where
  at_ : KeyAt P w K H y k
  free : textFree k = true
  deep : k.depth ≤ 8
/-- the entries' keys are keys -/
structure EntOk (P : Program) (w : World) (K : PySem.W.Frag) (H : Hp) (xs : List MixE) : Prop where
  ks : ∀ x ∈ xs, ∃ y, RelV y x.2.1 ∧ KeyOkM P w K H y x.1
  nd : (xs.map (·.1)).Nodup
section
variable {P : Program} {w : World} {K : PySem.W.Frag} {H : Hp} {h : Heap} {xs : List MixE}
theorem EntOk.keys (e : EntOk P w K H xs) (ok : HOk P w H h) (kin : K.In h) : MixKeys h xs :=
  ⟨fun x hx => by
    obtain ⟨y, r, k⟩ := e.ks x hx
    exact ⟨k.at_ h _ ok kin r, k.deep, noText_of k.free⟩, e.nd⟩
theorem EntOk.free (e : EntOk P w K H xs) : ∀ x ∈ xs, textFree x.1 = true := fun x hx => by
  obtain ⟨y, r, k⟩ := e.ks x hx
  exact k.free
end
/-- {} -/
def tMNew : TE := fun _ H Q => ∀ p, H p = none → Q (.ref p) (upd H p (mixO p []))
/-- d[k] -/
def rMGet (P : Program) (w : World) (K : PySem.W.Frag) : R2 := fun x y H Q => ∃ (p : Addr) (xs : List MixE) (k : NestedKey) (vv : Value) (v : V), x = .ref p ∧ H p = some (mixO p xs) ∧ EntOk P w K H xs ∧ KeyOkM P w K H y k ∧ atM xs k = some vv ∧ RelV v vv ∧ Q v H
/-- d.get(k, e) -/
def rMGetD (P : Program) (w : World) (K : PySem.W.Frag) : V → List V → Hp → VK → Prop := fun x ys H Q => ∃ (p : Addr) (xs : List MixE) (k : NestedKey) (y e v : V), x = .ref p ∧ ys = [y, e] ∧ H p = some (mixO p xs) ∧ EntOk P w K H xs ∧ KeyOkM P w K H y k ∧
  (match atM xs k with
    | some vv => RelV v vv
    | none => v = e) ∧ Q v H
/-- d[k] = v -/
def sMPut (P : Program) (w : World) (K : PySem.W.Frag) (td ty tv : TE) : TS := fun D σ H => tv σ H fun v H1 => td σ H1 fun x H2 => ty σ H2 fun y H3 => ∃ (p : Addr) (xs : List MixE) (k : NestedKey), x = .ref p ∧ H3 p = some (mixO p xs) ∧ EntOk P w K H3 xs ∧ KeyOkM P w K H3 y k ∧ xs.length < sizeLine ∧
  ∀ u r, RelV y u → RelV v r → D.nx σ (upd H3 p (mixO p (putM xs k u r)))
section
variable {X : Cx} {pos pos' : Pos}
theorem u8 {k : Nat} {A : Around} (r : Room k A) : A.in1.units + 8 < cLine := by
  have := r.un
  show A.units + 1 + 8 < cLine
  omega
theorem pe_mnew : PE X (.Dict [] [] pos) tMNew := ⟨fun pins s σ H Q I h => by
  refine wpAny_Dict_empty ⟨.ref s.heap.objs.size, _, I.laid (a := s.heap.objs.size) (o := mixO s.heap.objs.size []) (t' := s.toks) (fun _ _ q => Heap.get?_push_of_some _ q) (Nat.le_refl _) (mixO_ok ⟨_, _, _, Heap.get?_push_size _ rfl, ⟨rfl, rfl, rfl⟩, rfl, rfl⟩ ?_ (Nat.zero_le _)), rfl, h _ (I.hok.fresh (Nat.le_refl _))⟩
  obtain ⟨_, z, _⟩ := dk_empty (P := X.prog) (w := X.w) (H := upd H s.heap.objs.size (.dK [])) s.heap I.big
  exact z⟩
theorem ix_mix {n : Nat} (hr : Room n X.A) : IxR X (rMGet X.prog X.w X.K) := by
  intro value slice pins s σ H x y v u Q I rx ry h hs
  obtain ⟨p, xs, k, vv, z, rfl, hp, eo, ko, hv, rz, q⟩ := h
  obtain rfl : v = Value.ref p := rx
  obtain ⟨m, hd, hl⟩ := mixO_get I.hok hp
  have mk := eo.keys I.hok I.kIn
  have mm := m.of (w := X.w) eo.free
  unfold PyProof.Rows.subscriptTail
  refine wpAny_bind ?_
  have ty := mm.typeIs (s := s)
  rw [getitemInPython_of_ne ty.not_modules]
  refine wpAny_bind (wpAny_specialOf ty PySem.F.slot_dict_getitem.lookup ?_)
  have fin : wpAny (model X.prog X.w) X.A (subscripted slice false (.ref p) u) (fun r s₃ => wpAny (model X.prog X.w) X.A (letTemporaryGo value (.ref p) r >>= fun _ => pure r) (EP X pins σ Q) X.xe s₃) X.xe s := by
    rw [hs]
    exact wpAny_operating (mix_getItem (u8 hr) (ko.at_ _ _ I.hok I.kIn ry) ko.deep (noText_of ko.free) mm mk hv (wpAny_bind (wpAny_letTemporaryGo (wpAny_pure ⟨z, H, I.tok _, rz, q⟩))))
  first
    | exact wpAny_pure (wpAny_bind fin)
    | exact wpAny_bind (wpAny_pure (wpAny_bind fin))
    | exact wpAny_bind fin
theorem mt_mget {n : Nat} (hr : Room n X.A) : MtR X "dict.get" (rMGetD X.prog X.w X.K) := by
  intro pins s σ H x ys v us Q I rx rxs h
  obtain ⟨p, xs, k, y, e, z, rfl, rfl, hp, eo, ko, hv, q⟩ := h
  obtain rfl : v = Value.ref p := rx
  obtain ⟨u1, u2, rfl, r1, r2⟩ := vals2 rxs
  obtain ⟨m, hd, hl⟩ := mixO_get I.hok hp
  have mm := m.of (w := X.w) eo.free
  refine call_meetsIn PySem.F.slot_dict_get (MixOf.typeIs (s := s) mm) PySem.F.entry_dict_get (PySem.F.args_dict_get_3 _ _ _) (mix_meets_get p hd u1 u2)
    ⟨u8 hr, k, xs, ko.at_ _ _ I.hok I.kIn r1, ko.deep, noText_of ko.free, mm, eo.keys I.hok I.kIn, ?_⟩
  refine ⟨z, H, I.tok _, ?_, q⟩
  cases e1 : atM xs k with
  | none =>
    rw [e1] at hv
    subst hv
    exact r2
  | some vv =>
    rw [e1] at hv
    exact hv
theorem ps_mput {n : Nat} {o i value : Expr} {td ty tv : TE} (hr : Room n X.A) (ho : PE X o td) (hi : PE X i ty) (hv : PE X value tv) (hs : swapsWith value (some (.Subscript o i pos')) pos.line X.env = pure false) :
    PS X (.Assign [.Subscript o i pos'] value pos) (sMPut X.prog X.w X.K td ty tv) := by
  refine ⟨fun pins s σ H D I h => ?_⟩
  refine wpAny_Assign_Subscript (thn (hv.run pins s σ H _ I h) fun r s1 ⟨v, H1, I1, rv, q1⟩ => thn (ho.run pins s1 σ H1 _ I1 q1) fun u s2 ⟨x, H2, I2, rx, q2⟩ => thn (hi.run pins s2 σ H2 _ I2 q2) fun iv s3 ⟨y, H3, I3, ry, p, xs, k, ex, hp, eo, ko, hl, q3⟩ => ?_) hs
  subst ex
  obtain rfl : u = Value.ref p := rx
  obtain ⟨m, hd, _⟩ := mixO_get I3.hok hp
  have mk := eo.keys I3.hok I3.kIn
  have mm := m.of (w := X.w) eo.free
  refine mix_setItem (u8 hr) (ko.at_ _ _ I3.hok I3.kIn ry) ko.deep (noText_of ko.free) mm mk (Nat.le_of_lt hl) fun h' m' sb => ?_
  have fr : ∀ x ∈ putM xs k iv r, textFree x.1 = true := fun x hx => by
    have hx1 : x.1 ∈ (putM xs k iv r).map (·.1) := List.mem_map.mpr ⟨x, hx, rfl⟩
    rw [putM_keys] at hx1
    cases q : placeM xs k with
    | some j =>
      rw [q] at hx1
      obtain ⟨y, hy, e⟩ := List.mem_map.mp hx1
      rw [← e]
      exact eo.free y hy
    | none =>
      rw [q] at hx1
      rcases List.mem_append.mp hx1 with z | z
      · obtain ⟨y, hy, e⟩ := List.mem_map.mp z
        rw [← e]
        exact eo.free y hy
      · rw [List.mem_singleton] at z
        rw [z]
        exact ko.free
  have ln : (putM xs k iv r).length ≤ sizeLine := by
    unfold putM
    cases placeM xs k with
    | none => simp; omega
    | some j => simp; omega
  have m2 := m'.at fr
  obtain ⟨o2, _, _, g2, _⟩ := m2.ex
  exact ⟨σ, _, d_write I3 (by rw [hp]; trivial) sb ⟨o2, g2⟩ (mixO_ok m2 hd ln), q3 iv r ry rv⟩
/-- the view of d's values -/
def valsO (q d : Addr) : HO := .ext fun h => h.IsValuesView q d
theorem valsO_ok {P : Program} {w : World} {H : Hp} {h : Heap} {q d : Addr} (m : h.IsValuesView q d) : ObjOk P w H h q (valsO q d) := by
  obtain ⟨o, a, b⟩ := m
  exact ⟨⟨o, a, b⟩, ⟨o, a⟩, fun h1 h2 ⟨o, a, b⟩ e => ⟨o, e o a, b⟩⟩
/-- d.values() -/
def tMVals (td : TE) : TE := fun σ H Q => td σ H fun x H1 => ∃ (p : Addr) (xs : List MixE), x = .ref p ∧ H1 p = some (mixO p xs) ∧ ∀ q, H1 q = none → Q (.ref q) (upd H1 q (valsO q p))
/-- list(a view of values) -/
def rMList : List V → Hp → VK → Prop := fun ys H Q => ∃ (q p : Addr) (xs : List MixE) (vs : List V), ys = [.ref q] ∧ H q = some (valsO q p) ∧ H p = some (mixO p xs) ∧ Vals vs (xs.map (·.2.2)) ∧ ∀ l, H l = none → Q (.ref l) (upd H l (.lst vs))
theorem pe_mvals {e : Expr} {td : TE} {apos cpos : Pos} (he : PE X e td) (hbase : attributeBase e "values" X.env (eval e X.env) = eval e X.env := by rfl) (hline : (apos.endLine == cpos.line) = true := by rfl) :
    PE X (.Call (.Attribute e "values" apos) [] [] cpos) (tMVals td) := by
  refine ⟨fun pins s σ H Q I h => ?_⟩
  refine wpAny_Call_method (T := "dict") (id := "dict.values") hbase rfl hline PySem.F.plainAttrs_dict PySem.F.slot_dict_values PySem.F.type_dict_values (thn (he.run pins s σ H _ I h) fun u s1 ⟨x, H1, I1, rx, p, xs, ex, hp, q⟩ => ?_)
  subst ex
  obtain rfl : u = Value.ref p := rx
  obtain ⟨m, hd, hl⟩ := mixO_get I1.hok hp
  obtain ⟨o, es, ep, ho, hc, hdt, he2⟩ := m.ex
  have raw : s1.heap.DictRaw p es ep := ⟨o, ho, hc, hdt⟩
  refine ⟨raw.typeIs, fun b eb => (by cases eb; exact ⟨o, ho, hc.2.1⟩), ?_⟩
  show wpAny _ _ (callWith cpos (.builtin "dict.values") [.ref p] [] []) _ X.xe s1
  refine method_meetsIn PySem.F.slot_dict_values PySem.F.entry_dict_values rfl (PySem.evalArgs_none ⟨rfl, raw.typeIs, PySem.F.args_dict_values_1 _, _, meets_dict_values_raw p hd, ⟨es, ep, raw⟩, ?_⟩)
  exact ⟨.ref s1.heap.objs.size, _, I1.laid (t' := s1.toks) (fun b ob q => Heap.get?_push_of_some _ q) (Nat.le_refl _) (valsO_ok ⟨_, Heap.get?_push_size _ rfl, rfl, rfl⟩), rfl, q _ (I1.hok.fresh (Nat.le_refl _))⟩
theorem call_mlist (hc : X.calm = true) : CallR X (.type "list") rMList := by
  intro pins s σ H ys us Q I rxs h
  obtain ⟨q, p, xs, vs, rfl, hq, hp, rv, z⟩ := h
  obtain ⟨u, rfl, ru⟩ := rxs.one
  obtain rfl : u = Value.ref q := ru
  obtain ⟨m, hd, hl⟩ := mixO_get I.hok hp
  obtain ⟨o, es, ep, ho, hcl, hdt, he2⟩ := m.ex
  have view : s.heap.IsValuesView q p := (show ObjOk X.prog X.w H s.heap q (valsO q p) from I.hok q _ hq).1
  have esz : es.size = xs.length := by rw [← Array.length_toList, he2, List.length_map]
  refine PySem.W.kdl_call (KdlSrc.rawValues (es := es) (ep := ep)) (I.ok.hd hc) ⟨view, o, ho, hcl, hdt⟩ (by rw [esz]; exact hl) fun h' tk acc c hk hS hit => ?_
  have ea : acc.toList = xs.map (·.2.2) := by
    refine List.ext_getElem? fun j => ?_
    rw [List.getElem?_map]
    by_cases hj : j < xs.length
    · have h1 : j < acc.size := by rw [hit.1, esz]; exact hj
      obtain ⟨hi, e2⟩ := hit.2 j acc[j] (Array.getElem?_eq_getElem h1)
      rw [Array.getElem?_toList, Array.getElem?_eq_getElem h1, e2, List.getElem?_eq_getElem hj]
      have e3 : es[j]? = some (⟨hash0 xs[j].1, xs[j].2.1, xs[j].2.2⟩ : DictEntry) := by
        rw [← Array.getElem?_toList, he2, List.getElem?_map, List.getElem?_eq_getElem hj]
        rfl
      rw [Array.getElem?_eq_getElem hi] at e3
      rw [Option.some.inj e3]
      rfl
    · have e5 : xs[j]? = none := List.getElem?_eq_none (by omega)
      have e6 : acc.toList[j]? = none := List.getElem?_eq_none (by rw [Array.length_toList, hit.1, esz]; omega)
      rw [e5, e6]
      rfl
  have ln : vs.length ≤ sizeLine := by
    have := rv.length
    rw [List.length_map] at this
    omega
  exact ⟨.ref s.heap.objs.size, _, I.laid (o := .lst vs) (t' := tk) hk (Nat.le_refl _) ⟨ln, acc.toList, c, by rw [ea]; exact rv, by rw [Array.toArray_toList]; exact hS⟩, rfl, z _ (I.hok.fresh (Nat.le_refl _))⟩
/-- {k: v} -/
def tMOne (P : Program) (w : World) (K : PySem.W.Frag) (tk tv : TE) : TE := fun σ H Q => ∀ p, H p = none → tk σ (upd H p (mixO p [])) fun y H1 => tv σ H1 fun v H2 => H2 p = some (mixO p []) ∧ ∃ k, KeyOkM P w K H2 y k ∧
  ∀ u r, RelV y u → RelV v r → Q (.ref p) (upd H2 p (mixO p [(k, u, r)]))
theorem u8' {k : Nat} {A : Around} (r : Room k A) : A.units + 8 < cLine := by
  have := r.un
  omega
theorem pe_mone {n : Nat} {k v : Expr} {tk tv : TE} (hr : Room n X.A) (hk : PE X k tk) (hv : PE X v tv) : PE X (.Dict [some k] [v] pos) (tMOne X.prog X.w X.K tk tv) := by
  refine ⟨fun pins s σ H Q I q => ?_⟩
  have hn := I.hok.fresh (Nat.le_refl s.heap.objs.size)
  have big : (s.heap.objs.size == sysModules) = false := by
    obtain ⟨_, z, _⟩ := dk_empty (P := X.prog) (w := X.w) (H := upd H s.heap.objs.size (.dK [])) s.heap I.big
    exact z
  have I1 := I.laid (a := s.heap.objs.size) (o := mixO s.heap.objs.size []) (h' := s.heap.push { cls := .type "dict", data := .dict #[] }) (t' := s.toks) (fun _ _ q => Heap.get?_push_of_some _ q) (Nat.le_refl _)
    (mixO_ok ⟨_, _, _, Heap.get?_push_size _ rfl, ⟨rfl, rfl, rfl⟩, rfl, rfl⟩ big (Nat.zero_le _))
  rw [arm_eval_Dict, zip_pairTrees [some k] [v] X.env pos rfl rfl, dictDisplay_pairs _ (by simp [pairTrees]) (by simp [pairTrees])]
  refine wpAny_bind (wpAny_standAt (wpAny_bind ?_))
  unfold subDict
  refine wpAny_bind (wpAny_alloc ?_)
  refine wpAny_bind (wpAny_holding ?_)
  rw [if_pos (by simp [pairTrees])]
  refine wpAny_bind ?_
  refine pairTrees_cons_walk (thn (hk.run pins _ σ _ _ I1 (q _ hn)) fun u s1 ⟨y, H1, I2, ry, q1⟩ => thn (hv.run pins s1 σ H1 _ I2 q1) fun r s2 ⟨z, H2, I3, rz, hp, kk, ko, q2⟩ => pairTrees_nil_walk ?_)
  refine wpAny_holding ?_
  refine wpAny_bind ?_
  rw [List.forIn_cons]
  obtain ⟨m, hd, _⟩ := mixO_get I3.hok hp
  have eo : EntOk X.prog X.w X.K H2 [] := ⟨fun x hx => (by cases hx), List.nodup_nil⟩
  refine wpAny_bind (wpAny_bind (mix_set (u8' hr) (ko.at_ _ _ I3.hok I3.kIn ry) ko.deep (noText_of ko.free) (m.of (w := X.w) eo.free) (eo.keys I3.hok I3.kIn) (Nat.zero_le _) fun h' m' sb => ?_))
  refine wpAny_pure ?_
  show wpAny _ _ (forIn ([] : List (Value × Value)) PUnit.unit _) _ _ _
  rw [List.forIn_nil]
  refine wpAny_pure (wpAny_pure (wpAny_pure (wpAny_pure ?_)))
  have e0 : putM [] kk u r = [(kk, u, r)] := rfl
  rw [e0] at m'
  have m2 := m'.at (fun x hx => by rw [List.mem_singleton] at hx; rw [hx]; exact ko.free)
  obtain ⟨o2, _, _, g2, _⟩ := m2.ex
  exact ⟨.ref s.heap.objs.size, _, d_write I3 (by rw [hp]; trivial) sb ⟨o2, g2⟩ (mixO_ok m2 hd (by show 1 ≤ sizeLine; decide)), rfl, q2 u r ry rz⟩
/-- o.m(..), o a mixed dict -/
def tMM (r : V → List V → Hp → VK → Prop) (to : TE) (t : TA) : TE := fun σ H Q => to σ H fun x H1 => (∃ (p : Addr) (xs : List MixE), x = .ref p ∧ H1 p = some (mixO p xs)) ∧ t σ H1 fun ys H2 => r x ys H2 Q
theorem pe_mm {name : Str} {id : String} {o e : Expr} {es : List Expr} {to : TE} {t : TA} {r : V → List V → Hp → VK → Prop} {apos cpos : Pos} (slot : Slot "dict" name id) (hty : typeOf (.builtin id) = pure (.type "method_descriptor")) (hm : MtR X id r) (ho : PE X o to) (ha : PA X (e :: es) t)
    (hbase : attributeBase o name X.env (eval o X.env) = eval o X.env := by rfl)
    (hfew : ((backTo cpos (starEach (e :: es) X.env)).all (fun x => !x.1) && (backToKw cpos (keywordEach [] X.env)).all (fun x => x.1.isSome)
      && decide ((e :: es).length + ([] : List Keyword).length + (if ([] : List Keyword).isEmpty then 0 else 1) < 30)) = true := by rfl)
    (hline : (apos.endLine == cpos.line) = true := by rfl) (hs : starEach (e :: es) X.env = (false, eval e X.env) :: starEach es X.env := by rfl) (hplain : (backTo cpos (starEach es X.env)).any (·.1) = false := by rfl) :
    PE X (.Call (.Attribute o name apos) (e :: es) [] cpos) (tMM r to t) := by
  refine ⟨fun pins s σ H Q I h => ?_⟩
  refine wpAny_Call_method_late hbase hfew hline rfl (thn (ho.run pins s σ H _ I h) fun v s1 ⟨x, H1, I1, r1, ⟨p, xs, ex, hp⟩, q1⟩ => ?_)
  subst ex
  obtain rfl : v = Value.ref p := r1
  obtain ⟨m, _, _⟩ := mixO_get I1.hok hp
  obtain ⟨ob, es2, ep, hob, hcl, hdt, _⟩ := m.ex
  have raw : s1.heap.DictRaw p es2 ep := ⟨ob, hob, hcl, hdt⟩
  refine ⟨"dict", id, PySem.F.plainAttrs_dict, slot, hty, raw.typeIs, fun b eb => (by cases eb; exact ⟨ob, hob, hcl.2.1⟩), ?_⟩
  have hA := ha.run cpos pins s1 σ H1 _ I1 q1
  rw [hs] at hA ⊢
  refine Calls.callWith_builtin (by show (false || (backTo cpos (starEach es X.env)).any (·.1)) = false; rw [hplain] <;> rfl) (Calls.evalArgs_plain ?_)
  exact thn hA fun us s2 ⟨vs, H2, I2, r2, q2⟩ => hm pins s2 σ H2 (.ref p) vs (.ref p) us Q I2 rfl r2 q2
end
end DL

/-! DL: a layer of plain data over the hand layer: what stands in a def's slots is data, told without the heap. -/
namespace DL
open PySem PySem.Spec L2

abbrev D := PyData

/-- what an object of one's own holds -/
inductive Ow where
  | lst (ds : List D)
  | dic (kvs : List (Key × D))
  | mix (kvs : List (D × D))

/-- what stands in a slot: nothing known, data that nobody changes, an object that this body alone holds, the state of draws, a list of n items -/
inductive Sl where
  | no
  | val (d : D)
  | own (o : Ow)
  | st (B : Int)
  | scr (n : Nat)

/-- slots, and objects just made that no slot holds yet -/
structure Sg where
  s : List Sl
  t : List Sl

/-- what an expression comes to: data, what slot i holds, what was just made -/
inductive R where
  | d (d : D)
  | v (i : Nat)
  | t (j : Nat)

/-- the state of draws: its dict, its two lists -/
structure StA where
  a : Addr
  g : Addr
  c : Addr

def NotSt (S : Option StA) (b : Addr) : Prop := ∀ s, S = some s → b ≠ s.a ∧ b ≠ s.g

def stKvs (s : StA) (r t : Int) : List (Key × V) := [(.inr "great", .ref s.g), (.inr "cells", .ref s.c), (.inr "rest", .int r), (.inr "turn", .int t)]

/-- the state stands in the heap -/
structure StOk (H : Hp) (s : StA) : Prop where
  ex : ∃ (gr : List Int) (r t : Int), H s.a = some (.dK (stKvs s r t)) ∧ H s.g = some (.lst (gr.map V.int))

/-- no more than B turns so far -/
def TurnLe (H : Hp) (s : StA) (B : Int) : Prop := ∃ r t, H s.a = some (.dK (stKvs s r t)) ∧ 0 ≤ t ∧ t ≤ B
theorem TurnLe.at {H H' : Hp} {s : StA} {B : Int} (h : TurnLe H s B) (e : H' s.a = H s.a) : TurnLe H' s B := by
  obtain ⟨r, t, a, b⟩ := h
  exact ⟨r, t, by rw [e]; exact a, b⟩

/-- the frame of a body: the state's addresses, what was known at its entry, what stood at its entry -/
structure Fr where
  S : Option StA
  G0 : Hp
  H0 : Hp

structure RlB (F : Fr) (G H : Hp) : Prop where
  sub : Same G H
  mono : Same F.G0 G
  keep : ∀ b o, F.H0 b = some o → NotSt F.S b → H b = some o
  grow : ∀ b o, G b = some o → F.G0 b = some o ∨ F.H0 b = none
  ste : ∀ s, F.S = some s → StOk H s ∧ G s.a = none ∧ G s.g = none ∧ ∃ ce : List Int, G s.c = some (.lst (ce.map V.int))

/-! ### data that stands -/
mutual
/-- v is d: a list stands in the abstract heap, a tuple there or in the module -/
inductive Dp (K : PySem.W.Frag) (H : Hp) : V → D → Prop
  | non : Dp K H .non .none
  | bl (b : Bool) : Dp K H (.bl b) (.bool b)
  | int (i : Int) : Dp K H (.int i) (.int i)
  | str (x : Str) : Dp K H (.str x) (.str x)
  | lst {a : Addr} {xs : List V} {ds : List D} : Rd H a (.lst xs) → DpAll K H xs ds → Dp K H (.ref a) (.list ds)
  | tup {a : Addr} {xs : List V} {ds : List D} : SqT K H a xs → DpAll K H xs ds → Dp K H (.ref a) (.tuple ds)
inductive DpAll (K : PySem.W.Frag) (H : Hp) : List V → List D → Prop
  | nil : DpAll K H [] []
  | cons {v : V} {vs : List V} {d : D} {ds : List D} : Dp K H v d → DpAll K H vs ds → DpAll K H (v :: vs) (d :: ds)
end
theorem rd_mono {G G' : Hp} (h : Same G G') {a : Addr} {u : HO} (r : Rd G a u) : Rd G' a u := by
  rcases r with r | ⟨o, r⟩
  · exact .inl (h _ _ r)
  · exact .inr ⟨o, h _ _ r⟩
theorem sqT_mono {K : PySem.W.Frag} {G G' : Hp} (h : Same G G') {a : Addr} {xs : List V} (q : SqT K G a xs) : SqT K G' a xs := by
  rcases q with r | r
  · exact .inl (rd_mono h r)
  · exact .inr r
mutual
theorem toDp {K : PySem.W.Frag} {H : Hp} : ∀ (d : D) (v : V), Dp K H v d → L2.Dp K H v d
  | .none, _, q => by cases q; exact .non
  | .bool b, _, q => by cases q; exact .bl b
  | .int i, _, q => by cases q; exact .int i
  | .str x, _, q => by cases q; exact .str x
  | .list ds, _, q => by
    cases q with
    | lst a b => exact .lst (.inl a) (toDpAll ds _ b)
  | .tuple ds, _, q => by
    cases q with
    | tup a b => exact .tup a (toDpAll ds _ b)
  | .dict _, _, q => by cases q
theorem toDpAll {K : PySem.W.Frag} {H : Hp} : ∀ (ds : List D) (vs : List V), DpAll K H vs ds → L2.DpAll K H vs ds
  | [], _, q => by cases q; exact .nil
  | d :: ds, _, q => by
    cases q with
    | cons a b => exact .cons (toDp d _ a) (toDpAll ds _ b)
end
mutual
theorem dp_mono {K : PySem.W.Frag} {G G' : Hp} (h : Same G G') : ∀ (d : D) (v : V), Dp K G v d → Dp K G' v d
  | .none, _, q => by cases q; exact .non
  | .bool b, _, q => by cases q; exact .bl b
  | .int i, _, q => by cases q; exact .int i
  | .str x, _, q => by cases q; exact .str x
  | .list ds, _, q => by
    cases q with
    | lst a b => exact .lst (rd_mono h a) (dpAll_mono h ds _ b)
  | .tuple ds, _, q => by
    cases q with
    | tup a b => exact .tup (sqT_mono h a) (dpAll_mono h ds _ b)
  | .dict _, _, q => by cases q
theorem dpAll_mono {K : PySem.W.Frag} {G G' : Hp} (h : Same G G') : ∀ (ds : List D) (vs : List V), DpAll K G vs ds → DpAll K G' vs ds
  | [], _, q => by cases q; exact .nil
  | d :: ds, _, q => by
    cases q with
    | cons a b => exact .cons (dp_mono h d _ a) (dpAll_mono h ds _ b)
end

theorem dpAll_len {K : PySem.W.Frag} {G : Hp} : ∀ {ds : List D} {vs : List V}, DpAll K G vs ds → vs.length = ds.length
  | [], _, q => by cases q; rfl
  | d :: ds, _, q => by
    cases q with
    | cons a b => simp [dpAll_len b]
theorem dpAll_get {K : PySem.W.Frag} {G : Hp} : ∀ {ds : List D} {vs : List V}, DpAll K G vs ds → ∀ (i : Nat) (d : D), ds[i]? = some d → ∃ v, vs[i]? = some v ∧ Dp K G v d
  | [], _, q, i, d, e => by simp at e
  | d' :: ds, _, q, i, d, e => by
    cases q with
    | cons a b =>
      cases i with
      | zero => simp at e; subst e; exact ⟨_, by simp, a⟩
      | succ i => simpa using dpAll_get b i d (by simpa using e)
theorem dpAll_append {K : PySem.W.Frag} {G : Hp} : ∀ {ds es : List D} {vs ws : List V}, DpAll K G vs ds → DpAll K G ws es → DpAll K G (vs ++ ws) (ds ++ es)
  | [], _, _, _, q, r => by cases q; exact r
  | d :: ds, _, _, _, q, r => by
    cases q with
    | cons a b => exact .cons a (dpAll_append b r)
theorem dpAll_one {K : PySem.W.Frag} {G : Hp} {v : V} {d : D} (h : Dp K G v d) : DpAll K G [v] [d] := .cons h .nil
theorem dpAll_drop {K : PySem.W.Frag} {G : Hp} : ∀ (n : Nat) {ds : List D} {vs : List V}, DpAll K G vs ds → DpAll K G (vs.drop n) (ds.drop n)
  | 0, _, _, q => q
  | n + 1, _, _, .nil => .nil
  | n + 1, _, _, .cons a b => dpAll_drop n b
theorem dpAll_take {K : PySem.W.Frag} {G : Hp} : ∀ (n : Nat) {ds : List D} {vs : List V}, DpAll K G vs ds → DpAll K G (vs.take n) (ds.take n)
  | 0, _, _, q => .nil
  | n + 1, _, _, .nil => .nil
  | n + 1, _, _, .cons a b => .cons a (dpAll_take n b)
theorem dpAll_rev {K : PySem.W.Frag} {G : Hp} : ∀ {ds : List D} {vs : List V}, DpAll K G vs ds → DpAll K G vs.reverse ds.reverse
  | _, _, .nil => .nil
  | _, _, .cons a b => by
    rw [List.reverse_cons, List.reverse_cons]
    exact dpAll_append (dpAll_rev b) (dpAll_one a)
theorem dpAll_set {K : PySem.W.Frag} {G : Hp} {v : V} {d : D} (h : Dp K G v d) : ∀ (i : Nat) {ds : List D} {vs : List V}, DpAll K G vs ds → DpAll K G (vs.set i v) (ds.set i d)
  | _, _, _, .nil => .nil
  | 0, _, _, .cons a b => .cons h b
  | i + 1, _, _, .cons a b => .cons a (dpAll_set h i b)
theorem dpAll_rep {K : PySem.W.Frag} {G : Hp} : ∀ (n : Nat) {ds : List D} {vs : List V}, DpAll K G vs ds → DpAll K G (List.replicate n vs).flatten (List.replicate n ds).flatten
  | 0, _, _, _ => .nil
  | n + 1, _, _, q => by
    rw [List.replicate_succ, List.replicate_succ, List.flatten_cons, List.flatten_cons]
    exact dpAll_append q (dpAll_rep n q)

/-! ### dInts as data -/
def dInts (ns : List Int) : List D := ns.map PyData.int
theorem dpAll_ints {K : PySem.W.Frag} {G : Hp} : ∀ {ns : List Int} {vs : List V}, DpAll K G vs (dInts ns) → vs = ns.map V.int
  | [], _, q => by cases q; rfl
  | n :: ns, _, q => by
    cases q with
    | cons a b =>
      cases a
      rw [dpAll_ints (ns := ns) b]
      rfl
theorem dpAll_of_ints {K : PySem.W.Frag} {G : Hp} : ∀ (ns : List Int), DpAll K G (ns.map V.int) (dInts ns)
  | [] => .nil
  | n :: ns => .cons (.int n) (dpAll_of_ints ns)
def toInts : List D → Option (List Int)
  | [] => some []
  | .int i :: r => (toInts r).map (i :: ·)
  | _ :: _ => none
theorem toInts_eq : ∀ {ds : List D} {ns : List Int}, toInts ds = some ns → ds = dInts ns
  | [], ns, h => by simp [toInts] at h; subst h; rfl
  | .int i :: r, ns, h => by
    simp only [toInts, Option.map_eq_some_iff] at h
    obtain ⟨ms, h1, h2⟩ := h
    subst h2
    rw [toInts_eq h1]
    rfl
  | .none :: _, _, h => by simp [toInts] at h
  | .bool _ :: _, _, h => by simp [toInts] at h
  | .str _ :: _, _, h => by simp [toInts] at h
  | .list _ :: _, _, h => by simp [toInts] at h
  | .tuple _ :: _, _, h => by simp [toInts] at h
  | .dict _ :: _, _, h => by simp [toInts] at h
theorem toInts_ints : ∀ (ns : List Int), toInts (dInts ns) = some ns
  | [] => rfl
  | n :: ns => by
    show (toInts (dInts ns)).map (n :: ·) = _
    rw [toInts_ints ns]
    rfl

/-! ### data as keys -/
mutual
def keyOf : D → NestedKey
  | .none => .none
  | .bool b => .num (if b = true then 1 else 0)
  | .int i => .num i
  | .str x => .text x
  | .list _ => .none
  | .tuple xs => .tup (keysOf xs)
  | .dict _ => .none
def keysOf : List D → List NestedKey
  | [] => []
  | x :: xs => keyOf x :: keysOf xs
end
/-- None, ints and tuples of such, no deeper than n -/
def keyable : Nat → D → Bool
  | _, .none => true
  | _, .int _ => true
  | n + 1, .tuple xs => xs.all (keyable n)
  | _, _ => false

/-! ### the relation of slots -/
def MixEnt (K : PySem.W.Frag) (G : Hp) : List MixE → List (D × D) → Prop := Paired fun x q => x.1 = keyOf q.1 ∧ keyable 8 q.1 = true ∧ (∃ y, RelV y x.2.1 ∧ Dp K G y q.1) ∧ ∃ v, RelV v x.2.2 ∧ Dp K G v q.2
def KDp (K : PySem.W.Frag) (G : Hp) : List (Key × V) → List (Key × D) → Prop := Paired fun p q => p.1 = q.1 ∧ Dp K G p.2 q.2

def OwOk (K : PySem.W.Frag) (G H : Hp) (p : Addr) : Ow → Prop
  | .lst ds => ∃ vs, H p = some (.lst vs) ∧ DpAll K G vs ds
  | .dic kvs => ∃ ws, H p = some (.dK ws) ∧ KDp K G ws kvs
  | .mix kvs => ∃ xs, H p = some (mixO p xs) ∧ MixEnt K G xs kvs ∧ (xs.map (·.1)).Nodup

/-- p is an object of the body's own: nobody knew it -/
structure Mine (F : Fr) (G : Hp) (p : Addr) : Prop where
  g : G p = none
  h : F.H0 p = none
  s : NotSt F.S p

def SlOk (K : PySem.W.Frag) (F : Fr) (G H : Hp) (x : Option V) : Sl → Prop
  | .no => True
  | .val d => ∃ v, x = some v ∧ Dp K G v d
  | .own o => ∃ p, x = some (.ref p) ∧ Mine F G p ∧ OwOk K G H p o
  | .st B => ∃ s, F.S = some s ∧ x = some (.ref s.a) ∧ TurnLe H s B
  | .scr n => ∃ (a : Addr) (ns : List Int), x = some (.ref a) ∧ SqL K G a (ns.map V.int) ∧ ns.length = n

/-- values ρ (slots, then what was just made) are told by l -/
structure RlS (K : PySem.W.Frag) (F : Fr) (G H : Hp) (ρ : List (Option V)) (l : List Sl) : Prop where
  b : RlB F G H
  len : l.length = ρ.length
  slot : ∀ (i : Nat) (x : Option V) (y : Sl), ρ[i]? = some x → l[i]? = some y → SlOk K F G H x y
  dis : ∀ (i j : Nat) (p : Addr) (o o' : Ow), ρ[i]? = some (some (.ref p)) → ρ[j]? = some (some (.ref p)) → l[i]? = some (.own o) → l[j]? = some (.own o') → i = j

structure Rl (K : PySem.W.Frag) (F : Fr) (G H : Hp) (σ : L2.St) (τ : List V) (e : Sg) : Prop where
  r : RlS K F G H (σ ++ τ.map some) (e.s ++ e.t)
  ls : e.s.length = σ.length

theorem kdp_mono {K : PySem.W.Frag} {G G' : Hp} (h : Same G G') : ∀ {ws : List (Key × V)} {kvs : List (Key × D)}, KDp K G ws kvs → KDp K G' ws kvs
  | _, _, .nil => .nil
  | _, _, .cons a b => .cons ⟨a.1, dp_mono h _ _ a.2⟩ (kdp_mono h b)
theorem mixEnt_mono {K : PySem.W.Frag} {G G' : Hp} (h : Same G G') : ∀ {xs : List MixE} {kvs : List (D × D)}, MixEnt K G xs kvs → MixEnt K G' xs kvs
  | _, _, .nil => .nil
  | _, _, .cons ⟨a, b, ⟨y, c, d⟩, v, e, f⟩ t => .cons ⟨a, b, ⟨y, c, dp_mono h _ _ d⟩, v, e, dp_mono h _ _ f⟩ (mixEnt_mono h t)
theorem OwOk.mono {K : PySem.W.Frag} {G G' H H' : Hp} {p : Addr} (h : Same G G') (e : H' p = H p) : ∀ {o : Ow}, OwOk K G H p o → OwOk K G' H' p o
  | .lst ds, ⟨vs, h1, h2⟩ => ⟨vs, by rw [e]; exact h1, dpAll_mono h _ _ h2⟩
  | .dic kvs, ⟨ws, h1, h2⟩ => ⟨ws, by rw [e]; exact h1, kdp_mono h h2⟩
  | .mix kvs, ⟨xs, h1, h2, h3⟩ => ⟨xs, by rw [e]; exact h1, mixEnt_mono h h2, h3⟩
theorem OwOk.some {K : PySem.W.Frag} {G H : Hp} {p : Addr} : ∀ {o : Ow}, OwOk K G H p o → ∃ x, H p = some x ∧ (∀ t, x ≠ .tup t)
  | .lst ds, ⟨vs, h1, _⟩ => ⟨_, h1, fun t z => by cases z⟩
  | .dic kvs, ⟨ws, h1, _⟩ => ⟨_, h1, fun t z => by cases z⟩
  | .mix kvs, ⟨xs, h1, _⟩ => ⟨_, h1, fun t z => by cases (show HO.ext _ = HO.tup t from z)⟩

end DL

namespace DL
open PySem PySem.Spec L2

section
variable {K : PySem.W.Frag} {F : Fr} {G H G' H' : Hp} {ρ : List (Option V)} {l : List Sl} {p : Addr} {o : HO}

theorem same_upd (h : H p = none) : Same H (upd H p o) := fun b x e => by
  rw [upd_ne (ne_of_none e h)]
  exact e

theorem RlB.isNew (r : RlB F G H) (h : H p = none) : Mine F G p where
  g := r.sub.free h
  h := by
    cases q : F.H0 p with
    | none => rfl
    | some x =>
      have n : ¬ NotSt F.S p := fun z => by
        rw [r.keep p x q z] at h
        cases h
      refine absurd (fun s hs => ?_) n
      obtain ⟨⟨gr, rr, t, h1, h2⟩, _⟩ := r.ste s hs
      exact ⟨ne_of_none h1 h |>.symm, ne_of_none h2 h |>.symm⟩
  s := fun s hs => by
    obtain ⟨⟨gr, rr, t, h1, h2⟩, _⟩ := r.ste s hs
    exact ⟨ne_of_none h1 h |>.symm, ne_of_none h2 h |>.symm⟩

theorem StOk.at {s : StA} (x : StOk H s) (ha : H' s.a = H s.a) (hg : H' s.g = H s.g) : StOk H' s := by
  obtain ⟨gr, r, t, h1, h2⟩ := x
  exact ⟨gr, r, t, by rw [ha]; exact h1, by rw [hg]; exact h2⟩

/-- what a step leaves -/
structure Step (F : Fr) (G H G' H' : Hp) : Prop where
  g : Same G G'
  b : RlB F G' H'
  own : ∀ q x, H q = some x → Mine F G q → H' q = some x ∧ G' q = none
  st : ∀ s, F.S = some s → H' s.a = H s.a
/-- a step that may draw -/
structure Step0 (F : Fr) (G H G' H' : Hp) : Prop where
  g : Same G G'
  b : RlB F G' H'
  own : ∀ q x, H q = some x → Mine F G q → H' q = some x ∧ G' q = none

theorem Step.refl (r : RlB F G H) : Step F G H G H := ⟨Same.refl G, r, fun _ _ h m => ⟨h, m.g⟩, fun _ _ => rfl⟩
theorem Step.mine (t : Step F G H G' H') {q : Addr} {x : HO} (h : H q = some x) (m : Mine F G q) : Mine F G' q := ⟨(t.own q x h m).2, m.h, m.s⟩
theorem Step.trans {G2 H2 : Hp} (a : Step F G H G' H') (b : Step F G' H' G2 H2) : Step F G H G2 H2 :=
  ⟨a.g.trans b.g, b.b, fun q x h m => b.own q x (a.own q x h m).1 (a.mine h m), fun s e => (b.st s e).trans (a.st s e)⟩

/-- a new object that is known from now on -/
theorem RlB.newG (r : RlB F G H) (h : H p = none) : Step F G H (upd G p o) (upd H p o) := by
  have m := r.isNew h
  refine ⟨same_upd m.g, ⟨fun b x e => ?_, r.mono.trans (same_upd m.g), fun b x e n => ?_, fun b x e => ?_, fun s hs => ?_⟩, fun q x e mq => ?_, fun s hs => ?_⟩
  · by_cases hb : b = p
    · subst hb
      rw [upd_same] at e ⊢
      exact e
    · rw [upd_ne hb] at e ⊢
      exact r.sub b x e
  · have q := r.keep b x e n
    rw [upd_ne (ne_of_none q h)]
    exact q
  · by_cases hb : b = p
    · subst hb
      exact .inr m.h
    · rw [upd_ne hb] at e
      exact r.grow b x e
  · obtain ⟨x, a1, a2, a3⟩ := r.ste s hs
    have n := m.s s hs
    obtain ⟨ce, a3⟩ := a3
    exact ⟨x.at (upd_ne n.1.symm) (upd_ne n.2.symm), by rw [upd_ne n.1.symm]; exact a1, by rw [upd_ne n.2.symm]; exact a2, ce, same_upd m.g _ _ a3⟩
  · have ne := ne_of_none e h
    rw [upd_ne ne, upd_ne ne]
    exact ⟨e, mq.g⟩
  · exact upd_ne (m.s s hs).1.symm
/-- a new object that nobody knows yet -/
theorem RlB.newH (r : RlB F G H) (h : H p = none) : Step F G H G (upd H p o) := by
  have m := r.isNew h
  refine ⟨Same.refl G, ⟨r.sub.trans (same_upd h), r.mono, fun b x e n => ?_, r.grow, fun s hs => ?_⟩, fun q x e mq => ?_, fun s hs => ?_⟩
  · have q := r.keep b x e n
    rw [upd_ne (ne_of_none q h)]
    exact q
  · obtain ⟨x, a1, a2, a3⟩ := r.ste s hs
    have n := m.s s hs
    exact ⟨x.at (upd_ne n.1.symm) (upd_ne n.2.symm), a1, a2, a3⟩
  · have ne := ne_of_none e h
    rw [upd_ne ne]
    exact ⟨e, mq.g⟩
  · exact upd_ne (m.s s hs).1.symm
/-- an object of one's own is written -/
theorem RlB.wr (r : RlB F G H) (m : Mine F G p) : RlB F G (upd H p o) := by
  refine ⟨fun b x e => ?_, r.mono, fun b x e n => ?_, r.grow, fun s hs => ?_⟩
  · have ne : b ≠ p := ne_of_none e m.g
    rw [upd_ne ne]
    exact r.sub b x e
  · have ne : b ≠ p := ne_of_none e m.h
    rw [upd_ne ne]
    exact r.keep b x e n
  · obtain ⟨x, a1, a2, a3⟩ := r.ste s hs
    have n := m.s s hs
    exact ⟨x.at (upd_ne n.1.symm) (upd_ne n.2.symm), a1, a2, a3⟩
/-- an object of one's own is given away: from now on all know it -/
theorem RlB.fz (r : RlB F G H) (m : Mine F G p) (h : H p = some o) : RlB F (upd G p o) H := by
  refine ⟨fun b x e => ?_, r.mono.trans (same_upd m.g), r.keep, fun b x e => ?_, fun s hs => ?_⟩
  · by_cases hb : b = p
    · subst hb
      rw [upd_same] at e
      cases e
      exact h
    · rw [upd_ne hb] at e
      exact r.sub b x e
  · by_cases hb : b = p
    · subst hb
      exact .inr m.h
    · rw [upd_ne hb] at e
      exact r.grow b x e
  · obtain ⟨x, a1, a2, a3⟩ := r.ste s hs
    have n := m.s s hs
    obtain ⟨ce, a3⟩ := a3
    exact ⟨x, by rw [upd_ne n.1.symm]; exact a1, by rw [upd_ne n.2.symm]; exact a2, ce, same_upd m.g _ _ a3⟩

theorem stAt {s : StA} (x : StOk H s) : (∃ u, H s.a = some u) ∧ (∃ u, H s.g = some u) := by
  obtain ⟨gr, r, t, h1, h2⟩ := x
  exact ⟨⟨_, h1⟩, ⟨_, h2⟩⟩

/-- behind a call: the callee's frame began here -/
theorem RlB.call {S' : Option StA} (r : RlB F G H) (hS : S' = F.S ∨ S' = none) (c : RlB ⟨S', G, H⟩ G' H') : Step0 F G H G' H' := by
  have nS : ∀ b, NotSt F.S b → NotSt S' b := fun b n => by
    rcases hS with e | e
    · rw [e]; exact n
    · rw [e]; exact fun s z => by cases z
  refine ⟨c.mono, ⟨c.sub, r.mono.trans c.mono, fun b x e n => c.keep b x (r.keep b x e n) (nS b n), fun b x e => ?_, fun s hs => ?_⟩, fun q x e mq => ⟨c.keep q x e (nS q mq.s), ?_⟩⟩
  · rcases c.grow b x e with q | q
    · exact r.grow b x q
    · refine .inr ?_
      have q : H b = none := q
      exact (r.isNew q).h
  · rcases hS with e | e
    · exact c.ste s (by show S' = some s; rw [e]; exact hs)
    · obtain ⟨x, a1, a2, a3⟩ := r.ste s hs
      obtain ⟨⟨u1, b1⟩, ⟨u2, b2⟩⟩ := stAt x
      obtain ⟨ce, a3⟩ := a3
      have nn : ∀ b, NotSt S' b := fun b s z => by rw [e] at z; cases z
      have gn : ∀ b u, H b = some u → G b = none → G' b = none := fun b u h1 h2 => by
        cases q : G' b with
        | none => rfl
        | some y =>
          rcases c.grow b y q with z | z
          · have z : G b = some y := z
            rw [h2] at z; cases z
          · have z : H b = none := z
            rw [h1] at z; cases z
      exact ⟨x.at (by rw [b1]; exact c.keep _ _ b1 (nn _)) (by rw [b2]; exact c.keep _ _ b2 (nn _)), gn _ _ b1 a1, gn _ _ b2 a2, ce, c.mono _ _ a3⟩
  · cases z : G' q with
    | none => rfl
    | some y =>
      rcases c.grow q y z with w | w
      · have w : G q = some y := w
        rw [mq.g] at w; cases w
      · have w : H q = none := w
        rw [e] at w; cases w

theorem RlB.callN (r : RlB F G H) (c : RlB ⟨none, G, H⟩ G' H') : Step F G H G' H' :=
  ⟨(r.call (.inr rfl) c).g, (r.call (.inr rfl) c).b, (r.call (.inr rfl) c).own, fun s hs => by
    obtain ⟨x, _⟩ := r.ste s hs
    obtain ⟨⟨u, hu⟩, _⟩ := stAt x
    rw [hu]
    exact c.keep _ _ hu fun _ z => by cases z⟩
/-- the bound on turns moves -/
def mapSt (m : Int → Int) : Sl → Sl
  | .st B => .st (m B)
  | x => x
/-! ### slots over a step -/
theorem SlOk.step (t : Step F G H G' H') : ∀ {x : Option V} {y : Sl}, SlOk K F G H x y → SlOk K F G' H' x y
  | _, .no, _ => trivial
  | _, .val d, ⟨v, e, h⟩ => ⟨v, e, dp_mono t.g d v h⟩
  | _, .own o, ⟨p, e, m, h⟩ => by
    obtain ⟨x, hx, _⟩ := h.some
    have q := t.own p x hx m
    exact ⟨p, e, t.mine hx m, h.mono t.g (by rw [q.1, hx])⟩
  | _, .st B, ⟨s, e, h, w⟩ => ⟨s, e, h, w.at (t.st s e)⟩
  | _, .scr n, ⟨a, xs, e, h, l⟩ => ⟨a, xs, e, t.g.seq h, l⟩
theorem RlS.step (r : RlS K F G H ρ l) (t : Step F G H G' H') : RlS K F G' H' ρ l :=
  ⟨t.b, r.len, fun i x y e1 e2 => (r.slot i x y e1 e2).step t, r.dis⟩
theorem SlOk.step0 (t : Step0 F G H G' H') {m : Int → Int} (hm : ∀ s B, F.S = some s → TurnLe H s B → TurnLe H' s (m B)) : ∀ {x : Option V} {y : Sl}, SlOk K F G H x y → SlOk K F G' H' x (mapSt m y)
  | _, .no, _ => trivial
  | _, .val d, ⟨v, e, h⟩ => ⟨v, e, dp_mono t.g d v h⟩
  | _, .own o, ⟨p, e, m, h⟩ => by
    obtain ⟨x, hx, _⟩ := h.some
    have q := t.own p x hx m
    exact ⟨p, e, ⟨q.2, m.h, m.s⟩, h.mono t.g (by rw [q.1, hx])⟩
  | _, .st B, ⟨s, e, h, w⟩ => ⟨s, e, h, hm s B e w⟩
  | _, .scr n, ⟨a, xs, e, h, l⟩ => ⟨a, xs, e, t.g.seq h, l⟩
theorem mapSt_own {m : Int → Int} {y : Sl} {o : Ow} (h : mapSt m y = .own o) : y = .own o := by
  cases y <;> simp [mapSt] at h ⊢ <;> exact h
theorem RlS.step0 (r : RlS K F G H ρ l) (t : Step0 F G H G' H') {m : Int → Int} (hm : ∀ s B, F.S = some s → TurnLe H s B → TurnLe H' s (m B)) : RlS K F G' H' ρ (l.map (mapSt m)) :=
  ⟨t.b, by rw [List.length_map]; exact r.len, fun i x y e1 e2 => by
    rw [List.getElem?_map] at e2
    obtain ⟨z, hz, rfl⟩ := Option.map_eq_some_iff.mp e2
    exact (r.slot i x z e1 hz).step0 t hm, fun i j p o o' e1 e2 e3 e4 => by
    rw [List.getElem?_map] at e3 e4
    obtain ⟨z, hz, a⟩ := Option.map_eq_some_iff.mp e3
    obtain ⟨z', hz', a'⟩ := Option.map_eq_some_iff.mp e4
    have := mapSt_own a
    have := mapSt_own a'
    subst_vars
    exact r.dis i j p _ _ e1 e2 hz hz'⟩
theorem RlS.at (r : RlS K F G H ρ l) {i : Nat} {y : Sl} (e : l[i]? = some y) : ∃ x, ρ[i]? = some x ∧ SlOk K F G H x y := by
  have hi : i < ρ.length := by rw [← r.len]; exact (List.getElem?_eq_some_iff.mp e).1
  exact ⟨ρ[i], List.getElem?_eq_getElem hi, r.slot i _ y (List.getElem?_eq_getElem hi) e⟩
/-- forgetting -/
theorem RlS.set (r : RlS K F G H ρ l) (i : Nat) (x : Option V) (y : Sl) (h : SlOk K F G H x y)
    (hd : ∀ p o, x = some (.ref p) → y = .own o → ∀ (j : Nat) o', ρ[j]? = some (some (.ref p)) → l[j]? = some (.own o') → j = i) : RlS K F G H (ρ.set i x) (l.set i y) := by
  refine ⟨r.b, by rw [List.length_set, List.length_set]; exact r.len, fun j x' y' e1 e2 => ?_, fun j k p o o' e1 e2 e3 e4 => ?_⟩
  · by_cases hj : i = j
    · subst hj
      have h1 := (List.getElem?_eq_some_iff.mp e1).1
      have h2 := (List.getElem?_eq_some_iff.mp e2).1
      rw [List.length_set] at h1 h2
      rw [List.getElem?_set_self h1] at e1
      rw [List.getElem?_set_self h2] at e2
      cases e1; cases e2
      exact h
    · rw [List.getElem?_set_ne hj] at e1 e2
      exact r.slot j x' y' e1 e2
  · by_cases hj : i = j
    · by_cases hk : i = k
      · rw [← hj, hk]
      · subst hj
        have h1 := (List.getElem?_eq_some_iff.mp e1).1
        have h2 := (List.getElem?_eq_some_iff.mp e3).1
        rw [List.length_set] at h1 h2
        rw [List.getElem?_set_self h1] at e1
        rw [List.getElem?_set_self h2] at e3
        rw [List.getElem?_set_ne hk] at e2 e4
        cases e1; cases e3
        exact (hd p o rfl rfl k o' e2 e4).symm
    · by_cases hk : i = k
      · subst hk
        have h1 := (List.getElem?_eq_some_iff.mp e2).1
        have h2 := (List.getElem?_eq_some_iff.mp e4).1
        rw [List.length_set] at h1 h2
        rw [List.getElem?_set_self h1] at e2
        rw [List.getElem?_set_self h2] at e4
        rw [List.getElem?_set_ne hj] at e1 e3
        cases e2; cases e4
        exact hd p o' rfl rfl j o e1 e3
      · rw [List.getElem?_set_ne hj] at e1 e3
        rw [List.getElem?_set_ne hk] at e2 e4
        exact r.dis j k p o o' e1 e2 e3 e4
theorem RlS.push (r : RlS K F G H ρ l) (x : Option V) (y : Sl) (h : SlOk K F G H x y)
    (hd : ∀ p o, x = some (.ref p) → y = .own o → ∀ (j : Nat) o', ρ[j]? = some (some (.ref p)) → l[j]? = some (.own o') → False) : RlS K F G H (ρ ++ [x]) (l ++ [y]) := by
  have hl := r.len
  have g1 : ∀ {j : Nat} {z : Option V}, (ρ ++ [x])[j]? = some z → (j < ρ.length ∧ ρ[j]? = some z) ∨ (j = ρ.length ∧ z = x) := fun {j z} e => by
    by_cases hj : j < ρ.length
    · rw [List.getElem?_append_left hj] at e; exact .inl ⟨hj, e⟩
    · rw [List.getElem?_append_right (by omega)] at e
      have h0 : j - ρ.length = 0 := by
        have := (List.getElem?_eq_some_iff.mp e).1
        simp at this; omega
      rw [h0] at e
      simp at e
      exact .inr ⟨by omega, e.symm⟩
  have g2 : ∀ {j : Nat} {z : Sl}, (l ++ [y])[j]? = some z → (j < ρ.length ∧ l[j]? = some z) ∨ (j = ρ.length ∧ z = y) := fun {j z} e => by
    by_cases hj : j < l.length
    · rw [List.getElem?_append_left hj] at e; exact .inl ⟨by omega, e⟩
    · rw [List.getElem?_append_right (by omega)] at e
      have h0 : j - l.length = 0 := by
        have := (List.getElem?_eq_some_iff.mp e).1
        simp at this; omega
      rw [h0] at e
      simp at e
      exact .inr ⟨by omega, e.symm⟩
  refine ⟨r.b, by simp [hl], fun j x' y' e1 e2 => ?_, fun j k p o o' e1 e2 e3 e4 => ?_⟩
  · rcases g1 e1 with ⟨a, b⟩ | ⟨a, b⟩ <;> rcases g2 e2 with ⟨c, d⟩ | ⟨c, d⟩
    · exact r.slot j x' y' b d
    · omega
    · omega
    · subst b; subst d; exact h
  · rcases g1 e1 with ⟨a1, b1⟩ | ⟨a1, b1⟩ <;> rcases g2 e3 with ⟨c1, d1⟩ | ⟨c1, d1⟩ <;> rcases g1 e2 with ⟨a2, b2⟩ | ⟨a2, b2⟩ <;> rcases g2 e4 with ⟨c2, d2⟩ | ⟨c2, d2⟩
    all_goals first | omega | skip
    · exact r.dis j k p o o' b1 b2 d1 d2
    · exact (hd p o' b2.symm d2.symm j o b1 d1).elim
    · exact (hd p o b1.symm d1.symm k o' b2 d2).elim
theorem RlS.take (r : RlS K F G H ρ l) (n : Nat) : RlS K F G H (ρ.take n) (l.take n) := by
  refine ⟨r.b, by rw [List.length_take, List.length_take, r.len], fun j x y e1 e2 => ?_, fun j k p o o' e1 e2 e3 e4 => ?_⟩
  all_goals simp only [List.getElem?_take] at *
  · split at e1
    · rw [if_pos (by assumption)] at e2
      exact r.slot j x y e1 e2
    · cases e1
  · split at e1
    · split at e2
      · rw [if_pos (by assumption)] at e3 e4
        exact r.dis j k p o o' e1 e2 e3 e4
      · cases e2
    · cases e1

/-- an own list in place i is given away -/
theorem RlS.fz (r : RlS K F G H ρ l) {i : Nat} {ds : List D} (e : l[i]? = some (.own (.lst ds))) :
    ∃ p G', ρ[i]? = some (some (.ref p)) ∧ Same G G' ∧ Dp K G' (.ref p) (.list ds) ∧ RlS K F G' H ρ (l.set i (.val (.list ds))) := by
  obtain ⟨x, ex, p, rfl, m, vs, hp, hd⟩ := r.at e
  have sG : Same G (upd G p (.lst vs)) := same_upd m.g
  have dp : Dp K (upd G p (.lst vs)) (.ref p) (.list ds) := .lst (.inl upd_same) (dpAll_mono sG _ _ hd)
  refine ⟨p, upd G p (.lst vs), ex, sG, dp, r.b.fz m hp, by rw [List.length_set]; exact r.len, fun j x' y' e1 e2 => ?_, fun j k q o o' e1 e2 e3 e4 => ?_⟩
  · by_cases hj : i = j
    · subst hj
      have h2 := (List.getElem?_eq_some_iff.mp e2).1
      rw [List.length_set] at h2
      rw [List.getElem?_set_self h2] at e2
      rw [ex] at e1
      cases e1; cases e2
      exact ⟨_, rfl, dp⟩
    · rw [List.getElem?_set_ne hj] at e2
      have q := r.slot j x' y' e1 e2
      match y', q with
      | .no, _ => trivial
      | .val d, ⟨v, a, b⟩ => exact ⟨v, a, dp_mono sG d v b⟩
      | .own o, ⟨q', a, b, c⟩ =>
        subst a
        have ne : q' ≠ p := fun z => by
          subst z
          exact hj (r.dis i j q' _ o ex e1 e e2)
        exact ⟨q', rfl, ⟨by rw [upd_ne ne]; exact b.g, b.h, b.s⟩, c.mono sG rfl⟩
      | .st B, ⟨s, a, b⟩ => exact ⟨s, a, b⟩
      | .scr n, ⟨a, xs, e, h, l⟩ => exact ⟨a, xs, e, sG.seq h, l⟩
  · by_cases hj : i = j
    · subst hj
      have h2 := (List.getElem?_eq_some_iff.mp e3).1
      rw [List.length_set] at h2
      rw [List.getElem?_set_self h2] at e3
      cases e3
    · by_cases hk : i = k
      · subst hk
        have h2 := (List.getElem?_eq_some_iff.mp e4).1
        rw [List.length_set] at h2
        rw [List.getElem?_set_self h2] at e4
        cases e4
      · rw [List.getElem?_set_ne hj] at e3
        rw [List.getElem?_set_ne hk] at e4
        exact r.dis j k q o o' e1 e2 e3 e4
/-- an own object in place i is written -/
theorem RlS.wr (r : RlS K F G H ρ l) {i : Nat} {o : Ow} (e : l[i]? = some (.own o)) {p : Addr} (ep : ρ[i]? = some (some (.ref p))) {u : HO} {o' : Ow} (h' : OwOk K G (upd H p u) p o') :
    RlS K F G (upd H p u) ρ (l.set i (.own o')) := by
  obtain ⟨x, ex, p', e', m, hp⟩ := r.at e
  rw [ep] at ex
  cases ex
  cases e'
  refine ⟨r.b.wr m, by rw [List.length_set]; exact r.len, fun j x' y' e1 e2 => ?_, fun j k q o1 o2 e1 e2 e3 e4 => ?_⟩
  · by_cases hj : i = j
    · subst hj
      have h2 := (List.getElem?_eq_some_iff.mp e2).1
      rw [List.length_set] at h2
      rw [List.getElem?_set_self h2] at e2
      rw [ep] at e1
      cases e1; cases e2
      exact ⟨p, rfl, m, h'⟩
    · rw [List.getElem?_set_ne hj] at e2
      have q := r.slot j x' y' e1 e2
      match y', q with
      | .no, _ => trivial
      | .val d, ⟨v, a, b⟩ => exact ⟨v, a, b⟩
      | .own o, ⟨q', a, b, c⟩ =>
        subst a
        have ne : q' ≠ p := fun z => by
          subst z
          exact hj (r.dis i j q' _ o ep e1 e e2)
        exact ⟨q', rfl, b, c.mono (Same.refl G) (upd_ne ne)⟩
      | .st B, ⟨s, a, b, w⟩ => exact ⟨s, a, b, w.at (upd_ne (m.s s a).1.symm)⟩
      | .scr n, ⟨a, xs, e, h, l⟩ => exact ⟨a, xs, e, h, l⟩
  · have back : ∀ {m : Nat} {o3 : Ow}, (l.set i (.own o'))[m]? = some (.own o3) → ∃ o4, l[m]? = some (.own o4) := fun {m o3} h => by
      by_cases hm : i = m
      · subst hm; exact ⟨o, e⟩
      · rw [List.getElem?_set_ne hm] at h; exact ⟨o3, h⟩
    obtain ⟨o3, e3'⟩ := back e3
    obtain ⟨o4, e4'⟩ := back e4
    exact r.dis j k q o3 o4 e1 e2 e3' e4'
end
end DL

namespace DL
open PySem PySem.Spec L2

abbrev DT := Sg → (R → Sg → Prop) → Prop
abbrev DTT := Sg → (Bool → Sg → Prop) → Prop
abbrev DTA := Sg → (List R → Sg → Prop) → Prop

def IsR (K : PySem.W.Frag) (G : Hp) (σ : L2.St) (τ : List V) (v : V) : R → Prop
  | .d d => Dp K G v d
  | .v i => σ[i]? = some (some v)
  | .t j => τ[j]? = some v
def IsRs (K : PySem.W.Frag) (G : Hp) (σ : L2.St) (τ : List V) : List V → List R → Prop
  | [], [] => True
  | v :: vs, r :: rs => IsR K G σ τ v r ∧ IsRs K G σ τ vs rs
  | _, _ => False

def look (e : Sg) : R → Option Sl
  | .d d => some (.val d)
  | .v i => e.s[i]?
  | .t j => e.t[j]?
def see (e : Sg) (r : R) (k : D → Prop) : Prop :=
  match look e r with
  | some (.val d) => k d
  | some (.own (.lst ds)) => k (.list ds)
  | _ => False
def sees (e : Sg) : List R → (List D → Prop) → Prop
  | [], k => k []
  | r :: rs, k => see e r fun d => sees e rs fun ds => k (d :: ds)
def cut (e : Sg) (n : Nat) : Sg := ⟨e.s, e.t.take n⟩
def fz (e : Sg) (r : R) (k : D → Sg → Prop) : Prop :=
  match r with
  | .d d => k d e
  | .v i => match e.s[i]? with
    | some (.val d) => k d e
    | some (.own (.lst ds)) => k (.list ds) ⟨e.s.set i (.val (.list ds)), e.t⟩
    | _ => False
  | .t j => match e.t[j]? with
    | some (.val d) => k d e
    | some (.own (.lst ds)) => k (.list ds) ⟨e.s, e.t.set j (.val (.list ds))⟩
    | _ => False
def fzs (e : Sg) : List R → (List D → Sg → Prop) → Prop
  | [], k => k [] e
  | r :: rs, k => fz e r fun d e1 => fzs e1 rs fun ds e2 => k (d :: ds) e2

/-- what an operation comes to: data, or a new list -/
inductive Res where
  | d (d : D)
  | l (ds : List D)
def put (e : Sg) (x : Res) (k : R → Sg → Prop) : Prop :=
  match x with
  | .d d => k (.d d) e
  | .l ds => k (.t e.t.length) ⟨e.s, e.t ++ [.own (.lst ds)]⟩

def DR (K : PySem.W.Frag) (F : Fr) (te : TE) (T : DT) : Prop := ∀ G H σ τ e k (Q : VK), Rl K F G H σ τ e → T e k →
  (∀ v G' H' τ' e' r, Same G G' → Rl K F G' H' σ (τ ++ τ') e' → IsR K G' σ (τ ++ τ') v r → k r e' → Q v H') → te σ H Q
def DRT (K : PySem.W.Frag) (F : Fr) (tt : TT) (T : DTT) : Prop := ∀ G H σ τ e k (Q : Bool → Hp → Prop), Rl K F G H σ τ e → T e k →
  (∀ b G' H' e', Same G G' → Rl K F G' H' σ τ e' → k b e' → Q b H') → tt σ H Q
def DRA (K : PySem.W.Frag) (F : Fr) (ta : TA) (T : DTA) : Prop := ∀ G H σ τ e k (Q : List V → Hp → Prop), Rl K F G H σ τ e → T e k →
  (∀ vs G' H' τ' e' rs, Same G G' → Rl K F G' H' σ (τ ++ τ') e' → IsRs K G' σ (τ ++ τ') vs rs → k rs e' → Q vs H') → ta σ H Q

section
variable {K : PySem.W.Frag} {F : Fr} {G H G' H' : Hp} {σ : L2.St} {τ τ' : List V} {e : Sg} {v : V} {r : R}

theorem Rl.tl (h : Rl K F G H σ τ e) : e.t.length = τ.length := by
  have a := h.r.len
  have b := h.ls
  simp at a
  omega
theorem Rl.step (h : Rl K F G H σ τ e) (t : Step F G H G' H') : Rl K F G' H' σ τ e := ⟨h.r.step t, h.ls⟩
theorem Rl.cut (h : Rl K F G H σ (τ ++ τ') e) : Rl K F G H σ τ (cut e τ.length) := by
  have q := h.r.take (σ.length + τ.length)
  have l1 := h.ls
  refine ⟨?_, h.ls⟩
  have e1 : (σ ++ (τ ++ τ').map some).take (σ.length + τ.length) = σ ++ τ.map some := by
    rw [List.take_length_add_append, List.map_append, List.take_append_of_le_length (by simp), List.take_of_length_le (by simp)]
  have e2 : (e.s ++ e.t).take (σ.length + τ.length) = e.s ++ e.t.take τ.length := by
    rw [← l1, List.take_length_add_append]
  rw [e1, e2] at q
  exact q
theorem Rl.cut' {n : Nat} (h : Rl K F G H σ (τ ++ τ') e) (hn : n = τ.length) : Rl K F G H σ τ (DL.cut e n) := by
  subst hn
  exact h.cut
theorem IsR.mono (h : Same G G') : ∀ {r : R}, IsR K G σ τ v r → IsR K G' σ τ v r
  | .d d, q => dp_mono h d v q
  | .v _, q => q
  | .t _, q => q
theorem IsR.ext : ∀ {r : R}, IsR K G σ τ v r → IsR K G σ (τ ++ τ') v r
  | .d d, q => q
  | .v _, q => q
  | .t j, q => by
    have q : τ[j]? = some v := q
    show (τ ++ τ')[j]? = some v
    rw [List.getElem?_append_left (List.getElem?_eq_some_iff.mp q).1]
    exact q
theorem IsRs.mono (h : Same G G') : ∀ {vs : List V} {rs : List R}, IsRs K G σ τ vs rs → IsRs K G' σ τ vs rs
  | [], [], _ => trivial
  | _ :: _, _ :: _, q => ⟨q.1.mono h, IsRs.mono h q.2⟩
theorem IsRs.ext : ∀ {vs : List V} {rs : List R}, IsRs K G σ τ vs rs → IsRs K G σ (τ ++ τ') vs rs
  | [], [], _ => trivial
  | _ :: _, _ :: _, q => ⟨q.1.ext, IsRs.ext q.2⟩

/-- data, at least as far as its own items -/
def Sn (K : PySem.W.Frag) (G H : Hp) (v : V) (d : D) : Prop := Dp K G v d ∨ ∃ p vs ds, v = .ref p ∧ d = .list ds ∧ H p = some (.lst vs) ∧ DpAll K G vs ds
def Sns (K : PySem.W.Frag) (G H : Hp) : List V → List D → Prop
  | [], [] => True
  | v :: vs, d :: ds => Sn K G H v d ∧ Sns K G H vs ds
  | _, _ => False
theorem Sn.dp {d : D} (s : Same G H) (h : Sn K G H v d) : Dp K H v d := by
  rcases h with h | ⟨p, vs, ds, rfl, rfl, a, b⟩
  · exact dp_mono s _ _ h
  · exact .lst (.inl a) (dpAll_mono s _ _ b)
theorem Sn.list {ds : List D} (s : Same G H) (h : Sn K G H v (.list ds)) : ∃ p xs, v = .ref p ∧ Rd H p (.lst xs) ∧ DpAll K G xs ds := by
  rcases h with h | ⟨p, vs, ds', rfl, e, a, b⟩
  · cases h with
    | lst a b => exact ⟨_, _, rfl, rd_mono s a, b⟩
  · cases e
    exact ⟨_, _, rfl, .inl a, b⟩
theorem Sn.tuple {ds : List D} (s : Same G H) (h : Sn K G H v (.tuple ds)) : ∃ p xs, v = .ref p ∧ SqT K H p xs ∧ DpAll K G xs ds := by
  rcases h with h | ⟨p, vs, ds', rfl, e, a, b⟩
  · cases h with
    | tup a b => exact ⟨_, _, rfl, sqT_mono s a, b⟩
  · cases e
theorem Sn.int {i : Int} (h : Sn K G H v (.int i)) : v = .int i := by
  rcases h with h | ⟨p, vs, ds', rfl, e, a, b⟩
  · cases h; rfl
  · cases e
theorem Sn.bool {b : Bool} (h : Sn K G H v (.bool b)) : v = .bl b := by
  rcases h with h | ⟨p, vs, ds', rfl, e, a, b⟩
  · cases h; rfl
  · cases e
theorem Sn.str {x : Str} (h : Sn K G H v (.str x)) : v = .str x := by
  rcases h with h | ⟨p, vs, ds', rfl, e, a, b⟩
  · cases h; rfl
  · cases e
theorem Sn.none (h : Sn K G H v .none) : v = .non := by
  rcases h with h | ⟨p, vs, ds', rfl, e, a, b⟩
  · cases h; rfl
  · cases e

theorem Rl.slotV (h : Rl K F G H σ τ e) {i : Nat} {y : Sl} (q : e.s[i]? = some y) (hv : σ[i]? = some (some v)) : SlOk K F G H (some v) y := by
  have h1 := (List.getElem?_eq_some_iff.mp q).1
  have h2 := (List.getElem?_eq_some_iff.mp hv).1
  refine h.r.slot i (some v) y ?_ ?_
  · rw [List.getElem?_append_left h2]; exact hv
  · rw [List.getElem?_append_left h1]; exact q
theorem Rl.slotT (h : Rl K F G H σ τ e) {j : Nat} {y : Sl} (q : e.t[j]? = some y) (hv : τ[j]? = some v) : SlOk K F G H (some v) y := by
  refine h.r.slot (σ.length + j) (some v) y ?_ ?_
  · rw [List.getElem?_append_right (by omega), Nat.add_sub_cancel_left, List.getElem?_map, hv]
    rfl
  · have := h.ls
    rw [List.getElem?_append_right (by omega), this, Nat.add_sub_cancel_left]
    exact q
theorem look_ok (h : Rl K F G H σ τ e) (q : IsR K G σ τ v r) {y : Sl} (l : look e r = some y) : SlOk K F G H (some v) y := by
  cases r with
  | d d =>
    cases l
    exact ⟨v, rfl, q⟩
  | v i => exact h.slotV l q
  | t j => exact h.slotT l q
theorem see_ok {k : D → Prop} (h : Rl K F G H σ τ e) (q : IsR K G σ τ v r) (s : see e r k) : ∃ d, Sn K G H v d ∧ k d := by
  unfold see at s
  split at s
  · rename_i d l
    obtain ⟨v', e1, e2⟩ := look_ok h q l
    cases e1
    exact ⟨d, .inl e2, s⟩
  · rename_i ds l
    obtain ⟨p, e1, m, vs, a, b⟩ := look_ok h q l
    cases e1
    exact ⟨_, .inr ⟨p, vs, ds, rfl, rfl, a, b⟩, s⟩
  · exact s.elim
theorem sees_ok (h : Rl K F G H σ τ e) : ∀ {vs : List V} {rs : List R} {k : List D → Prop}, IsRs K G σ τ vs rs → sees e rs k → ∃ ds, Sns K G H vs ds ∧ k ds
  | [], [], k, _, s => ⟨[], trivial, s⟩
  | v :: vs, r :: rs, k, q, s => by
    obtain ⟨d, a, b⟩ := see_ok h q.1 s
    obtain ⟨ds, c, f⟩ := sees_ok h q.2 b
    exact ⟨d :: ds, ⟨a, c⟩, f⟩
theorem fz_ok {k : D → Sg → Prop} (h : Rl K F G H σ τ e) (q : IsR K G σ τ v r) (s : fz e r k) : ∃ G' e' d, Same G G' ∧ Rl K F G' H σ τ e' ∧ Dp K G' v d ∧ k d e' := by
  cases r with
  | d d => exact ⟨G, e, d, Same.refl G, h, q, s⟩
  | v i =>
    unfold fz at s
    simp only at s
    split at s
    · rename_i d l
      obtain ⟨v', e1, e2⟩ := h.slotV l q
      cases e1
      exact ⟨G, e, d, Same.refl G, h, e2, s⟩
    · rename_i ds l
      have li := (List.getElem?_eq_some_iff.mp l).1
      have l2 := h.ls
      obtain ⟨p, G', a, b, c, f⟩ := h.r.fz (i := i) (ds := ds) (by rw [List.getElem?_append_left li]; exact l)
      rw [List.getElem?_append_left (by omega)] at a
      have q : σ[i]? = some (some v) := q
      rw [q] at a
      cases a
      rw [List.set_append_left _ _ li] at f
      exact ⟨G', ⟨e.s.set i (.val (.list ds)), e.t⟩, .list ds, b, ⟨f, by rw [List.length_set]; exact l2⟩, c, s⟩
    · exact s.elim
  | t j =>
    unfold fz at s
    simp only at s
    split at s
    · rename_i d l
      obtain ⟨v', e1, e2⟩ := h.slotT l q
      cases e1
      exact ⟨G, e, d, Same.refl G, h, e2, s⟩
    · rename_i ds l
      have li := (List.getElem?_eq_some_iff.mp l).1
      have l2 := h.ls
      obtain ⟨p, G', a, b, c, f⟩ := h.r.fz (i := e.s.length + j) (ds := ds) (by rw [List.getElem?_append_right (by omega), Nat.add_sub_cancel_left]; exact l)
      rw [List.getElem?_append_right (by omega), l2, Nat.add_sub_cancel_left, List.getElem?_map] at a
      have q : τ[j]? = some v := q
      rw [q] at a
      cases a
      rw [List.set_append_right _ _ (by omega), Nat.add_sub_cancel_left] at f
      exact ⟨G', ⟨e.s, e.t.set j (.val (.list ds))⟩, .list ds, b, ⟨f, l2⟩, c, s⟩
    · exact s.elim
theorem fzs_ok : ∀ {rs : List R} {vs : List V} {G : Hp} {e : Sg} {k : List D → Sg → Prop}, Rl K F G H σ τ e → IsRs K G σ τ vs rs → fzs e rs k → ∃ G' e' ds, Same G G' ∧ Rl K F G' H σ τ e' ∧ DpAll K G' vs ds ∧ k ds e'
  | [], [], G, e, k, h, _, s => ⟨G, e, [], Same.refl G, h, .nil, s⟩
  | r :: rs, v :: vs, G, e, k, h, q, s => by
    obtain ⟨G1, e1, d, a, b, c, f⟩ := fz_ok h q.1 s
    obtain ⟨G2, e2, ds, a2, b2, c2, f2⟩ := fzs_ok b (q.2.mono a) f
    exact ⟨G2, e2, d :: ds, a.trans a2, b2, .cons (dp_mono a2 _ _ c) c2, f2⟩

def ResOk (K : PySem.W.Frag) (F : Fr) (H G' H' : Hp) (v : V) : Res → Prop
  | .d d => Dp K G' v d
  | .l ds => ∃ p vs, v = .ref p ∧ H p = none ∧ H' p = some (.lst vs) ∧ Mine F G' p ∧ DpAll K G' vs ds

theorem own_some (h : Rl K F G H σ τ e) {j : Nat} {p : Addr} {o : Ow} (a : (σ ++ τ.map some)[j]? = some (some (.ref p))) (b : (e.s ++ e.t)[j]? = some (.own o)) : H p ≠ none := by
  obtain ⟨p', e1, m, q⟩ := h.r.slot j _ _ a b
  cases e1
  obtain ⟨x, hx, _⟩ := q.some
  rw [hx]
  exact fun z => by cases z

theorem fin_put {x : Res} {k : R → Sg → Prop} (h : Rl K F G H σ τ e) (t : Step F G H G' H') (ok : ResOk K F H G' H' v x) (hk : put e x k) :
    ∃ τ' e' r, Rl K F G' H' σ (τ ++ τ') e' ∧ IsR K G' σ (τ ++ τ') v r ∧ k r e' := by
  have h1 := h.step t
  cases x with
  | d d => exact ⟨[], e, .d d, by rw [List.append_nil]; exact h1, ok, hk⟩
  | l ds =>
    obtain ⟨p, vs, rfl, hp, hp', m, da⟩ := ok
    refine ⟨[.ref p], (⟨e.s, e.t ++ [Sl.own (Ow.lst ds)]⟩ : Sg), R.t e.t.length, ⟨?_, h.ls⟩, ?_, hk⟩
    · rw [List.map_append, ← List.append_assoc]
      show RlS K F G' H' ((σ ++ τ.map some) ++ [some (.ref p)]) (e.s ++ (e.t ++ [.own (.lst ds)]))
      rw [← List.append_assoc]
      refine h1.r.push _ _ ⟨p, rfl, m, vs, hp', da⟩ fun q o e1 e2 j o' a b => ?_
      cases e1
      exact own_some h a b hp
    · show (τ ++ [.ref p])[e.t.length]? = some (.ref p)
      rw [h.tl]
      simp

/-- a new list just laid -/
theorem res_new {p : Addr} {vs : List V} {ds : List D} (h : RlB F G H) (hp : H p = none) (da : DpAll K G vs ds) : Step F G H G (upd H p (.lst vs)) ∧ ResOk K F H G (upd H p (.lst vs)) (.ref p) (.l ds) :=
  ⟨h.newH hp, p, vs, rfl, hp, upd_same, h.isNew hp, da⟩
/-- a new tuple just laid -/
theorem res_tup {p : Addr} {vs : List V} {ds : List D} (h : RlB F G H) (hp : H p = none) (da : DpAll K G vs ds) : Step F G H (upd G p (.tup vs)) (upd H p (.tup vs)) ∧ ResOk K F H (upd G p (.tup vs)) (upd H p (.tup vs)) (.ref p) (.d (.tuple ds)) :=
  have t := h.newG (o := .tup vs) hp
  ⟨t, .tup (.inl (.inl upd_same)) (dpAll_mono t.g _ _ da)⟩
end

/-! ### variables and constants -/
def dVar (i : Nat) : DT := fun e k => match e.s[i]? with
  | some (.val d) => k (.d d) e
  | some (.own _) => k (.v i) e
  | some (.st _) => k (.v i) e
  | _ => False
def dC (d : D) : DT := fun e k => k (.d d) e
section
variable {K : PySem.W.Frag} {F : Fr}
theorem dr_var (i : Nat) : DR K F (tVar i) (dVar i) := fun G H σ τ e k Q h t q => by
  unfold dVar at t
  split at t
  · rename_i d l
    have l1 := (List.getElem?_eq_some_iff.mp l).1
    have l2 := h.ls
    have hx : σ[i]? = some σ[i] := List.getElem?_eq_getElem (by omega)
    have := h.r.slot i σ[i] (.val d) (by rw [List.getElem?_append_left (by omega)]; exact hx) (by rw [List.getElem?_append_left l1]; exact l)
    obtain ⟨v, e1, e2⟩ := this
    exact ⟨v, by rw [hx, e1], q v G H [] e (.d d) (Same.refl G) (by rw [List.append_nil]; exact h) e2 t⟩
  · rename_i o l
    have l1 := (List.getElem?_eq_some_iff.mp l).1
    have l2 := h.ls
    have hx : σ[i]? = some σ[i] := List.getElem?_eq_getElem (by omega)
    obtain ⟨p, e1, m, _⟩ := h.r.slot i σ[i] (.own o) (by rw [List.getElem?_append_left (by omega)]; exact hx) (by rw [List.getElem?_append_left l1]; exact l)
    have hx' : σ[i]? = some (some (.ref p)) := by rw [hx, e1]
    exact ⟨.ref p, hx', q _ G H [] e (.v i) (Same.refl G) (by rw [List.append_nil]; exact h) hx' t⟩
  · rename_i B l
    have l1 := (List.getElem?_eq_some_iff.mp l).1
    have l2 := h.ls
    have hx : σ[i]? = some σ[i] := List.getElem?_eq_getElem (by omega)
    obtain ⟨s, e1, e2, _⟩ := h.r.slot i σ[i] (.st B) (by rw [List.getElem?_append_left (by omega)]; exact hx) (by rw [List.getElem?_append_left l1]; exact l)
    have hx' : σ[i]? = some (some (.ref s.a)) := by rw [hx, e2]
    exact ⟨.ref s.a, hx', q _ G H [] e (.v i) (Same.refl G) (by rw [List.append_nil]; exact h) hx' t⟩
  · exact t.elim
theorem dr_c {v : V} {d : D} (hd : ∀ G, Dp K G v d) : DR K F (tC v) (dC d) := fun G H σ τ e k Q h t q =>
  q v G H [] e (.d d) (Same.refl G) (by rw [List.append_nil]; exact h) (hd G) t
theorem dr_int {i : Int} : DR K F (tC (.int i)) (dC (.int i)) := dr_c fun _ => .int i
theorem dr_bl {b : Bool} : DR K F (tC (.bl b)) (dC (.bool b)) := dr_c fun _ => .bl b
theorem dr_str {x : Str} : DR K F (tC (.str x)) (dC (.str x)) := dr_c fun _ => .str x
theorem dr_non : DR K F (tC .non) (dC .none) := dr_c fun _ => .non
end

/-! ### operations -/
/-- the operation r on values does f on data -/
def OpD (K : PySem.W.Frag) (r : R2) (f : D → D → (Res → Prop) → Prop) : Prop := ∀ F G H x y dx dy k (Q : VK), RlB F G H → Sn K G H x dx → Sn K G H y dy → f dx dy k →
  (∀ v G' H' z, Step F G H G' H' → ResOk K F H G' H' v z → k z → Q v H') → r x y H Q
def UnD (K : PySem.W.Frag) (r : V → Hp → VK → Prop) (f : D → (Res → Prop) → Prop) : Prop := ∀ F G H x dx k (Q : VK), RlB F G H → Sn K G H x dx → f dx k →
  (∀ v G' H' z, Step F G H G' H' → ResOk K F H G' H' v z → k z → Q v H') → r x H Q
def CaD (K : PySem.W.Frag) (r : List V → Hp → VK → Prop) (f : List D → (Res → Prop) → Prop) : Prop := ∀ F G H xs dxs k (Q : VK), RlB F G H → Sns K G H xs dxs → f dxs k →
  (∀ v G' H' z, Step F G H G' H' → ResOk K F H G' H' v z → k z → Q v H') → r xs H Q
def MtD (K : PySem.W.Frag) (T : String) (r : V → List V → Hp → VK → Prop) (f : D → List D → (Res → Prop) → Prop) : Prop := ∀ F G H x xs dx dxs k (Q : VK), RlB F G H → Sn K G H x dx → Sns K G H xs dxs → f dx dxs k →
  (∀ v G' H' z, Step F G H G' H' → ResOk K F H G' H' v z → k z → Q v H') → r x xs H Q

def dOp (f : D → D → (Res → Prop) → Prop) (ta tb : DT) : DT := fun e k => ta e fun rx e1 => tb e1 fun ry e2 => see e2 rx fun dx => see e2 ry fun dy => f dx dy fun z => put (cut e2 e.t.length) z k
def dUn (f : D → (Res → Prop) → Prop) (ta : DT) : DT := fun e k => ta e fun rx e1 => see e1 rx fun dx => f dx fun z => put (cut e1 e.t.length) z k
def dCB (f : List D → (Res → Prop) → Prop) (ta : DTA) : DT := fun e k => ta e fun rs e1 => sees e1 rs fun ds => f ds fun z => put (cut e1 e.t.length) z k
def dNil : DTA := fun e k => k [] e
def dCons (ta : DT) (tr : DTA) : DTA := fun e k => ta e fun r e1 => tr e1 fun rs e2 => k (r :: rs) e2
section
variable {K : PySem.W.Frag} {F : Fr} {ta tb tc : TE} {Ta Tb Tc : DT} {t : TA} {T : DTA} {tt : TT} {Tt : DTT}
theorem dr_op {r : R2} {f : D → D → (Res → Prop) → Prop} (ho : OpD K r f) (ha : DR K F ta Ta) (hb : DR K F tb Tb) : DR K F (tOp r ta tb) (dOp f Ta Tb) := fun G H σ τ e k Q h t q => by
  have hl := h.tl
  refine ha G H σ τ e _ _ h t fun x G1 H1 τ1 e1 rx s1 h1 i1 t1 => ?_
  refine hb G1 H1 σ _ e1 _ _ h1 t1 fun y G2 H2 τ2 e2 ry s2 h2 i2 t2 => ?_
  obtain ⟨dx, sx, t3⟩ := see_ok h2 ((i1.mono s2).ext) t2
  obtain ⟨dy, sy, t4⟩ := see_ok h2 i2 t3
  refine ho F G2 H2 x y dx dy _ Q h2.r.b sx sy t4 fun v G3 H3 z st ok kz => ?_
  rw [List.append_assoc] at h2
  obtain ⟨τ3, e3, r3, a, b, c⟩ := fin_put (h2.cut' hl) st ok kz
  exact q v G3 H3 τ3 e3 r3 ((s1.trans s2).trans st.g) a b c
theorem dr_un {r : V → Hp → VK → Prop} {f : D → (Res → Prop) → Prop} (ho : UnD K r f) (ha : DR K F ta Ta) : DR K F (tUn r ta) (dUn f Ta) := fun G H σ τ e k Q h t q => by
  have hl := h.tl
  refine ha G H σ τ e _ _ h t fun x G1 H1 τ1 e1 rx s1 h1 i1 t1 => ?_
  obtain ⟨dx, sx, t3⟩ := see_ok h1 i1 t1
  refine ho F G1 H1 x dx _ Q h1.r.b sx t3 fun v G3 H3 z st ok kz => ?_
  obtain ⟨τ3, e3, r3, a, b, c⟩ := fin_put (h1.cut' hl) st ok kz
  exact q v G3 H3 τ3 e3 r3 (s1.trans st.g) a b c
theorem dra_nil : DRA K F tNil dNil := fun G H σ τ e k Q h t q => q [] G H [] e [] (Same.refl G) (by rw [List.append_nil]; exact h) trivial t
theorem dra_cons (ha : DR K F ta Ta) (hr : DRA K F t T) : DRA K F (tCons ta t) (dCons Ta T) := fun G H σ τ e k Q h t q => by
  refine ha G H σ τ e _ _ h t fun x G1 H1 τ1 e1 rx s1 h1 i1 t1 => ?_
  refine hr G1 H1 σ _ e1 _ _ h1 t1 fun xs G2 H2 τ2 e2 rs s2 h2 i2 t2 => ?_
  refine q (x :: xs) G2 H2 (τ1 ++ τ2) e2 (rx :: rs) (s1.trans s2) (by rw [← List.append_assoc]; exact h2) ?_ t2
  rw [← List.append_assoc]
  exact ⟨(i1.mono s2).ext, i2⟩
theorem dr_cb {r : List V → Hp → VK → Prop} {f : List D → (Res → Prop) → Prop} (ho : CaD K r f) (ha : DRA K F t T) : DR K F (tCB r t) (dCB f T) := fun G H σ τ e k Q h t q => by
  have hl := h.tl
  refine ha G H σ τ e _ _ h t fun xs G1 H1 τ1 e1 rs s1 h1 i1 t1 => ?_
  obtain ⟨ds, sx, t3⟩ := sees_ok h1 i1 t1
  refine ho F G1 H1 xs ds _ Q h1.r.b sx t3 fun v G3 H3 z st ok kz => ?_
  obtain ⟨τ3, e3, r3, a, b, c⟩ := fin_put (h1.cut' hl) st ok kz
  exact q v G3 H3 τ3 e3 r3 (s1.trans st.g) a b c

/-! ### displays -/
def dLst (ta : DTA) : DT := fun e k => ta e fun rs e1 => fzs e1 rs fun ds e2 => ds.length ≤ sizeLine ∧ put (cut e2 e.t.length) (.l ds) k
def dTup (ta : DTA) : DT := fun e k => ta e fun rs e1 => fzs e1 rs fun ds e2 => ds.length ≤ sizeLine ∧ put (cut e2 e.t.length) (.d (.tuple ds)) k
theorem dr_lst (ha : DRA K F t T) : DR K F (tLst t) (dLst T) := fun G H σ τ e k Q h t q => by
  have hl := h.tl
  refine ha G H σ τ e _ _ h t fun xs G1 H1 τ1 e1 rs s1 h1 i1 t1 => ?_
  obtain ⟨G2, e2, ds, s2, h2, da, z, t2⟩ := fzs_ok h1 i1 t1
  refine ⟨by rw [dpAll_len da]; exact z, fun p hp => ?_⟩
  obtain ⟨st, ok⟩ := res_new h2.r.b hp da
  obtain ⟨τ3, e3, r3, a, b, c⟩ := fin_put (h2.cut' hl) st ok t2
  exact q _ _ _ τ3 e3 r3 (s1.trans (s2.trans st.g)) a b c
theorem dr_tup (ha : DRA K F t T) : DR K F (tTup t) (dTup T) := fun G H σ τ e k Q h t q => by
  have hl := h.tl
  refine ha G H σ τ e _ _ h t fun xs G1 H1 τ1 e1 rs s1 h1 i1 t1 => ?_
  obtain ⟨G2, e2, ds, s2, h2, da, z, t2⟩ := fzs_ok h1 i1 t1
  refine ⟨by rw [dpAll_len da]; exact z, fun p hp => ?_⟩
  obtain ⟨st, ok⟩ := res_tup h2.r.b hp da
  obtain ⟨τ3, e3, r3, a, b, c⟩ := fin_put (h2.cut' hl) st ok t2
  exact q _ _ _ τ3 e3 r3 (s1.trans (s2.trans st.g)) a b c

/-! ### tests -/
def dTest (ta : DT) : DTT := fun e k => ta e fun r e1 => see e1 r fun d => match d with
  | .bool b => k b (cut e1 e.t.length)
  | _ => False
def truth : D → Bool
  | .none => false
  | .bool b => b
  | .int i => i != 0
  | .str x => (x.length : Int) != 0
  | .list ds => !ds.isEmpty
  | .tuple ds => !ds.isEmpty
  | .dict _ => false
theorem drt_test (ha : DR K F ta Ta) : DRT K F (tTest ta) (dTest Ta) := fun G H σ τ e k Q h t q => by
  have hl := h.tl
  refine ha G H σ τ e _ _ h t fun x G1 H1 τ1 e1 rx s1 h1 i1 t1 => ?_
  obtain ⟨dx, sx, t3⟩ := see_ok h1 i1 t1
  split at t3
  · have := sx.bool
    exact ⟨_, this, q _ G1 H1 _ s1 (h1.cut' hl) t3⟩
  · exact t3.elim
theorem drt_B (ha : DR K F ta Ta) : DRT K F (tB ta) (dTest Ta) := drt_test ha
def dAnd (ta tb : DTT) : DTT := fun e k => ta e fun b e1 => if b = true then tb e1 k else k false e1
def dOr (ta tb : DTT) : DTT := fun e k => ta e fun b e1 => if b = true then k true e1 else tb e1 k
def dNot (ta : DTT) : DTT := fun e k => ta e fun b e1 => k (!b) e1
variable {tu : TT} {Tu : DTT}
theorem drt_and (ha : DRT K F tt Tt) (hb : DRT K F tu Tu) : DRT K F (tAnd tt tu) (dAnd Tt Tu) := fun G H σ τ e k Q h t q => by
  refine ha G H σ τ e _ _ h t fun b G1 H1 e1 s1 h1 t1 => ?_
  cases b with
  | true => exact hb G1 H1 σ τ e1 _ Q h1 t1 fun b G2 H2 e2 s2 h2 t2 => q b G2 H2 e2 (s1.trans s2) h2 t2
  | false => exact q false G1 H1 e1 s1 h1 t1
theorem drt_or (ha : DRT K F tt Tt) (hb : DRT K F tu Tu) : DRT K F (tOr tt tu) (dOr Tt Tu) := fun G H σ τ e k Q h t q => by
  refine ha G H σ τ e _ _ h t fun b G1 H1 e1 s1 h1 t1 => ?_
  cases b with
  | false => exact hb G1 H1 σ τ e1 _ Q h1 t1 fun b G2 H2 e2 s2 h2 t2 => q b G2 H2 e2 (s1.trans s2) h2 t2
  | true => exact q true G1 H1 e1 s1 h1 t1
theorem drt_not (ha : DRT K F tt Tt) : DRT K F (tNot tt) (dNot Tt) := fun G H σ τ e k Q h t q =>
  ha G H σ τ e _ _ h t fun b G1 H1 e1 s1 h1 t1 => q (!b) G1 H1 e1 s1 h1 t1
/-- and, or, not as values, all but the last True or False -/
def dAndV (ta tb : DT) : DT := fun e k => ta e fun r e1 => see e1 r fun d => match d with
  | .bool true => tb (cut e1 e.t.length) k
  | .bool false => k (.d (.bool false)) (cut e1 e.t.length)
  | _ => False
def dOrV (ta tb : DT) : DT := fun e k => ta e fun r e1 => see e1 r fun d => match d with
  | .bool false => tb (cut e1 e.t.length) k
  | .bool true => k (.d (.bool true)) (cut e1 e.t.length)
  | _ => False
def dNotV (ta : DT) : DT := fun e k => ta e fun r e1 => see e1 r fun d => match d with
  | .bool b => k (.d (.bool (!b))) (cut e1 e.t.length)
  | _ => False
theorem dr_andV (ha : DR K F ta Ta) (hb : DR K F tb Tb) : DR K F (tAndV ta tb) (dAndV Ta Tb) := fun G H σ τ e k Q h t q => by
  have hl := h.tl
  refine ha G H σ τ e _ _ h t fun x G1 H1 τ1 e1 rx s1 h1 i1 t1 => ?_
  obtain ⟨dx, sx, t3⟩ := see_ok h1 i1 t1
  split at t3
  · exact ⟨true, sx.bool, hb G1 H1 σ τ _ _ Q (h1.cut' hl) t3 fun v G2 H2 τ2 e2 r2 s2 h2 i2 t2 => q v G2 H2 τ2 e2 r2 (s1.trans s2) h2 i2 t2⟩
  · exact ⟨false, sx.bool, q _ G1 H1 [] _ _ s1 (by rw [List.append_nil]; exact h1.cut' hl) (show IsR K G1 σ (τ ++ []) _ (.d _) from Dp.bl false) t3⟩
  · exact t3.elim
theorem dr_orV (ha : DR K F ta Ta) (hb : DR K F tb Tb) : DR K F (tOrV ta tb) (dOrV Ta Tb) := fun G H σ τ e k Q h t q => by
  have hl := h.tl
  refine ha G H σ τ e _ _ h t fun x G1 H1 τ1 e1 rx s1 h1 i1 t1 => ?_
  obtain ⟨dx, sx, t3⟩ := see_ok h1 i1 t1
  split at t3
  · exact ⟨false, sx.bool, hb G1 H1 σ τ _ _ Q (h1.cut' hl) t3 fun v G2 H2 τ2 e2 r2 s2 h2 i2 t2 => q v G2 H2 τ2 e2 r2 (s1.trans s2) h2 i2 t2⟩
  · exact ⟨true, sx.bool, q _ G1 H1 [] _ _ s1 (by rw [List.append_nil]; exact h1.cut' hl) (show IsR K G1 σ (τ ++ []) _ (.d _) from Dp.bl true) t3⟩
  · exact t3.elim
theorem dr_notV (ha : DR K F ta Ta) : DR K F (tNotV ta) (dNotV Ta) := fun G H σ τ e k Q h t q => by
  have hl := h.tl
  refine ha G H σ τ e _ _ h t fun x G1 H1 τ1 e1 rx s1 h1 i1 t1 => ?_
  obtain ⟨dx, sx, t3⟩ := see_ok h1 i1 t1
  split at t3
  · exact ⟨_, sx.bool, q _ G1 H1 [] _ _ s1 (by rw [List.append_nil]; exact h1.cut' hl) (show IsR K G1 σ (τ ++ []) _ (.d _) from Dp.bl _) t3⟩
  · exact t3.elim
def dIf (tc : DTT) (ta tb : DT) : DT := fun e k => tc e fun b e1 => if b = true then ta e1 k else tb e1 k
theorem dr_if (hc : DRT K F tt Tt) (ha : DR K F ta Ta) (hb : DR K F tb Tb) : DR K F (tIf tt ta tb) (dIf Tt Ta Tb) := fun G H σ τ e k Q h t q => by
  refine hc G H σ τ e _ _ h t fun b G1 H1 e1 s1 h1 t1 => ?_
  cases b with
  | true => exact ha G1 H1 σ τ e1 _ Q h1 t1 fun v G2 H2 τ2 e2 r2 s2 h2 i2 t2 => q v G2 H2 τ2 e2 r2 (s1.trans s2) h2 i2 t2
  | false => exact hb G1 H1 σ τ e1 _ Q h1 t1 fun v G2 H2 τ2 e2 r2 s2 h2 i2 t2 => q v G2 H2 τ2 e2 r2 (s1.trans s2) h2 i2 t2
/-- a < b < c -/
def dChain (f g : D → D → (Bool → Prop) → Prop) (ta tb tc : DT) : DT := fun e k => ta e fun rx e1 => tb e1 fun ry e2 => see e2 rx fun dx => see e2 ry fun dy => f dx dy fun b =>
  if b = true then tc e2 fun rz e3 => see e3 ry fun dy' => see e3 rz fun dz => g dy' dz fun c => k (.d (.bool c)) (cut e3 e.t.length) else k (.d (.bool false)) (cut e2 e.t.length)
/-- a comparison on data that leaves all as it is -/
def CmD (K : PySem.W.Frag) (r : R2) (f : D → D → (Bool → Prop) → Prop) : Prop := ∀ G H x y dx dy k (Q : VK), Same G H → Sn K G H x dx → Sn K G H y dy → f dx dy k → (∀ b, k b → Q (.bl b) H) → r x y H Q
theorem dr_chain {r r' : R2} {f g : D → D → (Bool → Prop) → Prop} (ho : CmD K r f) (ho' : CmD K r' g) (ha : DR K F ta Ta) (hb : DR K F tb Tb) (hc : DR K F tc Tc) : DR K F (tChain r r' ta tb tc) (dChain f g Ta Tb Tc) := fun G H σ τ e k Q h t q => by
  have hl := h.tl
  refine ha G H σ τ e _ _ h t fun x G1 H1 τ1 e1 rx s1 h1 i1 t1 => ?_
  refine hb G1 H1 σ _ e1 _ _ h1 t1 fun y G2 H2 τ2 e2 ry s2 h2 i2 t2 => ?_
  obtain ⟨dx, sx, t3⟩ := see_ok h2 ((i1.mono s2).ext) t2
  obtain ⟨dy, sy, t4⟩ := see_ok h2 i2 t3
  refine ho G2 H2 x y dx dy _ _ h2.r.b.sub sx sy t4 fun b kb => ?_
  refine ⟨b, rfl, ?_⟩
  cases b with
  | false =>
    rw [List.append_assoc] at h2
    exact q _ G2 H2 [] _ _ (s1.trans s2) (by rw [List.append_nil]; exact h2.cut' hl) (show IsR K G2 σ (τ ++ []) _ (.d _) from Dp.bl false) kb
  | true =>
    refine hc G2 H2 σ _ e2 _ _ h2 kb fun z G3 H3 τ3 e3 rz s3 h3 i3 t5 => ?_
    obtain ⟨dy', sy', t6⟩ := see_ok h3 ((i2.mono s3).ext) t5
    obtain ⟨dz, sz, t7⟩ := see_ok h3 i3 t6
    refine ho' G3 H3 y z dy' dz _ _ h3.r.b.sub sy' sz t7 fun c kc => ?_
    rw [List.append_assoc, List.append_assoc] at h3
    exact q _ G3 H3 [] _ _ ((s1.trans s2).trans s3) (by rw [List.append_nil]; exact h3.cut' hl) (show IsR K G3 σ (τ ++ []) _ (.d _) from Dp.bl c) kc
theorem CmD.op {r : R2} {f : D → D → (Bool → Prop) → Prop} (h : CmD K r f) : OpD K r (fun x y k => f x y fun b => k (.d (.bool b))) := fun F G H x y dx dy k Q b sx sy t q =>
  h G H x y dx dy _ Q b.sub sx sy t fun c kc => q _ G H (.d (.bool c)) (Step.refl b) (Dp.bl c) kc
end
end DL

/-! The single operations: on values (rules), on data (what they do). -/
namespace DL
open PySem PySem.Spec L2

/-! ### rules on values that the layer below lacks in this form -/
section
variable {X : Cx}
theorem lstAt {pins : List (Addr × Obj)} {s : Shared} {σ : L2.St} {H : Hp} {l : Addr} {xs : List V} (I : Inv X pins σ H s) (h : Rd H l (.lst xs)) :
    ∃ (its : List Value) (n : Nat), Vals xs its ∧ xs.length ≤ sizeLine ∧ s.heap.get? l = some { cls := .type "list", data := .seq its.toArray n } := by
  obtain ⟨z, its, n, r, e⟩ := h.ok I.hok
  exact ⟨its, n, r, z, e⟩
def rCatR : R2 := fun x y H Q => ∃ l b xs zs, x = .ref l ∧ y = .ref b ∧ Rd H l (.lst xs) ∧ Rd H b (.lst zs) ∧ xs.length + zs.length ≤ sizeLine ∧ ∀ p, H p = none → Q (.ref p) (upd H p (.lst (xs ++ zs)))
theorem op_catR : OpR X (binaryOp .Add) rCatR := by
  intro pins s σ H x y v u Q I rx ry h
  obtain ⟨l, b, xs, zs, rfl, rfl, hl, hb, hz, q⟩ := h
  cases rx
  cases ry
  obtain ⟨its, n, r, zl, e⟩ := lstAt I hl
  obtain ⟨jts, m, r2, zl2, e2⟩ := lstAt I hb
  have h1 := r.length
  have h2 := r2.length
  refine PySem.P.add_list e e2 ?_ (by simp only [List.size_toArray]; omega)
  rw [show its.toArray ++ jts.toArray = (its ++ jts).toArray by simp]
  exact ⟨.ref _, _, I.lnew (t' := s.toks) (r.append r2) (by simp; omega), rfl, q _ I.fresh⟩
def rRepR : R2 := fun x y H Q => ∃ l k xs, x = .ref l ∧ y = .int k ∧ Rd H l (.lst xs) ∧ -(2 ^ 63) ≤ k ∧ k < 2 ^ 63 ∧ xs.length * k.toNat ≤ sizeLine ∧
  ∀ p, H p = none → Q (.ref p) (upd H p (.lst (List.replicate k.toNat xs).flatten))
theorem op_repR : OpR X (binaryOp .Mult) rRepR := by
  intro pins s σ H x y v u Q I rx ry h
  obtain ⟨l, k, xs, rfl, rfl, hl, h1, h2, hz, q⟩ := h
  cases rx
  obtain ⟨t, rfl⟩ := ry
  obtain ⟨its, n, r, zl, e⟩ := lstAt I hl
  have hlen : its.toArray.size * k.toNat ≤ sizeLine := by
    have := r.length
    rw [List.size_toArray, ← this]
    exact hz
  have cap : ¬ its.toArray.size * k.toNat > (2 ^ 63 - 1) / 8 := by
    have : (sizeLine : Nat) ≤ (2 ^ 63 - 1) / 8 := by decide
    omega
  have fit : ¬ (!Builtin.List.listFitsIndex k) = true := by
    rw [fitsIndex_both h1 h2]
    exact Bool.false_ne_true
  have long : ¬ Builtin.List.listTooLong (its.toArray.size * k.toNat) = true := by
    rw [notLongL hlen]
    exact Bool.false_ne_true
  have new : List.foldl (fun x1 x2 => x1 ++ x2) #[] (List.replicate (if its.toArray.isEmpty = true then 0 else k.toNat) its.toArray) = (List.replicate k.toNat its).flatten.toArray := by
    have f0 : ∀ m : Nat, List.foldl (fun x1 x2 => x1 ++ x2) #[] (List.replicate m its.toArray) = (List.replicate m its).flatten.toArray := fun m => by
      have z := foldl_rep its m []
      rw [List.nil_append] at z
      exact z
    rw [f0]
    cases its with
    | nil => simp
    | cons a r' => rw [if_neg (by simp)]
  refine wpAny_binaryOp_repeat_ref (T := "list") (U := "int") (by decide) ⟨_, e, rfl⟩ (fun s' => typeIs_int s' k t) noFill_list_mul F.fills_int_mul F.slot_int_rmul repeat_list F.slot_int_index.lookup ?_
  refine call_meets F.slot_int_rmul (typeIs_int s k t) F.entry_int_rmul (F.args_int_rmul_2 _ _) (int___rmul___int_list k t l its.toArray n) ⟨e, rfl, ⟨_, e, rfl⟩, ?_⟩
  refine call_meets F.slot_list_mul ⟨_, e, rfl⟩ F.entry_list_mul (F.args_list_mul_2 _ _) (AutoListH.list___mul___list_int_3 l its.toArray n k t fit cap long) ⟨e, ?_⟩
  rw [new]
  exact ⟨.ref _, _, I.lnew (t' := s.toks) (r.rep k.toNat) (by rw [PyProof.Rows.lm_len_rep_flat, Nat.mul_comm]; exact hz), rfl, q _ I.fresh⟩
/-- x is True, x is False -/
def rIsBo : R2 := fun x y H Q => ∃ b : Bool, y = .bl b ∧ (∀ n, x ≠ .ty n) ∧ Q (.bl (decide (x = .bl b))) H
theorem op_isBo : OpR X (compareOp .Is) rIsBo := by
  intro pins s σ H x y v u Q I rx ry h
  obtain ⟨b, rfl, nt, q⟩ := h
  cases (show u = Value.bool b from ry)
  have fin : ∀ c : Bool, decide (x = .bl b) = c → EP X pins σ Q (.bool c) s := fun c e => ⟨.bl c, H, I, rfl, by rw [← e]; exact q⟩
  cases x with
  | bl a =>
    cases (show v = Value.bool a from rx)
    exact wpAny_pure (fin (Value.bool a == Value.bool b) (by cases a <;> cases b <;> rfl))
  | non => cases rx; exact wpAny_pure (fin _ rfl)
  | int i => obtain ⟨t, rfl⟩ := rx; exact wpAny_pure (fin _ rfl)
  | str z => obtain ⟨t, rfl⟩ := rx; exact wpAny_pure (fin _ rfl)
  | byt z => obtain ⟨t, rfl⟩ := rx; exact wpAny_pure (fin _ rfl)
  | flt z => obtain ⟨t, rfl⟩ := rx; exact wpAny_pure (fin _ rfl)
  | ref a => cases rx; exact wpAny_pure (fin _ rfl)
  | ty n => exact absurd rfl (nt n)
/-- repr of data -/
def rRepr (K : PySem.W.Frag) : List V → Hp → VK → Prop := fun xs H Q => ∃ x d, xs = [x] ∧ L2.Dp K H x d ∧ d.showable = true ∧ d.hasDict = false ∧ d.depth ≤ 60 ∧ d.shown.length ≤ sizeLine ∧ Q (.str d.shown) H
theorem call_repr (hg : X.A.guards = some []) (hu : X.A.units + 64 < cLine) : CallR X (.builtin "repr") (rRepr X.K) := by
  intro pins s σ H xs us Q I r h
  obtain ⟨x, d, rfl, hd, sh, nd, dep, z, q⟩ := h
  obtain ⟨u, rfl, rx⟩ := vals1 r
  obtain ⟨as, rd⟩ := L2.Dp.reads I d x u hd rx
  have fin : ∀ (h' : Heap) (t : Tok) (tk : Nat), (∀ b o, s.heap.get? b = some o → h'.get? b = some o) → EP X pins σ Q (.str d.shown t) { s with heap := h', toks := tk } := fun h' t tk k => ⟨.str d.shown, H, I.kept k, ⟨t, rfl⟩, q⟩
  cases d with
  | none => cases hd; cases rx; exact PySem.P.repr_of_none (fin s.heap _ _ fun _ _ e => e)
  | bool b =>
    cases hd
    cases (show u = Value.bool b from rx)
    have e : (PyData.bool b).shown = (if b = true then ("True" : Str) else "False") := by simp only [PyData.shown]
    rw [e] at fin
    exact PySem.P.repr_of_bool (fin s.heap _ _ fun _ _ e => e)
  | int i =>
    cases hd
    obtain ⟨t, rfl⟩ := rx
    have e : (PyData.int i).shown = toString i := by simp only [PyData.shown]
    rw [e] at fin
    exact PySem.P.repr_of_int (by simpa [PyData.showable] using sh) (fin s.heap _ _ fun _ _ e => e)
  | str y =>
    cases hd
    obtain ⟨t, rfl⟩ := rx
    have e : (PyData.str y).shown = reprText y := by simp only [PyData.shown]
    rw [e] at fin z
    exact PySem.P.repr_of_str (fin s.heap _ _ fun _ _ e => e) z
  | list ds =>
    cases hd
    cases rx
    exact repr_of_reads' rd sh (PyData.noDict_hsm nd) hg (by omega) (fun _ _ e => e) fin z
  | tuple ds =>
    cases hd
    cases rx
    exact repr_of_reads' rd sh (PyData.noDict_hsm nd) hg (by omega) (fun _ _ e => e) fin z
  | dict kvs => cases hd
end

/-! ### what they do on data -/
def cutL {α : Type} (xs : List α) (lo hi : Option Int) : List α := (xs.drop (HT.sIx xs.length 0 lo)).take (HT.sIx xs.length xs.length hi - HT.sIx xs.length 0 lo)

def fAdd : D → D → (Res → Prop) → Prop
  | .int i, .int j, k => k (.d (.int (i + j)))
  | .list a, .list b, k => a.length + b.length ≤ sizeLine ∧ k (.l (a ++ b))
  | .tuple a, .tuple b, k => a.length + b.length ≤ sizeLine ∧ k (.d (.tuple (a ++ b)))
  | .str x, .str y, k => x.length + y.length ≤ sizeLine ∧ k (.d (.str (x ++ y)))
  | _, _, _ => False
def fSub : D → D → (Res → Prop) → Prop
  | .int i, .int j, k => k (.d (.int (i - j)))
  | _, _, _ => False
def fMul : D → D → (Res → Prop) → Prop
  | .int i, .int j, k => CMul i j ∧ k (.d (.int (i * j)))
  | .list a, .int n, k => -(2 ^ 63) ≤ n ∧ n < 2 ^ 63 ∧ a.length * n.toNat ≤ sizeLine ∧ k (.l (List.replicate n.toNat a).flatten)
  | _, _, _ => False
def fDiv : D → D → (Res → Prop) → Prop
  | .int i, .int j, k => (0 < j ∧ j < 1073741824) ∧ k (.d (.int (i / j)))
  | _, _, _ => False
def fMod : D → D → (Res → Prop) → Prop
  | .int i, .int j, k => 0 < j ∧ k (.d (.int (i % j)))
  | _, _, _ => False
def fPow : D → D → (Res → Prop) → Prop
  | .int i, .int j, k => (0 ≤ j ∧ j ≤ 1000000 ∧ i.natAbs < 2 ^ 64) ∧ k (.d (.int (i ^ j.toNat)))
  | _, _, _ => False
def fNeg : D → (Res → Prop) → Prop
  | .int i, k => k (.d (.int (-i)))
  | _, _ => False
/-- comparisons -/
def gEq (d e : D) (k : Bool → Prop) : Prop := SeqAt.shaped d = true ∧ SeqAt.shaped e = true ∧ k (PyData.eqv d e)
def gNe (d e : D) (k : Bool → Prop) : Prop := SeqAt.shaped d = true ∧ SeqAt.shaped e = true ∧ k (!PyData.eqv d e)
def gLt : D → D → (Bool → Prop) → Prop
  | .int i, .int j, k => k (decide (i < j))
  | _, _, _ => False
def gLe : D → D → (Bool → Prop) → Prop
  | .int i, .int j, k => k (decide (i ≤ j))
  | _, _, _ => False
def gGt : D → D → (Bool → Prop) → Prop
  | .int i, .int j, k => k (decide (j < i))
  | _, _, _ => False
def gGe : D → D → (Bool → Prop) → Prop
  | .int i, .int j, k => k (decide (j ≤ i))
  | _, _, _ => False
def gIn : D → D → (Bool → Prop) → Prop
  | d, .list ds, k => SeqAt.shaped d = true ∧ SeqAt.shaped (.list ds) = true ∧ k (ds.any fun z => PyData.eqv z d)
  | _, _, _ => False
def gNotIn : D → D → (Bool → Prop) → Prop
  | d, .list ds, k => SeqAt.shaped d = true ∧ SeqAt.shaped (.list ds) = true ∧ k (!ds.any fun z => PyData.eqv z d)
  | _, _, _ => False
def isNone : D → Bool
  | .none => true
  | _ => false
def isBool (b : Bool) : D → Bool
  | .bool c => c == b
  | _ => false
/-- x is None, x is True, x is False -/
def gIs : D → D → (Bool → Prop) → Prop
  | d, .none, k => k (isNone d)
  | d, .bool b, k => k (isBool b d)
  | _, _, _ => False
def gIsNot : D → D → (Bool → Prop) → Prop
  | d, .none, k => k (!isNone d)
  | _, _, _ => False
def cD (g : D → D → (Bool → Prop) → Prop) : D → D → (Res → Prop) → Prop := fun x y k => g x y fun b => k (.d (.bool b))
/-- xs[i] -/
def fIx : D → D → (Res → Prop) → Prop
  | .list ds, .int i, k => match atI ds i with
    | some d => k (.d d)
    | none => False
  | .tuple ds, .int i, k => match atI ds i with
    | some d => k (.d d)
    | none => False
  | .str z, .int i, k => z.length ≤ sizeLine ∧ match atI z.cps.toList i with
    | some c => k (.d (.str ⟨#[c]⟩))
    | none => False
  | _, _, _ => False

section
variable {K : PySem.W.Frag}
theorem od_of {r : R2} {f : D → D → (Res → Prop) → Prop} (h : ∀ F G H x y dx dy k (Q : VK), RlB F G H → Sn K G H x dx → Sn K G H y dy → f dx dy k → (∀ v d, Dp K G v d → k (.d d) → Q v H) → r x y H Q) : OpD K r f :=
  fun F G H x y dx dy k Q b sx sy t q => h F G H x y dx dy k Q b sx sy t fun v d hd kd => q v G H (.d d) (Step.refl b) hd kd

def rAddD (K : PySem.W.Frag) : R2 := fun x y H Q => (∃ i j, x = .int i ∧ y = .int j ∧ Q (.int (i + j)) H) ∨ rCatR x y H Q ∨ rCatA K x y H Q ∨ ∃ i j, x = .str i ∧ y = .str j ∧ i.length + j.length ≤ sizeLine ∧ Q (.str (i ++ j)) H
theorem op_addD {X : Cx} : OpR X (binaryOp .Add) (rAddD X.K) := OpR.or op_add (OpR.or op_catR (OpR.or op_catA op_add_str))
theorem sn_tup {G H : Hp} {v : V} {ds : List D} (h : Sn K G H v (.tuple ds)) : Dp K G v (.tuple ds) := by
  rcases h with h | ⟨_, _, _, _, z, _⟩
  · exact h
  · cases z
theorem od_add : OpD K (rAddD K) fAdd := by
  intro F G H x y dx dy k Q b sx sy t q
  have qd : ∀ v d, Dp K G v d → k (.d d) → Q v H := fun v d hd kd => q v G H (.d d) (Step.refl b) hd kd
  unfold fAdd at t
  split at t
  · exact .inl ⟨_, _, sx.int, sy.int, qd _ _ (Dp.int _) t⟩
  · obtain ⟨p, xs, rfl, h1, d1⟩ := sx.list b.sub
    obtain ⟨p', ys, rfl, h2, d2⟩ := sy.list b.sub
    refine .inr (.inl ⟨p, p', xs, ys, rfl, rfl, h1, h2, by rw [dpAll_len d1, dpAll_len d2]; exact t.1, fun l hl => ?_⟩)
    obtain ⟨st, ok⟩ := res_new b hl (dpAll_append d1 d2)
    exact q _ _ _ _ st ok t.2
  · rename_i a c
    obtain ⟨p, xs, rfl, h1, d1⟩ := sx.tuple b.sub
    obtain ⟨p', ys, rfl, h2, d2⟩ := sy.tuple b.sub
    have e1 := dpAll_len d1
    have e2 := dpAll_len d2
    refine .inr (.inr (.inl ⟨p, p', xs, ys, rfl, rfl, h1, h2, by rw [e1, e2]; exact t.1, fun z => ?_, fun z z2 => ?_, fun z z2 l hl => ?_⟩))
    · subst z
      have ea : a = [] := List.length_eq_zero_iff.mp (by rw [← e1]; rfl)
      subst ea
      exact qd _ _ (sn_tup sy) t.2
    · subst z2
      have ec : c = [] := List.length_eq_zero_iff.mp (by rw [← e2]; rfl)
      subst ec
      exact qd _ (.tuple (a ++ [])) (by rw [List.append_nil]; exact sn_tup sx) t.2
    · obtain ⟨st, ok⟩ := res_tup b hl (dpAll_append d1 d2)
      exact q _ _ _ _ st ok t.2
  · exact .inr (.inr (.inr ⟨_, _, sx.str, sy.str, t.1, qd _ _ (Dp.str _) t.2⟩))
  · exact t.elim
theorem od_sub : OpD K (rI0 fun i j => .int (i - j)) fSub := od_of fun F G H x y dx dy k Q b sx sy t q => by
  unfold fSub at t
  split at t
  · exact ⟨_, _, sx.int, sy.int, q _ _ (Dp.int _) t⟩
  · exact t.elim
def rMulD : R2 := fun x y H Q => (rI CMul fun i j => .int (i * j)) x y H Q ∨ rRepR x y H Q
theorem op_mulD {X : Cx} : OpR X (binaryOp .Mult) rMulD := OpR.or op_mul op_repR
theorem od_mul : OpD K rMulD fMul := by
  intro F G H x y dx dy k Q b sx sy t q
  unfold fMul at t
  split at t
  · exact .inl ⟨_, _, sx.int, sy.int, t.1, q _ G H (.d (.int _)) (Step.refl b) (Dp.int _) t.2⟩
  · obtain ⟨p, xs, rfl, h1, d1⟩ := sx.list b.sub
    obtain ⟨t1, t2, t3, t4⟩ := t
    refine .inr ⟨p, _, xs, rfl, sy.int, h1, t1, t2, by rw [dpAll_len d1]; exact t3, fun l hl => ?_⟩
    obtain ⟨st, ok⟩ := res_new b hl (dpAll_rep _ d1)
    exact q _ _ _ _ st ok t4
  · exact t.elim
theorem od_div : OpD K (rI CDiv fun i j => .int (i / j)) fDiv := od_of fun F G H x y dx dy k Q b sx sy t q => by
  unfold fDiv at t
  split at t
  · exact ⟨_, _, sx.int, sy.int, t.1, q _ _ (Dp.int _) t.2⟩
  · exact t.elim
theorem od_mod : OpD K (rI (fun _ j => 0 < j) fun i j => .int (i % j)) fMod := od_of fun F G H x y dx dy k Q b sx sy t q => by
  unfold fMod at t
  split at t
  · exact ⟨_, _, sx.int, sy.int, t.1, q _ _ (Dp.int _) t.2⟩
  · exact t.elim
theorem od_pow : OpD K (rI CPow fun i j => .int (i ^ j.toNat)) fPow := od_of fun F G H x y dx dy k Q b sx sy t q => by
  unfold fPow at t
  split at t
  · exact ⟨_, _, sx.int, sy.int, t.1, q _ _ (Dp.int _) t.2⟩
  · exact t.elim
theorem ud_neg : UnD K (rU fun i => .int (-i)) fNeg := fun F G H x dx k Q b sx t q => by
  unfold fNeg at t
  split at t
  · exact ⟨_, sx.int, q _ G H (.d (.int _)) (Step.refl b) (Dp.int _) t⟩
  · exact t.elim

/-! comparisons -/
theorem cm_eq : CmD K (rEqD K) gEq := fun G H x y dx dy k Q s sx sy t q => ⟨dx, dy, toDp _ _ (sx.dp s), toDp _ _ (sy.dp s), t.1, t.2.1, q _ t.2.2⟩
theorem cm_ne : CmD K (rNeD K) gNe := fun G H x y dx dy k Q s sx sy t q => ⟨dx, dy, toDp _ _ (sx.dp s), toDp _ _ (sy.dp s), t.1, t.2.1, q _ t.2.2⟩
theorem cm_lt : CmD K (rI0 fun i j => .bl (decide (i < j))) gLt := fun G H x y dx dy k Q s sx sy t q => by
  unfold gLt at t
  split at t
  · exact ⟨_, _, sx.int, sy.int, q _ t⟩
  · exact t.elim
theorem cm_le : CmD K (rI0 fun i j => .bl (decide (i ≤ j))) gLe := fun G H x y dx dy k Q s sx sy t q => by
  unfold gLe at t
  split at t
  · exact ⟨_, _, sx.int, sy.int, q _ t⟩
  · exact t.elim
theorem cm_gt : CmD K (rI0 fun i j => .bl (decide (j < i))) gGt := fun G H x y dx dy k Q s sx sy t q => by
  unfold gGt at t
  split at t
  · exact ⟨_, _, sx.int, sy.int, q _ t⟩
  · exact t.elim
theorem cm_ge : CmD K (rI0 fun i j => .bl (decide (j ≤ i))) gGe := fun G H x y dx dy k Q s sx sy t q => by
  unfold gGe at t
  split at t
  · exact ⟨_, _, sx.int, sy.int, q _ t⟩
  · exact t.elim
theorem cm_in : CmD K (rInD K) gIn := fun G H x y dx dy k Q s sx sy t q => by
  unfold gIn at t
  split at t
  · exact ⟨_, _, toDp _ _ (sx.dp s), toDp _ _ (sy.dp s), t.1, t.2.1, q _ t.2.2⟩
  · exact t.elim
theorem cm_notIn : CmD K (rNotInD K) gNotIn := fun G H x y dx dy k Q s sx sy t q => by
  unfold gNotIn at t
  split at t
  · exact ⟨_, _, toDp _ _ (sx.dp s), toDp _ _ (sy.dp s), t.1, t.2.1, q _ t.2.2⟩
  · exact t.elim
def rIsD : R2 := fun x y H Q => (y = .non ∧ Q (.bl (decide (x = .non))) H) ∨ rIsBo x y H Q
def rIsNotD : R2 := fun x y H Q => y = .non ∧ Q (.bl (!decide (x = .non))) H
theorem op_isD {X : Cx} : OpR X (compareOp .Is) rIsD := OpR.or op_isN op_isBo
theorem op_isNotD {X : Cx} : OpR X (compareOp .IsNot) rIsNotD := op_notN
theorem dp_isNone {G : Hp} {v : V} {d : D} (h : Dp K G v d) : decide (v = .non) = isNone d := by
  cases h <;> first | rfl | exact decide_eq_false (fun z => by cases z)
theorem dp_isBool {G : Hp} {v : V} {d : D} (h : Dp K G v d) (b : Bool) : decide (v = .bl b) = isBool b d := by
  cases h with
  | bl c => cases b <;> cases c <;> rfl
  | _ => exact decide_eq_false (fun z => by cases z)
theorem cm_is : CmD K rIsD gIs := fun G H x y dx dy k Q s sx sy t q => by
  unfold gIs at t
  split at t
  · refine .inl ⟨sy.none, ?_⟩
    rw [dp_isNone (sx.dp s)]
    exact q _ t
  · refine .inr ⟨_, sy.bool, ⟨fun n z => ?_, ?_⟩⟩
    · subst z
      have w := sx.dp s
      cases w
    rw [dp_isBool (sx.dp s)]
    exact q _ t
  · exact t.elim
theorem cm_isNot : CmD K rIsNotD gIsNot := fun G H x y dx dy k Q s sx sy t q => by
  unfold gIsNot at t
  split at t
  · refine ⟨sy.none, ?_⟩
    rw [dp_isNone (sx.dp s)]
    exact q _ t
  · exact t.elim

/-! items -/
theorem atI_dp {G : Hp} {vs : List V} {ds : List D} (h : DpAll K G vs ds) {i : Int} {d : D} (e : atI ds i = some d) : ∃ v, atI vs i = some v ∧ Dp K G v d := by
  have hl := dpAll_len h
  unfold atI at e ⊢
  rw [hl]
  cases hj : ixN ds.length i with
  | none => rw [hj] at e; cases e
  | some j =>
    rw [hj] at e
    obtain ⟨v, a, b⟩ := dpAll_get h j d e
    exact ⟨v, a, b⟩
theorem od_ix : OpD K (rIx K) fIx := od_of fun F G H x y dx dy k Q b sx sy t q => by
  unfold fIx at t
  split at t
  · obtain ⟨p, xs, rfl, h1, d1⟩ := sx.list b.sub
    split at t
    · rename_i e
      obtain ⟨v, a, c⟩ := atI_dp d1 e
      exact .inl ⟨p, xs, _, v, rfl, sy.int, .inl h1, a, q _ _ c t⟩
    · exact t.elim
  · obtain ⟨p, xs, rfl, h1, d1⟩ := sx.tuple b.sub
    split at t
    · rename_i e
      obtain ⟨v, a, c⟩ := atI_dp d1 e
      exact .inr (.inl ⟨p, xs, _, v, rfl, sy.int, h1, a, q _ _ c t⟩)
    · exact t.elim
  · obtain ⟨z, t⟩ := t
    split at t
    · rename_i e
      exact .inr (.inr ⟨_, _, _, sx.str, sy.int, z, e, q _ _ (Dp.str _) t⟩)
    · exact t.elim
  · exact t.elim
end
end DL

/-! Built-in functions, methods, slices, isinstance. -/
namespace DL
open PySem PySem.Spec L2

/-! ### plain functions -/
def lmax : List Int → Int
  | [] => 0
  | x :: xs => xs.foldl max x
def lmin : List Int → Int
  | [] => 0
  | x :: xs => xs.foldl min x
theorem foldl_max_ge (xs : List Int) (a : Int) : a ≤ xs.foldl max a ∧ (∀ y ∈ xs, y ≤ xs.foldl max a) ∧ (xs.foldl max a = a ∨ xs.foldl max a ∈ xs) := by
  induction xs generalizing a with
  | nil => simp
  | cons x xs ih =>
    obtain ⟨h1, h2, h3⟩ := ih (max a x)
    simp only [List.foldl_cons, List.mem_cons]
    refine ⟨by omega, fun y hy => ?_, ?_⟩
    · rcases hy with rfl | hy
      · omega
      · exact h2 y hy
    · rcases h3 with h | h
      · rw [h]
        by_cases c : a ≤ x
        · right; left; omega
        · left; omega
      · right; right; exact h
theorem foldl_min_le (xs : List Int) (a : Int) : xs.foldl min a ≤ a ∧ (∀ y ∈ xs, xs.foldl min a ≤ y) ∧ (xs.foldl min a = a ∨ xs.foldl min a ∈ xs) := by
  induction xs generalizing a with
  | nil => simp
  | cons x xs ih =>
    obtain ⟨h1, h2, h3⟩ := ih (min a x)
    simp only [List.foldl_cons, List.mem_cons]
    refine ⟨by omega, fun y hy => ?_, ?_⟩
    · rcases hy with rfl | hy
      · omega
      · exact h2 y hy
    · rcases h3 with h | h
      · rw [h]
        by_cases c : a ≤ x
        · left; omega
        · right; left; omega
      · right; right; exact h
theorem lmax_mem {ns : List Int} (h : ns ≠ []) : lmax ns ∈ ns := by
  cases ns with
  | nil => exact absurd rfl h
  | cons x xs =>
    rcases (foldl_max_ge xs x).2.2 with q | q
    · show xs.foldl max x ∈ x :: xs
      rw [q]; simp
    · exact List.mem_cons_of_mem _ q
theorem lmax_ge {ns : List Int} {y : Int} (h : y ∈ ns) : y ≤ lmax ns := by
  cases ns with
  | nil => cases h
  | cons x xs =>
    rcases List.mem_cons.mp h with rfl | h
    · exact (foldl_max_ge xs y).1
    · exact (foldl_max_ge xs x).2.1 y h
theorem lmin_mem {ns : List Int} (h : ns ≠ []) : lmin ns ∈ ns := by
  cases ns with
  | nil => exact absurd rfl h
  | cons x xs =>
    rcases (foldl_min_le xs x).2.2 with q | q
    · show xs.foldl min x ∈ x :: xs
      rw [q]; simp
    · exact List.mem_cons_of_mem _ q
theorem lmin_le {ns : List Int} {y : Int} (h : y ∈ ns) : lmin ns ≤ y := by
  cases ns with
  | nil => cases h
  | cons x xs =>
    rcases List.mem_cons.mp h with rfl | h
    · exact (foldl_min_le xs y).1
    · exact (foldl_min_le xs x).2.1 y h
theorem lmax_eq {ns : List Int} {m : Int} (h : m ∈ ns) (g : ∀ y ∈ ns, y ≤ m) : lmax ns = m := by
  have a := lmax_ge h
  have b := g _ (lmax_mem (List.ne_nil_of_mem h))
  omega
theorem lmin_eq {ns : List Int} {m : Int} (h : m ∈ ns) (g : ∀ y ∈ ns, m ≤ y) : lmin ns = m := by
  have a := lmin_le h
  have b := g _ (lmin_mem (List.ne_nil_of_mem h))
  omega
def sortI (ns : List Int) : List Int := ns.mergeSort (fun a b => decide (a ≤ b))
theorem sortI_perm (ns : List Int) : (sortI ns).Perm ns := List.mergeSort_perm ns _
theorem sortI_sorted (ns : List Int) : (sortI ns).Pairwise (· ≤ ·) := by
  have h := List.pairwise_mergeSort (le := fun a b : Int => decide (a ≤ b)) (fun a b c h1 h2 => by simp at *; omega) (fun a b => by simp; omega) ns
  exact h.imp (fun h => by simpa using h)
theorem sortI_eq {ns ms : List Int} (p : ms.Perm ns) (s : ms.Pairwise (· ≤ ·)) : ms = sortI ns :=
  PySem.W.ksm_same (p.trans (sortI_perm ns).symm) s (sortI_sorted ns)

/-! ### built-in functions on data -/
def fLen : List D → (Res → Prop) → Prop
  | [.list ds], k => k (.d (.int ds.length))
  | [.tuple ds], k => k (.d (.int ds.length))
  | [.str x], k => x.length ≤ sizeLine ∧ k (.d (.int x.length))
  | _, _ => False
def fMax : List D → (Res → Prop) → Prop
  | [.list ds], k => match toInts ds with
    | some ns => ns ≠ [] ∧ k (.d (.int (lmax ns)))
    | none => False
  | [.int i, .int j], k => k (.d (.int (max i j)))
  | _, _ => False
def fMin : List D → (Res → Prop) → Prop
  | [.list ds], k => match toInts ds with
    | some ns => ns ≠ [] ∧ k (.d (.int (lmin ns)))
    | none => False
  | [.int i, .int j], k => k (.d (.int (min i j)))
  | _, _ => False
def fSum : List D → (Res → Prop) → Prop
  | [.list ds], k => match toInts ds with
    | some ns => k (.d (.int ns.sum))
    | none => False
  | _, _ => False
def fSorted : List D → (Res → Prop) → Prop
  | [.list ds], k => match toInts ds with
    | some ns => k (.l (dInts (sortI ns)))
    | none => False
  | _, _ => False
def fAbs : List D → (Res → Prop) → Prop
  | [.int i], k => k (.d (.int (i.natAbs : Nat)))
  | _, _ => False
def fInt : List D → (Res → Prop) → Prop
  | [.int i], k => k (.d (.int i))
  | [.bool b], k => k (.d (.int (if b then 1 else 0)))
  | _, _ => False
def fList : List D → (Res → Prop) → Prop
  | [.list ds], k => k (.l ds)
  | [.tuple ds], k => k (.l ds)
  | _, _ => False
def fTuple : List D → (Res → Prop) → Prop
  | [.list ds], k => k (.d (.tuple ds))
  | [.tuple ds], k => k (.d (.tuple ds))
  | _, _ => False
def fRepr : List D → (Res → Prop) → Prop
  | [d], k => (d.showable = true ∧ d.hasDict = false ∧ d.depth ≤ 60 ∧ d.shown.length ≤ sizeLine) ∧ k (.d (.str d.shown))
  | _, _ => False

section
variable {K : PySem.W.Frag} {F : Fr} {G H : Hp}
theorem sns1 {xs : List V} {d : D} (h : Sns K G H xs [d]) : ∃ x, xs = [x] ∧ Sn K G H x d := by
  match xs, h with
  | [x], h => exact ⟨x, rfl, h.1⟩
  | _ :: _ :: _, h => exact h.2.elim
theorem sns2 {xs : List V} {d e : D} (h : Sns K G H xs [d, e]) : ∃ x y, xs = [x, y] ∧ Sn K G H x d ∧ Sn K G H y e := by
  match xs, h with
  | [x, y], h => exact ⟨x, y, rfl, h.1, h.2.1⟩
  | [_], h => exact h.2.elim
  | _ :: _ :: _ :: _, h => exact h.2.2.elim
theorem ca_of {r : List V → Hp → VK → Prop} {f : List D → (Res → Prop) → Prop} (h : ∀ F G H xs ds k (Q : VK), RlB F G H → Sns K G H xs ds → f ds k → (∀ v d, Dp K G v d → k (.d d) → Q v H) →
    (∀ p vs ds, H p = none → DpAll K G vs ds → k (.l ds) → Q (.ref p) (upd H p (.lst vs))) → r xs H Q) : CaD K r f :=
  fun F G H xs ds k Q b sx t q => h F G H xs ds k Q b sx t (fun v d hd kd => q v G H (.d d) (Step.refl b) hd kd) fun p vs ds hp da kd =>
    have z := res_new b hp da
    q _ _ _ (.l ds) z.1 z.2 kd
def rLenD (K : PySem.W.Frag) : List V → Hp → VK → Prop := fun xs H Q => ∃ x n, xs = [x] ∧ LenV K x H n ∧ Q (.int n) H
theorem call_lenD' {X : Cx} : CallR X (.builtin "len") (rLenD X.K) := call_len
theorem ite_max (i j : Int) : (if j > i then j else i) = max i j := by omega
theorem ite_min (i j : Int) : (if j < i then j else i) = min i j := by omega
theorem ite_abs (i : Int) : (if i < 0 then -i else i) = ((i.natAbs : Nat) : Int) := by omega
theorem ca_len : CaD K (rLenD K) fLen := ca_of fun F G H xs ds k Q b sx t qd ql => by
  unfold fLen at t
  split at t
  · obtain ⟨x, rfl, s1⟩ := sns1 sx
    obtain ⟨p, vs, rfl, h1, d1⟩ := s1.list b.sub
    exact ⟨_, _, rfl, .inl ⟨vs, .inl h1, (dpAll_len d1).symm⟩, qd _ _ (Dp.int _) t⟩
  · obtain ⟨x, rfl, s1⟩ := sns1 sx
    obtain ⟨p, vs, rfl, h1, d1⟩ := s1.tuple b.sub
    exact ⟨_, _, rfl, .inr ⟨vs, h1, (dpAll_len d1).symm⟩, qd _ _ (Dp.int _) t⟩
  · obtain ⟨x, rfl, s1⟩ := sns1 sx
    cases s1.str
    exact ⟨_, _, rfl, ⟨t.1, rfl⟩, qd _ _ (Dp.int _) t.2⟩
  · exact t.elim
theorem sn_ints {v : V} {ds : List D} {ns : List Int} (s : Same G H) (h : Sn K G H v (.list ds)) (e : toInts ds = some ns) : ∃ p, v = .ref p ∧ SqL K H p (ns.map V.int) := by
  obtain ⟨p, vs, rfl, h1, d1⟩ := h.list s
  rw [toInts_eq e] at d1
  rw [dpAll_ints d1] at h1
  exact ⟨p, rfl, .inl h1⟩
def rMaxD (K : PySem.W.Frag) : List V → Hp → VK → Prop := fun xs H Q => rMax K xs H Q ∨ ∃ i j, xs = [.int i, .int j] ∧ Q (.int (if j > i then j else i)) H
def rMinD (K : PySem.W.Frag) : List V → Hp → VK → Prop := fun xs H Q => rMin K xs H Q ∨ ∃ i j, xs = [.int i, .int j] ∧ Q (.int (if j < i then j else i)) H
theorem call_maxD {X : Cx} (hc : X.calm = true) : CallR X (.builtin "max") (rMaxD X.K) := CallR.or (cr_max hc) (call_max2 hc)
theorem call_minD {X : Cx} (hc : X.calm = true) : CallR X (.builtin "min") (rMinD X.K) := CallR.or (cr_min hc) (call_min2 hc)
theorem ca_max : CaD K (rMaxD K) fMax := ca_of fun F G H xs ds k Q b sx t qd ql => by
  unfold fMax at t
  split at t
  · obtain ⟨x, rfl, s1⟩ := sns1 sx
    split at t
    · rename_i ns e
      obtain ⟨p, rfl, h1⟩ := sn_ints b.sub s1 e
      refine .inl ⟨p, ns, rfl, h1, List.length_pos_iff.mpr t.1, fun m h2 h3 => ?_⟩
      rw [← lmax_eq h2 h3]
      exact qd _ _ (Dp.int _) t.2
    · exact t.elim
  · obtain ⟨x, y, rfl, s1, s2⟩ := sns2 sx
    cases s1.int
    cases s2.int
    refine .inr ⟨_, _, rfl, ?_⟩
    rw [ite_max]
    exact qd _ _ (Dp.int _) t
  · exact t.elim
theorem ca_min : CaD K (rMinD K) fMin := ca_of fun F G H xs ds k Q b sx t qd ql => by
  unfold fMin at t
  split at t
  · obtain ⟨x, rfl, s1⟩ := sns1 sx
    split at t
    · rename_i ns e
      obtain ⟨p, rfl, h1⟩ := sn_ints b.sub s1 e
      refine .inl ⟨p, ns, rfl, h1, List.length_pos_iff.mpr t.1, fun m h2 h3 => ?_⟩
      rw [← lmin_eq h2 h3]
      exact qd _ _ (Dp.int _) t.2
    · exact t.elim
  · obtain ⟨x, y, rfl, s1, s2⟩ := sns2 sx
    cases s1.int
    cases s2.int
    refine .inr ⟨_, _, rfl, ?_⟩
    rw [ite_min]
    exact qd _ _ (Dp.int _) t
  · exact t.elim
theorem ca_sum : CaD K (rSum K) fSum := ca_of fun F G H xs ds k Q b sx t qd ql => by
  unfold fSum at t
  split at t
  · obtain ⟨x, rfl, s1⟩ := sns1 sx
    split at t
    · rename_i ns e
      obtain ⟨p, rfl, h1⟩ := sn_ints b.sub s1 e
      exact ⟨p, ns, rfl, h1, qd _ _ (Dp.int _) t⟩
    · exact t.elim
  · exact t.elim
theorem ca_sorted : CaD K (rSortedI K) fSorted := ca_of fun F G H xs ds k Q b sx t qd ql => by
  unfold fSorted at t
  split at t
  · obtain ⟨x, rfl, s1⟩ := sns1 sx
    split at t
    · rename_i ns e
      obtain ⟨p, rfl, h1⟩ := sn_ints b.sub s1 e
      refine ⟨p, ns, rfl, h1, fun ms l pm so hl => ?_⟩
      rw [sortI_eq pm so]
      exact ql l _ _ hl (dpAll_of_ints _) t
    · exact t.elim
  · exact t.elim
def rAbs : List V → Hp → VK → Prop := fun xs H Q => ∃ i, xs = [.int i] ∧ Q (.int (if i < 0 then -i else i)) H
theorem ca_abs : CaD K rAbs fAbs := ca_of fun F G H xs ds k Q b sx t qd ql => by
  unfold fAbs at t
  split at t
  · obtain ⟨x, rfl, s1⟩ := sns1 sx
    cases s1.int
    refine ⟨_, rfl, ?_⟩
    rw [ite_abs]
    exact qd _ _ (Dp.int _) t
  · exact t.elim
def rInt1 : List V → Hp → VK → Prop := fun xs H Q => (∃ i, xs = [.int i] ∧ Q (.int i) H) ∨ ∃ k, xs = [.bl k] ∧ Q (.int (if k then 1 else 0)) H
theorem ca_int : CaD K rInt1 fInt := ca_of fun F G H xs ds k Q b sx t qd ql => by
  unfold fInt at t
  split at t
  · obtain ⟨x, rfl, s1⟩ := sns1 sx
    cases s1.int
    exact .inl ⟨_, rfl, qd _ _ (Dp.int _) t⟩
  · obtain ⟨x, rfl, s1⟩ := sns1 sx
    cases s1.bool
    exact .inr ⟨_, rfl, qd _ _ (Dp.int _) t⟩
  · exact t.elim
def rListOf (K : PySem.W.Frag) : List V → Hp → VK → Prop := fun xs H Q => ∃ p ys, xs = [.ref p] ∧ (SqL K H p ys ∨ SqT K H p ys) ∧ ∀ l, H l = none → Q (.ref l) (upd H l (.lst ys))
theorem ca_list : CaD K (rListOf K) fList := ca_of fun F G H xs ds k Q b sx t qd ql => by
  unfold fList at t
  split at t
  · obtain ⟨x, rfl, s1⟩ := sns1 sx
    obtain ⟨p, vs, rfl, h1, d1⟩ := s1.list b.sub
    exact ⟨p, vs, rfl, .inl (.inl h1), fun l hl => ql l _ _ hl d1 t⟩
  · obtain ⟨x, rfl, s1⟩ := sns1 sx
    obtain ⟨p, vs, rfl, h1, d1⟩ := s1.tuple b.sub
    exact ⟨p, vs, rfl, .inr h1, fun l hl => ql l _ _ hl d1 t⟩
  · exact t.elim
def rTupOf (K : PySem.W.Frag) : List V → Hp → VK → Prop := fun xs H Q => ∃ p ys, xs = [.ref p] ∧ ((SqL K H p ys ∧ ∀ l, H l = none → Q (.ref l) (upd H l (.tup ys))) ∨ (SqT K H p ys ∧ Q (.ref p) H))
theorem ca_tuple : CaD K (rTupOf K) fTuple := by
  intro F G H xs ds k Q b sx t q
  unfold fTuple at t
  split at t
  · obtain ⟨x, rfl, s1⟩ := sns1 sx
    obtain ⟨p, vs, rfl, h1, d1⟩ := s1.list b.sub
    refine ⟨p, vs, rfl, .inl ⟨.inl h1, fun l hl => ?_⟩⟩
    obtain ⟨st, ok⟩ := res_tup b hl d1
    exact q _ _ _ _ st ok t
  · obtain ⟨x, rfl, s1⟩ := sns1 sx
    have dd := sn_tup s1
    obtain ⟨p, vs, rfl, h1, d1⟩ := s1.tuple b.sub
    exact ⟨p, vs, rfl, .inr ⟨h1, q _ G H (.d _) (Step.refl b) dd t⟩⟩
  · exact t.elim
theorem ca_repr : CaD K (rRepr K) fRepr := ca_of fun F G H xs ds k Q b sx t qd ql => by
  unfold fRepr at t
  split at t
  · obtain ⟨x, rfl, s1⟩ := sns1 sx
    obtain ⟨⟨a1, a2, a3, a4⟩, t⟩ := t
    exact ⟨x, _, rfl, toDp _ _ (s1.dp b.sub), a1, a2, a3, a4, qd _ _ (Dp.str _) t⟩
  · exact t.elim

/-! ### isinstance of built-in classes -/
def tyName : D → String
  | .none => "NoneType"
  | .bool _ => "bool"
  | .int _ => "int"
  | .str _ => "str"
  | .list _ => "list"
  | .tuple _ => "tuple"
  | .dict _ => "dict"
theorem ty_ok {v : V} {d : D} (h : Dp K H v d) : TyX K H v (.type (tyName d)) := by
  cases h with
  | non => exact .base .non
  | bl b => exact .base (.bl b)
  | int i => exact .base (.int i)
  | str x => exact .base (.str x)
  | lst a b =>
    rcases a with a | ⟨o, a⟩
    · exact .base (.lst a)
    · exact .base (.frz a)
  | tup a b =>
    rcases a with (a | ⟨o, a⟩) | ⟨o, its, n, a, c, _⟩
    · exact .base (.tup a)
    · exact .fTuple a
    · exact .kTuple a c
def isTy (T : String) : D → Bool
  | .none => T == "NoneType"
  | .bool _ => T == "bool" || T == "int"
  | .int _ => T == "int"
  | .str _ => T == "str"
  | .list _ => T == "list"
  | .tuple _ => T == "tuple"
  | .dict _ => T == "dict"
def isTyN (a T : String) : Bool := a == T || (a == "bool" && T == "int")
theorem kit_all : ∀ a ∈ ["NoneType", "bool", "int", "str", "list", "tuple", "dict"], ∀ T ∈ ["bool", "int", "str", "list", "tuple", "dict"], kitB a T = some (isTyN a T) := by decide +kernel
theorem tyName_mem (d : D) : tyName d ∈ ["NoneType", "bool", "int", "str", "list", "tuple", "dict"] := by cases d <;> simp [tyName]
theorem kit_d {T : String} (hT : T ∈ ["bool", "int", "str", "list", "tuple", "dict"]) (d : D) : PySem.W.kitOne K (.type (tyName d)) (.type T) = some (isTyN (tyName d) T) := kit_ty (kit_all _ (tyName_mem d) T hT)
/-- isinstance(x, T) -/
def dIsi (T : String) (ta : DT) : DT := fun e k => ta e fun r e1 => see e1 r fun d => k (.d (.bool (isTyN (tyName d) T))) (cut e1 e.t.length)
variable {ta : TE} {Ta : DT}
theorem dr_isi {T : String} (hT : T ∈ ["bool", "int", "str", "list", "tuple", "dict"]) (ha : DR K F ta Ta) : DR K F (tCB (rIsi K) (tCons ta (tCons (tC (.ty T)) tNil))) (dIsi T Ta) := fun G H σ τ e k Q h t q => by
  have hl := h.tl
  refine ha G H σ τ e _ _ h t fun x G1 H1 τ1 e1 rx s1 h1 i1 t1 => ?_
  obtain ⟨d, sx, t2⟩ := see_ok h1 i1 t1
  exact ⟨x, .ty T, _, _, _, rfl, .ty T, ty_ok (sx.dp h1.r.b.sub), kit_d hT d, q _ G1 H1 [] _ (.d _) s1 (by rw [List.append_nil]; exact h1.cut' hl) (Dp.bl _) t2⟩
/-- isinstance(x, (T, U)) -/
def dIsi2 (T U : String) (ta : DT) : DT := fun e k => ta e fun r e1 => see e1 r fun d => k (.d (.bool (isTyN (tyName d) T || isTyN (tyName d) U))) (cut e1 e.t.length)
theorem dr_isi2 {T U : String} (hT : T ∈ ["bool", "int", "str", "list", "tuple", "dict"]) (hU : U ∈ ["bool", "int", "str", "list", "tuple", "dict"]) (ha : DR K F ta Ta) :
    DR K F (tCB (rIsiT K) (tCons ta (tCons (tTup (tCons (tC (.ty T)) (tCons (tC (.ty U)) tNil))) tNil))) (dIsi2 T U Ta) := fun G H σ τ e k Q h t q => by
  have hl := h.tl
  refine ha G H σ τ e _ _ h t fun x G1 H1 τ1 e1 rx s1 h1 i1 t1 => ?_
  refine ⟨(by show 2 ≤ sizeLine; decide), fun p hp => ?_⟩
  obtain ⟨d, sx, t2⟩ := see_ok h1 i1 t1
  have st := h1.r.b.newH (o := .tup [.ty T, .ty U]) hp
  have ty : TyX K (upd H1 p (.tup [.ty T, .ty U])) x (.type (tyName d)) := ty_ok (dp_mono (same_upd hp) _ _ (sx.dp h1.r.b.sub))
  have kk : PySem.W.kitAny K (.type (tyName d)) [.type T, .type U] = some (isTyN (tyName d) T || isTyN (tyName d) U) := by
    refine kitAny_cons (kit_d hT d) (fun e1 => ?_) fun e1 => by rw [e1]; rfl
    rw [e1, Bool.false_or]
    refine kitAny_cons (kit_d hU d) (fun e2 => ?_) fun e2 => e2
    rw [e2]
    exact kitAny_nil
  exact ⟨x, p, [.ty T, .ty U], _, [.type T, .type U], _, rfl, upd_same, .cons (.ty T) (.cons (.ty U) .nil), ty, kk, q _ G1 _ [] _ (.d _) s1 (by rw [List.append_nil]; exact (h1.cut' hl).step st) (Dp.bl _) t2⟩
end
end DL

/-! Statements over data. -/
namespace DL
open PySem PySem.Spec L2

structure DEnds where
  nx : List Sl → Prop
  rt : D → List Sl → Prop
  bk : List Sl → Prop
  ct : List Sl → Prop
abbrev DSt := DEnds → List Sl → Prop

/-- the ends, behind a start at which B was known -/
structure EndsOk (K : PySem.W.Frag) (F : Fr) (B : Hp) (A : DEnds) (E : Ends) : Prop where
  nx : ∀ G H σ s, Same B G → Rl K F G H σ [] ⟨s, []⟩ → A.nx s → E.nx σ H
  rt : ∀ G H σ v d s, Same B G → Rl K F G H σ [] ⟨s, []⟩ → Dp K G v d → A.rt d s → E.rt v H
  bk : ∀ G H σ s, Same B G → Rl K F G H σ [] ⟨s, []⟩ → A.bk s → E.bk σ H
  ct : ∀ G H σ s, Same B G → Rl K F G H σ [] ⟨s, []⟩ → A.ct s → E.ct σ H
theorem EndsOk.mono {K : PySem.W.Frag} {F : Fr} {B B' : Hp} {A : DEnds} {E : Ends} (q : EndsOk K F B A E) (h : Same B B') : EndsOk K F B' A E :=
  ⟨fun G H σ s z => q.nx G H σ s (h.trans z), fun G H σ v d s z => q.rt G H σ v d s (h.trans z), fun G H σ s z => q.bk G H σ s (h.trans z), fun G H σ s z => q.ct G H σ s (h.trans z)⟩

def DRs (K : PySem.W.Frag) (F : Fr) (t : TS) (T : DSt) : Prop := ∀ G H σ s A E, Rl K F G H σ [] ⟨s, []⟩ → T A s → EndsOk K F G A E → t E σ H

/-- own things of slots are given away; what was just made stays -/
def fzV (e : Sg) : List R → (List R → Sg → Prop) → Prop
  | [], k => k [] e
  | .v i :: rs, k => fz e (.v i) fun d e1 => fzV e1 rs fun ds e2 => k (.d d :: ds) e2
  | r :: rs, k => fzV e rs fun ds e2 => k (r :: ds) e2
/-- slots are filled -/
def fill (e : Sg) : List Nat → List R → (List Sl → Prop) → Prop
  | [], [], k => k e.s
  | i :: is, .d d :: rs, k => fill ⟨e.s.set i (.val d), e.t⟩ is rs k
  | i :: is, .t j :: rs, k => match e.t[j]? with
    | some y => fill ⟨e.s.set i y, e.t.set j .no⟩ is rs k
    | none => False
  | _, _, _ => False
def dSet (i : Nat) (T : DT) : DSt := fun A s => T ⟨s, []⟩ fun r e1 => fzV e1 [r] fun rs e2 => fill e2 [i] rs A.nx
def dPar (is : List Nat) (T : DTA) : DSt := fun A s => T ⟨s, []⟩ fun rs e1 => fzV e1 rs fun rs e2 => fill e2 is rs A.nx
def dSeq (T U : DSt) : DSt := fun A s => T { A with nx := U A } s
def dNext : DSt := fun A s => A.nx s
def dBreak : DSt := fun A s => A.bk s
def dCont : DSt := fun A s => A.ct s
def dNever : DSt := fun _ _ => False
def dRet (T : DT) : DSt := fun A s => T ⟨s, []⟩ fun r e1 => fz e1 r fun d e2 => A.rt d e2.s
def dRetN : DSt := fun A s => A.rt .none s
def dIfS (Tc : DTT) (T U : DSt) : DSt := fun A s => Tc ⟨s, []⟩ fun b e1 => if b = true then T A e1.s else U A e1.s
def dDrop (T : DT) : DSt := fun A s => T ⟨s, []⟩ fun _ e1 => A.nx e1.s
def dWhile (Tc : DTT) (T : DSt) : DSt := fun A s => ∃ W : Nat → List Sl → Prop, (∃ m, W m s) ∧ ∀ m s, W m s → Tc ⟨s, []⟩ fun b e1 =>
  if b = true then T { A with nx := fun s' => ∃ m', m' < m ∧ W m' s', ct := fun s' => ∃ m', m' < m ∧ W m' s', bk := A.nx } e1.s else A.nx e1.s
/-- xs.append(e), xs in slot i -/
def dAppend (i : Nat) (T : DT) : DSt := fun A s => match s[i]? with
  | some (.own (.lst _)) => T ⟨s, []⟩ fun r e1 => fz e1 r fun d e2 => match e2.s[i]? with
    | some (.own (.lst ds)) => ds.length < sizeLine ∧ A.nx (e2.s.set i (.own (.lst (ds ++ [d]))))
    | _ => False
  | _ => False
/-- xs[k] = e, xs in slot i -/
def dSetIx (i : Nat) (Tk : DT) (T : DT) : DSt := fun A s => T ⟨s, []⟩ fun r e1 => fz e1 r fun d e2 => match e2.s[i]? with
  | some (.own (.lst _)) => Tk ⟨e2.s, []⟩ fun rk e3 => see e3 rk fun dk => match dk with
    | .int j => match e3.s[i]? with
      | some (.own (.lst ds)) => match ixN ds.length j with
        | some m => A.nx (e3.s.set i (.own (.lst (ds.set m d))))
        | none => False
      | _ => False
    | _ => False
  | _ => False

section
variable {K : PySem.W.Frag} {F : Fr} {G H G' H' : Hp} {σ : L2.St} {τ : List V} {e : Sg} {ta tb : TE} {Ta Tb : DT} {t u : TS} {T U : DSt} {tc : TT} {Tc : DTT}

theorem fzV_ok : ∀ {rs : List R} {vs : List V} {G : Hp} {e : Sg} {k : List R → Sg → Prop}, Rl K F G H σ τ e → IsRs K G σ τ vs rs → fzV e rs k →
    ∃ G' e' rs', Same G G' ∧ Rl K F G' H σ τ e' ∧ IsRs K G' σ τ vs rs' ∧ k rs' e'
  | [], [], G, e, k, h, _, s => ⟨G, e, [], Same.refl G, h, trivial, s⟩
  | .v i :: rs, v :: vs, G, e, k, h, q, s => by
    obtain ⟨G1, e1, d, a, b, c, f⟩ := fz_ok h q.1 s
    obtain ⟨G2, e2, ds, a2, b2, c2, f2⟩ := fzV_ok b (q.2.mono a) f
    exact ⟨G2, e2, .d d :: ds, a.trans a2, b2, ⟨dp_mono a2 _ _ c, c2⟩, f2⟩
  | .d d :: rs, v :: vs, G, e, k, h, q, s => by
    obtain ⟨G2, e2, ds, a2, b2, c2, f2⟩ := fzV_ok h q.2 s
    exact ⟨G2, e2, .d d :: ds, a2, b2, ⟨q.1.mono a2, c2⟩, f2⟩
  | .t j :: rs, v :: vs, G, e, k, h, q, s => by
    obtain ⟨G2, e2, ds, a2, b2, c2, f2⟩ := fzV_ok h q.2 s
    exact ⟨G2, e2, .t j :: ds, a2, b2, ⟨q.1, c2⟩, f2⟩
  | [], _ :: _, _, _, _, _, q, _ => q.elim
  | .v _ :: _, [], _, _, _, _, q, _ => q.elim
  | .d _ :: _, [], _, _, _, _, q, _ => q.elim
  | .t _ :: _, [], _, _, _, _, q, _ => q.elim

theorem set_len_append {α : Type} (a b : List α) (i : Nat) (x : α) (h : i < a.length) : (a ++ b).set i x = a.set i x ++ b := List.set_append_left _ _ h

theorem Rl.setS (h : Rl K F G H σ τ e) (i : Nat) {v : V} {d : D} (hd : Dp K G v d) : Rl K F G H (σ.set i (some v)) τ ⟨e.s.set i (.val d), e.t⟩ := by
  have l := h.ls
  by_cases hi : i < σ.length
  · have q := h.r.set i (some v) (.val d) ⟨v, rfl, hd⟩ (fun _ _ _ z => by cases z)
    rw [set_len_append _ _ _ _ hi, set_len_append _ _ _ _ (by omega)] at q
    exact ⟨q, by simp [l]⟩
  · rw [List.set_eq_of_length_le (by omega), List.set_eq_of_length_le (by omega)]
    exact h
/-- what was just made goes to a slot -/
theorem Rl.setT (h : Rl K F G H σ τ e) (i j : Nat) {v : V} {y : Sl} (hv : τ[j]? = some v) (hy : e.t[j]? = some y) : Rl K F G H (σ.set i (some v)) τ ⟨e.s.set i y, e.t.set j .no⟩ := by
  have l := h.ls
  have ht := h.tl
  have hj := (List.getElem?_eq_some_iff.mp hy).1
  have pj : (σ ++ τ.map some)[σ.length + j]? = some (some v) := by
    rw [List.getElem?_append_right (by omega), Nat.add_sub_cancel_left, List.getElem?_map, hv]
    rfl
  have lj : (e.s ++ e.t)[σ.length + j]? = some y := by
    rw [List.getElem?_append_right (by omega), l, Nat.add_sub_cancel_left]
    exact hy
  have q1 := h.r.set (σ.length + j) (some v) .no trivial (fun _ _ _ z => by cases z)
  have e1 : (σ ++ τ.map some).set (σ.length + j) (some v) = σ ++ τ.map some := by
    apply List.ext_getElem?
    intro m
    by_cases hm : σ.length + j = m
    · subst hm
      rw [List.getElem?_set_self (by rw [List.length_append, List.length_map]; omega), pj]
    · rw [List.getElem?_set_ne hm]
  rw [e1] at q1
  have ok := h.r.slot _ _ _ pj lj
  by_cases hi : i < σ.length
  case neg =>
    rw [List.set_eq_of_length_le (by omega), List.set_eq_of_length_le (by omega)]
    rw [List.set_append_right _ _ (by omega), show σ.length + j - e.s.length = j by omega] at q1
    exact ⟨q1, l⟩
  have q2 := q1.set i (some v) y ok (fun p o e1 e2 m o' a b => by
    cases e1
    subst e2
    by_cases hm : σ.length + j = m
    · subst hm
      rw [List.getElem?_set_self (by rw [List.length_append]; omega)] at b
      cases b
    · rw [List.getElem?_set_ne hm] at b
      exact absurd (h.r.dis _ _ p _ _ pj a lj b) hm)
  rw [set_len_append _ _ _ _ hi] at q2
  have e2 : ((e.s ++ e.t).set (σ.length + j) .no).set i y = e.s.set i y ++ e.t.set j .no := by
    rw [List.set_append_right _ _ (by omega), set_len_append _ _ _ _ (by omega)]
    rw [show σ.length + j - e.s.length = j by omega]
  rw [e2] at q2
  exact ⟨q2, by simp [l]⟩
theorem Rl.drop0 (h : Rl K F G H σ τ e) : Rl K F G H σ [] ⟨e.s, []⟩ := by
  have q := (show Rl K F G H σ ([] ++ τ) e from h).cut' (n := 0) rfl
  simpa [DL.cut] using q
theorem isRs_nov {σ' : L2.St} : ∀ {rs : List R} {vs : List V}, (∀ i, R.v i ∉ rs) → IsRs K G σ τ vs rs → IsRs K G σ' τ vs rs
  | [], [], _, _ => trivial
  | .d _ :: rs, _ :: _, nv, q => ⟨q.1, isRs_nov (fun i z => nv i (List.mem_cons_of_mem _ z)) q.2⟩
  | .t _ :: rs, _ :: _, nv, q => ⟨q.1, isRs_nov (fun i z => nv i (List.mem_cons_of_mem _ z)) q.2⟩
  | .v m :: _, _, nv, _ => absurd List.mem_cons_self (nv m)
  | [], _ :: _, _, q => q.elim
  | .d _ :: _, [], _, q => q.elim
  | .t _ :: _, [], _, q => q.elim
theorem fill_ok {k : List Sl → Prop} : ∀ {is : List Nat} {rs : List R} {vs : List V} {σ : L2.St} {e : Sg}, Rl K F G H σ τ e → (∀ i, R.v i ∉ rs) → IsRs K G σ τ vs rs → fill e is rs k →
    ∃ s', Rl K F G H ((is.zip vs).foldl (fun σ p => σ.set p.1 (some p.2)) σ) [] ⟨s', []⟩ ∧ k s' ∧ vs.length = is.length
  | [], [], [], σ, e, h, _, _, f => ⟨e.s, h.drop0, f, rfl⟩
  | i :: is, .d d :: rs, v :: vs, σ, e, h, nv, q, f => by
    have h1 := h.setS i q.1
    have q2 : IsRs K G (σ.set i (some v)) τ vs rs := isRs_nov (fun m z => nv m (List.mem_cons_of_mem _ z)) q.2
    obtain ⟨s', a, b, c⟩ := fill_ok h1 (fun m z => nv m (List.mem_cons_of_mem _ z)) q2 f
    exact ⟨s', a, b, by simp [c]⟩
  | i :: is, .t j :: rs, v :: vs, σ, e, h, nv, q, f => by
    unfold fill at f
    split at f
    · rename_i y hy
      have h1 := h.setT i j q.1 hy
      have q2 : IsRs K G (σ.set i (some v)) τ vs rs := isRs_nov (fun m z => nv m (List.mem_cons_of_mem _ z)) q.2
      obtain ⟨s', a, b, c⟩ := fill_ok h1 (fun m z => nv m (List.mem_cons_of_mem _ z)) q2 f
      exact ⟨s', a, b, by simp [c]⟩
    · exact f.elim
  | _ :: _, .v m :: _, _, _, _, _, nv, _, _ => absurd List.mem_cons_self (nv m)
  | [], .d _ :: _, _, _, _, _, _, _, f => f.elim
  | [], .t _ :: _, _, _, _, _, _, _, f => f.elim
  | [], .v m :: _, _, _, _, _, nv, _, _ => absurd List.mem_cons_self (nv m)
  | _ :: _, [], _, _, _, _, _, _, f => f.elim
  | _ :: _, .d _ :: _, [], _, _, _, _, q, _ => q.elim
  | _ :: _, .t _ :: _, [], _, _, _, _, q, _ => q.elim
  | [], [], _ :: _, _, _, _, _, q, _ => q.elim
theorem fz_mono {e : Sg} {r : R} {k k' : D → Sg → Prop} (h : fz e r k) (m : ∀ d e, k d e → k' d e) : fz e r k' := by
  cases r with
  | d d => exact m _ _ h
  | v i =>
    unfold fz at h ⊢
    revert h
    dsimp only
    split
    · exact m _ _
    · exact m _ _
    · exact id
  | t i =>
    unfold fz at h ⊢
    revert h
    dsimp only
    split
    · exact m _ _
    · exact m _ _
    · exact id
theorem fzV_mono : ∀ {rs : List R} {e : Sg} {k k' : List R → Sg → Prop} (h : fzV e rs k) (m : ∀ r e, k r e → k' r e), fzV e rs k'
  | [], _, _, _, h, m => m _ _ h
  | .d d :: rs, e, k, k', h, m => fzV_mono (rs := rs) (e := e) (k := fun ds e2 => k (.d d :: ds) e2) (k' := fun ds e2 => k' (.d d :: ds) e2) h fun _ _ z => m _ _ z
  | .t d :: rs, e, k, k', h, m => fzV_mono (rs := rs) (e := e) (k := fun ds e2 => k (.t d :: ds) e2) (k' := fun ds e2 => k' (.t d :: ds) e2) h fun _ _ z => m _ _ z
  | .v i :: rs, e, k, k', h, m => by
    unfold fzV at h ⊢
    exact fz_mono h fun d e1 z => fzV_mono z fun _ _ z => m _ _ z
theorem fzV_nov : ∀ {rs : List R} {e : Sg} {k : List R → Sg → Prop}, fzV e rs k → fzV e rs fun rs' e' => (∀ i, R.v i ∉ rs') ∧ k rs' e'
  | [], e, k, h => ⟨(fun i z => by cases z), h⟩
  | .d d :: rs, e, k, h => fzV_mono (rs := rs) (e := e) (fzV_nov (rs := rs) (e := e) (k := fun ds e2 => k (.d d :: ds) e2) h) fun ds e2 hh => ⟨nov_cons (fun i z => by cases z) hh.1, hh.2⟩
  | .t d :: rs, e, k, h => fzV_mono (rs := rs) (e := e) (fzV_nov (rs := rs) (e := e) (k := fun ds e2 => k (.t d :: ds) e2) h) fun ds e2 hh => ⟨nov_cons (fun i z => by cases z) hh.1, hh.2⟩
  | .v i :: rs, e, k, h => by
    unfold fzV at h ⊢
    exact fz_mono h fun d e1 z => fzV_mono (fzV_nov z) fun ds e2 hh => ⟨nov_cons (fun i z => by cases z) hh.1, hh.2⟩
where
  nov_cons {r : R} {rs : List R} (h : ∀ i, R.v i ≠ r) (h2 : ∀ i, R.v i ∉ rs) : ∀ i, R.v i ∉ r :: rs := fun i z => by
    rcases List.mem_cons.mp z with z | z
    · exact h i z
    · exact h2 i z
end
end DL

namespace DL
open PySem PySem.Spec L2
section
variable {K : PySem.W.Frag} {F : Fr} {G H G' H' : Hp} {σ : L2.St} {τ : List V} {e : Sg} {te ta tb : TE} {Te Ta Tb : DT} {t u : TS} {T U : DSt} {tc : TT} {Tc : DTT}

theorem drs_set {i : Nat} (h : DR K F te Te) : DRs K F (tAsg te (gName i)) (dSet i Te) := fun G H σ s A E r t q => by
  refine h G H σ [] _ _ _ r t fun v G1 H1 τ1 e1 r1 s1 h1 i1 t1 => ?_
  obtain ⟨G2, e2, rs, s2, h2, i2, nv, t2⟩ := fzV_ok (vs := [v]) (rs := [r1]) h1 ⟨i1, trivial⟩ (fzV_nov t1)
  match rs, i2, nv, t2 with
  | [r2], i2, nv, t2 =>
    obtain ⟨s', a, b, _⟩ := fill_ok (vs := [v]) h2 nv i2 t2
    exact q.nx G2 H1 _ s' (s1.trans s2) a b
  | [], i2, _, _ => exact i2.elim
  | _ :: _ :: _, i2, _, _ => exact i2.2.elim
theorem drs_par {i j : Nat} {t : TA} {T : DTA} (h : DRA K F t T) : DRs K F (tPar i j t) (dPar [i, j] T) := fun G H σ s A E r t q => by
  refine h G H σ [] _ _ _ r t fun vs G1 H1 τ1 e1 rs1 s1 h1 i1 t1 => ?_
  obtain ⟨G2, e2, rs, s2, h2, i2, nv, t2⟩ := fzV_ok h1 i1 (fzV_nov t1)
  obtain ⟨s', a, b, c⟩ := fill_ok h2 nv i2 t2
  match vs, c, a with
  | [v, w], _, a => exact ⟨v, w, rfl, q.nx G2 H1 _ s' (s1.trans s2) a b⟩
theorem drs_par3 {i j l : Nat} {t : TA} {T : DTA} (h : DRA K F t T) : DRs K F (tPar3 i j l t) (dPar [i, j, l] T) := fun G H σ s A E r t q => by
  refine h G H σ [] _ _ _ r t fun vs G1 H1 τ1 e1 rs1 s1 h1 i1 t1 => ?_
  obtain ⟨G2, e2, rs, s2, h2, i2, nv, t2⟩ := fzV_ok h1 i1 (fzV_nov t1)
  obtain ⟨s', a, b, c⟩ := fill_ok h2 nv i2 t2
  match vs, c, a with
  | [v, w, x], _, a => exact ⟨v, w, x, rfl, q.nx G2 H1 _ s' (s1.trans s2) a b⟩
theorem drs_seq (h : DRs K F t T) (h' : DRs K F u U) : DRs K F (tSeq t u) (dSeq T U) := fun G H σ s A E r x q =>
  h G H σ s _ _ r x ⟨fun G' H σ s z r y => h' G' H σ s A E r y (q.mono z), q.rt, q.bk, q.ct⟩
theorem drs_next : DRs K F tNext dNext := fun G H σ s A E r x q => q.nx G H σ s (Same.refl G) r x
theorem drs_break : DRs K F tBreak dBreak := fun G H σ s A E r x q => q.bk G H σ s (Same.refl G) r x
theorem drs_cont : DRs K F tCont dCont := fun G H σ s A E r x q => q.ct G H σ s (Same.refl G) r x
theorem drs_never : DRs K F tNever dNever := fun G H σ s A E r x q => x.elim
theorem drs_ret (h : DR K F te Te) : DRs K F (tRet te) (dRet Te) := fun G H σ s A E r t q => by
  refine h G H σ [] _ _ _ r t fun v G1 H1 τ1 e1 r1 s1 h1 i1 t1 => ?_
  obtain ⟨G2, e2, d, s2, h2, i2, t2⟩ := fz_ok h1 i1 t1
  exact q.rt G2 H1 σ v d e2.s (s1.trans s2) h2.drop0 i2 t2
theorem drs_retN : DRs K F tRetN dRetN := fun G H σ s A E r t q => q.rt G H σ .non .none s (Same.refl G) r .non t
theorem drs_if (hc : DRT K F tc Tc) (h : DRs K F t T) (h' : DRs K F u U) : DRs K F (tIfS tc t u) (dIfS Tc T U) := fun G H σ s A E r x q => by
  refine hc G H σ [] _ _ _ r x fun b G1 H1 e1 s1 h1 t1 => ?_
  cases b with
  | true => exact h G1 H1 σ e1.s A E h1.drop0 t1 (q.mono s1)
  | false => exact h' G1 H1 σ e1.s A E h1.drop0 t1 (q.mono s1)
theorem drs_drop (h : DR K F te Te) : DRs K F (tDrop te) (dDrop Te) := fun G H σ s A E r t q =>
  h G H σ [] _ _ _ r t fun v G1 H1 τ1 e1 r1 s1 h1 i1 t1 => q.nx G1 H1 σ e1.s s1 h1.drop0 t1
theorem drs_while (hc : DRT K F tc Tc) (h : DRs K F t T) : DRs K F (tWhile tc t) (dWhile Tc T) := fun B H σ s A E r x q => by
  obtain ⟨W, ⟨m, hm⟩, hs⟩ := x
  refine ⟨fun m σ H => ∃ G s, Same B G ∧ Rl K F G H σ [] ⟨s, []⟩ ∧ W m s, ⟨m, B, s, Same.refl B, r, hm⟩, fun m σ H ⟨G, s, z, r, hw⟩ => ?_⟩
  refine hc G H σ [] _ _ _ r (hs m s hw) fun b G1 H1 e1 s1 h1 t1 => ?_
  have z1 := z.trans s1
  cases b with
  | false => exact q.nx G1 H1 σ e1.s z1 h1.drop0 t1
  | true =>
    refine ⟨fun σ' H' => ∃ m', m' < m ∧ ∃ G s, Same B G ∧ Rl K F G H' σ' [] ⟨s, []⟩ ∧ W m' s, fun _ _ z => z, ?_⟩
    have en : EndsOk K F G1 { A with nx := fun s' => ∃ m', m' < m ∧ W m' s', ct := fun s' => ∃ m', m' < m ∧ W m' s', bk := A.nx } { E with nx := fun σ' H' => ∃ m', m' < m ∧ ∃ G s, Same B G ∧ Rl K F G H' σ' [] ⟨s, []⟩ ∧ W m' s, ct := fun σ' H' => ∃ m', m' < m ∧ ∃ G s, Same B G ∧ Rl K F G H' σ' [] ⟨s, []⟩ ∧ W m' s, bk := E.nx } :=
      ⟨fun G H σ s z r ⟨m', a, b⟩ => ⟨m', a, G, s, z1.trans z, r, b⟩, fun G H σ v d s z => q.rt G H σ v d s (z1.trans z), fun G H σ s z => q.nx G H σ s (z1.trans z), fun G H σ s z r ⟨m', a, b⟩ => ⟨m', a, G, s, z1.trans z, r, b⟩⟩
    exact h G1 H1 σ e1.s _ _ h1.drop0 t1 en

/-- an own list of slot i, where it stands -/
theorem Rl.ownAt (h : Rl K F G H σ τ e) {i : Nat} {o : Ow} (q : e.s[i]? = some (.own o)) : ∃ p, σ[i]? = some (some (.ref p)) ∧ Mine F G p ∧ OwOk K G H p o := by
  have l := h.ls
  have hi := (List.getElem?_eq_some_iff.mp q).1
  obtain ⟨x, ex, p, rfl, m, ok⟩ := h.r.at (i := i) (y := .own o) (by rw [List.getElem?_append_left hi]; exact q)
  rw [List.getElem?_append_left (by omega)] at ex
  exact ⟨p, ex, m, ok⟩
theorem Rl.write (h : Rl K F G H σ τ e) {i : Nat} {o o' : Ow} {p : Addr} {u : HO} (q : e.s[i]? = some (.own o)) (ep : σ[i]? = some (some (.ref p))) (ok : OwOk K G (upd H p u) p o') :
    Rl K F G (upd H p u) σ τ ⟨e.s.set i (.own o'), e.t⟩ := by
  have l := h.ls
  have hi := (List.getElem?_eq_some_iff.mp q).1
  have z := h.r.wr (i := i) (o := o) (by rw [List.getElem?_append_left hi]; exact q) (p := p) (by rw [List.getElem?_append_left (by omega)]; exact ep) (u := u) ok
  rw [List.set_append_left _ _ hi] at z
  exact ⟨z, by simpa using l⟩
theorem drs_append {i : Nat} (h : DR K F te Te) : DRs K F (tDrop (tBM K "list" rAppend (tVar i) (tCons te tNil))) (dAppend i Te) := fun G H σ s A E r x q => by
  unfold dAppend at x
  split at x
  · rename_i ds e0
    obtain ⟨p, ep, m, vs, hp, _⟩ := r.ownAt (i := i) e0
    refine ⟨.ref p, ep, .inl ⟨rfl, vs, .inl (.inl hp)⟩, ?_⟩
    refine h G H σ [] _ _ _ r x fun v G1 H1 τ1 e1 r1 s1 h1 i1 t1 => ?_
    obtain ⟨G2, e2, d, s2, h2, i2, t2⟩ := fz_ok h1 i1 t1
    split at t2
    · rename_i ds2 e3
      obtain ⟨p2, ep2, m2, vs2, hp2, da⟩ := h2.ownAt (i := i) e3
      rw [ep] at ep2
      cases ep2
      refine ⟨p, vs2, v, rfl, rfl, hp2, by rw [dpAll_len da]; exact t2.1, ?_⟩
      exact q.nx G2 _ σ _ (s1.trans s2) (h2.drop0.write (e := ⟨e2.s, []⟩) e3 ep (o' := .lst (ds2 ++ [d])) ⟨_, upd_same, dpAll_append da (dpAll_one i2)⟩) t2.2
    · exact t2.elim
  · exact x.elim
theorem drs_setIx {i : Nat} {tk : TE} {Tk : DT} (h : DR K F te Te) (hk : DR K F tk Tk) : DRs K F (tAsg te (gSub (tVar i) tk rSetL)) (dSetIx i Tk Te) := fun G H σ s A E r x q => by
  refine h G H σ [] _ _ _ r x fun v G1 H1 τ1 e1 r1 s1 h1 i1 t1 => ?_
  obtain ⟨G2, e2, d, s2, h2, i2, t2⟩ := fz_ok h1 i1 t1
  split at t2
  · rename_i ds e0
    obtain ⟨p, ep, m, vs, hp, _⟩ := h2.ownAt (i := i) e0
    refine ⟨.ref p, ep, ?_⟩
    refine hk G2 H1 σ [] ⟨e2.s, []⟩ _ _ h2.drop0 t2 fun w G3 H3 τ3 e3 rk s3 h3 i3 t3 => ?_
    obtain ⟨dk, sk, t4⟩ := see_ok h3 i3 t3
    split at t4
    · rename_i j
      split at t4
      · rename_i ds3 e4
        split at t4
        · rename_i n en
          obtain ⟨p2, ep2, m2, vs2, hp2, da⟩ := h3.ownAt (i := i) e4
          rw [ep] at ep2
          cases ep2
          refine ⟨p, vs2, j, n, rfl, sk.int, hp2, by rw [dpAll_len da]; exact en, ?_⟩
          exact q.nx G3 _ σ _ ((s1.trans s2).trans s3) (h3.drop0.write (e := ⟨e3.s, []⟩) e4 ep (o' := .lst (ds3.set n d)) ⟨_, upd_same, dpAll_set (dp_mono s3 _ _ i2) n da⟩) t4
        · exact t4.elim
      · exact t4.elim
    · exact t4.elim
  · exact t2.elim
/-- x += e, numbers -/
def dAug (i : Nat) (f : D → D → (Res → Prop) → Prop) (T : DT) : DSt := fun A s => match s[i]? with
  | some (.val x) => T ⟨s, []⟩ fun r e1 => see e1 r fun y => f x y fun z => match z with
    | .d d => A.nx (e1.s.set i (.val d))
    | .l _ => False
  | _ => False
def PiD (K : PySem.W.Frag) (r : TIp) (f : D → D → (Res → Prop) → Prop) : Prop := ∀ G H x y dx dy k (Q : VK), Same G H → Dp K G x dx → Sn K G H y dy → f dx dy k → (∀ v d, (∀ G, Dp K G v d) → k (.d d) → Q v H) → r x y H Q
def fAddI : D → D → (Res → Prop) → Prop
  | .int i, .int j, k => k (.d (.int (i + j)))
  | _, _, _ => False
theorem pi_add : PiD K (ipI fun i j => i + j) fAddI := fun G H x y dx dy k Q s sx sy t q => by
  unfold fAddI at t
  split at t
  · cases sx
    cases sy.int
    exact ⟨_, _, rfl, rfl, q _ _ (fun _ => .int _) t⟩
  · exact t.elim
theorem drs_aug {i : Nat} {r : TIp} {f : D → D → (Res → Prop) → Prop} (ho : PiD K r f) (h : DR K F te Te) : DRs K F (tAug i te r) (dAug i f Te) := fun G H σ s A E rr x q => by
  unfold dAug at x
  split at x
  · rename_i d e0
    have l := rr.ls
    have hi := (List.getElem?_eq_some_iff.mp e0).1
    obtain ⟨y, ey, v, rfl, dv⟩ := rr.r.at (i := i) (y := .val d) (by rw [List.getElem?_append_left hi]; exact e0)
    rw [List.getElem?_append_left (by show i < σ.length; simp at l; omega)] at ey
    refine ⟨v, ey, ?_⟩
    refine h G H σ [] _ _ _ rr x fun w G1 H1 τ1 e1 r1 s1 h1 i1 t1 => ?_
    obtain ⟨dy, sy, t2⟩ := see_ok h1 i1 t1
    refine ho G1 H1 v w d dy _ _ h1.r.b.sub (dp_mono s1 _ _ dv) sy t2 fun z dz hz kz => ?_
    exact q.nx G1 H1 _ _ s1 (h1.drop0.setS (e := ⟨e1.s, []⟩) i (hz G1)) kz
  · exact x.elim
end
end DL

/-! Loops and comprehensions over data. -/
namespace DL
open PySem PySem.Spec L2

/-- J yields xs, whatever else is laid meanwhile -/
def ItOk (K : PySem.W.Frag) (B : Hp) (J : It) (xs : List D) : Prop := ∀ F G H, RlB F G H → Same B G → ∀ i,
  (∀ d, xs[i]? = some d → J.go i H ∧ ∀ x H2, J.yld i H x H2 → ∃ G2, Step F G H G2 H2 ∧ Dp K G2 x d) ∧ (xs.length ≤ i → J.stop i H)
abbrev DTI := Sg → (List D → Sg → Prop) → Prop
def DRi (K : PySem.W.Frag) (F : Fr) (wi : TI) (T : DTI) : Prop := ∀ G H σ τ e k (Q : It → Hp → Prop), Rl K F G H σ τ e → T e k →
  (∀ J G' H' τ' e' xs, Same G G' → Rl K F G' H' σ (τ ++ τ') e' → ItOk K G' J xs → k xs e' → Q J H') → wi σ H Q
abbrev DTg := D → List Sl → (List Sl → Prop) → Prop
def DRg (K : PySem.W.Frag) (g : TG) (T : DTg) : Prop := ∀ F G H σ s v d k (Q : L2.St → Hp → Prop), Rl K F G H σ [] ⟨s, []⟩ → Dp K G v d → T d s k →
  (∀ σ' s', Rl K F G H σ' [] ⟨s', []⟩ → k s' → Q σ' H) → g v σ H Q
def dName (i : Nat) : DTg := fun d s k => k (s.set i (.val d))
abbrev DTgs := List D → List Sl → (List Sl → Prop) → Prop
def DRgs (K : PySem.W.Frag) (g : TGs) (T : DTgs) : Prop := ∀ F G H σ s vs ds k (Q : L2.St → Hp → Prop), Rl K F G H σ [] ⟨s, []⟩ → DpAll K G vs ds → T ds s k →
  (∀ σ' s', Rl K F G H σ' [] ⟨s', []⟩ → k s' → Q σ' H) → g vs σ H Q
def dgNil : DTgs := fun ds s k => ds = [] ∧ k s
def dgCons (t : DTg) (u : DTgs) : DTgs := fun ds s k => match ds with
  | d :: r => t d s fun s1 => u r s1 k
  | [] => False
def dgTup (n : Nat) (t : DTgs) : DTg := fun d s k => match d with
  | .tuple ds => ds.length = n ∧ t ds s k
  | _ => False

def forGo (tg : DTg) (T : DSt) (A : DEnds) : List D → List Sl → Prop
  | [], s => A.nx s
  | x :: xs, s => tg x s fun s1 => T { A with nx := forGo tg T A xs, ct := forGo tg T A xs, bk := A.nx } s1
def dFor (Ti : DTI) (tg : DTg) (T : DSt) : DSt := fun A s => Ti ⟨s, []⟩ fun xs e1 => forGo tg T A xs e1.s

def wipeS (s : List Sl) : List Nat → List Sl
  | [] => s
  | v :: vs => (wipeS s vs).set v .no
def lcGo (tg : DTg) (Tc : DTT) (Te : DT) (vs : List Nat) : List D → List D → List Sl → (List D → List Sl → Prop) → Prop
  | [], acc, s, k => k acc s
  | x :: xs, acc, s, k => tg x s fun s1 => Tc ⟨s1, []⟩ fun b e2 =>
    if b = true then Te ⟨e2.s, []⟩ fun r e3 => fz e3 r fun d e4 => lcGo tg Tc Te vs xs (acc ++ [d]) (wipeS e4.s vs) k else lcGo tg Tc Te vs xs acc (wipeS e2.s vs) k
/-- no state of draws among what was just made -/
def noSts : List Sl → Bool
  | [] => true
  | .st _ :: _ => false
  | _ :: r => noSts r
theorem noSts_get : ∀ {t : List Sl} {i : Nat} {B : Int}, noSts t = true → t[i]? = some (.st B) → False
  | [], _, _, _, h => by cases h
  | .st _ :: _, _, _, h, _ => by cases h
  | .no :: r, i, B, h, e => by
    cases i with
    | zero => cases e
    | succ i => exact noSts_get (t := r) h e
  | .val _ :: r, i, B, h, e => by
    cases i with
    | zero => cases e
    | succ i => exact noSts_get (t := r) h e
  | .own _ :: r, i, B, h, e => by
    cases i with
    | zero => cases e
    | succ i => exact noSts_get (t := r) h e
  | .scr _ :: r, i, B, h, e => by
    cases i with
    | zero => cases e
    | succ i => exact noSts_get (t := r) h e
theorem noSts_app : ∀ {t u : List Sl}, noSts t = true → noSts u = true → noSts (t ++ u) = true
  | [], _, _, h => h
  | .st _ :: _, _, h, _ => by cases h
  | .no :: r, u, h, e => noSts_app (t := r) h e
  | .val _ :: r, u, h, e => noSts_app (t := r) h e
  | .own _ :: r, u, h, e => noSts_app (t := r) h e
  | .scr _ :: r, u, h, e => noSts_app (t := r) h e
theorem noSts_take : ∀ {t : List Sl} (n : Nat), noSts t = true → noSts (t.take n) = true
  | [], n, _ => by cases n <;> rfl
  | _ :: _, 0, _ => rfl
  | .st _ :: _, n + 1, h => by cases h
  | .no :: r, n + 1, h => noSts_take (t := r) n h
  | .val _ :: r, n + 1, h => noSts_take (t := r) n h
  | .own _ :: r, n + 1, h => noSts_take (t := r) n h
  | .scr _ :: r, n + 1, h => noSts_take (t := r) n h
def dLc (Ti : DTI) (tg : DTg) (Tc : DTT) (Te : DT) (vs : List Nat) : DT := fun e k => Ti e fun xs e1 => noSts e1.t = true ∧ xs.length < sizeLine ∧ lcGo tg Tc Te vs xs [] (wipeS e1.s vs) fun acc s =>
  k (.t e.t.length) ⟨s, e1.t.take e.t.length ++ [Sl.own (Ow.lst acc)]⟩
def dYes : DTT := fun e k => k true e

section
variable {K : PySem.W.Frag} {F : Fr} {G H G' H' : Hp} {σ : L2.St} {τ : List V} {e : Sg} {te : TE} {Te : DT} {tb : TS} {T : DSt} {wi : TI} {Ti : DTI} {g : TG} {tg : DTg} {tt : TT} {Tt : DTT}

theorem drg_name {i : Nat} : DRg K (gName i) (dName i) := fun F G H σ s v d k Q r hd t q => q _ _ (r.setS (e := ⟨s, []⟩) i hd) t
theorem drgs_nil : DRgs K gNil dgNil := fun F G H σ s vs ds k Q r hd t q => by
  obtain ⟨rfl, t⟩ := t
  cases hd
  exact ⟨rfl, q _ _ r t⟩
theorem drgs_cons {u : TGs} {U : DTgs} (h : DRg K g tg) (h' : DRgs K u U) : DRgs K (gCons g u) (dgCons tg U) := fun F G H σ s vs ds k Q r hd t q => by
  cases hd with
  | nil => exact t.elim
  | cons a b => exact ⟨_, _, rfl, h F G H σ s _ _ _ _ r a t fun σ' s' r' t' => h' F G H σ' s' _ _ _ _ r' b t' q⟩
theorem drg_tup {n : Nat} {u : TGs} {U : DTgs} (h : DRgs K u U) : DRg K (gTup K n u) (dgTup n U) := fun F G H σ s v d k Q r hd t q => by
  unfold dgTup at t
  split at t
  · cases hd with
    | tup a b => exact ⟨_, _, rfl, sqT_mono r.r.b.sub a, by rw [dpAll_len b]; exact t.1, h F G H σ s _ _ _ _ r b t.2 q⟩
  · exact t.elim

theorem drs_for (hi : DRi K F wi Ti) (hg : DRg K g tg) (h : DRs K F tb T) : DRs K F (tFor wi g tb) (dFor Ti tg T) := fun B H σ s A E r x q => by
  refine hi B H σ [] _ _ _ r x fun J G1 H1 τ1 e1 xs s1 h1 it t1 => ?_
  refine ⟨fun i m σ H => ∃ G s, Same G1 G ∧ Rl K F G H σ [] ⟨s, []⟩ ∧ i ≤ xs.length ∧ m = xs.length - i ∧ forGo tg T A (xs.drop i) s, ⟨xs.length, G1, e1.s, Same.refl G1, h1.drop0, Nat.zero_le _, rfl, t1⟩, fun i m σ H ⟨G, s, z, r, hle, hm, f⟩ => ?_⟩
  by_cases hlt : i < xs.length
  · have ex : xs[i]? = some xs[i] := List.getElem?_eq_getElem hlt
    obtain ⟨go, yl⟩ := (it F G H r.r.b z i).1 _ ex
    rw [List.drop_eq_getElem_cons hlt] at f
    refine .inr ⟨go, fun σ' H' => ∃ G s, Same G1 G ∧ Rl K F G H' σ' [] ⟨s, []⟩ ∧ forGo tg T A (xs.drop (i + 1)) s, fun σ' H' ⟨G, s, z, r, f⟩ => ⟨xs.length - (i + 1), by omega, G, s, z, r, hlt, rfl, f⟩, fun v H2 y => ?_⟩
    obtain ⟨G2, st, dv⟩ := yl v H2 y
    refine hg F G2 H2 σ s v _ _ _ (r.step st) dv f fun σ' s' r' f' => ?_
    have z2 := z.trans st.g
    refine h G2 H2 σ' s' _ _ r' f' ⟨fun G H σ s w r x => ⟨G, s, z2.trans w, r, x⟩, fun G H σ v d s w => q.rt G H σ v d s ((s1.trans z2).trans w), fun G H σ s w => q.nx G H σ s ((s1.trans z2).trans w), fun G H σ s w r x => ⟨G, s, z2.trans w, r, x⟩⟩
  · have e0 : i = xs.length := by omega
    subst e0
    rw [List.drop_length] at f
    exact .inl ⟨(it F G H r.r.b z xs.length).2 (Nat.le_refl _), q.nx G H σ s (s1.trans z) r f⟩

/-! ### objects at P stand still for a while -/
open Classical in
noncomputable def hidF (F : Fr) (H : Hp) (P : Addr → Prop) : Fr := ⟨F.S, F.G0, fun b => if P b then H b else F.H0 b⟩
structure Hid (F : Fr) (G H : Hp) (P : Addr → Prop) : Prop where
  m : ∀ b, P b → Mine F G b
  ex : ∀ b, P b → ∃ o, H b = some o
theorem hid_at {P : Addr → Prop} {b : Addr} (h : P b) : (hidF F H P).H0 b = H b := if_pos h
theorem hid_no {P : Addr → Prop} {b : Addr} (h : ¬ P b) : (hidF F H P).H0 b = F.H0 b := if_neg h
theorem hid_in {P : Addr → Prop} (r : RlB F G H) (x : Hid F G H P) : RlB (hidF F H P) G H := by
  refine ⟨r.sub, r.mono, fun b o e n => ?_, fun b o e => ?_, r.ste⟩
  · by_cases h : P b
    · rw [hid_at h] at e
      exact e
    · rw [hid_no h] at e
      exact r.keep b o e n
  · by_cases h : P b
    · have := (x.m b h).g
      rw [e] at this
      cases this
    · rw [hid_no h]
      exact r.grow b o e
theorem hid_out {P : Addr → Prop} (r : RlB F G H) (x : Hid F G H P) (c : RlB (hidF F H P) G' H') (s : Same G G') : RlB F G' H' ∧ ∀ b, P b → H' b = H b ∧ G' b = none := by
  have at_ : ∀ b, P b → H' b = H b ∧ G' b = none := fun b h => by
    obtain ⟨o, ho⟩ := x.ex b h
    have k := c.keep b o (by rw [hid_at h]; exact ho) (x.m b h).s
    refine ⟨by rw [k, ho], ?_⟩
    cases q : G' b with
    | none => rfl
    | some y =>
      rcases c.grow b y q with z | z
      · have := r.mono b y z
        rw [(x.m b h).g] at this
        cases this
      · rw [hid_at h, ho] at z
        cases z
  refine ⟨⟨c.sub, c.mono, fun b o e n => ?_, fun b o e => ?_, c.ste⟩, at_⟩
  · by_cases h : P b
    · have := (x.m b h).h
      rw [e] at this
      cases this
    · exact c.keep b o (by rw [hid_no h]; exact e) n
  · rcases c.grow b o e with z | z
    · exact .inl z
    · by_cases h : P b
      · exact .inr (x.m b h).h
      · rw [hid_no h] at z
        exact .inr z

theorem wipeS_len (s : List Sl) : ∀ vs : List Nat, (wipeS s vs).length = s.length
  | [] => rfl
  | v :: vs => by rw [wipeS, List.length_set, wipeS_len s vs]
theorem wipeS_get (s : List Sl) {i : Nat} : ∀ {vs : List Nat} {y : Sl}, (wipeS s vs)[i]? = some y → (i ∈ vs ∧ y = .no) ∨ (i ∉ vs ∧ s[i]? = some y)
  | [], y, h => .inr ⟨by simp, h⟩
  | v :: vs, y, h => by
    rw [wipeS] at h
    by_cases hv : v = i
    · subst hv
      have l := (List.getElem?_eq_some_iff.mp h).1
      rw [List.length_set] at l
      rw [List.getElem?_set_self l] at h
      cases h
      exact .inl ⟨List.mem_cons_self, rfl⟩
    · rw [List.getElem?_set_ne hv] at h
      rcases wipeS_get s h with ⟨a, b⟩ | ⟨a, b⟩
      · exact .inl ⟨List.mem_cons_of_mem _ a, b⟩
      · exact .inr ⟨fun z => (List.mem_cons.mp z).elim (fun z => hv z.symm) a, b⟩
theorem wipe_get {σ : L2.St} {i : Nat} : ∀ {vs : List Nat}, i ∉ vs → (wipe σ vs)[i]? = σ[i]?
  | [], _ => rfl
  | v :: vs, h => by
    unfold wipe
    rw [List.getElem?_set_ne (fun z => h (by rw [z]; exact List.mem_cons_self))]
    exact wipe_get fun z => h (List.mem_cons_of_mem _ z)

/-- what was just made and is one's own -/
def OwnT (τ : List V) (t : List Sl) (b : Addr) : Prop := ∃ (j : Nat) (o : Ow), τ[j]? = some (V.ref b) ∧ t[j]? = some (Sl.own o)
theorem Rl.own_t {s t : List Sl} (r : Rl K F G H σ τ ⟨s, t⟩) {b : Addr} (h : OwnT τ t b) : Mine F G b ∧ ∃ o, H b = some o := by
  obtain ⟨j, o, a, c⟩ := h
  obtain ⟨p, e1, m, ok⟩ := r.slotT (e := ⟨s, t⟩) c a
  cases e1
  obtain ⟨x, hx, _⟩ := ok.some
  exact ⟨m, x, hx⟩
theorem Rl.hid {s t : List Sl} (r : Rl K F G H σ τ ⟨s, t⟩) : Hid F G H (OwnT τ t) := ⟨fun b h => (r.own_t h).1, fun b h => (r.own_t h).2⟩
theorem Rl.posT {s t : List Sl} (r : Rl K F G H σ τ ⟨s, t⟩) {j : Nat} {v : V} {o : Sl} (a : τ[j]? = some v) (c : t[j]? = some o) :
    (σ ++ τ.map some)[σ.length + j]? = some (some v) ∧ (s ++ t)[σ.length + j]? = some o := by
  have l : s.length = σ.length := r.ls
  refine ⟨?_, ?_⟩
  · rw [List.getElem?_append_right (by omega), Nat.add_sub_cancel_left, List.getElem?_map, a]
    rfl
  · rw [List.getElem?_append_right (by omega), l, Nat.add_sub_cancel_left]
    exact c
theorem Rl.posS {s t : List Sl} (r : Rl K F G H σ τ ⟨s, t⟩) {j : Nat} {v : Option V} {o : Sl} (a : σ[j]? = some v) (c : s[j]? = some o) :
    (σ ++ τ.map some)[j]? = some v ∧ (s ++ t)[j]? = some o := by
  refine ⟨?_, ?_⟩
  · rw [List.getElem?_append_left (List.getElem?_eq_some_iff.mp a).1]; exact a
  · rw [List.getElem?_append_left (List.getElem?_eq_some_iff.mp c).1]; exact c
/-- into a block: its own names forgotten, what was just made stands still -/
theorem Rl.into {s t : List Sl} (r : Rl K F G H σ τ ⟨s, t⟩) (vs : List Nat) : Rl K (hidF F H (OwnT τ t)) G H (wipe σ vs) [] ⟨wipeS s vs, []⟩ := by
  have l : s.length = σ.length := r.ls
  refine ⟨⟨hid_in r.r.b r.hid, by simp [wipeS_len, wipe_length, l], fun i x y e1 e2 => ?_, fun i j p o o' e1 e2 e3 e4 => ?_⟩, by simp [wipeS_len, wipe_length, l]⟩
  all_goals simp only [List.map_nil, List.append_nil] at *
  · rcases wipeS_get s e2 with ⟨a, rfl⟩ | ⟨a, b⟩
    · trivial
    · rw [wipe_get a] at e1
      obtain ⟨p1, p2⟩ := r.posS e1 b
      have q := r.r.slot i x y p1 p2
      match y, q, b, p2 with
      | .no, _, _, _ => trivial
      | .val d, ⟨v, c, w⟩, _, _ => exact ⟨v, c, w⟩
      | .st B, ⟨v, c, w⟩, _, _ => exact ⟨v, c, w⟩
      | .scr n, h, _, _ => exact h
      | .own o, ⟨p, c, m, w⟩, b, p2 =>
        subst c
        refine ⟨p, rfl, ⟨m.g, ?_, m.s⟩, w⟩
        have nP : ¬ OwnT τ t p := fun ⟨j, o', u1, u2⟩ => by
          obtain ⟨q1, q2⟩ := r.posT u1 u2
          have := r.r.dis _ _ p _ _ p1 q1 p2 q2
          have := (List.getElem?_eq_some_iff.mp e1).1
          omega
        rw [hid_no nP]
        exact m.h
  · rcases wipeS_get s e3 with ⟨_, z⟩ | ⟨a, b⟩
    · cases z
    · rcases wipeS_get s e4 with ⟨_, z⟩ | ⟨a', b'⟩
      · cases z
      · rw [wipe_get a] at e1
        rw [wipe_get a'] at e2
        obtain ⟨p1, p2⟩ := r.posS e1 b
        obtain ⟨p3, p4⟩ := r.posS e2 b'
        exact r.r.dis i j p o o' p1 p3 p2 p4
/-- out of the block -/
theorem Rl.outof {s t s' : List Sl} {σ2 : L2.St} (r : Rl K F G H σ τ ⟨s, t⟩) (vs : List Nat) (c : Rl K (hidF F H (OwnT τ t)) G' H' σ2 [] ⟨s', []⟩) (w : wipe σ2 vs = wipe σ vs) (sm : Same G G') (nt : noSts t = true) :
    Rl K F G' H' σ τ ⟨wipeS s' vs, t⟩ := by
  have l : s.length = σ.length := r.ls
  have lw : σ2.length = σ.length := by
    have := congrArg List.length w
    rwa [wipe_length, wipe_length] at this
  have l2 : s'.length = σ2.length := c.ls
  have lt : t.length = τ.length := r.tl
  obtain ⟨b, st⟩ := hid_out r.r.b r.hid c.r.b sm
  have ge : ∀ i, i ∉ vs → σ2[i]? = σ[i]? := fun i hi => by
    rw [← wipe_get (σ := σ2) hi, w, wipe_get hi]
  -- one place
  have one : ∀ (i : Nat) (x : Option V) (y : Sl), (σ ++ τ.map some)[i]? = some x → (wipeS s' vs ++ t)[i]? = some y → (y = .no ∨ (i < σ.length ∧ σ2[i]? = some x ∧ s'[i]? = some y) ∨ (σ.length ≤ i ∧ ∃ v, x = some v ∧ τ[i - σ.length]? = some v ∧ t[i - σ.length]? = some y)) := fun i x y e1 e2 => by
    by_cases hi : i < σ.length
    · rw [List.getElem?_append_left hi] at e1
      rw [List.getElem?_append_left (by rw [wipeS_len]; omega)] at e2
      rcases wipeS_get s' e2 with ⟨_, z⟩ | ⟨a, b⟩
      · exact .inl z
      · exact .inr (.inl ⟨hi, by rw [ge i a]; exact e1, b⟩)
    · rw [List.getElem?_append_right (by omega), List.getElem?_map] at e1
      rw [List.getElem?_append_right (by rw [wipeS_len]; omega), wipeS_len, l2, lw] at e2
      obtain ⟨v, hv, rfl⟩ := Option.map_eq_some_iff.mp e1
      exact .inr (.inr ⟨by omega, v, rfl, hv, e2⟩)
  have own1 : ∀ {i : Nat} {p : Addr} {o : Ow}, σ2[i]? = some (some (.ref p)) → s'[i]? = some (.own o) → Mine F G' p ∧ OwOk K G' H' p o ∧ ¬ OwnT τ t p := fun {i p o} e1 e2 => by
    obtain ⟨q1, q2⟩ := c.posS e1 e2
    obtain ⟨p', z, m, ok⟩ := c.r.slot i _ _ q1 q2
    cases z
    have nP : ¬ OwnT τ t p := fun h => by
      obtain ⟨u, hu⟩ := (r.own_t h).2
      have := m.h
      rw [hid_at h, hu] at this
      cases this
    have := m.h
    rw [hid_no nP] at this
    exact ⟨⟨m.g, this, m.s⟩, ok, nP⟩
  refine ⟨⟨b, by simp [wipeS_len, l2, lw, lt], fun i x y e1 e2 => ?_, fun i j p o o' e1 e2 e3 e4 => ?_⟩, by show (wipeS s' vs).length = _; rw [wipeS_len, l2, lw]⟩
  · rcases one i x y e1 e2 with rfl | ⟨hi, a1, a2⟩ | ⟨hi, v, rfl, a1, a2⟩
    · trivial
    · obtain ⟨q1, q2⟩ := c.posS a1 a2
      have q := c.r.slot i x y q1 q2
      match y, q, a2 with
      | .no, _, _ => trivial
      | .val d, ⟨v, c, w⟩, _ => exact ⟨v, c, w⟩
      | .st B, ⟨v, c, w⟩, _ => exact ⟨v, c, w⟩
      | .scr n, h, _ => exact h
      | .own o, ⟨p, z, m, w⟩, a2 =>
        subst z
        obtain ⟨m1, ok, _⟩ := own1 a1 a2
        exact ⟨p, rfl, m1, ok⟩
    · have q := r.slotT (e := ⟨s, t⟩) a2 a1
      match y, q, a2 with
      | .no, _, _ => trivial
      | .val d, ⟨v, c, w⟩, _ => exact ⟨v, c, dp_mono sm _ _ w⟩
      | .st B, _, a2 => exact (noSts_get nt a2).elim
      | .scr n, ⟨a, xs, e, h, l⟩, _ => exact ⟨a, xs, e, sm.seq h, l⟩
      | .own o, ⟨p, z, m, ok⟩, a2 =>
        cases z
        obtain ⟨e5, e6⟩ := st p ⟨_, o, a1, a2⟩
        exact ⟨p, rfl, ⟨e6, m.h, m.s⟩, ok.mono sm e5⟩
  · rcases one i _ _ e1 e3 with z | ⟨hi, a1, a2⟩ | ⟨hi, v, z, a1, a2⟩
    · cases z
    · rcases one j _ _ e2 e4 with z | ⟨hj, b1, b2⟩ | ⟨hj, v, z, b1, b2⟩
      · cases z
      · obtain ⟨q1, q2⟩ := c.posS a1 a2
        obtain ⟨q3, q4⟩ := c.posS b1 b2
        exact c.r.dis i j p o o' q1 q3 q2 q4
      · cases z
        exact absurd ⟨_, o', b1, b2⟩ (own1 a1 a2).2.2
    · cases z
      rcases one j _ _ e2 e4 with z | ⟨hj, b1, b2⟩ | ⟨hj, v, z, b1, b2⟩
      · cases z
      · exact absurd ⟨_, o, a1, a2⟩ (own1 b1 b2).2.2
      · cases z
        obtain ⟨q1, q2⟩ := r.posT a1 a2
        obtain ⟨q3, q4⟩ := r.posT b1 b2
        have := r.r.dis _ _ p o o' q1 q3 q2 q4
        omega
theorem drt_yes : DRT K F tYes dYes := fun G H σ τ e k Q r t q => q true G H e (Same.refl G) r t

/-- a target that stores the block's own names alone -/
def Blk (g : TG) (vs : List Nat) : Prop := ∀ v σ H Q Q', g v (wipe σ vs) H Q → (∀ σ2 H2, wipe σ2 vs = wipe σ vs → Q σ2 H2 → Q' σ2 H2) → g v (wipe σ vs) H Q'
theorem wipe_none {j : Nat} : ∀ {vs : List Nat} {σ : L2.St}, j ∈ vs → j < σ.length → (wipe σ vs)[j]? = some none
  | [], _, h, _ => by cases h
  | v :: vs, σ, h, hl => by
    unfold wipe
    by_cases hv : v = j
    · subst hv
      rw [List.getElem?_set_self (by rw [wipe_length]; exact hl)]
    · rw [List.getElem?_set_ne hv]
      exact wipe_none ((List.mem_cons.mp h).resolve_left fun z => hv z.symm) hl
theorem wipe_ext {vs : List Nat} {σ σ' : L2.St} (hl : σ.length = σ'.length) (h : ∀ j, j ∉ vs → σ[j]? = σ'[j]?) : wipe σ vs = wipe σ' vs := by
  apply List.ext_getElem?
  intro j
  by_cases hj : j ∈ vs
  · by_cases hb : j < σ.length
    · rw [wipe_none hj hb, wipe_none hj (by omega)]
    · rw [List.getElem?_eq_none (by rw [wipe_length]; omega), List.getElem?_eq_none (by rw [wipe_length]; omega)]
  · rw [wipe_get hj, wipe_get hj, h j hj]
theorem wipe_wipe (σ : L2.St) (vs : List Nat) : wipe (wipe σ vs) vs = wipe σ vs := wipe_ext (wipe_length _ _) fun j hj => wipe_get hj
theorem wipe_set (σ : L2.St) {i : Nat} {vs : List Nat} (h : i ∈ vs) (x : Option V) : wipe (σ.set i x) vs = wipe σ vs :=
  wipe_ext (by simp) fun j hj => List.getElem?_set_ne (show i ≠ j from fun z => hj (z ▸ h))
theorem blk_name {i : Nat} {vs : List Nat} (h : i ∈ vs) : Blk (gName i) vs := fun v σ H Q Q' q f => f _ _ ((wipe_set _ h _).trans (wipe_wipe σ vs)) q
/-- several targets -/
def BlkS (t : TGs) (vs : List Nat) : Prop := ∀ xs σ σ0 H Q Q', wipe σ vs = wipe σ0 vs → t xs σ H Q → (∀ σ2 H2, wipe σ2 vs = wipe σ0 vs → Q σ2 H2 → Q' σ2 H2) → t xs σ H Q'
theorem blkS_nil {vs : List Nat} : BlkS gNil vs := fun xs σ σ0 H Q Q' w q f => ⟨q.1, f _ _ w q.2⟩
theorem blkS_name {i : Nat} {vs : List Nat} {u : TGs} (h : i ∈ vs) (hu : BlkS u vs) : BlkS (gCons (gName i) u) vs := fun xs σ σ0 H Q Q' w q f => by
  obtain ⟨v, r, e, q⟩ := q
  refine ⟨v, r, e, hu _ (σ.set i (some v)) σ0 H Q Q' ?_ q f⟩
  exact (wipe_set _ h _).trans w
theorem blk_tup {K : PySem.W.Frag} {n : Nat} {vs : List Nat} {u : TGs} (h : BlkS u vs) : Blk (gTup K n u) vs := fun v σ H Q Q' q f => by
  obtain ⟨a, xs, e, s, l, q⟩ := q
  exact ⟨a, xs, e, s, l, h xs _ σ H Q Q' (wipe_wipe σ vs) q f⟩
theorem wipeS_wipeS (s : List Sl) (vs : List Nat) : wipeS (wipeS s vs) vs = wipeS s vs := by
  apply List.ext_getElem?
  intro j
  cases h2 : (wipeS (wipeS s vs) vs)[j]? with
  | none =>
    have := List.getElem?_eq_none_iff.mp h2
    rw [wipeS_len, wipeS_len] at this
    rw [List.getElem?_eq_none (by rw [wipeS_len]; omega)]
  | some y =>
    rcases wipeS_get _ h2 with ⟨a, rfl⟩ | ⟨a, b⟩
    · have hl : j < (wipeS s vs).length := by
        have := (List.getElem?_eq_some_iff.mp h2).1
        rw [wipeS_len] at this
        exact this
      have hs : (wipeS s vs)[j]? = some ((wipeS s vs)[j]) := List.getElem?_eq_getElem hl
      rcases wipeS_get _ hs with ⟨_, b⟩ | ⟨b, _⟩
      · rw [hs, b]
      · exact absurd a b
    · rw [b]
theorem dr_lc {vs : List Nat} (hi : DRi K F wi Ti) (hg : DRg K g tg) (hw : Blk g vs) (ht : ∀ F, DRT K F tt Tt) (he : ∀ F, DR K F te Te) : DR K F (tLc wi g tt te vs) (dLc Ti tg Tt Te vs) := fun B H σ τ e k Q r x q => by
  have hl := r.tl
  refine hi B H σ τ _ _ _ r x fun J G1 H1 τ1 e1 xs s1 h1 it t1 => ?_
  obtain ⟨hnt, hz, t1⟩ := t1
  have nT : ∀ acc, noSts (e1.t.take e.t.length ++ [Sl.own (Ow.lst acc)]) = true := fun acc => noSts_app (noSts_take _ hnt) rfl
  intro X hX
  have h1c := h1.cut' hl
  -- what was made ahead, and the new list
  have base : Rl K F G1 (upd H1 X (.lst [])) σ (τ ++ [.ref X]) ⟨e1.s, e1.t.take e.t.length ++ [Sl.own (Ow.lst [])]⟩ := by
    obtain ⟨st, ok⟩ := res_new (F := F) (K := K) h1c.r.b hX (vs := []) (ds := []) .nil
    obtain ⟨p, ws, ep, _, hp', m, da⟩ := ok
    cases ep
    refine ⟨?_, h1c.ls⟩
    have z := (h1c.step st).r.push (some (.ref X)) (.own (.lst [])) ⟨X, rfl, m, ws, hp', da⟩ fun q o e1 e2 j o' a b => by
      cases e1
      exact own_some h1c a b hX
    simpa [DL.cut] using z
  have lt : (e1.t.take e.t.length).length = τ.length := h1c.tl
  refine ⟨fun i m H => ∃ G s acc, Same G1 G ∧ Rl K F G H σ (τ ++ [.ref X]) ⟨wipeS s vs, e1.t.take e.t.length ++ [Sl.own (Ow.lst acc)]⟩ ∧ i ≤ xs.length ∧ m = xs.length - i ∧ acc.length ≤ i ∧
    lcGo tg Tt Te vs (xs.drop i) acc (wipeS s vs) fun acc s => k (.t e.t.length) ⟨s, e1.t.take e.t.length ++ [Sl.own (Ow.lst acc)]⟩, ⟨xs.length, G1, e1.s, [], Same.refl G1, ?_, Nat.zero_le _, rfl, Nat.zero_le _, t1⟩, fun i m H ⟨G, s, acc, z, r, hle, hm, hacc, f⟩ => ?_⟩
  · exact base.outof (s' := e1.s) (σ2 := σ) (G' := G1) (H' := upd H1 X (.lst [])) vs (base.into []) rfl (Same.refl G1) (nT _)
  -- the new list is the last thing made
  have last : ∀ {G H : Hp} {s : List Sl} {acc : List D}, Rl K F G H σ (τ ++ [.ref X]) ⟨s, e1.t.take e.t.length ++ [Sl.own (Ow.lst acc)]⟩ → ∃ ws, H X = some (.lst ws) ∧ DpAll K G ws acc ∧ Mine F G X := fun {G H s acc} r => by
    obtain ⟨p, ep, m, ws, a, b⟩ := r.slotT (e := ⟨s, e1.t.take e.t.length ++ [Sl.own (Ow.lst acc)]⟩) (j := τ.length) (v := .ref X) (y := Sl.own (Ow.lst acc)) (by rw [← lt]; simp) (by simp)
    cases ep
    exact ⟨ws, a, b, m⟩
  by_cases hlt : i < xs.length
  · have ex : xs[i]? = some xs[i] := List.getElem?_eq_getElem hlt
    rw [List.drop_eq_getElem_cons hlt] at f
    obtain ⟨go, _⟩ := (it F G H r.r.b z i).1 _ ex
    refine .inr ⟨go, fun H' => ∃ m', m' < m ∧ ∃ G s acc, Same G1 G ∧ Rl K F G H' σ (τ ++ [.ref X]) ⟨wipeS s vs, e1.t.take e.t.length ++ [Sl.own (Ow.lst acc)]⟩ ∧ (i + 1) ≤ xs.length ∧ m' = xs.length - (i + 1) ∧ acc.length ≤ i + 1 ∧
      lcGo tg Tt Te vs (xs.drop (i + 1)) acc (wipeS s vs) fun acc s => k (.t e.t.length) ⟨s, e1.t.take e.t.length ++ [Sl.own (Ow.lst acc)]⟩, fun H' z => z, fun v H2 y => ?_⟩
    -- the block
    have rin := r.into vs
    obtain ⟨_, yl⟩ := (it _ G H rin.r.b z i).1 _ ex
    obtain ⟨G2, st, dv⟩ := yl v H2 y
    have r2 := rin.step st
    rw [wipeS_wipeS] at r2
    have key : ∀ (C : List Sl → Prop) (P : L2.St → Hp → Prop), tg xs[i] (wipeS s vs) C → (∀ σ3 s3, Rl K (hidF F H (OwnT (τ ++ [V.ref X]) (e1.t.take e.t.length ++ [Sl.own (Ow.lst acc)]))) G2 H2 σ3 [] ⟨s3, []⟩ → wipe σ3 vs = wipe σ vs → C s3 → P σ3 H2) → g v (wipe σ vs) H2 P := fun C P c p =>
      hw v σ H2 (fun σ3 H3 => H3 = H2 ∧ ∃ s3, Rl K (hidF F H (OwnT (τ ++ [V.ref X]) (e1.t.take e.t.length ++ [Sl.own (Ow.lst acc)]))) G2 H2 σ3 [] ⟨s3, []⟩ ∧ C s3) P (hg _ G2 H2 (wipe σ vs) (wipeS s vs) v _ C _ r2 dv c fun σ3 s3 r3 f3 => ⟨rfl, s3, r3, f3⟩)
        fun σ3 H3 w3 ⟨eH, s3, r3, f3⟩ => by
          subst eH
          exact p σ3 s3 r3 w3 f3
    refine key _ _ f fun σ3 s3 r3 w3 f3 => ⟨w3, ?_⟩
    refine ht _ G2 H2 σ3 [] ⟨s3, []⟩ _ _ r3 f3 fun b G4 H4 e4 sm4 r4 f4 => ?_
    have sm : Same G G4 := st.g.trans sm4
    cases b with
    | false =>
      have back := r.outof vs r4.drop0 w3 sm (nT _)
      exact ⟨_, (by omega : xs.length - (i + 1) < m), G4, e4.s, acc, z.trans sm, back, hlt, rfl, by omega, f4⟩
    | true =>
      simp only [if_true] at f4 ⊢
      refine he _ G4 H4 σ3 [] ⟨e4.s, []⟩ _ _ r4.drop0 f4 fun y G5 H5 τ5 e5 r5 sm5 h5 i5 f5 => ?_
      obtain ⟨G6, e6, d, sm6, h6, i6, f6⟩ := fz_ok h5 i5 f5
      have smE : Same G G6 := (sm.trans sm5).trans sm6
      have back := r.outof vs h6.drop0 w3 smE (nT _)
      obtain ⟨ws, hX5, da, mX⟩ := last back
      refine ⟨ws, hX5, by rw [dpAll_len da]; omega, _, (by omega : xs.length - (i + 1) < m), G6, e6.s, acc ++ [d], z.trans smE, ?_, hlt, rfl, by simp; omega, f6⟩
      -- the list grows
      have l2 : (wipeS e6.s vs).length = σ.length := back.ls
      have p1 : (wipeS e6.s vs ++ (e1.t.take e.t.length ++ [Sl.own (Ow.lst acc)]))[σ.length + τ.length]? = some (Sl.own (Ow.lst acc)) := by
        rw [List.getElem?_append_right (by omega), l2, Nat.add_sub_cancel_left, ← lt]
        simp
      have p2 : (σ ++ (τ ++ [V.ref X]).map some)[σ.length + τ.length]? = some (some (.ref X)) := by
        rw [List.getElem?_append_right (by omega), Nat.add_sub_cancel_left]
        simp
      have z2 := back.r.wr p1 p2 (u := .lst (ws ++ [y])) (o' := .lst (acc ++ [d])) ⟨_, upd_same, dpAll_append da (dpAll_one i6)⟩
      have e9 : (wipeS e6.s vs ++ (e1.t.take e.t.length ++ [Sl.own (Ow.lst acc)])).set (σ.length + τ.length) (.own (.lst (acc ++ [d]))) = wipeS e6.s vs ++ (e1.t.take e.t.length ++ [Sl.own (Ow.lst (acc ++ [d]))]) := by
        rw [List.set_append_right _ _ (by omega), l2, Nat.add_sub_cancel_left, List.set_append_right _ _ (by omega), lt, Nat.sub_self]
        rfl
      rw [e9] at z2
      exact ⟨z2, back.ls⟩
  · have e0 : i = xs.length := by omega
    subst e0
    rw [List.drop_length] at f
    refine .inl ⟨(it F G H r.r.b z xs.length).2 (Nat.le_refl _), ?_⟩
    refine q (.ref X) G H [.ref X] _ _ (s1.trans z) r ?_ f
    show (τ ++ [V.ref X])[e.t.length]? = some (V.ref X)
    rw [hl]
    simp
end
end DL

/-! What a loop walks, over data. -/
namespace DL
open PySem PySem.Spec L2

/-! ### a list or a tuple -/
def iSeq (K : PySem.W.Frag) (tl : TE) : TI := fun σ H Q => tl σ H fun x H1 => ∃ a, x = .ref a ∧ (((∃ xs, SqL K H1 a xs) ∧ Q (Itl K a) H1) ∨ ((∃ xs, SqT K H1 a xs) ∧ Q (Itt K a) H1))
section
variable {X : Cx} {tg : Expr}
theorem pi_seq {l : Expr} {tl : TE} (hl : PE X l tl) : PI X tg l (iSeq X.K tl) := by
  refine ⟨fun pins s σ H Q I h => thn (hl.run pins s σ H _ I h) fun v s1 ⟨x, H1, I1, r1, a, e, q⟩ => ?_⟩
  subst e
  cases r1
  have fp : ∀ b ∈ [s1.heap.objs.size], FpOk X pins H1 b := fun b hb => by
    rw [List.mem_singleton.mp hb]
    exact I1.fpOk (Nat.le_refl _) (I1.hok.fresh (Nat.le_refl _))
  rcases q with ⟨⟨xs, hq⟩, q⟩ | ⟨⟨xs, hq⟩, q⟩
  · obtain ⟨its, rv, p, hz⟩ := I1.list hq
    exact wpAny_pyIter_list p.isList ⟨s1.heap.objs.size, [s1.heap.objs.size], _, _, H1, rfl, I1.kept (t' := s1.toks) fun b o e => Heap.get?_push_of_some _ e, turn_list a _, ⟨_, Heap.get?_push_size _ rfl, rfl, rfl⟩, fp, q⟩
  · obtain ⟨its, rv, p, hz⟩ := I1.tuple hq
    exact wpAny_pyIter_tuple (show s1.heap.IsTuple a its.toArray from p) ⟨s1.heap.objs.size, [s1.heap.objs.size], _, _, H1, rfl, I1.kept (t' := s1.toks) fun b o e => Heap.get?_push_of_some _ e, turn_tuple a _, ⟨_, Heap.get?_push_size _ rfl, rfl, rfl⟩, fp, q⟩
end

def dSeqI (T : DT) : DTI := fun e k => T e fun r e1 => fz e1 r fun d e2 => match d with
  | .list xs => k xs e2
  | .tuple xs => k xs e2
  | _ => False
/-- the numbers from lo on -/
def rangeL (lo : Int) (n : Nat) : List D := (List.range n).map fun (i : Nat) => PyData.int (lo + (i : Int))
def rangeC (lo c : Int) (n : Nat) : List D := (List.range n).map fun (i : Nat) => PyData.int (lo + (i : Int) * c)
def dRng1 (T : DTA) : DTI := fun e k => T e fun rs e1 => sees e1 rs fun ds => match ds with
  | [.int j] => (-(2 ^ 62) ≤ j ∧ j < 2 ^ 62) ∧ k (rangeL 0 j.toNat) e1
  | _ => False
def dRng2 (T : DTA) : DTI := fun e k => T e fun rs e1 => sees e1 rs fun ds => match ds with
  | [.int i, .int j] => (-(2 ^ 62) ≤ i ∧ i < 2 ^ 62 ∧ -(2 ^ 62) ≤ j ∧ j < 2 ^ 62) ∧ k (rangeL i (j - i).toNat) e1
  | _ => False
def dRng3 (T : DTA) : DTI := fun e k => T e fun rs e1 => sees e1 rs fun ds => match ds with
  | [.int i, .int j, .int c] => ∃ n, RgC i j c n ∧ k (rangeC i c n) e1
  | _ => False
def enumL (xs : List D) : List D := xs.mapIdx fun (i : Nat) x => PyData.tuple [.int (i : Int), x]
def zipL (xs ys : List D) : List D := List.zipWith (fun x y => PyData.tuple [x, y]) xs ys
def dEnum (T : DTA) : DTI := fun e k => T e fun rs e1 => fzs e1 rs fun ds e2 => match ds with
  | [.list xs] => k (enumL xs) e2
  | _ => False
def dZip (T : DTA) : DTI := fun e k => T e fun rs e1 => fzs e1 rs fun ds e2 => match ds with
  | [.list xs, .list ys] => k (zipL xs ys) e2
  | _ => False

section
variable {K : PySem.W.Frag} {F : Fr} {G : Hp} {te : TE} {Te : DT} {ta : TA} {Ta : DTA}
theorem it_list {a : Addr} {vs : List V} {xs : List D} (h : Rd G a (.lst vs)) (d : DpAll K G vs xs) : ItOk K G (Itl K a) xs := fun F G1 H r s i => by
  have hs : SqL K H a vs := .inl (rd_mono (s.trans r.sub) h)
  refine ⟨fun y e => ?_, fun hi => ⟨vs, hs, by rw [dpAll_len d]; exact hi⟩⟩
  obtain ⟨v, hv, dv⟩ := dpAll_get d i y e
  refine ⟨⟨vs, v, hs, hv⟩, fun x H2 ⟨e2, q⟩ => ?_⟩
  subst e2
  rw [q vs hs] at hv
  cases hv
  exact ⟨G1, Step.refl r, dp_mono s _ _ dv⟩
theorem it_tup {a : Addr} {vs : List V} {xs : List D} (h : SqT K G a vs) (d : DpAll K G vs xs) : ItOk K G (Itt K a) xs := fun F G1 H r s i => by
  have hs : SqT K H a vs := sqT_mono (s.trans r.sub) h
  refine ⟨fun y e => ?_, fun hi => ⟨vs, hs, by rw [dpAll_len d]; exact hi⟩⟩
  obtain ⟨v, hv, dv⟩ := dpAll_get d i y e
  refine ⟨⟨vs, v, hs, hv⟩, fun x H2 ⟨e2, q⟩ => ?_⟩
  subst e2
  rw [q vs hs] at hv
  cases hv
  exact ⟨G1, Step.refl r, dp_mono s _ _ dv⟩
theorem dri_seq (h : DR K F te Te) : DRi K F (iSeq K te) (dSeqI Te) := fun G H σ τ e k Q r t q => by
  refine h G H σ τ e _ _ r t fun v G1 H1 τ1 e1 r1 s1 h1 i1 t1 => ?_
  obtain ⟨G2, e2, d, s2, h2, dv, t2⟩ := fz_ok h1 i1 t1
  split at t2
  · cases dv with
    | lst a b => exact ⟨_, rfl, .inl ⟨⟨_, .inl (rd_mono h2.r.b.sub a)⟩, q _ G2 H1 τ1 e2 _ (s1.trans s2) h2 (it_list a b) t2⟩⟩
  · cases dv with
    | tup a b => exact ⟨_, rfl, .inr ⟨⟨_, sqT_mono h2.r.b.sub a⟩, q _ G2 H1 τ1 e2 _ (s1.trans s2) h2 (it_tup a b) t2⟩⟩
  · exact t2.elim
theorem it_rng (lo : Int) (n : Nat) : ItOk K G (Itr lo n) (rangeL lo n) := fun F G1 H r s i => by
  refine ⟨fun d e => ?_, fun hi => show n ≤ i by simpa [rangeL] using hi⟩
  have hi : i < n := by
    have := (List.getElem?_eq_some_iff.mp e).1
    simpa [rangeL] using this
  refine ⟨hi, fun x H2 ⟨e2, q⟩ => ?_⟩
  subst e2
  refine ⟨G1, Step.refl r, ?_⟩
  unfold rangeL at e
  rw [List.getElem?_map, List.getElem?_range hi] at e
  cases e
  rw [q]
  exact .int _
theorem it_rngC (lo c : Int) (n : Nat) : ItOk K G (Itc lo c n) (rangeC lo c n) := fun F G1 H r s i => by
  refine ⟨fun d e => ?_, fun hi => show n ≤ i by simpa [rangeC] using hi⟩
  have hi : i < n := by
    have := (List.getElem?_eq_some_iff.mp e).1
    simpa [rangeC] using this
  refine ⟨hi, fun x H2 ⟨e2, q⟩ => ?_⟩
  subst e2
  refine ⟨G1, Step.refl r, ?_⟩
  unfold rangeC at e
  rw [List.getElem?_map, List.getElem?_range hi] at e
  cases e
  rw [q]
  exact .int _
theorem sns3 {G H : Hp} {xs : List V} {d e f : D} (h : Sns K G H xs [d, e, f]) : ∃ x y z, xs = [x, y, z] ∧ Sn K G H x d ∧ Sn K G H y e ∧ Sn K G H z f := by
  match xs, h with
  | [x, y, z], h => exact ⟨x, y, z, rfl, h.1, h.2.1, h.2.2.1⟩
  | [_], h => exact h.2.elim
  | [_, _], h => exact h.2.2.elim
  | _ :: _ :: _ :: _ :: _, h => exact h.2.2.2.elim
theorem dri_rng1 (h : DRA K F ta Ta) : DRi K F (iRng1 ta) (dRng1 Ta) := fun G H σ τ e k Q r t q => by
  refine h G H σ τ e _ _ r t fun vs G1 H1 τ1 e1 rs1 s1 h1 i1 t1 => ?_
  obtain ⟨ds, sx, t2⟩ := sees_ok h1 i1 t1
  split at t2
  · obtain ⟨x, rfl, sy⟩ := sns1 sx
    cases sy.int
    exact ⟨_, rfl, t2.1.1, t2.1.2, q _ G1 H1 τ1 e1 _ s1 h1 (it_rng 0 _) t2.2⟩
  · exact t2.elim
theorem dri_rng2 (h : DRA K F ta Ta) : DRi K F (iRng2 ta) (dRng2 Ta) := fun G H σ τ e k Q r t q => by
  refine h G H σ τ e _ _ r t fun vs G1 H1 τ1 e1 rs1 s1 h1 i1 t1 => ?_
  obtain ⟨ds, sx, t2⟩ := sees_ok h1 i1 t1
  split at t2
  · obtain ⟨x, y, rfl, sa, sb⟩ := sns2 sx
    cases sa.int
    cases sb.int
    exact ⟨_, _, rfl, t2.1, q _ G1 H1 τ1 e1 _ s1 h1 (it_rng _ _) t2.2⟩
  · exact t2.elim
theorem dri_rng3 (h : DRA K F ta Ta) : DRi K F (iRng3 ta) (dRng3 Ta) := fun G H σ τ e k Q r t q => by
  refine h G H σ τ e _ _ r t fun vs G1 H1 τ1 e1 rs1 s1 h1 i1 t1 => ?_
  obtain ⟨ds, sx, t2⟩ := sees_ok h1 i1 t1
  split at t2
  · obtain ⟨x, y, z, rfl, sa, sb, sc⟩ := sns3 sx
    cases sa.int
    cases sb.int
    cases sc.int
    obtain ⟨n, rg, t2⟩ := t2
    exact ⟨_, _, _, n, rfl, rg, q _ G1 H1 τ1 e1 _ s1 h1 (it_rngC _ _ _) t2⟩
  · exact t2.elim
theorem it_enum {a : Addr} {vs : List V} {xs : List D} (h : Rd G a (.lst vs)) (d : DpAll K G vs xs) : ItOk K G (Ite K a) (enumL xs) := fun F G1 H r s i => by
  have hs : SqL K H a vs := .inl (rd_mono (s.trans r.sub) h)
  refine ⟨fun y e => ?_, fun hi => ⟨vs, hs, by rw [dpAll_len d]; simpa [enumL] using hi⟩⟩
  unfold enumL at e
  rw [List.getElem?_mapIdx] at e
  obtain ⟨y', hy, rfl⟩ := Option.map_eq_some_iff.mp e
  obtain ⟨v, hv, dv⟩ := dpAll_get d i y' hy
  refine ⟨⟨vs, v, hs, hv⟩, fun x H2 ⟨T, x', e1, hT, e2, q⟩ => ?_⟩
  subst e1
  subst e2
  rw [q vs hs] at hv
  cases hv
  have dl : DpAll K G1 [.int (i : Nat), v] [.int (i : Int), y'] := .cons (.int _) (.cons (dp_mono s _ _ dv) .nil)
  obtain ⟨st, ok⟩ := res_tup r hT dl
  exact ⟨_, st, ok⟩
theorem it_zip {a b : Addr} {vs ws : List V} {xs ys : List D} (h : Rd G a (.lst vs)) (d : DpAll K G vs xs) (h' : Rd G b (.lst ws)) (d' : DpAll K G ws ys) : ItOk K G (Itz K a b) (zipL xs ys) := fun F G1 H r s i => by
  have hs : SqL K H a vs := .inl (rd_mono (s.trans r.sub) h)
  have hs' : SqL K H b ws := .inl (rd_mono (s.trans r.sub) h')
  refine ⟨fun y e => ?_, fun hi => ⟨vs, ws, hs, hs', ?_⟩⟩
  · unfold zipL at e
    rw [List.getElem?_zipWith] at e
    cases hx : xs[i]? with
    | none => rw [hx] at e; cases e
    | some x =>
      cases hy : ys[i]? with
      | none => rw [hx, hy] at e; cases e
      | some z =>
        rw [hx, hy] at e
        cases e
        obtain ⟨v, hv, dv⟩ := dpAll_get d i x hx
        obtain ⟨w, hw, dw⟩ := dpAll_get d' i z hy
        refine ⟨⟨vs, ws, v, w, hs, hs', hv, hw⟩, fun x H2 ⟨T, x', y', e1, hT, e2, q, q'⟩ => ?_⟩
        subst e1
        subst e2
        rw [q vs hs] at hv
        rw [q' ws hs'] at hw
        cases hv
        cases hw
        obtain ⟨st, ok⟩ := res_tup r hT (.cons (dp_mono s _ _ dv) (.cons (dp_mono s _ _ dw) .nil))
        exact ⟨_, st, ok⟩
  · rw [dpAll_len d, dpAll_len d']
    simp only [zipL, List.length_zipWith] at hi
    omega
theorem dri_enum (h : DRA K F ta Ta) : DRi K F (iEnum K ta) (dEnum Ta) := fun G H σ τ e k Q r t q => by
  refine h G H σ τ e _ _ r t fun vs G1 H1 τ1 e1 rs1 s1 h1 i1 t1 => ?_
  obtain ⟨G2, e2, ds, s2, h2, dv, t2⟩ := fzs_ok h1 i1 t1
  split at t2
  · cases dv with
    | cons a b =>
      cases b
      cases a with
      | lst a b => exact ⟨_, _, rfl, .inl (rd_mono h2.r.b.sub a), q _ G2 H1 τ1 e2 _ (s1.trans s2) h2 (it_enum a b) t2⟩
  · exact t2.elim
theorem dri_zip (h : DRA K F ta Ta) : DRi K F (iZip K ta) (dZip Ta) := fun G H σ τ e k Q r t q => by
  refine h G H σ τ e _ _ r t fun vs G1 H1 τ1 e1 rs1 s1 h1 i1 t1 => ?_
  obtain ⟨G2, e2, ds, s2, h2, dv, t2⟩ := fzs_ok h1 i1 t1
  split at t2
  · cases dv with
    | cons a b =>
      cases b with
      | cons b c =>
        cases c
        cases a with
        | lst a a' =>
          cases b with
          | lst b b' => exact ⟨_, _, _, _, rfl, .inl (rd_mono h2.r.b.sub a), .inl (rd_mono h2.r.b.sub b), q _ G2 H1 τ1 e2 _ (s1.trans s2) h2 (it_zip a a' b b') t2⟩
  · exact t2.elim

/-! ### slices -/
abbrev DTO := Sg → (Option Int → Sg → Prop) → Prop
def DRO (K : PySem.W.Frag) (F : Fr) (to : TO) (T : DTO) : Prop := ∀ G H σ τ e k (Q : Option Int → Hp → Prop), Rl K F G H σ τ e → T e k →
  (∀ o G' H' e', Same G G' → Rl K F G' H' σ τ e' → k o e' → Q o H') → to σ H Q
def dNoPart : DTO := fun e k => k none e
def dPart (T : DT) : DTO := fun e k => T e fun r e1 => see e1 r fun d => match d with
  | .int i => k (some i) (cut e1 e.t.length)
  | _ => False
theorem dro_none : DRO K F tNoPart dNoPart := fun G H σ τ e k Q r t q => q none G H e (Same.refl G) r t
theorem dro_some (h : DR K F te Te) : DRO K F (tPart te) (dPart Te) := fun G H σ τ e k Q r t q => by
  have hl := r.tl
  refine h G H σ τ e _ _ r t fun v G1 H1 τ1 e1 r1 s1 h1 i1 t1 => ?_
  obtain ⟨d, sx, t2⟩ := see_ok h1 i1 t1
  split at t2
  · exact ⟨_, sx.int, q _ G1 H1 _ s1 (h1.cut' hl) t2⟩
  · exact t2.elim
def fSl (d : D) (lo hi : Option Int) (k : Res → Prop) : Prop :=
  match d with
  | .list ds => k (.l (cutL ds lo hi))
  | .tuple ds => k (.d (.tuple (cutL ds lo hi)))
  | .str z => z.length ≤ sizeLine ∧ k (.d (.str (Txt.slice z lo hi)))
  | _ => False
def rSlD (K : PySem.W.Frag) : V → Option Int → Option Int → Hp → VK → Prop := fun x lo hi H Q => rSlL K x lo hi H Q ∨ rSlA K x lo hi H Q ∨ C8.rSlX x lo hi H Q
theorem sl_D {X : Cx} : SlR X (rSlD X.K) := SlR.or sl_list (SlR.or sl_tupA C8.sl_txt)
def dSl (T : DT) (Tl Th : DTO) : DT := fun e k => T e fun r e1 => Tl e1 fun lo e2 => Th e2 fun hi e3 => see e3 r fun d => fSl d lo hi fun z => put (cut e3 e.t.length) z k
theorem cut_dp {G : Hp} {vs : List V} {ds : List D} (h : DpAll K G vs ds) (lo hi : Option Int) : DpAll K G (cutV vs lo hi) (cutL ds lo hi) := by
  unfold cutV cutL
  rw [dpAll_len h]
  exact dpAll_take _ (dpAll_drop _ h)
theorem cut_whole {α : Type} {xs : List α} {lo hi : Option Int} (h : HT.sIx xs.length 0 lo = 0 ∧ HT.sIx xs.length xs.length hi = xs.length) : cutL xs lo hi = xs := by
  unfold cutL
  rw [h.1, h.2]
  simp
theorem dr_sl {tl th : TO} {Tl Th : DTO} (h : DR K F te Te) (hl : DRO K F tl Tl) (hh : DRO K F th Th) : DR K F (tSl (rSlD K) te tl th) (dSl Te Tl Th) := fun G H σ τ e k Q r t q => by
  have hlen := r.tl
  refine h G H σ τ e _ _ r t fun v G1 H1 τ1 e1 r1 s1 h1 i1 t1 => ?_
  refine hl G1 H1 σ _ e1 _ _ h1 t1 fun lo G2 H2 e2 s2 h2 t2 => ?_
  refine hh G2 H2 σ _ e2 _ _ h2 t2 fun hi G3 H3 e3 s3 h3 t3 => ?_
  obtain ⟨d, sx, t4⟩ := see_ok h3 ((i1.mono s2).mono s3) t3
  have h4 := h3.cut' hlen
  have sm := (s1.trans s2).trans s3
  unfold fSl at t4
  split at t4
  · obtain ⟨p, vs, rfl, hp, da⟩ := sx.list h3.r.b.sub
    refine .inl ⟨p, vs, rfl, .inl hp, fun l hl => ?_⟩
    obtain ⟨st, ok⟩ := res_new h3.r.b hl (cut_dp da lo hi)
    obtain ⟨τ5, e5, r5, a, b, c⟩ := fin_put h4 st ok t4
    exact q _ _ _ τ5 e5 r5 (sm.trans st.g) a b c
  · rename_i ds
    have sv := sn_tup sx
    obtain ⟨p, vs, rfl, hp, da⟩ := sx.tuple h3.r.b.sub
    have lv := dpAll_len da
    refine .inr (.inl ⟨p, vs, rfl, hp, fun w => ?_, fun w l hl => ?_⟩)
    · rw [cut_whole (xs := ds) (by rw [← lv]; exact w)] at t4
      exact q _ G3 H3 [] _ (.d _) sm (by rw [List.append_nil]; exact h4) sv t4
    · obtain ⟨st, ok⟩ := res_tup h3.r.b hl (cut_dp da lo hi)
      obtain ⟨τ5, e5, r5, a, b, c⟩ := fin_put h4 st ok t4
      exact q _ _ _ τ5 e5 r5 (sm.trans st.g) a b c
  · exact .inr (.inr ⟨_, sx.str, t4.1, q _ G3 H3 [] _ (.d _) sm (by rw [List.append_nil]; exact h4) (Dp.str _) t4.2⟩)
  · exact t4.elim
/-- xs[::-1] -/
def dRev (T : DT) : DT := fun e k => T e fun r e1 => see e1 r fun d => match d with
  | .list ds => put (cut e1 e.t.length) (.l ds.reverse) k
  | _ => False
theorem dr_rev (h : DR K F te Te) : DR K F (tRevL K te) (dRev Te) := fun G H σ τ e k Q r t q => by
  have hlen := r.tl
  refine h G H σ τ e _ _ r t fun v G1 H1 τ1 e1 r1 s1 h1 i1 t1 => ?_
  obtain ⟨d, sx, t2⟩ := see_ok h1 i1 t1
  split at t2
  · obtain ⟨p, vs, rfl, hp, da⟩ := sx.list h1.r.b.sub
    refine ⟨p, vs, rfl, .inl hp, fun l hl => ?_⟩
    obtain ⟨st, ok⟩ := res_new h1.r.b hl (dpAll_rev da)
    obtain ⟨τ5, e5, r5, a, b, c⟩ := fin_put (h1.cut' hlen) st ok t2
    exact q _ _ _ τ5 e5 r5 (s1.trans st.g) a b c
  · exact t2.elim

/-! ### methods of lists -/
def dBM (f : D → List D → (Res → Prop) → Prop) (T : DT) (Ta : DTA) : DT := fun e k => T e fun r e1 => (see e1 r fun d => tyName d = "list") ∧ Ta e1 fun rs e2 => see e2 r fun d => sees e2 rs fun ds => f d ds fun z => put (cut e2 e.t.length) z k
theorem dr_bm {m : V → List V → Hp → VK → Prop} {f : D → List D → (Res → Prop) → Prop} (ho : MtD K "list" m f) (h : DR K F te Te) (ha : DRA K F ta Ta) : DR K F (tBM K "list" m te ta) (dBM f Te Ta) := fun G H σ τ e k Q r t q => by
  have hlen := r.tl
  refine h G H σ τ e _ _ r t fun v G1 H1 τ1 e1 r1 s1 h1 i1 t1 => ?_
  obtain ⟨t1, t2⟩ := t1
  obtain ⟨d, sx, ed⟩ := see_ok h1 i1 t1
  have ty : tyV K "list" v H1 := by
    have := sx
    cases d <;> simp [tyName] at ed
    obtain ⟨p, vs, rfl, hp, _⟩ := sx.list h1.r.b.sub
    exact .inl ⟨rfl, vs, .inl hp⟩
  refine ⟨ty, ha G1 H1 σ _ e1 _ _ h1 t2 fun xs G2 H2 τ2 e2 rs s2 h2 i2 t3 => ?_⟩
  obtain ⟨d2, sx2, t4⟩ := see_ok h2 ((i1.mono s2).ext) t3
  obtain ⟨ds, sxs, t5⟩ := sees_ok h2 i2 t4
  refine ho F G2 H2 v xs d2 ds _ Q h2.r.b sx2 sxs t5 fun w G3 H3 z st ok kz => ?_
  rw [List.append_assoc] at h2
  obtain ⟨τ3, e3, r3, a, b, c⟩ := fin_put (h2.cut' hlen) st ok kz
  exact q w G3 H3 τ3 e3 r3 ((s1.trans s2).trans st.g) a b c
def mCount : D → List D → (Res → Prop) → Prop
  | .list ds, [.int i], k => match toInts ds with
    | some ns => k (.d (.int ((ns.count i : Nat) : Int)))
    | none => False
  | _, _, _ => False
theorem md_count : MtD K "list" (rCntI K) mCount := fun F G H x xs dx dxs k Q b sx sxs t q => by
  unfold mCount at t
  split at t
  · obtain ⟨y, rfl, sy⟩ := sns1 sxs
    cases sy.int
    split at t
    · rename_i ns e
      obtain ⟨p, rfl, h1⟩ := sn_ints b.sub sx e
      exact ⟨p, ns, _, rfl, rfl, h1, q _ G H (.d (.int _)) (Step.refl b) (Dp.int _) t⟩
    · exact t.elim
  · exact t.elim
/-- the first place of an equal item -/
def idxOf? (d : D) (ds : List D) : Option Nat := ds.findIdx? fun z => PyData.eqv z d
def mIndex : D → List D → (Res → Prop) → Prop
  | .list ds, [d], k => SeqAt.shaped (.list ds) = true ∧ SeqAt.shaped d = true ∧ match idxOf? d ds with
    | some j => k (.d (.int ((j : Nat) : Int)))
    | none => False
  | _, _, _ => False
theorem md_index : MtD K "list" (rIndexD K) mIndex := fun F G H x xs dx dxs k Q b sx sxs t q => by
  unfold mIndex at t
  split at t
  · rename_i _ ds d
    obtain ⟨y, rfl, sy⟩ := sns1 sxs
    obtain ⟨t1, t2, t3⟩ := t
    split at t3
    · rename_i j e
      have sd := toDp _ _ (sx.dp b.sub)
      obtain ⟨p, vs, rfl, hp, da⟩ := sx.list b.sub
      unfold idxOf? at e
      rw [List.findIdx?_eq_some_iff_getElem] at e
      obtain ⟨hj, e1, e2⟩ := e
      refine ⟨p, y, d, ds, j, ds[j], rfl, rfl, sd, toDp _ _ (sy.dp b.sub), t1, t2, List.getElem?_eq_getElem hj, e1, fun m z' hm hz => ?_, q _ G H (.d (.int _)) (Step.refl b) (Dp.int _) t3⟩
      have hml : m < ds.length := by omega
      rw [List.getElem?_eq_getElem hml] at hz
      cases hz
      exact Bool.eq_false_iff.mpr (e2 m hm)
    · exact t3.elim
  · exact t.elim
end
end DL

/-! Defs over data: what a def does (T) and that it does it; calls. No guard of repr stands around any of it. -/
namespace DL
open PySem PySem.Spec L2

/-- a def keeps its promise wherever no repr runs around it -/
structure FnG (P : Program) (w : World) (K : PySem.W.Frag) (mg : Str → Option Value) (base : Heap) (k : Nat) (f : Addr) (fd : FuncData) (ps : List Str) (sp : Sp) : Prop where
  len : ∀ vs H Q E, sp vs H Q E → vs.length = ps.length
  run : ∀ (A : Around) (outer : List Env) (s : Shared) (H : Hp) (args : Args) (us : List Value) (vs : List V) (Q : VK) (E : XK), A.guards = some [] → Room k A → Env0 P w K mg base A outer s H →
    BindsTo s fd args (ps.zip us) → Vals vs us → sp vs H Q E → codeAny (model P w) A (.call (.ref f) args) (CR (L2.CX P w) outer P w H s Q E) s
theorem FnG.mono {P : Program} {w : World} {K : PySem.W.Frag} {mg : Str → Option Value} {base : Heap} {j k : Nat} {f : Addr} {fd : FuncData} {ps : List Str} {sp : Sp} (F : FnG P w K mg base j f fd ps sp) (h : j ≤ k) : FnG P w K mg base k f fd ps sp :=
  ⟨F.len, fun A outer s H args us vs Q E hg hr => F.run A outer s H args us vs Q E hg (hr.mono h)⟩
theorem FnG.imp {P : Program} {w : World} {K : PySem.W.Frag} {mg : Str → Option Value} {base : Heap} {k : Nat} {f : Addr} {fd : FuncData} {ps : List Str} {sp sp' : Sp} (F : FnG P w K mg base k f fd ps sp)
    (h : ∀ vs H Q E, sp' vs H Q E → sp vs H Q E) : FnG P w K mg base k f fd ps sp' :=
  ⟨fun vs H Q E q => F.len vs H Q E (h _ _ _ _ q), fun A outer s H args us vs Q E hg hr he hb hv hs => F.run A outer s H args us vs Q E hg hr he hb hv (h _ _ _ _ hs)⟩

section
variable {P : Program} {w : World} {K : PySem.W.Frag} {mg : Str → Option Value} {base : Heap}
/-- a def by its body's derivation -/
theorem fnG_of {x qual : Str} {params : Arguments} {body : List Stmt} {scope : Scope} {dvs : List V} {kws : List (Str × V)} {f : Addr} {fd : FuncData} {N ps : List Str} {k : Nat} {sp : Sp} (F : FunD K x qual params body scope dvs kws f fd) (S : FnScope N ps scope)
    (len : ∀ vs H Q E, sp vs H Q E → vs.length = ps.length)
    (hbody : ∀ (cdv : Value) (A : Around) (outer : List Env) (s : Shared) (H : Hp) (vs : List V) (Q : VK) (E : XK), Room k (A.deeper (PyProof.Rows.envOfC qual scope s.heap.objs.size f cdv)) → (A.deeper (PyProof.Rows.envOfC qual scope s.heap.objs.size f cdv)).guards = some [] → sp vs H Q E →
      ∃ t, PSs (cxOf (L2.CX P w) P w K mg base N qual scope f cdv A outer s H E) body t ∧ t { nx := fun _ H' => Q .non H', rt := Q } (start N vs) H) : FnG P w K mg base (k + 1) f fd ps sp := by
  obtain ⟨oc, od, dV, kV, doc, pm, an, cdv, ct, osl, rfl, lk, hcd, _, _⟩ := F.ex
  refine ⟨len, fun A outer s H args us vs Q E hg hr e0 hb r hsp => ?_⟩
  have hl := len _ _ _ _ hsp
  have kin : K.In s.heap := e0.mod.kin.keeps fun b o e => (e0.bs b o e).1
  have nolim : s.heap.NoLimit := e0.mod.nolimit.keeps fun b o e => (e0.bs b o e).1
  have kinds : ∀ y ∈ ps.zip us, scope.names.lookup y.1 = some .local ∨ (scope.names.lookup y.1 = some .cell ∧ ((cellsFrom (s.heap.objs.size + 1) scope.names []).lookup y.1).isSome = true) := fun ⟨n, v⟩ hy =>
    (S.par n (List.of_mem_zip hy).1).imp id fun q => ⟨q, PySem.W.cellsFrom_some _ _ _ (.inl q)⟩
  refine codeAny_call_function hr.depth (kin _ _ lk) rfl S.co S.gen rfl (PySem.W.codeRec_of kin hcd) (hb _ _ _ _ ?_)
  refine wpAny_newFunctionEnv_cells S.kind kinds fun env he s1 x => ?_
  subst he
  refine ⟨nolim.keeps x.toInCall.keep, codeAny_func ?_⟩
  obtain ⟨t, ht, hq⟩ := hbody cdv A outer s H vs Q E (hr.deeper _) hg hsp
  have I := inv_start (CX := L2.CX P w) (E := E) S hr.hd e0 hl r x
  refine wpAny_mono (ht.run [] s1 (start N vs) H _ I hq) (fun fl s' hs => ?_) fun e s' hs => hs
  cases fl with
  | ret u =>
    obtain ⟨v, σ', H', J, rv, q⟩ := hs
    exact ⟨v, H', J.os, J.bare, J.base, J.hok, rv, q⟩
  | next =>
    obtain ⟨σ', H', J, q⟩ := hs
    exact ⟨V.non, H', J.os, J.bare, J.base, J.hok, rfl, q⟩
  | brk =>
    obtain ⟨_, _, _, q⟩ := hs
    exact q.elim
  | cont =>
    obtain ⟨_, _, _, q⟩ := hs
    exact q.elim
end
section
variable {X : Cx} {k : Nat} {f : Addr} {fd : FuncData} {ps : List Str} {sp : Sp} {E : XK} {x : Str} {p pos : Pos} {e : Expr} {es : List Expr} {t : TA}
theorem pe_callG (F : FnG X.prog X.w X.K X.mg X.base k f fd ps sp) (hgd : X.A.guards = some []) (hr : Room k X.A) (hg : Gl X x) (hm : X.mg x = some (.ref f)) (hk : PySem.W.keepIn X.K (.ref f) = true) (hb : Binds X.K fd ps []) (hx : Passes (L2.CX X.prog X.w) X E)
    (ha : PA X (e :: es) t) (hdb : (x == ("__debug__" : Str)) = false := by decide) (he : starEach (e :: es) X.env = (false, eval e X.env) :: starEach es X.env := by rfl) (hpl : (backTo pos (starEach es X.env)).any (·.1) = false := by rfl) :
    PE X (.Call (.Name x p) (e :: es) [] pos) (tCall sp [] E t) := by
  refine ⟨fun pins s σ H Q I h => wpAny_Call_Name_kw (ld_glob I hg hm ?_ hdb)⟩
  refine PySem.W.callWith_K (h₀ := X.base) I.ok.mod.kin hk (thn (ha.run pos pins s σ H _ I h) fun us s1 ⟨vs, H1, I1, r, q⟩ => ⟨I1.kIn, ?_⟩) he hpl
  have q : sp vs H1 Q E := by
    have q' : sp (vs ++ []) H1 Q E := q
    rwa [List.append_nil] at q'
  have hl : (us ++ []).length = ps.length := by rw [List.append_nil, ← r.length]; exact F.len _ _ _ _ q
  have bb := hb s1 us I1.kIn hl
  rw [List.append_nil] at bb
  refine wpAny_call (codeAny_mono (F.run X.A X.stack s1 H1 ⟨us, []⟩ us vs Q E hgd hr I1.env0 bb r q) fun r s' hq => ?_)
  cases r with
  | error e => exact hx pins σ H1 s1 e s' I1 hq
  | ok fl =>
    cases fl with
    | ret u => exact I1.after hq
    | next => exact False.elim hq
    | brk => exact False.elim hq
    | cont => exact False.elim hq
end

/-! ### promises over data -/
/-- turns so far, data, what to do with the answer and the turns then, the exceptions let through -/
abbrev DFn := Int → List D → (D → Int → Prop) → (String → Prop) → Prop
def argsOk (b : Bool) (B : Int) (H : Hp) (S : Option StA) (vs ws : List V) : Prop :=
  match b with
  | true => ∃ s, S = some s ∧ vs = .ref s.a :: ws ∧ TurnLe H s B
  | false => S = none ∧ vs = ws
/-- a def of n data (b: the state of draws ahead of them) does T -/
def spD (K : PySem.W.Frag) (cls : String → Addr) (b : Bool) (n : Nat) (T : DFn) : Sp := fun vs H Q E => ∃ (B : Int) (S : Option StA) (G : Hp) (ws : List V) (ds : List D) (k : D → Int → Prop) (kx : String → Prop),
  argsOk b B H S vs ws ∧ ds.length = n ∧ RlB ⟨S, G, H⟩ G H ∧ DpAll K G ws ds ∧ T B ds k kx ∧
  (∀ v G' H' d B', RlB ⟨S, G, H⟩ G' H' → (∀ s, S = some s → TurnLe H' s B') → Dp K G' v d → k d B' → Q v H') ∧ (∀ c G' H', RlB ⟨S, G, H⟩ G' H' → kx c → E (.ref (cls c)) none H')
/-- the wish for exceptions is told by kx -/
def XOk (F : Fr) (cls : String → Addr) (kx : String → Prop) (E : XK) : Prop := ∀ c G' H', RlB F G' H' → kx c → E (.ref (cls c)) none H'
theorem XOk.none {F : Fr} {cls : String → Addr} : XOk F cls (fun _ => False) E0 := fun _ _ _ _ h => h
def initS (b : Bool) (B : Int) (ds : List D) (N : Nat) : List Sl := (if b then [Sl.st B] else []) ++ ds.map .val ++ List.replicate (N - (ds.length + if b then 1 else 0)) .no
def endB (b : Bool) (s : List Sl) (k : Int → Prop) : Prop :=
  match b with
  | true => match s[0]? with
    | some (Sl.st B) => ∃ B', B ≤ B' ∧ k B'
    | _ => False
  | false => k 0
/-- a body as a def -/
def den (b : Bool) (N : Nat) (Bd : (String → Prop) → DSt) : DFn := fun B ds k kx => Bd kx ⟨fun s => endB b s (k .none), fun d s => endB b s (k d), fun _ => False, fun _ => False⟩ (initS b B ds N)
theorem spD_len {K : PySem.W.Frag} {cls : String → Addr} {b : Bool} {n : Nat} {T : DFn} {vs : List V} {H : Hp} {Q : VK} {E : XK} (h : spD K cls b n T vs H Q E) : vs.length = n + if b then 1 else 0 := by
  obtain ⟨B, S, G, ws, ds, k, kx, a, l, r, d, _⟩ := h
  have e := dpAll_len d
  cases b with
  | true =>
    obtain ⟨s, _, rfl, _⟩ := a
    simp [e, l]
  | false =>
    obtain ⟨_, rfl⟩ := a
    simp [e, l]
theorem RlB.start {S : Option StA} {G H G' H' : Hp} {F : Fr} (r : RlB F G H) (hS : S = F.S ∨ S = none) : RlB ⟨S, G, H⟩ G H := by
  refine ⟨r.sub, Same.refl G, fun _ _ e _ => e, fun _ _ e => .inl e, fun s e => ?_⟩
  rcases hS with z | z
  · exact r.ste s (by rw [← z]; exact e)
  · rw [show S = none from z] at e
    cases e
theorem rl_start {K : PySem.W.Frag} {S : Option StA} {G H : Hp} {ws vs : List V} {ds : List D} {b : Bool} {B : Int} {N : List Str} (a : argsOk b B H S vs ws) (r : RlB ⟨S, G, H⟩ G H) (d : DpAll K G ws ds) (hN : vs.length ≤ N.length) :
    Rl K ⟨S, G, H⟩ G H (L2.start N vs) [] ⟨initS b B ds N.length, []⟩ := by
  have e := dpAll_len d
  have lv : vs.length = ds.length + if b then 1 else 0 := by
    cases b with
    | true => obtain ⟨s, _, rfl, _⟩ := a; simp [e]
    | false => obtain ⟨_, rfl⟩ := a; simp [e]
  have ll : (initS b B ds N.length).length = (L2.start N vs).length := by
    unfold initS L2.start
    have hN' := hN
    rw [lv] at hN'
    rw [List.length_append, List.length_append, List.length_append, List.length_map, List.length_map, List.length_replicate, List.length_replicate, lv]
    cases b
    · (try simp at *); (try omega)
    · (try simp at *); (try omega)
  have get : ∀ (i : Nat) (y : Sl), (initS b B ds N.length)[i]? = some y → y = .no ∨ (y = .st B ∧ i = 0 ∧ b = true) ∨ ∃ d, y = .val d ∧ ((b = true ∧ 0 < i ∧ ds[i - 1]? = some d) ∨ (b = false ∧ ds[i]? = some d)) := fun i y h => by
    unfold initS at h
    cases b with
    | true =>
      cases i with
      | zero => simp at h; exact .inr (.inl ⟨h.symm, rfl, rfl⟩)
      | succ i =>
        by_cases hi : i < ds.length
        · simp [List.getElem?_append_left, hi] at h
          exact .inr (.inr ⟨ds[i], h.symm, .inl ⟨rfl, by omega, by simp [hi]⟩⟩)
        · simp [List.getElem?_append_right, hi] at h
          rw [List.getElem?_append_right (by simp; omega), List.getElem?_replicate] at h
          split at h
          · cases h; exact .inl rfl
          · cases h
    | false =>
      by_cases hi : i < ds.length
      · simp [List.getElem?_append_left, hi] at h
        exact .inr (.inr ⟨ds[i], h.symm, .inr ⟨rfl, by simp [hi]⟩⟩)
      · simp only [Bool.false_eq_true, if_false, List.nil_append] at h
        rw [List.getElem?_append_right (by simp; omega), List.getElem?_replicate] at h
        split at h
        · cases h; exact .inl rfl
        · cases h
  have stg : ∀ (i : Nat) (v : V), vs[i]? = some v → (L2.start N vs)[i]? = some (some v) := fun i v h => by
    unfold L2.start
    have := (List.getElem?_eq_some_iff.mp h).1
    rw [List.getElem?_append_left (by simpa using this), List.getElem?_map, h]
    rfl
  refine ⟨⟨r, by simpa using ll, fun i x y e1 e2 => ?_, fun i j p o o' e1 e2 e3 e4 => ?_⟩, ll⟩
  all_goals simp only [List.map_nil, List.append_nil] at *
  · rcases get i y e2 with rfl | ⟨rfl, rfl, rfl⟩ | ⟨dd, rfl, h⟩
    · trivial
    · obtain ⟨s, hs, rfl, tl⟩ := a
      have := stg 0 (.ref s.a) rfl
      rw [this] at e1
      cases e1
      exact ⟨s, hs, rfl, tl⟩
    · rcases h with ⟨rfl, h0, h⟩ | ⟨rfl, h⟩
      · obtain ⟨s, hs, rfl, _⟩ := a
        obtain ⟨v, hv, dv⟩ := dpAll_get d _ _ h
        have := stg i v (by rw [show i = (i - 1) + 1 by omega]; simpa using hv)
        rw [this] at e1
        cases e1
        exact ⟨v, rfl, dv⟩
      · obtain ⟨_, rfl⟩ := a
        obtain ⟨v, hv, dv⟩ := dpAll_get d _ _ h
        rw [stg i v hv] at e1
        cases e1
        exact ⟨v, rfl, dv⟩
  · rcases get i _ e3 with z | ⟨z, _⟩ | ⟨_, z, _⟩ <;> cases z

/-- THE RULE: a def does what its body's denotation says -/
theorem fnD {P : Program} {w : World} {K : PySem.W.Frag} {mg : Str → Option Value} {base : Heap} {cls : String → Addr} {x qual : Str} {params : Arguments} {body : List Stmt} {scope : Scope} {dvs : List V} {kws : List (Str × V)} {f : Addr} {fd : FuncData} {N ps : List Str} {k n : Nat} {b : Bool} {T : DFn}
    (F : FunD K x qual params body scope dvs kws f fd) (S : FnScope N ps scope) (hp : ps.length = n + if b then 1 else 0) (Bd : (String → Prop) → DSt) (hT : ∀ B ds k kx, ds.length = n → T B ds k kx → den b N.length Bd B ds k kx)
    (hbody : ∀ (cdv : Value) (A : Around) (outer : List Env) (s : Shared) (H : Hp) (E : XK), Room k (A.deeper (PyProof.Rows.envOfC qual scope s.heap.objs.size f cdv)) → (A.deeper (PyProof.Rows.envOfC qual scope s.heap.objs.size f cdv)).guards = some [] →
      ∃ t, PSs (cxOf (L2.CX P w) P w K mg base N qual scope f cdv A outer s H E) body t ∧ ∀ Fr kx, XOk Fr cls kx E → DRs K Fr t (Bd kx)) : FnG P w K mg base (k + 1) f fd ps (spD K cls b n T) := by
  refine fnG_of F S (fun vs H Q E h => by rw [spD_len h, hp]) fun cdv A outer s H vs Q E hr hg h => ?_
  obtain ⟨t, ht, hd⟩ := hbody cdv A outer s H E hr hg
  have hlen := spD_len h
  obtain ⟨B, S', G, ws, ds, kk, kx, a, l, r, d, t0, hk, hx⟩ := h
  have fin : ∀ (v : V) (d : D) (G1 H1 : Hp) (σ : L2.St) (sl : List Sl), Rl K ⟨S', G, H⟩ G1 H1 σ [] ⟨sl, []⟩ → Dp K G1 v d → endB b sl (kk d) → Q v H1 := fun v d G1 H1 σ sl r1 dv z => by
    cases b with
    | false =>
      obtain ⟨hS, _⟩ := a
      exact hk v G1 H1 d 0 r1.r.b (fun s e => by rw [hS] at e; cases e) dv z
    | true =>
      obtain ⟨s0, hs, _⟩ := a
      unfold endB at z
      simp only at z
      split at z
      · rename_i B1 e0
        obtain ⟨B', hle, z⟩ := z
        have hi := (List.getElem?_eq_some_iff.mp e0).1
        obtain ⟨x, ex, s1, hs1, hx1, tl⟩ := r1.r.at (i := 0) (y := .st B1) (by rw [List.getElem?_append_left hi]; exact e0)
        exact hk v G1 H1 d B' r1.r.b (fun s e => by rw [show S' = some s1 from hs1] at e; cases e; obtain ⟨u1, u2, u3, u4, u5⟩ := tl; exact ⟨u1, u2, u3, u4, Int.le_trans u5 hle⟩) dv z
      · exact z.elim
  refine ⟨t, ht, hd ⟨S', G, H⟩ kx (fun c G' H' rb z => hx c G' H' rb z) G H _ _ _ _ (rl_start a r d ?_) (hT B ds kk kx l t0) ⟨fun G1 H1 σ s _ r1 z => fin .non .none G1 H1 σ s r1 .non z, fun G1 H1 σ v d s _ r1 dv z => fin v d G1 H1 σ s r1 dv z, fun _ _ _ _ _ _ z => z.elim, fun _ _ _ _ _ _ z => z.elim⟩⟩
  have := congrArg List.length S.pre
  rw [List.length_take] at this
  omega

/-! ### calls -/
def stAll (B : Int) (l : List Sl) : List Sl := l.map (mapSt fun _ => B)
def dCall (n : Nat) (T : DFn) (kx : String → Prop) (Ta : DTA) : DT := fun e k => Ta e fun rs e1 => fzs e1 rs fun ds e2 => ds.length = n ∧ T 0 ds (fun d _ => k (.d d) (cut e2 e.t.length)) kx
/-- the first argument is the state, in slot i -/
def dCallS (i n : Nat) (T : DFn) (kx : String → Prop) (Ta : DTA) : DT := fun e k => match e.s[i]? with
  | some (.st _) => Ta e fun rs e1 => fzs e1 rs fun ds e2 => match e2.s[i]? with
    | some (.st B) => ds.length = n ∧ T B ds (fun d B' => k (.d d) ⟨stAll B' e2.s, stAll B' (e2.t.take e.t.length)⟩) kx
    | _ => False
  | _ => False
section
variable {K : PySem.W.Frag} {F : Fr} {cls : String → Addr} {kx : String → Prop} {E : XK} {T : DFn} {n : Nat} {ta : TA} {Ta : DTA}
theorem dr_call (hE : XOk F cls kx E) (h : DRA K F ta Ta) : DR K F (tCall (spD K cls false n T) [] E ta) (dCall n T kx Ta) := fun G H σ τ e k Q r t q => by
  have hl := r.tl
  refine h G H σ τ e _ _ r t fun vs G1 H1 τ1 e1 rs s1 h1 i1 t1 => ?_
  obtain ⟨G2, e2, ds, s2, h2, da, t3, t2⟩ := fzs_ok h1 i1 t1
  rw [List.append_nil]
  refine ⟨0, none, G2, vs, ds, _, kx, ⟨rfl, rfl⟩, t3, (h2.r.b).start (G' := G2) (H' := H1) (.inr rfl), da, t2, fun v G3 H3 d B' c _ dv kd => ?_, fun c G3 H3 cb z => ?_⟩
  · have st := h2.r.b.callN c
    exact q v G3 H3 [] _ (.d d) ((s1.trans s2).trans st.g) (by rw [List.append_nil]; exact (h2.cut' hl).step st) dv kd
  · exact hE c G3 H3 (h2.r.b.call (.inr rfl) cb).b z
theorem dr_callS {i : Nat} (hE : XOk F cls kx E) (h : DRA K F ta Ta) : DR K F (tCall (spD K cls true n T) [] E (tCons (tVar i) ta)) (dCallS i n T kx Ta) := fun G H σ τ e k Q r t q => by
  have hl := r.tl
  unfold dCallS at t
  split at t
  · rename_i B0 es
    have ls := r.ls
    have li := (List.getElem?_eq_some_iff.mp es).1
    obtain ⟨x, ex, s, hs, hx, _⟩ := r.r.at (i := i) (y := .st B0) (by rw [List.getElem?_append_left li]; exact es)
    rw [List.getElem?_append_left (by omega)] at ex
    refine ⟨.ref s.a, by rw [ex, hx], ?_⟩
    refine h G H σ τ e _ _ r t fun vs G1 H1 τ1 e1 rs s1 h1 i1 t1 => ?_
    obtain ⟨G2, e2, ds, s2, h2, da, t2⟩ := fzs_ok h1 i1 t1
    rw [List.append_nil]
    split at t2
    · rename_i B es2
      have li2 := (List.getElem?_eq_some_iff.mp es2).1
      obtain ⟨t3, t2⟩ := t2
      obtain ⟨x2, ex2, s', hs', hx2, tl⟩ := h2.r.at (i := i) (y := .st B) (by rw [List.getElem?_append_left li2]; exact es2)
      rw [hs] at hs'
      cases hs'
      refine ⟨B, F.S, G2, vs, ds, _, kx, ⟨s, hs, rfl, tl⟩, t3, (h2.r.b).start (G' := G2) (H' := H1) (.inl rfl), da, t2, fun v G3 H3 d B' c tl' dv kd => ?_, fun c G3 H3 cb z => ?_⟩
      · have st := h2.r.b.call (.inl rfl) c
        have hc := h2.cut' hl
        refine q v G3 H3 [] _ (.d d) ((s1.trans s2).trans st.g) ?_ dv kd
        rw [List.append_nil]
        refine ⟨?_, by show (List.map _ _).length = _; rw [List.length_map]; exact hc.ls⟩
        have z := hc.r.step0 st (m := fun _ => B') fun s1 _ e1 _ => tl' s1 e1
        rw [List.map_append] at z
        exact z
      · exact hE c G3 H3 (h2.r.b.call (.inl rfl) cb).b z
    · exact t2.elim
  · exact t.elim
/-! raise -/
def dRaise (kx : String → Prop) (c : String) : DSt := fun _ _ => kx c
theorem drs_raise {c : String} (hE : XOk F cls kx E) : DRs K F (fun _ σ H => E (.ref (cls c)) none H) (dRaise kx c) := fun G H σ s A EE r t q => hE c G H r.r.b t
/-! a target of any shape -/
def dAsg (tg : DTg) (T : DT) : DSt := fun A s => T ⟨s, []⟩ fun r e1 => fz e1 r fun d e2 => tg d e2.s A.nx
theorem drs_asg {te : TE} {Te : DT} {g : TG} {tg : DTg} (h : DR K F te Te) (hg : DRg K g tg) : DRs K F (tAsg te g) (dAsg tg Te) := fun G H σ s A E r t q => by
  refine h G H σ [] _ _ _ r t fun v G1 H1 τ1 e1 r1 s1 h1 i1 t1 => ?_
  obtain ⟨G2, e2, d, s2, h2, i2, t2⟩ := fz_ok h1 i1 t1
  exact hg F G2 H1 σ e2.s v d _ _ h2.drop0 i2 t2 fun σ' s' r' f => q.nx G2 H1 σ' s' (s1.trans s2) r' f
end
end DL

/-! The state of draws: its numbers, its list of great ones, its cells. -/
namespace DL
open PySem PySem.Spec L2

theorem st_rest (s : StA) (r t : Int) : valV (stKvs s r t) (.inr "rest") = some (.int r) := by
  simp [valV, stKvs, show ("great" : Str) ≠ "rest" by decide, show ("cells" : Str) ≠ "rest" by decide]
theorem st_turn (s : StA) (r t : Int) : valV (stKvs s r t) (.inr "turn") = some (.int t) := by
  simp [valV, stKvs, show ("great" : Str) ≠ "turn" by decide, show ("cells" : Str) ≠ "turn" by decide, show ("rest" : Str) ≠ "turn" by decide]
theorem st_great (s : StA) (r t : Int) : valV (stKvs s r t) (.inr "great") = some (.ref s.g) := by
  simp [valV, stKvs]
theorem st_cells (s : StA) (r t : Int) : valV (stKvs s r t) (.inr "cells") = some (.ref s.c) := by
  simp [valV, stKvs, show ("great" : Str) ≠ "cells" by decide]
theorem put_rest (s : StA) (r t n : Int) : putK (stKvs s r t) (.inr "rest") (.int n) = stKvs s n t := by
  simp [putK, stKvs, show ("great" : Str) ≠ "rest" by decide, show ("cells" : Str) ≠ "rest" by decide, show ("turn" : Str) ≠ "rest" by decide]
theorem put_turn (s : StA) (r t n : Int) : putK (stKvs s r t) (.inr "turn") (.int n) = stKvs s r n := by
  simp [putK, stKvs, show ("great" : Str) ≠ "turn" by decide, show ("cells" : Str) ≠ "turn" by decide, show ("rest" : Str) ≠ "turn" by decide]

def dStInt (i : Nat) : DT := fun e k => match e.s[i]? with
  | some (.st _) => ∀ n : Int, k (.d (.int n)) e
  | _ => False
def dStTurn (i : Nat) : DT := fun e k => match e.s[i]? with
  | some (.st B) => ∀ n : Int, 0 ≤ n → n ≤ B → k (.d (.int n)) e
  | _ => False
def dStPop (i : Nat) (T : DT) : DT := fun e k => match e.s[i]? with
  | some (.st _) => (∀ n : Int, k (.d (.int n)) e) ∧ T e k
  | _ => False
def dStCells (i : Nat) : DTI := fun e k => match e.s[i]? with
  | some (.st _) => ∀ ns : List Int, k (dInts ns) e
  | _ => False
def dStPut (i : Nat) (T : DT) : DSt := fun A s => T ⟨s, []⟩ fun r e1 => see e1 r fun d => match e1.s[i]? with
  | some (.st _) => match d with
    | .int _ => A.nx e1.s
    | _ => False
  | _ => False
def dStTurnPut (i : Nat) (T : DT) : DSt := fun A s => T ⟨s, []⟩ fun r e1 => see e1 r fun d => match e1.s[i]? with
  | some (.st _) => match d with
    | .int n => 0 ≤ n ∧ A.nx (stAll n e1.s)
    | _ => False
  | _ => False

mutual
theorem lay_all : ∀ ns : List Int, PyData.canLayAll0 (dInts ns) = true
  | [] => rfl
  | n :: ns => by
    show (PyData.canLay0 (.int n) && PyData.canLayAll0 (dInts ns)) = true
    rw [lay_all ns]
    rfl
end
theorem depth_ints : ∀ ns : List Int, PyData.depthAll (dInts ns) ≤ 1
  | [] => by show PyData.depthAll [] ≤ 1; simp [PyData.depthAll]
  | n :: ns => by
    have := depth_ints ns
    show PyData.depthAll (.int n :: dInts ns) ≤ 1
    simp only [PyData.depthAll, PyData.depth]
    omega
theorem shaped_ints (ns : List Int) : SeqAt.shaped (.list (dInts ns)) = true := by
  have h := depth_ints ns
  show (PyData.canLay0 (.list (dInts ns)) && decide (PyData.depth (.list (dInts ns)) ≤ 64)) = true
  rw [Bool.and_eq_true]
  exact ⟨by simp only [PyData.canLay0]; exact lay_all ns, decide_eq_true (by simp only [PyData.depth]; omega)⟩

section
variable {K : PySem.W.Frag} {F : Fr} {G H : Hp} {σ : L2.St} {τ : List V} {e : Sg} {te tv : TE} {Te Tv : DT}
theorem Rl.stAt (r : Rl K F G H σ τ e) {i : Nat} {B : Int} (q : e.s[i]? = some (.st B)) : ∃ s, F.S = some s ∧ σ[i]? = some (some (.ref s.a)) ∧ StOk H s ∧ TurnLe H s B ∧ G s.a = none ∧ G s.g = none ∧ ∃ ce : List Int, G s.c = some (.lst (ce.map V.int)) := by
  have l := r.ls
  have hi := (List.getElem?_eq_some_iff.mp q).1
  obtain ⟨x, ex, s, hs, hx, tl⟩ := r.r.at (i := i) (y := .st B) (by rw [List.getElem?_append_left hi]; exact q)
  rw [List.getElem?_append_left (by omega)] at ex
  obtain ⟨a, b, c, d⟩ := r.r.b.ste s hs
  exact ⟨s, hs, by rw [ex, hx], a, tl, b, c, d⟩
theorem mapSt_id : ∀ l : List Sl, l.map (mapSt fun B => B) = l
  | [] => rfl
  | y :: l => by
    rw [List.map_cons, mapSt_id l]
    cases y <;> rfl
/-- the state's own objects may be written -/
theorem Rl.wrSt (r : Rl K F G H σ τ e) {s : StA} (hs : F.S = some s) {p : Addr} (hp : p = s.a ∨ p = s.g) {o : HO} (ok : StOk (upd H p o) s) {m : Int → Int} (hm : ∀ B, TurnLe H s B → TurnLe (upd H p o) s (m B)) : Rl K F G (upd H p o) σ τ ⟨e.s.map (mapSt m), e.t.map (mapSt m)⟩ := by
  obtain ⟨_, ga, gg, gc⟩ := r.r.b.ste s hs
  have gp : G p = none := by rcases hp with rfl | rfl <;> assumption
  have np : ∀ b, NotSt F.S b → b ≠ p := fun b n => by
    rcases hp with rfl | rfl
    · exact (n s hs).1
    · exact (n s hs).2
  have st : Step0 F G H G (upd H p o) := by
    refine ⟨Same.refl G, ⟨fun b x h => ?_, r.r.b.mono, fun b x h n => ?_, r.r.b.grow, fun s' hs' => ?_⟩, fun q x e mq => ?_⟩
    · rw [upd_ne (ne_of_none h gp)]
      exact r.r.b.sub b x h
    · rw [upd_ne (np b n)]
      exact r.r.b.keep b x h n
    · rw [hs] at hs'
      cases hs'
      exact ⟨ok, ga, gg, gc⟩
    · rw [upd_ne (np q mq.s)]
      exact ⟨e, mq.g⟩
  refine ⟨?_, by show (List.map _ _).length = _; rw [List.length_map]; exact r.ls⟩
  have z := r.r.step0 st (m := m) fun s' B e1 tl => by
    rw [hs] at e1
    cases e1
    exact hm B tl
  rw [List.map_append] at z
  exact z
theorem Rl.wrSt1 (r : Rl K F G H σ τ e) {s : StA} (hs : F.S = some s) {p : Addr} (hp : p = s.a ∨ p = s.g) {o : HO} (ok : StOk (upd H p o) s) (hm : ∀ B, TurnLe H s B → TurnLe (upd H p o) s B) : Rl K F G (upd H p o) σ τ e := by
  have z := r.wrSt hs hp ok (m := fun B => B) hm
  rw [mapSt_id, mapSt_id] at z
  exact z
theorem kvs_inj {s : StA} {r t r' t' : Int} (h : HO.dK (stKvs s r t) = HO.dK (stKvs s r' t')) : t = t' := by
  simp [stKvs] at h
  exact h.2
theorem dr_stRest {i : Nat} : DR K F (tDGet (tVar i) (tC (.str "rest"))) (dStInt i) := fun G H σ τ e k Q r t q => by
  unfold dStInt at t
  split at t
  · rename_i B es
    obtain ⟨s, hs, hσ, ⟨gr, rr, tt, h1, h2⟩, _⟩ := r.stAt es
    refine ⟨_, hσ, s.a, .int rr, rfl, ?_, q _ G H [] e (.d (.int rr)) (Same.refl G) (by rw [List.append_nil]; exact r) (Dp.int rr) (t rr)⟩
    have := DGet.k (k := .inr "rest") h1
    rwa [st_rest] at this
  · exact t.elim
theorem dr_stTurn {i : Nat} : DR K F (tDGet (tVar i) (tC (.str "turn"))) (dStTurn i) := fun G H σ τ e k Q r t q => by
  unfold dStTurn at t
  split at t
  · rename_i B es
    obtain ⟨s, hs, hσ, ⟨gr, rr, tt, h1, h2⟩, ⟨r1, t1, k1, k2, k3⟩, _⟩ := r.stAt es
    have et : t1 = tt := kvs_inj (Option.some.inj (k1.symm.trans h1))
    subst et
    refine ⟨_, hσ, s.a, .int t1, rfl, ?_, q _ G H [] e (.d (.int t1)) (Same.refl G) (by rw [List.append_nil]; exact r) (Dp.int t1) (t t1 k2 k3)⟩
    have := DGet.k (k := .inr "turn") h1
    rwa [st_turn] at this
  · exact t.elim
theorem drs_stRest {i : Nat} (h : DR K F tv Tv) : DRs K F (sDPut (tVar i) (tC (.str "rest")) tv) (dStPut i Tv) := fun G H σ s A E r t q => by
  refine h G H σ [] _ _ _ r t fun v G1 H1 τ1 e1 r1 s1 h1 i1 t1 => ?_
  obtain ⟨d, sx, t2⟩ := see_ok h1 i1 t1
  split at t2
  · rename_i B est
    split at t2
    · rename_i n
      obtain ⟨sa, hs, hσ, ⟨gr, rr, tt, k1, k2⟩, _⟩ := h1.stAt est
      cases sx.int
      refine ⟨_, hσ, sa.a, _, rfl, DPut.k (k := .inr "rest") k1 (by show 4 < sizeLine; decide), ?_⟩
      rw [put_rest]
      have ne : sa.g ≠ sa.a := ne_of k2 k1 (by intro z; cases z)
      refine q.nx G1 _ σ e1.s s1 (h1.drop0.wrSt1 hs (.inl rfl) ⟨gr, n, tt, upd_same, by rw [upd_ne ne]; exact k2⟩ fun B ⟨r1, t1, a1, a2, a3⟩ => ?_) t2
      have et : t1 = tt := kvs_inj (Option.some.inj (a1.symm.trans k1))
      subst et
      exact ⟨n, t1, upd_same, a2, a3⟩
    · exact t2.elim
  · exact t2.elim
theorem drs_stTurn {i : Nat} (h : DR K F tv Tv) : DRs K F (sDPut (tVar i) (tC (.str "turn")) tv) (dStTurnPut i Tv) := fun G H σ s A E r t q => by
  refine h G H σ [] _ _ _ r t fun v G1 H1 τ1 e1 r1 s1 h1 i1 t1 => ?_
  obtain ⟨d, sx, t2⟩ := see_ok h1 i1 t1
  split at t2
  · rename_i B est
    split at t2
    · rename_i n
      obtain ⟨sa, hs, hσ, ⟨gr, rr, tt, k1, k2⟩, _⟩ := h1.stAt est
      cases sx.int
      refine ⟨_, hσ, sa.a, _, rfl, DPut.k (k := .inr "turn") k1 (by show 4 < sizeLine; decide), ?_⟩
      rw [put_turn]
      have ne : sa.g ≠ sa.a := ne_of k2 k1 (by intro z; cases z)
      have z := h1.drop0.wrSt (m := fun _ => n) hs (.inl rfl) (o := .dK (stKvs sa rr n)) ⟨gr, rr, n, upd_same, by rw [upd_ne ne]; exact k2⟩ fun B _ => ⟨rr, n, upd_same, t2.1, Int.le_refl n⟩
      exact q.nx G1 _ σ _ s1 z t2.2
    · exact t2.elim
  · exact t2.elim
theorem dri_stCells {i : Nat} : DRi K F (iSeq K (tDGet (tVar i) (tC (.str "cells")))) (dStCells i) := fun G H σ τ e k Q r t q => by
  unfold dStCells at t
  split at t
  · rename_i B es
    obtain ⟨s, hs, hσ, ⟨gr, rr, tt, h1, h2⟩, _, _, _, ce, h3⟩ := r.stAt es
    have g := DGet.k (k := .inr "cells") h1
    rw [st_cells] at g
    have rd : Rd G s.c (.lst (ce.map V.int)) := .inl h3
    exact ⟨_, hσ, s.a, _, rfl, g, s.c, rfl, .inl ⟨⟨_, .inl (rd_mono r.r.b.sub rd)⟩, q _ G H [] e (dInts ce) (Same.refl G) (by rw [List.append_nil]; exact r) (it_list rd (dpAll_of_ints ce)) (t ce)⟩⟩
  · exact t.elim
/-- len(script) -/
def dLenScr (i : Nat) : DT := fun e k => match e.s[i]? with
  | some (.scr n) => k (.d (.int (n : Int))) e
  | _ => False
theorem dr_lenScr {i : Nat} : DR K F (tCB (rLenD K) (tCons (tVar i) tNil)) (dLenScr i) := fun G H σ τ e k Q r t q => by
  unfold dLenScr at t
  split at t
  · rename_i n eq
    have l := r.ls
    have hi := (List.getElem?_eq_some_iff.mp eq).1
    obtain ⟨x, ex, a, xs, rfl, h, hl⟩ := r.r.at (i := i) (y := .scr n) (by rw [List.getElem?_append_left hi]; exact eq)
    rw [List.getElem?_append_left (by omega)] at ex
    exact ⟨_, ex, _, n, rfl, .inl ⟨_, r.r.b.sub.seq h, by rw [List.length_map]; exact hl.symm⟩, q _ G H [] e (.d (.int n)) (Same.refl G) (by rw [List.append_nil]; exact r) (Dp.int n) t⟩
  · exact t.elim
/-- state['great'].pop(0) if state['great'] != [] else .. -/
theorem dr_stPop {i : Nat} (h : DR K F te Te) : DR K F (tIf (tTest (tOp (rNeD K) (tDGet (tVar i) (tC (.str "great"))) (tLst tNil))) (tBM K "list" rPopAt (tDGet (tVar i) (tC (.str "great"))) (tCons (tC (.int 0)) tNil)) te) (dStPop i Te) := fun G H σ τ e k Q r t q => by
  unfold dStPop at t
  split at t
  case h_2 => exact t.elim
  rename_i B es
  obtain ⟨t2, t3⟩ := t
  obtain ⟨s, hs, hσ, ⟨gr, rr, tt, h1, h2⟩, _, ga, gg, ce, h3⟩ := r.stAt es
  have g := DGet.k (k := .inr "great") h1
  rw [st_great] at g
  have dg : ∀ {H' : Hp}, Same H H' → L2.Dp K H' (.ref s.g) (.list (dInts gr)) := fun {H'} sm => toDp _ _ (.lst (.inl (sm _ _ h2)) (dpAll_of_ints gr))
  refine ⟨_, hσ, s.a, _, rfl, g, Nat.zero_le _, fun p hp => ?_⟩
  have st := r.r.b.newH (o := .lst []) hp
  have smH : Same H (upd H p (.lst [])) := same_upd hp
  have r1 : Rl K F G (upd H p (.lst [])) σ τ e := r.step st
  refine ⟨.list (dInts gr), .list [], dg smH, toDp _ _ (.lst (.inl upd_same) .nil), shaped_ints gr, shaped_ints [], _, rfl, ?_⟩
  cases gr with
  | nil =>
    have : (!(PyData.list (dInts [])).eqv (.list [])) = false := by simp [dInts, PyData.eqv, PyData.eqvAll]
    rw [this]
    exact h G _ σ τ e k Q r1 t3 q
  | cons n ns =>
    have : (!(PyData.list (dInts (n :: ns))).eqv (.list [])) = true := by simp [dInts, PyData.eqv, PyData.eqvAll]
    rw [this]
    have g' : DGet (upd H p (.lst [])) s.a (.str "great") (some (.ref s.g)) := by
      have z := DGet.k (k := .inr "great") (smH _ _ h1)
      rwa [st_great] at z
    refine ⟨_, hσ, s.a, _, rfl, g', .inl ⟨rfl, _, .inl (.inl (smH _ _ h2))⟩, s.g, _, 0, 0, .int n, rfl, rfl, smH _ _ h2, by decide, by decide, ?_, rfl, ?_⟩
    · simp [seqIndex?]
    · have ne : s.a ≠ s.g := ne_of h1 h2 (by intro z; cases z)
      refine q _ G _ [] e (.d (.int n)) (Same.refl G) ?_ (Dp.int n) (t2 n)
      rw [List.append_nil]
      exact r1.wrSt1 hs (.inr rfl) ⟨ns, rr, tt, by rw [upd_ne ne]; exact smH _ _ h1, upd_same⟩ fun B tl => tl.at (upd_ne ne)
end
end DL

/-! Names for the single readings; how the state begins; the law's own end. -/
namespace DL
open PySem PySem.Spec L2

section
variable {X : Cx}
abbrev rSubD : R2 := rI0 fun i j => .int (i - j)
abbrev rDivD : R2 := rI CDiv fun i j => .int (i / j)
abbrev rModD : R2 := rI (fun _ j => 0 < j) fun i j => .int (i % j)
abbrev rPowD : R2 := rI CPow fun i j => .int (i ^ j.toNat)
abbrev rLtD : R2 := rI0 fun i j => .bl (decide (i < j))
abbrev rLeD : R2 := rI0 fun i j => .bl (decide (i ≤ j))
abbrev rGtD : R2 := rI0 fun i j => .bl (decide (j < i))
abbrev rGeD : R2 := rI0 fun i j => .bl (decide (j ≤ i))
theorem call_absD : CallR X (.builtin "abs") rAbs := call_abs
theorem call_intD : CallR X (.type "int") rInt1 := call_int1
theorem call_listD : CallR X (.type "list") (rListOf X.K) := call_list_of
theorem call_tupleD : CallR X (.type "tuple") (rTupOf X.K) := call_tuple_of
end

def dSeqScr (i : Nat) : DTI := fun e k => match e.s[i]? with
  | some (.scr n) => ∀ ns : List Int, ns.length = n → k (dInts ns) e
  | _ => False
theorem it_sq {K : PySem.W.Frag} {G : Hp} {a : Addr} {vs : List V} {xs : List D} (h : SqL K G a vs) (d : DpAll K G vs xs) : ItOk K G (Itl K a) xs := fun F G1 H r s i => by
  have hs : SqL K H a vs := (s.trans r.sub).seq h
  refine ⟨fun y e => ?_, fun hi => ⟨vs, hs, by rw [dpAll_len d]; exact hi⟩⟩
  obtain ⟨v, hv, dv⟩ := dpAll_get d i y e
  refine ⟨⟨vs, v, hs, hv⟩, fun x H2 ⟨e2, q⟩ => ?_⟩
  subst e2
  rw [q vs hs] at hv
  cases hv
  exact ⟨G1, Step.refl r, dp_mono s _ _ dv⟩
theorem dri_scr {K : PySem.W.Frag} {F : Fr} {i : Nat} : DRi K F (iSeq K (tVar i)) (dSeqScr i) := fun G H σ τ e k Q r t q => by
  unfold dSeqScr at t
  split at t
  · rename_i n eq
    have l := r.ls
    have hi := (List.getElem?_eq_some_iff.mp eq).1
    obtain ⟨x, ex, a, ns, rfl, h, hl⟩ := r.r.at (i := i) (y := .scr n) (by rw [List.getElem?_append_left hi]; exact eq)
    rw [List.getElem?_append_left (by omega)] at ex
    exact ⟨_, ex, a, rfl, .inl ⟨⟨_, r.r.b.sub.seq h⟩, q _ G H [] e _ (Same.refl G) (by rw [List.append_nil]; exact r) (it_sq h (dpAll_of_ints ns)) (t ns hl)⟩⟩
  · exact t.elim
/-- [abs(cell) - 10 ** 18 for cell in script if abs(cell) >= 10 ** 18], cell in slot 2 -/
def tBig (K : PySem.W.Frag) : TE := tLc (iSeq K (tVar 0)) (gName 2) (tTest (tOp rGeD (tCB rAbs (tCons (tVar 2) tNil)) (tOp rPowD (tC (.int 10)) (tC (.int 18))))) (tOp rSubD (tCB rAbs (tCons (tVar 2) tNil)) (tOp rPowD (tC (.int 10)) (tC (.int 18)))) [2]
def tCel (K : PySem.W.Frag) : TE := tLc (iSeq K (tVar 0)) (gName 2) tYes (tCB rAbs (tCons (tVar 2) tNil)) [2]
def dBig : DT := dLc (dSeqScr 0) (dName 2) (dTest (dOp (cD gGe) (dCB fAbs (dCons (dVar 2) dNil)) (dOp fPow (dC (.int 10)) (dC (.int 18))))) (dOp fSub (dCB fAbs (dCons (dVar 2) dNil)) (dOp fPow (dC (.int 10)) (dC (.int 18)))) [2]
def dCel : DT := dLc (dSeqScr 0) (dName 2) dYes (dCB fAbs (dCons (dVar 2) dNil)) [2]
def tBegun (K : PySem.W.Frag) : TS := tSeq (tAsg (tBig K) (gName 1)) (tRet (tDisp [(tC (.str "great"), tVar 1), (tC (.str "cells"), tCel K), (tC (.str "rest"), tC (.int 0)), (tC (.str "turn"), tC (.int 0))]))

def spBegun (K : PySem.W.Frag) : Sp := fun vs H Q _ => ∃ (a : Addr) (ns : List Int), vs = [.ref a] ∧ SqL K H a (ns.map V.int) ∧ ns.length < sizeLine ∧
  ∀ (s : StA) (G' H' : Hp), RlB ⟨none, H, H⟩ G' H' → StOk H' s → TurnLe H' s 0 → H s.a = none → H s.g = none → G' s.a = none → G' s.g = none → (∃ ce : List Int, G' s.c = some (.lst (ce.map V.int))) → Q (.ref s.a) H'

section
variable {K : PySem.W.Frag} {F : Fr}
theorem dr_big : DR K F (tBig K) dBig :=
  dr_lc (dri_scr) drg_name (blk_name (by simp)) (fun F => drt_test (dr_op cm_ge.op (dr_cb ca_abs (dra_cons (dr_var 2) dra_nil)) (dr_op od_pow dr_int dr_int)))
    fun F => dr_op od_sub (dr_cb ca_abs (dra_cons (dr_var 2) dra_nil)) (dr_op od_pow dr_int dr_int)
theorem dr_cel : DR K F (tCel K) dCel :=
  dr_lc (dri_scr) drg_name (blk_name (by simp)) (fun F => drt_yes) fun F => dr_cb ca_abs (dra_cons (dr_var 2) dra_nil)

theorem big_go (x : Sl) (y : Sl) (k : List D → List Sl → Prop) (hk : ∀ gs : List Int, k (dInts gs) [x, y, .no]) : ∀ (ns as : List Int),
    lcGo (dName 2) (dTest (dOp (cD gGe) (dCB fAbs (dCons (dVar 2) dNil)) (dOp fPow (dC (.int 10)) (dC (.int 18))))) (dOp fSub (dCB fAbs (dCons (dVar 2) dNil)) (dOp fPow (dC (.int 10)) (dC (.int 18)))) [2] (dInts ns) (dInts as) [x, y, .no] k
  | [], as => hk as
  | n :: ns, as => by
    show lcGo _ _ _ [2] (.int n :: dInts ns) _ _ k
    have p1 : (10 : Int).natAbs < 2 ^ 64 := by decide
    have e1 : ∀ m : Int, dInts as ++ [PyData.int m] = dInts (as ++ [m]) := fun m => by simp [dInts]
    simp only [lcGo, dName, dTest, dOp, dCB, dCons, dNil, dVar, dC, cD, gGe, fAbs, fPow, fSub, put, cut, see, sees, look, fz, wipeS, List.set_cons_succ, List.set_cons_zero, List.getElem?_cons_succ, List.getElem?_cons_zero, List.take_nil, List.length_nil, e1]
    refine ⟨⟨by decide, by decide, p1⟩, ?_⟩
    split
    · exact ⟨⟨by decide, by decide, p1⟩, big_go x y k hk ns _⟩
    · exact big_go x y k hk ns as
theorem cel_go (x : Sl) (y : Sl) (k : List D → List Sl → Prop) (hk : ∀ gs : List Int, k (dInts gs) [x, y, .no]) : ∀ (ns as : List Int),
    lcGo (dName 2) dYes (dCB fAbs (dCons (dVar 2) dNil)) [2] (dInts ns) (dInts as) [x, y, .no] k
  | [], as => hk as
  | n :: ns, as => by
    show lcGo _ _ _ [2] (.int n :: dInts ns) _ _ k
    have e1 : ∀ m : Int, dInts as ++ [PyData.int m] = dInts (as ++ [m]) := fun m => by simp [dInts]
    simp only [lcGo, dName, dYes, dCB, dCons, dNil, dVar, fAbs, put, cut, see, sees, look, fz, wipeS, List.set_cons_succ, List.set_cons_zero, List.getElem?_cons_succ, List.getElem?_cons_zero, List.take_nil, List.length_nil, e1, if_true]
    exact cel_go x y k hk ns _
theorem dInts_len (ns : List Int) : (dInts ns).length = ns.length := by simp [dInts]

theorem begun_ok {N : List Str} (hN : N.length = 3) (vs : List V) (H : Hp) (Q : VK) (E : XK) (h : spBegun K vs H Q E) : tBegun K { nx := fun _ H' => Q .non H', rt := Q } (start N vs) H := by
  obtain ⟨a, ns, rfl, hr, hl, q⟩ := h
  have b0 : RlB ⟨none, H, H⟩ H H := ⟨Same.refl H, Same.refl H, fun _ _ e _ => e, fun _ _ e => .inl e, fun s e => by cases e⟩
  have es : L2.start N [.ref a] = [some (.ref a), none, none] := by
    unfold L2.start
    rw [hN]
    rfl
  have r0 : Rl K ⟨none, H, H⟩ H H (start N [.ref a]) [] ⟨[.scr ns.length, .no, .no], []⟩ := by
    rw [es]
    refine ⟨⟨b0, rfl, fun i x y e1 e2 => ?_, fun i j p o o' e1 e2 e3 e4 => ?_⟩, rfl⟩
    · match i, e1, e2 with
      | 0, e1, e2 => cases e1; cases e2; exact ⟨a, ns, rfl, hr, rfl⟩
      | 1, e1, e2 => cases e1; cases e2; trivial
      | 2, e1, e2 => cases e1; cases e2; trivial
      | i + 3, e1, e2 => cases e1
    · match i, e3 with
      | 0, e3 => cases e3
      | 1, e3 => cases e3
      | 2, e3 => cases e3
      | i + 3, e3 => cases e3
  refine drs_set (i := 1) dr_big H H _ [.scr ns.length, .no, .no] ⟨fun s => ∃ gs : List Int, s = [.scr ns.length, .own (.lst (dInts gs)), .no], fun _ _ => False, fun _ => False, fun _ => False⟩ _ r0 ?_
    ⟨fun G H1 σ s sm r z => ?_, fun _ _ _ _ _ _ _ _ _ z => z.elim, fun _ _ _ _ _ _ z => z.elim, fun _ _ _ _ _ _ z => z.elim⟩
  · simp only [dSet, dBig, dLc, dSeqI, dVar, fz, List.getElem?_cons_zero]
    intro ms hm
    refine ⟨rfl, by rw [dInts_len, hm]; exact hl, big_go _ _ _ (fun gs => ?_) ms []⟩
    simp only [fzV, fill, List.getElem?_cons_zero, List.length_nil, List.take_nil, List.nil_append, List.set_cons_succ, List.set_cons_zero]
    exact ⟨gs, rfl⟩
  · obtain ⟨gs, rfl⟩ := z
    -- the dict, the list of cells
    intro p hp
    have st := r.r.b.newH (o := .dK []) hp
    have mp := r.r.b.isNew hp
    have r1 : Rl K ⟨none, H, H⟩ G (upd H1 p (.dK [])) σ [.ref p] ⟨[.scr ns.length, .own (.lst (dInts gs)), .no], [.own (.dic [])]⟩ := by
      refine ⟨?_, r.ls⟩
      have z := (r.step st).r.push (some (.ref p)) (.own (.dic [])) ⟨p, rfl, mp, [], upd_same, .nil⟩ fun q o e1 e2 j o' a b => by
        cases e1
        exact own_some r a b hp
      simpa using z
    obtain ⟨pg, eg, mg, vg, hg, dg⟩ := r1.ownAt (i := 1) (o := .lst (dInts gs)) rfl
    refine ⟨_, eg, ?_⟩
    simp only [tPairs, tC]
    refine dr_cel G _ σ [.ref p] ⟨[.scr ns.length, .own (.lst (dInts gs)), .no], [.own (.dic [])]⟩ (fun rr e' => ∃ ce : List Int, rr = .t 1 ∧ e' = ⟨[.scr ns.length, .own (.lst (dInts gs)), .no], [.own (.dic []), .own (.lst (dInts ce))]⟩) _ r1 ?_ fun v G2 H2 τ2 e2 rr sm2 r2 i2 z2 => ?_
    · simp only [dCel, dLc, dSeqI, dVar, fz, List.getElem?_cons_zero]
      intro ms hm
      refine ⟨rfl, by rw [dInts_len, hm]; exact hl, cel_go _ _ _ (fun ce => ?_) ms []⟩
      exact ⟨ce, rfl, rfl⟩
    · obtain ⟨ce, rfl, rfl⟩ := z2
      have tl := r2.tl
      match τ2, tl, r2, i2 with
      | [w], _, r2, i2 =>
        have ew : w = v := by
          have : ([V.ref p] ++ [w])[1]? = some v := i2
          simpa using this
        subst ew
        obtain ⟨p1, e1, m1, ws, hp1, kp⟩ := r2.slotT (e := ⟨_, [.own (.dic []), .own (.lst (dInts ce))]⟩) (j := 0) (y := .own (.dic [])) (v := .ref p) rfl rfl
        cases e1
        cases kp
        obtain ⟨c, e1, m2, vc, hc, dc⟩ := r2.slotT (e := ⟨_, [.own (.dic []), .own (.lst (dInts ce))]⟩) (j := 1) (y := .own (.lst (dInts ce))) (v := w) rfl rfl
        cases e1
        obtain ⟨pg', eg', mg', vg', hg', dg'⟩ := r2.ownAt (i := 1) (o := .lst (dInts gs)) rfl
        rw [eg] at eg'
        cases eg'
        have evc := dpAll_ints dc
        have evg := dpAll_ints dg'
        subst evc
        subst evg
        have npg : p ≠ pg := ne_of hp1 hg' (by intro z; cases z)
        have npc : p ≠ c := ne_of hp1 hc (by intro z; cases z)
        have ngc : pg ≠ c := fun z => by
          subst z
          have e2 : (σ ++ ([V.ref p] ++ [V.ref pg]).map some)[σ.length + 1]? = some (some (V.ref pg)) := by
            rw [List.getElem?_append_right (by omega), Nat.add_sub_cancel_left]
            rfl
          have l3 : σ.length = 3 := r.ls.symm
          have e3 : (σ ++ ([V.ref p] ++ [V.ref pg]).map some)[1]? = some (some (V.ref pg)) := by
            rw [List.getElem?_append_left (by omega)]
            exact eg
          have := r2.r.dis 1 (σ.length + 1) pg _ _ e3 e2 rfl (by rw [l3]; rfl)
          omega
        refine ⟨hp1, [(.inr "great", .ref pg), (.inr "cells", .ref c), (.inr "rest", .int 0), (.inr "turn", .int 0)], rfl, (by show 4 ≤ 15; decide), ?_⟩
        have em : mergeK [] [((.inr "great" : Key), V.ref pg), (.inr "cells", .ref c), (.inr "rest", .int 0), (.inr "turn", .int 0)] = stKvs ⟨p, pg, c⟩ 0 0 := by
          simp [mergeK, putK, stKvs, show ("great" : Str) ≠ "cells" by decide, show ("great" : Str) ≠ "rest" by decide, show ("great" : Str) ≠ "turn" by decide, show ("cells" : Str) ≠ "rest" by decide, show ("cells" : Str) ≠ "turn" by decide, show ("rest" : Str) ≠ "turn" by decide]
        rw [em]
        -- the cells are known from now on
        have b3 := (r2.r.b.wr (p := p) (o := .dK (stKvs ⟨p, pg, c⟩ 0 0)) m1).fz m2 (o := .lst (ce.map V.int)) (by rw [upd_ne npc.symm]; exact hc)
        exact q ⟨p, pg, c⟩ _ _ b3 ⟨gs, 0, 0, upd_same, by rw [upd_ne npg.symm]; exact hg'⟩ ⟨0, 0, upd_same, Int.le_refl 0, Int.le_refl 0⟩ m1.h mg'.h (by show upd G2 c _ p = none; rw [upd_ne npc]; exact m1.g) (by show upd G2 c _ pg = none; rw [upd_ne ngc]; exact mg'.g) ⟨ce, upd_same⟩

/-! ### the law -/
def spLaw (K : PySem.W.Frag) : Sp := fun vs H Q _ => ∃ (a : Addr) (ns : List Int), vs = [.ref a] ∧ SqL K H a (ns.map V.int) ∧ ns.length ≤ 63 ∧ ∀ H', Q (.bl true) H'
/-- the law's slots behind its first row: the script, the state in slot 1 -/
def lawS (n : Nat) (N : Nat) : List Sl := .scr n :: .st 0 :: List.replicate (N - 2) .no
theorem law_ok {N : List Str} (hN : 2 ≤ N.length) {E : XK} {u : TS} {U : DSt} (hu : ∀ Fr, DRs K Fr u U)
    (hU : ∀ n : Nat, n ≤ 63 → U ⟨fun _ => False, fun d _ => d = .bool true, fun _ => False, fun _ => False⟩ (lawS n N.length))
    (vs : List V) (H : Hp) (Q : VK) (E' : XK) (h : spLaw K vs H Q E') : tSeq (tAsg (tCall (spBegun K) [] E (tCons (tVar 0) tNil)) (gName 1)) u { nx := fun _ H' => Q .non H', rt := Q } (start N vs) H := by
  obtain ⟨a, ns, rfl, hr, hl, q⟩ := h
  have b0 : RlB ⟨none, H, H⟩ H H := ⟨Same.refl H, Same.refl H, fun _ _ e _ => e, fun _ _ e => .inl e, fun s e => by cases e⟩
  refine ⟨.ref a, ?_, ?_⟩
  · unfold L2.start
    rfl
  · refine ⟨a, ns, rfl, hr, Nat.lt_of_le_of_lt hl (by decide), fun s G1 H1 b1 ok tl0 n1 n2 g1 g2 g3 => ?_⟩
    have bF : RlB ⟨some s, H, H⟩ G1 H1 := ⟨b1.sub, b1.mono, fun b o e _ => b1.keep b o e (fun s z => by cases z), b1.grow, fun s' e => by cases e; exact ⟨ok, g1, g2, g3⟩⟩
    have r1 : Rl K ⟨some s, H, H⟩ G1 H1 ((start N [.ref a]).set 1 (some (.ref s.a))) [] ⟨lawS ns.length N.length, []⟩ := by
      have len0 : (start N [V.ref a]).length = N.length := by
        unfold L2.start
        simp
        omega
      have ll : (lawS ns.length N.length).length = N.length := by
        unfold lawS
        simp
        omega
      refine ⟨⟨bF, by simp [len0, ll], fun i x y e1 e2 => ?_, fun i j p o o' e1 e2 e3 e4 => ?_⟩, by simp [len0, ll]⟩
      all_goals simp only [List.map_nil, List.append_nil] at *
      · match i, e1, e2 with
        | 0, e1, e2 =>
          unfold L2.start at e1
          simp at e1
          simp [lawS] at e2
          subst e1
          subst e2
          exact ⟨a, ns, rfl, b1.mono.seq hr, rfl⟩
        | 1, e1, e2 =>
          rw [List.getElem?_set_self (by rw [len0]; omega)] at e1
          simp [lawS] at e2
          cases e1
          subst e2
          exact ⟨s, rfl, rfl, tl0⟩
        | i + 2, e1, e2 =>
          simp [lawS, List.getElem?_replicate] at e2
          rw [← e2.2]
          trivial
      · match i, e3 with
        | 0, e3 => simp [lawS] at e3
        | 1, e3 => simp [lawS] at e3
        | i + 2, e3 =>
          simp [lawS, List.getElem?_replicate] at e3
    exact hu _ G1 H1 _ _ _ _ r1 (hU ns.length hl) ⟨fun _ _ _ _ _ _ z => z.elim, fun G2 H2 _ v d _ _ _ dv z => by subst z; cases dv; exact q H2, fun _ _ _ _ _ _ z => z.elim, fun _ _ _ _ _ _ z => z.elim⟩
end
end DL

/-! The end of a row: a law whose def keeps spLaw holds. -/
namespace DL
open PySem PySem.Spec L2
open PyProof.Rows (IntsAre AllBare)

/-- the law's call, from the heap behind the top -/
theorem law_callG {P : Program} {w : World} {K : PySem.W.Frag} {mg mb : Str → Option Value} {k : Nat} {fa a : Addr} {fd : FuncData} {x : Str} {s₁ : Shared} {vs : List Value} {ns : List Int}
    (kin : K.In s₁.heap) (hns : s₁.heap.Ns mainGlobals mg) (hb : s₁.heap.Ns builtinsNs mb) (hbb : ∀ x : Str, x ≠ "__name__" → mb x = bootBuiltins x) (nolim : s₁.heap.NoLimit) (hg : s₁.gens = #[])
    (ha : s₁.heap.get? a = some { cls := .type "list", data := .seq vs.toArray }) (hi : IntsAre vs ns) (hl : ns.length ≤ 63) (hr : Room k callerA)
    (F : ∀ base : Heap, K.In base → base.Ns mainGlobals mg → FnG P w K mg base k fa fd [x] (spLaw K)) (hbind : ∀ (s : Shared) (u : Value), BindsTo s fd ⟨[u], []⟩ [(x, u)]) :
    codeAny (model P w) callerA (.call (.ref fa) ⟨[.ref a], []⟩) (fun r s' => r = .ok (.ret (.bool true)) ∧ OldK s₁.heap s'.heap ∧ s'.os = s₁.os ∧ AllBare s'.gens) s₁ := by
  have rv := vals_ints hi
  have lv := hi.length
  have hline : ns.length ≤ sizeLine := Nat.le_trans hl (by decide)
  -- H tracks the script alone, or nothing
  have core : ∀ H : Hp, (∀ b, H b = none ∨ ∃ o xs, H b = some (.frz o (.lst xs))) → SqL K H a (ns.map V.int) → HOk P w H s₁.heap → (∀ b, H b ≠ none → b = a) → (H a ≠ none → K.lookup a = none) →
      codeAny (model P w) callerA (.call (.ref fa) ⟨[.ref a], []⟩) (fun r s' => r = .ok (.ret (.bool true)) ∧ OldK s₁.heap s'.heap ∧ s'.os = s₁.os ∧ AllBare s'.gens) s₁ := by
    intro H only sq hok at_ free
    have dict : ∀ {b : Addr} {o : Obj} {es : Array DictEntry} {ep : Nat}, s₁.heap.get? b = some o → o.data = .dict es ep → H b = none := fun {b o es ep} e d => by
      cases q : H b with
      | none => rfl
      | some u =>
        have e' : b = a := at_ b (by rw [q]; exact fun z => by cases z)
        subst e'
        rw [ha] at e
        cases e
        have d' : Data.seq vs.toArray _ = Data.dict es ep := d
        cases d'
    have ns' : ∀ {b : Addr} {m : Str → Option Value}, s₁.heap.Ns b m → (hidT s₁.heap H).Ns b m := fun {b m} ⟨o, es, ep, e, d, r⟩ => ⟨o, es, ep, hidT_get e (dict e d), d, r⟩
    have kb : K.In (hidT s₁.heap H) := fun b o e => hidT_get (kin b o e) (by
      cases q : H b with
      | none => rfl
      | some u =>
        have e' : b = a := at_ b (by rw [q]; exact fun z => by cases z)
        subst e'
        rw [free (by rw [q]; exact fun z => by cases z)] at e
        cases e)
    have md : Mod K mg (hidT s₁.heap H) := ⟨kb, ns' hns, ⟨mb, ns' hb, hbb⟩, let ⟨mc, h1, h2⟩ := nolim; ⟨mc, ns' h1, h2⟩⟩
    have e0 : Env0 P w K mg (hidT s₁.heap H) callerA [] s₁ H := ⟨rfl, md, fun b o e => of_hidT e, Nat.le_of_eq (hidT_size _ _), trivial, fun b hb => absurd (show b ∈ ([] : List Addr) from hb) (by simp), hok, .of_eq hg⟩
    have sp : spLaw K [.ref a] H (fun v _ => v = .bl true) (fun _ _ _ => False) := ⟨a, ns, rfl, sq, hl, fun _ => rfl⟩
    refine codeAny_mono ((F _ kb (ns' hns)).run callerA [] s₁ H ⟨[.ref a], []⟩ [.ref a] [.ref a] _ _ rfl hr e0 (hbind s₁ (.ref a)) (.cons rfl .nil) sp) fun r s' h => ?_
    cases r with
    | error e =>
      obtain ⟨_, _, _, _, _, _, _, _, _, _, _, _, z⟩ := h
      exact z.elim
    | ok fl =>
      cases fl with
      | next => exact False.elim h
      | brk => exact False.elim h
      | cont => exact False.elim h
      | ret u =>
        obtain ⟨v, H', os, bare, un, hok', r', q⟩ := h
        have q' : v = .bl true := q
        subst q'
        obtain rfl : u = Value.bool true := r'
        refine ⟨rfl, OldK.of_keep fun b o e => ?_, os, bare⟩
        cases q : H b with
        | none => exact un.keep b o e q (by intro z; exact absurd (show b ∈ ([] : List Addr) from z) (by simp)) (by simp)
        | some u =>
          rcases only b with z | ⟨ob, xs, z⟩
          · rw [q] at z
            cases z
          · have z2 := un.frzs b ob _ z
            obtain ⟨e1, _⟩ := hok b _ z
            obtain ⟨e2, _⟩ := hok' b _ z2
            rw [e] at e1
            cases e1
            exact e2
  cases hk : K.lookup a with
  | some o =>
    have e := kin a o hk
    rw [ha] at e
    cases e
    refine core (fun _ => none) (fun _ => .inl rfl) (.inr ⟨_, vs.toArray, _, hk, rfl, rfl, rfl, by rw [List.size_toArray, lv]; exact hline, by simpa using rv⟩) (fun b u z => ?_) (fun b z => absurd rfl z) fun z => absurd rfl z
    have z' : (none : Option HO) = some u := z
    cases z'
  | none =>
    refine core (fun b => if b = a then some (.frz { cls := .type "list", data := .seq vs.toArray } (.lst (ns.map V.int))) else none) (fun b => ?_) (.inl (.inr ⟨{ cls := .type "list", data := .seq vs.toArray }, if_pos rfl⟩)) (fun b u z => ?_) (fun b z => ?_) fun _ => hk
    · by_cases hb : b = a
      · exact .inr ⟨_, _, if_pos hb⟩
      · exact .inl (if_neg hb)
    · by_cases hb : b = a
      · have z' := (if_pos hb).symm.trans z
        cases z'
        subst hb
        exact ⟨ha, by rw [List.length_map]; exact hline, vs, _, rv, ha⟩
      · have z' := (if_neg hb).symm.trans z
        cases z'
    · by_cases hb : b = a
      · exact hb
      · exact absurd (if_neg hb) z

theorem walkG {l : PySem.W.OpenLaw} {k : Nat} {q : Program} {loose : List Str} {XP : (Str → Option Value) → Heap → Prop} {YP : World → Heap → Prop} {d : DefRec} {x : Str}
    (hn : l.most = some 63) (hdf : d.params.defaults = []) (hr : Room k callerA)
    (F : ∀ (w : World) (mg : Str → Option Value) (fa : Addr) (h : Heap), YP w h → h.Ns mainGlobals mg → mg d.name = some (.ref fa) →
      ∃ (K : PySem.W.Frag) (fd : FuncData), K.In h ∧ (∀ (s : Shared) (u : Value), BindsTo s fd ⟨[u], []⟩ [(x, u)]) ∧ ∀ base : Heap, K.In base → base.Ns mainGlobals mg → FnG l.prog w K mg base k fa fd [x] (spLaw K)) :
    PySem.W.WalkO q loose XP YP l.row.toRowW d [] (fun f vs => PySem.call f vs) := by
  refine Att.attach_call hn hdf fun w s₀ s₁ mg mb fa o pm cd doc a vs ns G Y ho hd hcd hmg hobj hints hlen hg => ?_
  obtain ⟨K, fd, kin, hb, hF⟩ := F w mg fa _ Y G.T.g hmg
  exact law_callG kin G.T.g G.T.b G.T.builtins G.T.nolimit hg hobj hints hlen hr hF hb
end DL

/-! What the printed walks use: a def by its name, built-in names, an exception that is raised. -/
namespace DL
open PySem PySem.Spec L2

section
variable {P : Program} {w : World} {K : PySem.W.Frag} {mg : Str → Option Value} {base : Heap}
structure CalG (P : Program) (w : World) (K : PySem.W.Frag) (mg : Str → Option Value) (base : Heap) (k : Nat) (x : Str) (ps : List Str) (sp : Sp) : Prop where
  ex : ∃ f fd, mg x = some (.ref f) ∧ PySem.W.keepIn K (.ref f) = true ∧ Binds K fd ps [] ∧ FnG P w K mg base k f fd ps sp
theorem calG {k : Nat} {x : Str} {ps : List Str} {sp : Sp} {f : Addr} {fd : FuncData} (h : FnG P w K mg base k f fd ps sp) (a : mg x = some (.ref f)) (b : PySem.W.keepIn K (.ref f) = true) (c : Binds K fd ps []) : CalG P w K mg base k x ps sp := ⟨f, fd, a, b, c, h⟩
end
section
variable {X : Cx} {k j : Nat} {ps : List Str} {sp : Sp} {E : XK} {x : Str} {p pos : Pos} {e : Expr} {es : List Expr} {t : TA}
theorem pe_cg (c : CalG X.prog X.w X.K X.mg X.base k x ps sp) (hr : Room j X.A) (hk : k ≤ j) (hgd : X.A.guards = some []) (hg : Gl X x) (hx : Passes (L2.CX X.prog X.w) X E)
    (ha : PA X (e :: es) t) (hdb : (x == ("__debug__" : Str)) = false := by decide) (he : starEach (e :: es) X.env = (false, eval e X.env) :: starEach es X.env := by rfl) (hpl : (backTo pos (starEach es X.env)).any (·.1) = false := by rfl) :
    PE X (.Call (.Name x p) (e :: es) [] pos) (tCall sp [] E t) := by
  obtain ⟨f, fd, a, b, cc, h⟩ := c.ex
  exact pe_callG h hgd (hr.mono hk) hg a b cc hx ha hdb he hpl
structure XcF (K : PySem.W.Frag) (mg : Str → Option Value) (x : Str) (C : Addr) : Prop where
  q : PySem.W.excIn K C [.type "ValueError", .type "Exception", .type "BaseException", .type "object"] "ValueError.__new__" = true
  g : mg x = some (.ref C)
  k : PySem.W.keepIn K (.ref C) = true
  s : PySem.W.subIn K (.ref C) (.type "BaseException") = some true
  t : PySem.W.typeIn K (.ref C) = some (.type "type")
end
theorem u64 {k : Nat} {A : Around} (r : Room k A) : A.units + 64 < cLine := by have := r.un; omega
theorem u65 {k : Nat} {A : Around} (r : Room k A) : A.units + 65 < cLine := by have := r.un; omega
theorem bt_list : bootBuiltins "list" = some (.type "list") := by decide +kernel
theorem bt_tuple : bootBuiltins "tuple" = some (.type "tuple") := by decide +kernel
theorem bt_int : bootBuiltins "int" = some (.type "int") := by decide +kernel
theorem bt_str : bootBuiltins "str" = some (.type "str") := by decide +kernel
theorem bt_bool : bootBuiltins "bool" = some (.type "bool") := by decide +kernel
theorem bt_dict : bootBuiltins "dict" = some (.type "dict") := by decide +kernel
theorem bt_len : bootBuiltins "len" = some (.builtin "len") := by decide +kernel
theorem bt_max : bootBuiltins "max" = some (.builtin "max") := by decide +kernel
theorem bt_min : bootBuiltins "min" = some (.builtin "min") := by decide +kernel
theorem bt_sum : bootBuiltins "sum" = some (.builtin "sum") := by decide +kernel
theorem bt_sorted : bootBuiltins "sorted" = some (.builtin "sorted") := by decide +kernel
theorem bt_abs : bootBuiltins "abs" = some (.builtin "abs") := by decide +kernel
theorem bt_repr : bootBuiltins "repr" = some (.builtin "repr") := by decide +kernel
theorem bt_isi : bootBuiltins "isinstance" = some (.builtin "isinstance") := by decide +kernel

/-! ### the readings with K told -/
section
variable {X : Cx} {K : PySem.W.Frag}
theorem k_add (h : X.K = K) : OpR X (binaryOp .Add) (rAddD K) := h ▸ op_addD
theorem k_eq {k : Nat} (h : X.K = K) (r : Room k X.A) : OpR X (compareOp .Eq) (rEqD K) := h ▸ op_eqD (u64 r)
theorem k_ne {k : Nat} (h : X.K = K) (r : Room k X.A) : OpR X (compareOp .NotEq) (rNeD K) := h ▸ op_neD (u64 r)
theorem k_in {k : Nat} (h : X.K = K) (r : Room k X.A) : OpR X (compareOp .In) (rInD K) := h ▸ op_inD (u65 r)
theorem k_notIn {k : Nat} (h : X.K = K) (r : Room k X.A) : OpR X (compareOp .NotIn) (rNotInD K) := h ▸ op_notInD (u65 r)
theorem k_len (h : X.K = K) : CallR X (.builtin "len") (rLenD K) := h ▸ call_lenD'
theorem k_max (h : X.K = K) (c : X.calm = true) : CallR X (.builtin "max") (rMaxD K) := h ▸ call_maxD c
theorem k_min (h : X.K = K) (c : X.calm = true) : CallR X (.builtin "min") (rMinD K) := h ▸ call_minD c
theorem k_sum (h : X.K = K) (c : X.calm = true) : CallR X (.builtin "sum") (rSum K) := h ▸ cr_sum c
theorem k_sorted (h : X.K = K) : CallR X (.builtin "sorted") (rSortedI K) := h ▸ cr_sortedI
theorem k_list (h : X.K = K) : CallR X (.type "list") (rListOf K) := h ▸ call_listD
theorem k_tuple (h : X.K = K) : CallR X (.type "tuple") (rTupOf K) := h ▸ call_tupleD
theorem k_repr {k : Nat} (h : X.K = K) (g : X.A.guards = some []) (r : Room k X.A) : CallR X (.builtin "repr") (rRepr K) := h ▸ call_repr g (u64 r)
theorem k_isi (h : X.K = K) : CallR X (.builtin "isinstance") (rIsi K) := h ▸ call_isi
theorem k_isiT (h : X.K = K) : CallR X (.builtin "isinstance") (rIsiT K) := h ▸ call_isiT
theorem k_sl (h : X.K = K) : SlR X (rSlD K) := h ▸ sl_D
theorem k_ix (h : X.K = K) : IxR X (rIx K) := h ▸ ix_seq
theorem k_count (h : X.K = K) : MtR X "list.count" (rCntI K) := h ▸ mt_lcount
theorem k_index {k : Nat} (h : X.K = K) (r : Room k X.A) : MtR X "list.index" (rIndexD K) := h ▸ mt_indexD (u65 r)
variable {T name id : String} {r : V → List V → Hp → VK → Prop} {o e e2 : Expr} {es elts : List Expr} {to te : TE} {t ta : TA} {apos cpos pos p p1 p2 p3 tpos : Pos} {k kk n : Nat}
theorem pe_bmK {name : Str} (hK : X.K = K) (pa : PlainAttrs T) (slot : Slot T name id) (hty : typeOf (.builtin id) = pure (.type "method_descriptor")) (hm : MtR X id r) (ho : PE X o to) (ha : PA X (e :: es) t)
    (hbase : attributeBase o name X.env (eval o X.env) = eval o X.env := by rfl)
    (hfew : ((backTo cpos (starEach (e :: es) X.env)).all (fun x => !x.1) && (backToKw cpos (keywordEach [] X.env)).all (fun x => x.1.isSome)
      && decide ((e :: es).length + ([] : List Keyword).length + (if ([] : List Keyword).isEmpty then 0 else 1) < 30)) = true := by rfl)
    (hline : (apos.endLine == cpos.line) = true := by rfl) (hs : starEach (e :: es) X.env = (false, eval e X.env) :: starEach es X.env := by rfl) (hplain : (backTo cpos (starEach es X.env)).any (·.1) = false := by rfl) :
    PE X (.Call (.Attribute o name apos) (e :: es) [] cpos) (tBM K T r to t) := hK ▸ pe_bm pa slot hty hm ho ha hbase hfew hline hs hplain
theorem pe_revK (hK : X.K = K) (he : PE X e te) : PE X (.Subscript e (.Slice none none (some (.UnaryOp .USub (.Constant (.int 1) k p1) p2)) p3) pos) (tRevL K te) := hK ▸ pe_revL he
theorem pi_seqK {tg : Expr} (hK : X.K = K) (he : PE X e te) : PI X tg e (iSeq K te) := hK ▸ pi_seq he
theorem pi_enumK (hK : X.K = K) (hg : Gl X "enumerate") (hm : X.mg "enumerate" = none) (ha : PA X [e] ta) (hs : starEach [e] X.env = [(false, eval e X.env)] := by rfl) :
    PI X (.Tuple elts kk tpos) (.Call (.Name "enumerate" p) [e] [] pos) (iEnum K ta) := hK ▸ pi_enum hg hm ha hs
theorem pi_zipK (hK : X.K = K) (hg : Gl X "zip") (hm : X.mg "zip" = none) (ha : PA X [e, e2] ta)
    (hs : starEach [e, e2] X.env = (false, eval e X.env) :: starEach [e2] X.env := by rfl) (hpl : (backTo pos (starEach [e2] X.env)).any (·.1) = false := by rfl) :
    PI X (.Tuple elts kk tpos) (.Call (.Name "zip" p) [e, e2] [] pos) (iZip K ta) := hK ▸ pi_zip hg hm ha hs hpl
theorem pg_tupK {u : TGs} (hK : X.K = K) (hc : X.calm = true) (h : PGs X es u) (hn : (assignEach es X.env).length = n := by rfl) (hst : (assignEach es X.env).findIdx? (·.1) = none := by rfl) : PG X (.Tuple es k pos) (gTup K n u) := hK ▸ pg_tup hc h hn hst
theorem pe_gk {x : Str} {v : V} (hg : Gl X x) (h : ∃ u, X.mg x = some u ∧ RelV v u) (hd : (x == ("__debug__" : Str)) = false := by decide) : PE X (.Name x pos) (tC v) := by
  obtain ⟨u, hm, r⟩ := h
  exact pe_glob hg hm r hd
end
end DL

/-! Data that a repr shows, that equals itself; loops and comprehensions over data by invariants. -/
namespace DL
open PySem PySem.Spec L2

mutual
def wgt : D → Nat
  | .none => 4
  | .bool _ => 5
  | .int i => i.natAbs.log2 + 2
  | .str x => (reprText x).length
  | .list xs => 2 + wgtAll xs
  | .tuple xs => 3 + wgtAll xs
  | .dict _ => 0
def wgtAll : List D → Nat
  | [] => 0
  | x :: xs => wgt x + 2 + wgtAll xs
end
mutual
def plainD : D → Bool
  | .none | .bool _ => true
  | .int i => decide (i.natAbs.log2 < 1920)
  | .str x => PyData.canLay0 (.str x) && PyData.strOk (reprText x)
  | .list xs | .tuple xs => plainDs xs
  | .dict _ => false
def plainDs : List D → Bool
  | [] => true
  | x :: xs => plainD x && plainDs xs
end
theorem textFrom_le : ∀ (ts : List Str) (k : Nat) (acc : Str), (textFrom k acc ts).length ≤ acc.length + (ts.map fun t => t.length + 2).sum
  | [], k, acc => Nat.le_add_right _ _
  | t :: r, k, acc => by
    have h := textFrom_le r (k + 1) (acc ++ (if k > 0 then ", " else "" : String) ++ t)
    have e : (acc ++ (if k > 0 then ", " else "" : String) ++ t).length ≤ acc.length + 2 + t.length := by
      rw [strLen_append, strLen_append]
      have : (Str.ofString (if k > 0 then ", " else "")).length ≤ 2 := by
        split
        · decide
        · decide
      omega
    show (textFrom (k + 1) (acc ++ (if k > 0 then ", " else "" : String) ++ t) r).length ≤ _
    rw [List.map_cons, List.sum_cons]
    omega
theorem piled_sum : ∀ ts : List Str, piled ts = (ts.map fun t => t.length + 2).sum
  | [] => rfl
  | t :: r => by simp [piled, piled_sum r] 
mutual
theorem shown_le : ∀ d : D, plainD d = true → d.shown.length ≤ wgt d
  | .none, _ => by
    show (Str.ofString "None").length ≤ 4
    decide
  | .bool b, _ => by
    simp only [PyData.shown, wgt]
    cases b
    · show (Str.ofString "False").length ≤ 5
      decide
    · show (Str.ofString "True").length ≤ 5
      decide
  | .int i, _ => by
    simp only [PyData.shown, wgt]
    have h := int_text_length_le (a := i) (k := i.natAbs.log2 + 1) (by omega) (by omega)
    have e : (Str.ofString (toString i)).length = (toString i).length := ofString_length _
    rw [e]
    exact h
  | .str x, _ => by
    simp only [PyData.shown, wgt]
    exact Nat.le_refl _
  | .list xs, h => by
    simp only [PyData.shown, wgt]
    have h1 := shownAll_le xs (by simpa [plainD] using h)
    have h2 := textFrom_le (PyData.shownAll xs) 0 "["
    have e1 : (Str.ofString "[").length = 1 := by decide
    have e2 : (Str.ofString "]").length = 1 := by decide
    unfold listText
    rw [strLen_append]
    omega
  | .tuple xs, h => by
    simp only [PyData.shown, wgt]
    have h1 := shownAll_le xs (by simpa [plainD] using h)
    have h2 := textFrom_le (PyData.shownAll xs) 0 "("
    have e1 : (Str.ofString "(").length = 1 := by decide
    have e2 : (Str.ofString ")").length = 1 := by decide
    have e3 : (Str.ofString ",)").length = 2 := by decide
    unfold tupleText
    rw [strLen_append, strLen_append]
    have e4 : (Str.join ", " (PyData.shownAll xs)).length ≤ ((PyData.shownAll xs).map fun t => t.length + 2).sum := by
      by_cases hz : PyData.shownAll xs = []
      · rw [hz]
        show (Str.join ", " []).length ≤ 0
        exact Nat.le_refl _
      · have := join_length_add _ hz
        have e5 := piled_sum (PyData.shownAll xs)
        omega
    have e5 : (Str.ofString (if (PyData.shownAll xs).length == 1 then ",)" else ")")).length ≤ 2 := by
      split <;> omega
    have e6 : (Str.ofString "(").length = 1 := by decide
    omega
  | .dict _, h => by simp [plainD] at h
theorem shownAll_le : ∀ xs : List D, plainDs xs = true → ((PyData.shownAll xs).map fun t => t.length + 2).sum ≤ wgtAll xs
  | [], _ => by simp [PyData.shownAll, wgtAll]
  | x :: xs, h => by
    simp only [plainDs, Bool.and_eq_true] at h
    have h1 := shown_le x h.1
    have h2 := shownAll_le xs h.2
    simp only [PyData.shownAll, wgtAll, List.map_cons, List.sum_cons]
    omega
end
mutual
theorem plain_facts : ∀ d : D, plainD d = true → d.showable = true ∧ d.canLay0 = true
  | .none, _ => ⟨rfl, rfl⟩
  | .bool b, _ => ⟨rfl, rfl⟩
  | .int i, h => ⟨by simpa [plainD, PyData.showable] using h, rfl⟩
  | .str x, h => by
    simp only [plainD, Bool.and_eq_true] at h
    exact ⟨rfl, h.1⟩
  | .list xs, h => by
    obtain ⟨a, b⟩ := plains_facts xs (by simpa [plainD] using h)
    exact ⟨by simpa [PyData.showable] using a, by simpa [PyData.canLay0] using b⟩
  | .tuple xs, h => by
    obtain ⟨a, b⟩ := plains_facts xs (by simpa [plainD] using h)
    exact ⟨by simpa [PyData.showable] using a, by simpa [PyData.canLay0] using b⟩
  | .dict _, h => by simp [plainD] at h
theorem plains_facts : ∀ xs : List D, plainDs xs = true → PyData.showableAll xs = true ∧ PyData.canLayAll0 xs = true
  | [], _ => ⟨rfl, rfl⟩
  | x :: xs, h => by
    simp only [plainDs, Bool.and_eq_true] at h
    obtain ⟨a, b⟩ := plain_facts x h.1
    obtain ⟨a', b'⟩ := plains_facts xs h.2
    exact ⟨by simp [PyData.showableAll, a, a'], by simp [PyData.canLayAll0, b, b']⟩
end
mutual
theorem eqv_self : ∀ d : D, plainD d = true → PyData.eqv d d = true
  | .none, _ => rfl
  | .bool b, _ => by simp [PyData.eqv]
  | .int i, _ => by simp [PyData.eqv]
  | .str x, _ => by simp [PyData.eqv]
  | .list xs, h => by
    simp only [PyData.eqv]
    exact eqvs_self xs (by simpa [plainD] using h)
  | .tuple xs, h => by
    simp only [PyData.eqv]
    exact eqvs_self xs (by simpa [plainD] using h)
  | .dict _, h => by simp [plainD] at h
theorem eqvs_self : ∀ xs : List D, plainDs xs = true → PyData.eqvAll xs xs = true
  | [], _ => by simp [PyData.eqvAll]
  | x :: xs, h => by
    simp only [plainDs, Bool.and_eq_true] at h
    simp only [PyData.eqvAll, eqv_self x h.1, eqvs_self xs h.2, Bool.and_self]
end
theorem ok_of (s : String) : PyData.strOk (Str.ofString s) = true := by
  unfold PyData.strOk
  rw [← Array.all_toList, PyProof.Rows.signs_ofString, List.all_map, List.all_eq_true]
  intro c _
  simp only [Function.comp, decide_eq_true_eq]
  have h := c.valid
  show c.val.toNat < _
  rcases h with h | ⟨_, h⟩
  · have : c.val.toNat < 0xD800 := h
    omega
  · have : c.val.toNat < 0x110000 := h
    omega
theorem ok_app {x y : Str} (h : PyData.strOk x = true) (h' : PyData.strOk y = true) : PyData.strOk (x ++ y) = true := by
  show (x.cps ++ y.cps).all _ = true
  rw [Array.all_append, Bool.and_eq_true]
  exact ⟨h, h'⟩
theorem ok_textFrom : ∀ (ts : List Str) (k : Nat) (acc : Str), PyData.strOk acc = true → (∀ t ∈ ts, PyData.strOk t = true) → PyData.strOk (textFrom k acc ts) = true
  | [], _, _, h, _ => h
  | t :: r, k, acc, h, ht => ok_textFrom r (k + 1) _ (ok_app (ok_app h (ok_of _)) (ht t (List.mem_cons_self ..))) fun u hu => ht u (List.mem_cons_of_mem _ hu)
theorem ok_join : ∀ (ts : List Str), (∀ t ∈ ts, PyData.strOk t = true) → PyData.strOk (Str.join ", " ts) = true
  | [], _ => by
    show Array.all (#[] : Array Nat) _ = true
    simp
  | [t], ht => ht t (List.mem_cons_self ..)
  | t :: u :: r, ht => ok_app (ok_app (ht t (List.mem_cons_self ..)) (ok_of _)) (ok_join (u :: r) fun v hv => ht v (List.mem_cons_of_mem _ hv))
mutual
theorem shown_ok : ∀ d : D, plainD d = true → PyData.strOk d.shown = true
  | .none, _ => by simp only [PyData.shown]; exact ok_of _
  | .bool b, _ => by
    simp only [PyData.shown]
    split <;> exact ok_of _
  | .int i, _ => by simp only [PyData.shown]; exact ok_of _
  | .str x, h => by
    simp only [plainD, Bool.and_eq_true] at h
    simp only [PyData.shown]
    exact h.2
  | .list xs, h => by
    simp only [PyData.shown]
    exact ok_app (ok_textFrom _ _ _ (ok_of _) (shownAll_ok xs (by simpa [plainD] using h))) (ok_of _)
  | .tuple xs, h => by
    simp only [PyData.shown]
    exact ok_app (ok_app (ok_of _) (ok_join _ (shownAll_ok xs (by simpa [plainD] using h)))) (ok_of _)
  | .dict _, h => by simp [plainD] at h
theorem shownAll_ok : ∀ xs : List D, plainDs xs = true → ∀ t ∈ PyData.shownAll xs, PyData.strOk t = true
  | [], _, t, ht => by simp [PyData.shownAll] at ht
  | x :: xs, h, t, ht => by
    simp only [plainDs, Bool.and_eq_true] at h
    simp only [PyData.shownAll, List.mem_cons] at ht
    rcases ht with rfl | ht
    · exact shown_ok x h.1
    · exact shownAll_ok xs h.2 t ht
end
/-- what _law_is may compare with itself -/
structure Nice (d : D) : Prop where
  p : plainD d = true
  d6 : d.depth ≤ 6
  w : wgt d ≤ sizeLine
theorem Nice.shaped {d : D} (h : Nice d) : SeqAt.shaped d = true := by
  show (PyData.canLay0 d && decide (d.depth ≤ 64)) = true
  rw [Bool.and_eq_true]
  exact ⟨(plain_facts d h.p).2, decide_eq_true (by have := h.d6; omega)⟩
theorem Nice.eqv {d : D} (h : Nice d) : PyData.eqv d d = true := eqv_self d h.p
theorem Nice.rep {d : D} (h : Nice d) : d.showable = true ∧ d.hasDict = false ∧ d.depth ≤ 60 ∧ d.shown.length ≤ sizeLine :=
  ⟨(plain_facts d h.p).1, PyData.hasDict_of_canLay d (plain_facts d h.p).2, by have := h.d6; omega, Nat.le_trans (shown_le d h.p) h.w⟩

theorem shaped_str {x : Str} (h : PyData.strOk x = true) : SeqAt.shaped (.str x) = true := by
  show (PyData.canLay0 (.str x) && decide ((PyData.str x).depth ≤ 64)) = true
  rw [Bool.and_eq_true]
  exact ⟨by simpa [PyData.canLay0] using h, by simp [PyData.depth]⟩
theorem shaped_int (i : Int) : SeqAt.shaped (.int i) = true := by
  show (PyData.canLay0 (.int i) && decide ((PyData.int i).depth ≤ 64)) = true
  simp [PyData.canLay0, PyData.depth]
theorem Nice.shapedS {d : D} (h : Nice d) : SeqAt.shaped (.str d.shown) = true := shaped_str (shown_ok d h.p)
theorem eqv_str (x : Str) : PyData.eqv (.str x) (.str x) = true := by simp [PyData.eqv]

/-! ### loops -/
/-- one turn of a comprehension -/
def stepLc (tg : DTg) (Tc : DTT) (Te : DT) (vs : List Nat) (x : D) (s : List Sl) (k : Option D → List Sl → Prop) : Prop := tg x s fun s1 => Tc ⟨s1, []⟩ fun b e2 =>
  if b = true then Te ⟨e2.s, []⟩ fun r e3 => fz e3 r fun d e4 => k (some d) (wipeS e4.s vs) else k none (wipeS e2.s vs)
theorem lc_inv {tg : DTg} {Tc : DTT} {Te : DT} {vs : List Nat} {K : List D → List Sl → Prop} (I : List D → List D → List Sl → Prop)
    (step : ∀ x xs acc s, I (x :: xs) acc s → ∀ k : Option D → List Sl → Prop, (∀ o s', I xs (acc ++ o.toList) s' → k o s') → stepLc tg Tc Te vs x s k) (fin : ∀ acc s, I [] acc s → K acc s) :
    ∀ xs acc s, I xs acc s → lcGo tg Tc Te vs xs acc s K
  | [], acc, s, h => fin acc s h
  | x :: xs, acc, s, h => step x xs acc s h (fun o s' => match o with
      | some d => lcGo tg Tc Te vs xs (acc ++ [d]) s' K
      | none => lcGo tg Tc Te vs xs acc s' K) fun o s' q => by
    cases o with
    | some d => exact lc_inv I step fin xs _ _ q
    | none => exact lc_inv I step fin xs _ _ (by simpa using q)
/-- each turn leaves the slots as they were -/
theorem lc_pure {tg : DTg} {Tc : DTT} {Te : DT} {vs : List Nat} {K : List D → List Sl → Prop} {s : List Sl} (f : D → Option D) : ∀ (xs : List D) (acc : List D),
    (∀ x ∈ xs, ∀ k : Option D → List Sl → Prop, k (f x) s → stepLc tg Tc Te vs x s k) → K (acc ++ xs.filterMap f) s → lcGo tg Tc Te vs xs acc s K
  | [], acc, _, h => by
    rw [List.filterMap_nil, List.append_nil] at h
    exact h
  | x :: xs, acc, hs, h => hs x (List.mem_cons_self ..) (fun o s' => match o with
      | some d => lcGo tg Tc Te vs xs (acc ++ [d]) s' K
      | none => lcGo tg Tc Te vs xs acc s' K) (by
    cases e : f x with
    | none =>
      rw [List.filterMap_cons_none e] at h
      exact lc_pure f xs acc (fun y hy => hs y (List.mem_cons_of_mem _ hy)) h
    | some d =>
      rw [List.filterMap_cons_some e] at h
      exact lc_pure f xs (acc ++ [d]) (fun y hy => hs y (List.mem_cons_of_mem _ hy)) (by simpa using h))
/-- .. and makes one item -/
theorem lc_map {tg : DTg} {Tc : DTT} {Te : DT} {vs : List Nat} {K : List D → List Sl → Prop} {s : List Sl} {α : Type} (c : α → D) (f : α → D) (xs : List α)
    (hs : ∀ x ∈ xs, ∀ k : Option D → List Sl → Prop, k (some (f x)) s → stepLc tg Tc Te vs (c x) s k) (h : K (xs.map f) s) : lcGo tg Tc Te vs (xs.map c) [] s K := by
  have key : ∀ (xs : List α) (acc : List D), (∀ x ∈ xs, ∀ k : Option D → List Sl → Prop, k (some (f x)) s → stepLc tg Tc Te vs (c x) s k) → K (acc ++ xs.map f) s → lcGo tg Tc Te vs (xs.map c) acc s K := fun xs => by
    induction xs with
    | nil => intro acc _ h; show K acc s; simpa using h
    | cons x xs ih =>
      intro acc hs h
      exact hs x (List.mem_cons_self ..) (fun o s' => match o with
        | some d => lcGo tg Tc Te vs (xs.map c) (acc ++ [d]) s' K
        | none => lcGo tg Tc Te vs (xs.map c) acc s' K) (ih (acc ++ [f x]) (fun y hy => hs y (List.mem_cons_of_mem _ hy)) (by simpa using h))
  exact key xs [] hs (by simpa using h)
/-- .. or keeps those of a kind -/
theorem lc_filter {tg : DTg} {Tc : DTT} {Te : DT} {vs : List Nat} {K : List D → List Sl → Prop} {s : List Sl} {α : Type} (c : α → D) (p : α → Bool) (f : α → D) (xs : List α)
    (hs : ∀ x ∈ xs, ∀ k : Option D → List Sl → Prop, k (if p x = true then some (f x) else none) s → stepLc tg Tc Te vs (c x) s k) (h : K ((xs.filter p).map f) s) : lcGo tg Tc Te vs (xs.map c) [] s K := by
  have key : ∀ (xs : List α) (acc : List D), (∀ x ∈ xs, ∀ k : Option D → List Sl → Prop, k (if p x = true then some (f x) else none) s → stepLc tg Tc Te vs (c x) s k) → K (acc ++ (xs.filter p).map f) s → lcGo tg Tc Te vs (xs.map c) acc s K := fun xs => by
    induction xs with
    | nil => intro acc _ h; show K acc s; simpa using h
    | cons x xs ih =>
      intro acc hs h
      refine hs x (List.mem_cons_self ..) (fun o s' => match o with
        | some d => lcGo tg Tc Te vs (xs.map c) (acc ++ [d]) s' K
        | none => lcGo tg Tc Te vs (xs.map c) acc s' K) ?_
      by_cases hp : p x = true
      · rw [if_pos hp]
        exact ih (acc ++ [f x]) (fun y hy => hs y (List.mem_cons_of_mem _ hy)) (by simpa [hp] using h)
      · rw [if_neg hp]
        exact ih acc (fun y hy => hs y (List.mem_cons_of_mem _ hy)) (by simpa [hp] using h)
  exact key xs [] hs (by simpa using h)
theorem for_inv {tg : DTg} {T : DSt} {A : DEnds} {α : Type} (c : α → D) (I : List α → List Sl → Prop)
    (step : ∀ x xs s, I (x :: xs) s → ∀ k : List Sl → Prop, (∀ s', I xs s' → k s') → tg (c x) s fun s1 => T { A with nx := k, ct := k, bk := A.nx } s1) (fin : ∀ s, I [] s → A.nx s) :
    ∀ xs s, I xs s → forGo tg T A (xs.map c) s
  | [], s, h => fin s h
  | x :: xs, s, h => step x xs s h _ fun s' q => for_inv c I step fin xs s' q
theorem dInts_map (ns : List Int) : dInts ns = ns.map .int := rfl
end DL

/-! Lists of data that are pictures of lists. -/
namespace DL
open PySem PySem.Spec L2

theorem enumL_map {α : Type} (c : α → D) (xs : List α) : enumL (xs.map c) = xs.zipIdx.map fun q => PyData.tuple [.int ((q.2 : Nat) : Int), c q.1] := by
  unfold enumL
  rw [List.mapIdx_eq_zipIdx_map, List.zipIdx_map, List.map_map]
  rfl
theorem zipL_map {α β : Type} (c : α → D) (e : β → D) (xs : List α) (ys : List β) : zipL (xs.map c) (ys.map e) = (xs.zip ys).map fun q => PyData.tuple [c q.1, e q.2] := by
  unfold zipL
  rw [List.zipWith_map, List.zip, List.map_zipWith]
theorem rangeL0 (n : Nat) : rangeL 0 n = (List.range n).map fun i : Nat => PyData.int (i : Int) := by
  unfold rangeL
  simp
theorem eqvAll_ints : ∀ a b : List Int, PyData.eqvAll (dInts a) (dInts b) = decide (a = b)
  | [], [] => by simp [dInts, PyData.eqvAll]
  | [], _ :: _ => by simp [dInts, PyData.eqvAll]
  | _ :: _, [] => by simp [dInts, PyData.eqvAll]
  | x :: xs, y :: ys => by
    show (PyData.eqv (.int x) (.int y) && PyData.eqvAll (dInts xs) (dInts ys)) = _
    rw [eqvAll_ints xs ys]
    by_cases h : x = y <;> by_cases h' : xs = ys <;> simp [PyData.eqv, h, h']
theorem eqv_ints (a b : List Int) : PyData.eqv (.list (dInts a)) (.list (dInts b)) = decide (a = b) := by
  simp only [PyData.eqv]
  exact eqvAll_ints a b
theorem eqv_nil (xs : List D) : PyData.eqv (.list xs) (.list []) = xs.isEmpty := by
  cases xs <;> simp [PyData.eqv, PyData.eqvAll]
theorem eqv_int (i j : Int) : PyData.eqv (.int i) (.int j) = decide (i = j) := by
  simp [PyData.eqv]
  rfl
theorem eqv_bool (i j : Bool) : PyData.eqv (.bool i) (.bool j) = (i == j) := by simp [PyData.eqv]
theorem atI_mapN {α : Type} (c : α → D) (xs : List α) {i : Nat} (h : i < xs.length) : atI (xs.map c) ((i : Nat) : Int) = some (c xs[i]) :=
  atI_nat (by rw [List.getElem?_map, List.getElem?_eq_getElem h]; rfl)
theorem cutL_from {α : Type} (xs : List α) (n : Nat) : cutL xs (some ((n : Nat) : Int)) none = xs.drop n := by
  have e1 : HT.sIx xs.length 0 (some ((n : Nat) : Int)) = min n xs.length := by
    show (if (n : Int) < 0 then ((n : Int) + (xs.length : Int)).toNat else min (n : Int).toNat xs.length) = _
    rw [if_neg (by omega), Int.toNat_natCast]
  have e2 : HT.sIx xs.length xs.length none = xs.length := rfl
  unfold cutL
  rw [e1, e2]
  by_cases h : n ≤ xs.length
  · rw [Nat.min_eq_left h, List.take_of_length_le (by rw [List.length_drop]; omega)]
  · rw [Nat.min_eq_right (by omega), List.drop_eq_nil_of_le (Nat.le_refl _), List.drop_eq_nil_of_le (by omega), List.take_nil]
theorem cutL_to {α : Type} (xs : List α) (n : Nat) : cutL xs none (some ((n : Nat) : Int)) = xs.take n := by
  have e1 : HT.sIx xs.length xs.length (some ((n : Nat) : Int)) = min n xs.length := by
    show (if (n : Int) < 0 then ((n : Int) + (xs.length : Int)).toNat else min (n : Int).toNat xs.length) = _
    rw [if_neg (by omega), Int.toNat_natCast]
  have e2 : HT.sIx xs.length 0 none = 0 := rfl
  unfold cutL
  rw [e1, e2, List.drop_zero, Nat.sub_zero]
  by_cases h : n ≤ xs.length
  · rw [Nat.min_eq_left h]
  · rw [Nat.min_eq_right (by omega), List.take_of_length_le (Nat.le_refl _), List.take_of_length_le (by omega)]
theorem lmin_spec : ∀ {xs : List Int}, xs ≠ [] → lmin xs ∈ xs ∧ ∀ y ∈ xs, lmin xs ≤ y
  | [], h => absurd rfl h
  | x :: xs, _ => by
    have key : ∀ (l : List Int) (a : Int), (l.foldl min a = a ∨ l.foldl min a ∈ l) ∧ l.foldl min a ≤ a ∧ ∀ y ∈ l, l.foldl min a ≤ y := fun l => by
      induction l with
      | nil => intro a; simp
      | cons b l ih =>
        intro a
        obtain ⟨h1, h2, h3⟩ := ih (min a b)
        refine ⟨?_, ?_, fun y hy => ?_⟩
        · simp only [List.foldl_cons, List.mem_cons]
          rcases h1 with h1 | h1
          · rw [h1]
            rcases Int.le_total a b with h | h
            · exact .inl (Int.min_eq_left h)
            · exact .inr (.inl (Int.min_eq_right h))
          · exact .inr (.inr h1)
        · simp only [List.foldl_cons]
          exact Int.le_trans h2 (Int.min_le_left a b)
        · simp only [List.foldl_cons]
          rcases List.mem_cons.mp hy with rfl | hy
          · exact Int.le_trans h2 (Int.min_le_right a y)
          · exact h3 y hy
    obtain ⟨h1, h2, h3⟩ := key xs x
    refine ⟨?_, fun y hy => ?_⟩
    · rcases h1 with h1 | h1
      · exact List.mem_cons.mpr (.inl h1)
      · exact List.mem_cons.mpr (.inr h1)
    · rcases List.mem_cons.mp hy with rfl | hy
      · exact h2
      · exact h3 y hy
theorem lmin_is {xs : List Int} {m : Int} (h : m ∈ xs) (h' : ∀ y ∈ xs, m ≤ y) : lmin xs = m := by
  obtain ⟨a, b⟩ := lmin_spec (xs := xs) (by intro z; rw [z] at h; cases h)
  exact Int.le_antisymm (b m h) (h' _ a)
theorem lmax_spec : ∀ {xs : List Int}, xs ≠ [] → lmax xs ∈ xs ∧ ∀ y ∈ xs, y ≤ lmax xs
  | [], h => absurd rfl h
  | x :: xs, _ => by
    obtain ⟨h1, h2, h3⟩ := foldl_max_ge xs x
    refine ⟨?_, fun y hy => ?_⟩
    · rcases h3 with h3 | h3
      · exact List.mem_cons.mpr (.inl h3)
      · exact List.mem_cons.mpr (.inr h3)
    · rcases List.mem_cons.mp hy with rfl | hy
      · exact h1
      · exact h2 y hy
theorem lmax_is {xs : List Int} {m : Int} (h : m ∈ xs) (h' : ∀ y ∈ xs, y ≤ m) : lmax xs = m := by
  obtain ⟨a, b⟩ := lmax_spec (xs := xs) (by intro z; rw [z] at h; cases h)
  exact Int.le_antisymm (h' _ a) (b m h)
theorem toInts_map {α : Type} (f : α → Int) (xs : List α) : toInts (xs.map fun x => PyData.int (f x)) = some (xs.map f) := by
  have := toInts_ints (xs.map f)
  rw [dInts, List.map_map] at this
  exact this
theorem map_int {α : Type} (f : α → Int) (xs : List α) : (xs.map fun x => PyData.int (f x)) = dInts (xs.map f) := by
  rw [dInts, List.map_map]
  rfl
/-- rows of numbers as data -/
def dRows (rows : List (List Int)) : List D := rows.map fun r => .list (dInts r)
theorem lay_rows : ∀ rows : List (List Int), PyData.canLayAll0 (dRows rows) = true
  | [] => rfl
  | r :: rows => by
    show (PyData.canLay0 (.list (dInts r)) && PyData.canLayAll0 (dRows rows)) = true
    rw [lay_rows rows, Bool.and_true]
    simp only [PyData.canLay0]
    exact lay_all r
theorem depth_rows : ∀ rows : List (List Int), PyData.depthAll (dRows rows) ≤ 2
  | [] => by show PyData.depthAll [] ≤ 2; simp [PyData.depthAll]
  | r :: rows => by
    have := depth_rows rows
    have := depth_ints r
    show PyData.depthAll (.list (dInts r) :: dRows rows) ≤ 2
    simp only [PyData.depthAll, PyData.depth]
    omega
theorem shaped_rows (rows : List (List Int)) : SeqAt.shaped (.list (dRows rows)) = true := by
  have h := depth_rows rows
  show (PyData.canLay0 (.list (dRows rows)) && decide (PyData.depth (.list (dRows rows)) ≤ 64)) = true
  rw [Bool.and_eq_true]
  exact ⟨by simp only [PyData.canLay0]; exact lay_rows rows, decide_eq_true (by simp only [PyData.depth]; omega)⟩
/-- numbers within 2 ^ 60 are nice -/
def Near (n : Int) : Prop := -(2 ^ 60) < n ∧ n < 2 ^ 60
theorem near_log {n : Int} (h : Near n) : n.natAbs.log2 < 60 := by
  obtain ⟨h1, h2⟩ := h
  by_cases h0 : n.natAbs = 0
  · rw [h0]
    decide
  · exact (Nat.log2_lt h0).mpr (by omega)
theorem plain_ints : ∀ {ns : List Int}, (∀ n ∈ ns, Near n) → plainDs (dInts ns) = true ∧ wgtAll (dInts ns) ≤ 64 * ns.length
  | [], _ => ⟨rfl, by simp [dInts, wgtAll]⟩
  | n :: ns, h => by
    obtain ⟨a, b⟩ := plain_ints (ns := ns) fun m hm => h m (List.mem_cons_of_mem _ hm)
    have hn := near_log (h n (List.mem_cons_self ..))
    refine ⟨?_, ?_⟩
    · show (plainD (.int n) && plainDs (dInts ns)) = true
      rw [a, Bool.and_true]
      simp only [plainD, decide_eq_true_eq]
      omega
    · show wgtAll (.int n :: dInts ns) ≤ _
      simp only [wgtAll, wgt, List.length_cons]
      omega
theorem nice_int {n : Int} (h : Near n) : Nice (.int n) := by
  have hn := near_log h
  refine ⟨by simp only [plainD, decide_eq_true_eq]; omega, by simp [PyData.depth], ?_⟩
  simp only [wgt]
  have : sizeLine = 2 ^ 24 := rfl
  omega
theorem nice_ints {ns : List Int} (h : ∀ n ∈ ns, Near n) (hl : ns.length ≤ 200000) : Nice (.list (dInts ns)) := by
  obtain ⟨a, b⟩ := plain_ints h
  have hd := depth_ints ns
  refine ⟨by simp only [plainD]; exact a, by simp only [PyData.depth]; omega, ?_⟩
  simp only [wgt]
  have : sizeLine = 2 ^ 24 := rfl
  omega
theorem plain_rows {c : Nat} : ∀ {rows : List (List Int)}, (∀ r ∈ rows, r.length ≤ c ∧ ∀ n ∈ r, Near n) → plainDs (dRows rows) = true ∧ wgtAll (dRows rows) ≤ rows.length * (64 * c + 4)
  | [], _ => ⟨rfl, by simp [dRows, wgtAll]⟩
  | r :: rows, h => by
    obtain ⟨a, b⟩ := plain_rows (rows := rows) fun m hm => h m (List.mem_cons_of_mem _ hm)
    obtain ⟨hl, hr⟩ := h r (List.mem_cons_self ..)
    obtain ⟨a', b'⟩ := plain_ints hr
    refine ⟨?_, ?_⟩
    · show (plainD (.list (dInts r)) && plainDs (dRows rows)) = true
      rw [a, Bool.and_true]
      simp only [plainD]
      exact a'
    · show wgtAll (.list (dInts r) :: dRows rows) ≤ _
      simp only [wgtAll, wgt, List.length_cons, Nat.add_mul]
      omega
theorem nice_rows {c : Nat} {rows : List (List Int)} (h : ∀ r ∈ rows, r.length ≤ c ∧ ∀ n ∈ r, Near n) (hl : rows.length * (64 * c + 4) ≤ 16000000) : Nice (.list (dRows rows)) := by
  obtain ⟨a, b⟩ := plain_rows h
  have hd := depth_rows rows
  refine ⟨by simp only [plainD]; exact a, by simp only [PyData.depth]; omega, ?_⟩
  simp only [wgt]
  have : sizeLine = 2 ^ 24 := rfl
  omega
end DL
namespace DL
theorem seq_to {T U : DSt} {A : DEnds} {s : List Sl} (s' : List Sl) (h : ∀ k : List Sl → Prop, k s' → T { A with nx := k } s) (h' : U A s') : dSeq T U A s := h (U A) h'
/-- a loop whose turns do not leave it -/
theorem for_to {tg : DTg} {T : DSt} {A : DEnds} {α : Type} (c : α → D) (I : List α → List Sl → Prop) (xs : List α) {s : List Sl} (h0 : I xs s)
    (step : ∀ x xs s, I (x :: xs) s → ∀ k b : List Sl → Prop, (∀ s', I xs s' → k s') → tg (c x) s fun s1 => T { A with nx := k, ct := k, bk := b } s1) (fin : ∀ s, I [] s → A.nx s) : forGo tg T A (xs.map c) s :=
  for_inv c I (fun x xs s h k hk => step x xs s h k _ hk) fin xs s h0
/-- .. and that changes no slot but the loop's own -/
theorem for_each {tg : DTg} {T : DSt} {A : DEnds} {α : Type} (c : α → D) (P : List Sl → Prop) (xs : List α) {s : List Sl} (h0 : P s)
    (step : ∀ x, x ∈ xs → ∀ s, P s → ∀ k b : List Sl → Prop, (∀ s', P s' → k s') → tg (c x) s fun s1 => T { A with nx := k, ct := k, bk := b } s1) (fin : ∀ s, P s → A.nx s) : forGo tg T A (xs.map c) s :=
  for_to c (fun ys s => (∀ y ∈ ys, y ∈ xs) ∧ P s) xs ⟨fun y h => h, h0⟩ (fun x ys s h k b hk => step x (h.1 x (List.mem_cons_self ..)) s h.2 k b fun s' hs => hk s' ⟨fun y hy => h.1 y (List.mem_cons_of_mem _ hy), hs⟩) fun s h => fin s h.2
/-- .. and that puts one more item on what stands in the slots -/
theorem for_push {tg : DTg} {T : DSt} {A : DEnds} {α β : Type} (c : α → D) (f : α → β) (S : List β → List Sl → Prop) (xs : List α) {s : List Sl} (h0 : S [] s)
    (step : ∀ x, x ∈ xs → ∀ ys s, ys.length < xs.length → S ys s → ∀ k b : List Sl → Prop, (∀ s', S (ys ++ [f x]) s' → k s') → tg (c x) s fun s1 => T { A with nx := k, ct := k, bk := b } s1) (fin : ∀ s, S (xs.map f) s → A.nx s) : forGo tg T A (xs.map c) s :=
  for_to c (fun zs s => ∃ ys, xs = ys ++ zs ∧ S (ys.map f) s) xs ⟨[], rfl, h0⟩ (fun x zs s ⟨ys, e, h⟩ k b hk => step x (by rw [e]; simp) _ s (by rw [e]; simp) h k b fun s' hs => hk s' ⟨ys ++ [x], by rw [e]; simp, by simpa using hs⟩)
    fun s ⟨ys, e, h⟩ => by
      rw [List.append_nil] at e
      subst e
      exact fin s h
end DL
namespace DL
theorem dSeq_for {T U : DSt} {A : DEnds} {s : List Sl} (h : T { A with nx := U A } s) : dSeq T U A s := h
end DL
namespace DL
open PySem PySem.Spec L2
theorem seq_toP {T U : DSt} {A : DEnds} {s : List Sl} (P : List Sl → Prop) (h : ∀ k : List Sl → Prop, (∀ s', P s' → k s') → T { A with nx := k } s) (h' : ∀ s', P s' → U A s') : dSeq T U A s := h (U A) h'
theorem dInts_drop (ns : List Int) (n : Nat) : (dInts ns).drop n = dInts (ns.drop n) := by simp [dInts]
theorem dInts_take (ns : List Int) (n : Nat) : (dInts ns).take n = dInts (ns.take n) := by simp [dInts]
theorem dInts_snoc (ns : List Int) (n : Int) : dInts ns ++ [.int n] = dInts (ns ++ [n]) := by simp [dInts]
theorem dInts_rev (ns : List Int) : (dInts ns).reverse = dInts ns.reverse := by simp [dInts]
theorem dInts_app (ns ms : List Int) : dInts ns ++ dInts ms = dInts (ns ++ ms) := by simp [dInts]
theorem dRows_snoc (rs : List (List Int)) (r : List Int) : dRows rs ++ [.list (dInts r)] = dRows (rs ++ [r]) := by simp [dRows]
theorem dRows_rev (rs : List (List Int)) : (dRows rs).reverse = dRows rs.reverse := by simp [dRows]
theorem dRows_len (rs : List (List Int)) : (dRows rs).length = rs.length := by simp [dRows]
theorem dRows_map (rs : List (List Int)) : dRows rs = rs.map fun r => PyData.list (dInts r) := rfl
theorem atI_ints {ns : List Int} {i : Nat} (h : i < ns.length) : atI (dInts ns) ((i : Nat) : Int) = some (.int ns[i]) := atI_mapN PyData.int ns h
end DL
namespace DL
open PySem PySem.Spec L2
theorem idxOf_ints (v : Int) : ∀ r : List Int, idxOf? (.int v) (dInts r) = r.findIdx? fun z => decide (z = v)
  | [] => rfl
  | x :: r => by
    have ih := idxOf_ints v r
    unfold idxOf? at ih ⊢
    show List.findIdx? _ (PyData.int x :: dInts r) = _
    rw [List.findIdx?_cons, List.findIdx?_cons, ih, eqv_int]
theorem rangeL_ (lo : Int) (n : Nat) : rangeL lo n = (List.range n).map fun i : Nat => PyData.int (lo + (i : Int)) := rfl
/-- whole places as data -/
def dNats (es : List Nat) : List D := es.map fun e : Nat => PyData.int (e : Int)
theorem dNats_ints (es : List Nat) : dNats es = dInts (es.map fun e : Nat => (e : Int)) := by simp [dNats, dInts]
theorem dNats_len (es : List Nat) : (dNats es).length = es.length := by simp [dNats]
end DL
namespace DL
open PySem PySem.Spec L2
/-- a comprehension whose turns keep S of the slots -/
theorem lc_mapS {tg : DTg} {Tc : DTT} {Te : DT} {vs : List Nat} {K : List D → List Sl → Prop} {α : Type} (S : List Sl → Prop) (c : α → D) (f : α → D) (xs : List α) {s : List Sl} (h0 : S s)
    (hs : ∀ x ∈ xs, ∀ s, S s → ∀ k : Option D → List Sl → Prop, (∀ s', S s' → k (some (f x)) s') → stepLc tg Tc Te vs (c x) s k) (h : ∀ s, S s → K (xs.map f) s) : lcGo tg Tc Te vs (xs.map c) [] s K := by
  have key : ∀ (ys : List α), (∀ y ∈ ys, y ∈ xs) → ∀ (acc : List D) (s : List Sl), S s → (∀ s, S s → K (acc ++ ys.map f) s) → lcGo tg Tc Te vs (ys.map c) acc s K := fun ys => by
    induction ys with
    | nil => intro _ acc s h0 h; show K acc s; simpa using h s h0
    | cons y ys ih =>
      intro hy acc s h0 h
      exact hs y (hy y (List.mem_cons_self ..)) s h0 (fun o s' => match o with
        | some d => lcGo tg Tc Te vs (ys.map c) (acc ++ [d]) s' K
        | none => lcGo tg Tc Te vs (ys.map c) acc s' K) fun s' h' => ih (fun z hz => hy z (List.mem_cons_of_mem _ hz)) (acc ++ [f y]) s' h' (by simpa using h)
  exact key xs (fun _ h => h) [] s h0 (by simpa using h)
end DL
namespace DL
open PySem PySem.Spec L2
theorem shaped_bool (b : Bool) : SeqAt.shaped (.bool b) = true := by cases b <;> decide
theorem Near.wide {n : Int} (h : Near n) : -(2 ^ 64) < n ∧ n < 2 ^ 64 := by
  obtain ⟨a, b⟩ := h
  exact ⟨by omega, by omega⟩
end DL
namespace DL
open PySem PySem.Spec L2
/-- a comprehension that draws one number a turn -/
theorem lc_draw {tg : DTg} {Tc : DTT} {Te : DT} {vs : List Nat} {K : List D → List Sl → Prop} (S : Int → List Sl) (P : Int → Prop) (xs : List D) (B : Int)
    (hs : ∀ x ∈ xs, ∀ B' : Int, B ≤ B' → B' < B + xs.length → ∀ k : Option D → List Sl → Prop, (∀ n : Int, P n → k (some (.int n)) (S (B' + 1))) → stepLc tg Tc Te vs x (S B') k)
    (h : ∀ ns : List Int, ns.length = xs.length → (∀ n ∈ ns, P n) → K (dInts ns) (S (B + xs.length))) : lcGo tg Tc Te vs xs [] (S B) K := by
  refine lc_inv (fun ys acc t => (∀ y ∈ ys, y ∈ xs) ∧ ∃ ns : List Int, acc = dInts ns ∧ (∀ n ∈ ns, P n) ∧ ns.length + ys.length = xs.length ∧ t = S (B + ns.length)) (fun y ys acc t ht k hk => ?_) (fun acc t ht => ?_) xs [] _ ⟨fun _ h => h, [], rfl, fun _ h => (by cases h), by simp, by simp⟩
  · obtain ⟨hm, ns, rfl, hn, hl, rfl⟩ := ht
    rw [List.length_cons] at hl
    refine hs y (hm y (List.mem_cons_self ..)) _ (by omega) (by omega) k fun n pn => hk _ _ ⟨fun z hz => hm z (List.mem_cons_of_mem _ hz), ns ++ [n], by simp [dInts], fun z hz => ?_, by simp; omega, by simp; congr 1; omega⟩
    rcases List.mem_append.mp hz with hz | hz
    · exact hn z hz
    · rw [List.mem_singleton] at hz
      rw [hz]
      exact pn
  · obtain ⟨_, ns, rfl, hn, hl, rfl⟩ := ht
    rw [List.length_nil, Nat.add_zero] at hl
    rw [hl]
    exact h ns hl hn
theorem rangeL_len (lo : Int) (n : Nat) : (rangeL lo n).length = n := by simp [rangeL]
end DL
namespace DL
/-- a slot that holds no state of draws -/
def ns : Sl → Sl
  | .st _ => .no
  | x => x
theorem mapSt_st (m : Int → Int) (B : Int) : mapSt m (.st B) = .st (m B) := rfl
theorem mapSt_no (m : Int → Int) : mapSt m .no = .no := rfl
theorem mapSt_val (m : Int → Int) (d : D) : mapSt m (.val d) = .val d := rfl
theorem mapSt_ow (m : Int → Int) (o : Ow) : mapSt m (.own o) = .own o := rfl
theorem mapSt_scr (m : Int → Int) (n : Nat) : mapSt m (.scr n) = .scr n := rfl
theorem mapSt_ns (m : Int → Int) (y : Sl) : mapSt m (ns y) = ns y := by cases y <;> rfl
end DL

/-! Mixed dicts over data: data as keys; the rules. -/
namespace DL
open PySem PySem.Spec L2

section
variable {P : Program} {w : World} {K : PySem.W.Frag} {H : Hp}
mutual
theorem nest_is : ∀ (n : Nat) (d : D) (v : V), Dp K H v d → keyable n d = true → ∀ (h : Heap) (u : Value), HOk P w H h → K.In h → RelV v u → NestedIs h (keyOf d) u
  | _, .none, _, q, _, h, u, _, _, r => by
    cases q
    obtain rfl : u = Value.none := r
    simp only [keyOf]
    exact .none
  | _, .int i, _, q, _, h, u, _, _, r => by
    cases q
    obtain ⟨t, rfl⟩ := r
    simp only [keyOf]
    exact .int i t
  | _, .bool _, _, _, hk, _, _, _, _, _ => by simp [keyable] at hk
  | _, .str _, _, _, hk, _, _, _, _, _ => by simp [keyable] at hk
  | _, .list _, _, _, hk, _, _, _, _, _ => by simp [keyable] at hk
  | _, .dict _, _, _, hk, _, _, _, _, _ => by simp [keyable] at hk
  | 0, .tuple _, _, _, hk, _, _, _, _, _ => by simp [keyable] at hk
  | n + 1, .tuple ds, _, q, hk, h, u, ok, kin, r => by
    cases q with
    | @tup a xs _ sq da =>
      obtain rfl : u = Value.ref a := r
      simp only [keyable] at hk
      simp only [keyOf]
      rcases sq with rd | ⟨o, its, m, hl, hc, hs, hz, rv⟩
      · obtain ⟨z, its, rv, o, ho, hc, m, hd⟩ := rd.ok ok
        exact .tup ho hc hd (by simpa using nest_all n ds xs da (by simpa using hk) h its ok kin rv)
      · exact .tup (kin a o hl) hc hs (nest_all n ds xs da (by simpa using hk) h its.toList ok kin rv)
theorem nest_all : ∀ (n : Nat) (ds : List D) (vs : List V), DpAll K H vs ds → (∀ d ∈ ds, keyable n d = true) → ∀ (h : Heap) (us : List Value), HOk P w H h → K.In h → Vals vs us → NestedAll h (keysOf ds) us
  | _, [], _, q, _, h, us, _, _, r => by
    cases q
    cases r
    simp only [keysOf]
    exact .nil
  | n, d :: ds, _, q, hk, h, us, ok, kin, r => by
    cases q with
    | cons a b =>
      cases r with
      | cons c e =>
        simp only [keysOf]
        exact .cons (nest_is n d _ a (hk d (List.mem_cons_self ..)) h _ ok kin c) (nest_all n ds _ b (fun x hx => hk x (List.mem_cons_of_mem _ hx)) h _ ok kin e)
end
mutual
theorem key_free : ∀ (n : Nat) (d : D), keyable n d = true → textFree (keyOf d) = true ∧ (keyOf d).depth ≤ n
  | n, .none, _ => by simp [keyOf, textFree, NestedKey.depth]
  | n, .int _, _ => by simp [keyOf, textFree, NestedKey.depth]
  | _, .bool _, hk => by simp [keyable] at hk
  | _, .str _, hk => by simp [keyable] at hk
  | _, .list _, hk => by simp [keyable] at hk
  | _, .dict _, hk => by simp [keyable] at hk
  | 0, .tuple _, hk => by simp [keyable] at hk
  | n + 1, .tuple ds, hk => by
    simp only [keyable] at hk
    obtain ⟨a, b⟩ := keys_free n ds (by simpa using hk)
    simp only [keyOf, textFree, NestedKey.depth]
    exact ⟨a, by omega⟩
theorem keys_free : ∀ (n : Nat) (ds : List D), (∀ d ∈ ds, keyable n d = true) → textFrees (keysOf ds) = true ∧ NestedKey.depthAll (keysOf ds) ≤ n
  | n, [], _ => by simp [keysOf, textFrees, NestedKey.depthAll]
  | n, d :: ds, hk => by
    obtain ⟨a, b⟩ := key_free n d (hk d (List.mem_cons_self ..))
    obtain ⟨a', b'⟩ := keys_free n ds fun x hx => hk x (List.mem_cons_of_mem _ hx)
    simp only [keysOf, textFrees, NestedKey.depthAll, a, a', Bool.and_self, true_and]
    omega
end
theorem keyOkM_of {v : V} {d : D} (q : Dp K H v d) (hk : keyable 8 d = true) : KeyOkM P w K H v (keyOf d) :=
  ⟨nest_is 8 d v q hk, (key_free 8 d hk).1, (key_free 8 d hk).2⟩
theorem entOk_of {G : Hp} (sm : Same G H) {xs : List MixE} {kvs : List (D × D)} (e : MixEnt K G xs kvs) (nd : (xs.map (·.1)).Nodup) : EntOk P w K H xs := by
  refine ⟨?_, nd⟩
  clear nd
  induction e with
  | nil => intro x hx; cases hx
  | cons a t ih =>
    intro x hx
    rcases List.mem_cons.mp hx with rfl | hx
    · obtain ⟨a1, a2, ⟨y, a3, a4⟩, _⟩ := a
      refine ⟨y, a3, ?_⟩
      rw [a1]
      exact keyOkM_of (dp_mono sm _ _ a4) a2
    · exact ih x hx
end
/-- the value at d -/
def mixAt (kvs : List (D × D)) (d : D) : Option D := (kvs.find? fun q => decide (keyOf q.1 = keyOf d)).map (·.2)
def mixPut (kvs : List (D × D)) (d e : D) : List (D × D) := match kvs.findIdx? fun q => decide (keyOf q.1 = keyOf d) with
  | some j => kvs.modify j fun q => (q.1, e)
  | none => kvs ++ [(d, e)]
theorem ent_place {G : Hp} {k : NestedKey} : ∀ {xs : List MixE} {kvs : List (D × D)}, MixEnt K G xs kvs → placeM xs k = kvs.findIdx? fun q => decide (keyOf q.1 = k)
  | _, _, .nil => rfl
  | _, _, .cons (a := x) (b := q) a t => by
    have ih := ent_place (k := k) t
    unfold placeM at ih ⊢
    rw [List.findIdx?_cons, List.findIdx?_cons, ih, a.1]
theorem ent_len {G : Hp} {xs : List MixE} {kvs : List (D × D)} (e : MixEnt K G xs kvs) : xs.length = kvs.length := Paired.length e
theorem ent_get {G : Hp} : ∀ {xs : List MixE} {kvs : List (D × D)} (j : Nat), MixEnt K G xs kvs → ∀ q, kvs[j]? = some q → ∃ x, xs[j]? = some x ∧ x.1 = keyOf q.1 ∧ ∃ v, RelV v x.2.2 ∧ Dp K G v q.2
  | _, _, j, .nil, q, h => by cases h
  | _, _, 0, .cons a t, q, h => by
    cases h
    exact ⟨_, rfl, a.1, a.2.2.2⟩
  | _, _, j + 1, .cons a t, q, h => ent_get j t q h
/-- what is found, and what is not -/
theorem ent_at {G : Hp} {xs : List MixE} {kvs : List (D × D)} {d : D} (e : MixEnt K G xs kvs) : (∃ vv v dd, atM xs (keyOf d) = some vv ∧ mixAt kvs d = some dd ∧ RelV v vv ∧ Dp K G v dd) ∨ (atM xs (keyOf d) = none ∧ mixAt kvs d = none) := by
  have pl := ent_place (k := keyOf d) e
  unfold atM mixAt
  cases q : kvs.findIdx? fun q => decide (keyOf q.1 = keyOf d) with
  | none =>
    rw [q] at pl
    rw [pl]
    refine .inr ⟨rfl, ?_⟩
    rw [List.findIdx?_eq_none_iff] at q
    rw [List.find?_eq_none.mpr fun x hx => by simpa using q x hx]
    rfl
  | some j =>
    rw [q] at pl
    obtain ⟨h1, h2, h3⟩ := List.findIdx?_eq_some_iff_getElem.mp q
    obtain ⟨x, hx, _, v, rv, dv⟩ := ent_get j e kvs[j] (List.getElem?_eq_getElem h1)
    refine .inl ⟨x.2.2, v, kvs[j].2, ?_, ?_, rv, dv⟩
    · rw [pl]
      show (xs[j]?).map _ = _
      rw [hx]
      rfl
    · have : kvs.find? (fun q => decide (keyOf q.1 = keyOf d)) = some kvs[j] := by
        rw [List.find?_eq_some_iff_getElem]
        exact ⟨h2, j, h1, rfl, fun i hi => by simpa using h3 i hi⟩
      rw [this]
      rfl
end DL
namespace DL
open PySem PySem.Spec L2
def dMixGet (i : Nat) (Tk : DT) : DT := fun e k => match e.s[i]? with
  | some (.own (.mix _)) => Tk e fun rk e1 => see e1 rk fun dk => keyable 8 dk = true ∧ match e1.s[i]? with
    | some (.own (.mix kvs)) => match mixAt kvs dk with
      | some d => k (.d d) (cut e1 e.t.length)
      | none => False
    | _ => False
  | _ => False
def dMixNew : DT := fun e k => k (.t e.t.length) ⟨e.s, e.t ++ [.own (.mix [])]⟩
section
variable {P : Program} {w : World} {K : PySem.W.Frag} {F : Fr} {tk : TE} {Tk : DT}
theorem sn_key {G H : Hp} (sm : Same G H) {v : V} {d : D} (q : Sn K G H v d) (hk : keyable 8 d = true) : KeyOkM P w K H v (keyOf d) := keyOkM_of (q.dp sm) hk
theorem dr_mixGet {i : Nat} (h : DR K F tk Tk) : DR K F (tOp (rMGet P w K) (tVar i) tk) (dMixGet i Tk) := fun G H σ τ e k Q r t q => by
  have hl := r.tl
  unfold dMixGet at t
  split at t
  · rename_i kvs0 e0
    obtain ⟨p, ep, _, _⟩ := r.ownAt (i := i) e0
    refine ⟨.ref p, ep, ?_⟩
    refine h G H σ τ e _ _ r t fun v G1 H1 τ1 e1 r1 s1 h1 i1 t1 => ?_
    obtain ⟨d, sd, hk, t2⟩ := see_ok h1 i1 t1
    split at t2
    · rename_i kvs e2
      obtain ⟨p', ep', _, xs, hp, en, nd⟩ := h1.ownAt (i := i) e2
      rw [ep] at ep'
      cases ep'
      rcases ent_at (d := d) en with ⟨vv, v', dd, a1, a2, a3, a4⟩ | ⟨a1, a2⟩
      · rw [a2] at t2
        refine ⟨p, xs, keyOf d, vv, v', rfl, hp, entOk_of h1.r.b.sub en nd, sn_key h1.r.b.sub sd hk, a1, a3, ?_⟩
        exact q v' G1 H1 [] _ (.d dd) s1 (by rw [List.append_nil]; exact h1.cut' hl) a4 t2
      · rw [a2] at t2
        exact t2.elim
    · exact t2.elim
  · exact t.elim
theorem dr_mixNew : DR K F tMNew dMixNew := fun G H σ τ e k Q h t q => fun p hp => by
  have hl := h.tl
  have st := h.r.b.newH (o := mixO p []) hp
  have z := (h.step st).r.push (some (.ref p)) (.own (.mix [])) ⟨p, rfl, h.r.b.isNew hp, [], upd_same, .nil, List.nodup_nil⟩ fun q o e1 e2 j o' a b => by
    cases e1
    exact own_some h a b hp
  exact q (.ref p) G _ [.ref p] ⟨e.s, e.t ++ [Sl.own (Ow.mix [])]⟩ (.t e.t.length) (Same.refl G) ⟨by simpa using z, h.ls⟩ (by show (τ ++ [V.ref p])[e.t.length]? = some (V.ref p); rw [hl]; simp) (show k (R.t e.t.length) ⟨e.s, e.t ++ [Sl.own (Ow.mix [])]⟩ from t)
theorem mixEnt_put {G : Hp} {kd vd : D} {u r : Value} {y v : V} (hk : keyable 8 kd = true) (ry : RelV y u) (dy : Dp K G y kd) (rv : RelV v r) (dv : Dp K G v vd) {xs : List MixE} {kvs : List (D × D)} (en : MixEnt K G xs kvs) :
    MixEnt K G (putM xs (keyOf kd) u r) (mixPut kvs kd vd) := by
  have pl := ent_place (k := keyOf kd) en
  have app : ∀ {xs : List MixE} {kvs : List (D × D)}, MixEnt K G xs kvs → MixEnt K G (xs ++ [(keyOf kd, u, r)]) (kvs ++ [(kd, vd)]) := fun {xs kvs} en => by
    induction en with
    | nil => exact .cons ⟨rfl, hk, ⟨y, ry, dy⟩, v, rv, dv⟩ .nil
    | cons a t ih => exact .cons a ih
  have md : ∀ {xs : List MixE} {kvs : List (D × D)} (j : Nat), MixEnt K G xs kvs → MixEnt K G (xs.modify j fun x => (x.1, x.2.1, r)) (kvs.modify j fun q => (q.1, vd)) := fun {xs kvs} j en => by
    induction en generalizing j with
    | nil => cases j <;> exact .nil
    | cons a t ih =>
      cases j with
      | zero => exact .cons ⟨a.1, a.2.1, a.2.2.1, v, rv, dv⟩ t
      | succ j => exact .cons a (ih j)
  unfold putM mixPut
  cases q : kvs.findIdx? fun q => decide (keyOf q.1 = keyOf kd) with
  | none =>
    rw [q] at pl
    rw [pl]
    exact app en
  | some j =>
    rw [q] at pl
    rw [pl]
    exact md j en
theorem putM_nodup {xs : List MixE} {k : NestedKey} {u r : Value} (nd : (xs.map (·.1)).Nodup) : ((putM xs k u r).map (·.1)).Nodup := by
  rw [putM_keys]
  cases q : placeM xs k with
  | some j => exact nd
  | none =>
    rw [List.nodup_append]
    refine ⟨nd, by simp, fun a ha b hb => ?_⟩
    rw [List.mem_singleton] at hb
    subst hb
    intro z
    subst z
    obtain ⟨x, hx, e⟩ := List.mem_map.mp ha
    unfold placeM at q
    rw [List.findIdx?_eq_none_iff] at q
    have := q x hx
    simp [e] at this
/-- d[k] = v, d in slot i -/
def dMixPut (i : Nat) (Tk : DT) (Tv : DT) : DSt := fun A s => Tv ⟨s, []⟩ fun r e1 => fz e1 r fun d e2 => match e2.s[i]? with
  | some (.own (.mix _)) => Tk ⟨e2.s, []⟩ fun rk e3 => see e3 rk fun dk => keyable 8 dk = true ∧ match e3.s[i]? with
    | some (.own (.mix kvs)) => kvs.length < sizeLine ∧ A.nx (e3.s.set i (.own (.mix (mixPut kvs dk d))))
    | _ => False
  | _ => False
theorem drs_mixPut {i : Nat} {tv : TE} {Tv : DT} (h : DR K F tv Tv) (hk : DR K F tk Tk) : DRs K F (sMPut P w K (tVar i) tk tv) (dMixPut i Tk Tv) := fun G H σ s A E r x q => by
  refine h G H σ [] _ _ _ r x fun v G1 H1 τ1 e1 r1 s1 h1 i1 t1 => ?_
  obtain ⟨G2, e2, d, s2, h2, i2, t2⟩ := fz_ok h1 i1 t1
  split at t2
  · rename_i kvs0 e0
    obtain ⟨p, ep, _, _⟩ := h2.ownAt (i := i) e0
    refine ⟨.ref p, ep, ?_⟩
    refine hk G2 H1 σ [] ⟨e2.s, []⟩ _ _ h2.drop0 t2 fun y G3 H3 τ3 e3 rk s3 h3 i3 t3 => ?_
    obtain ⟨dk, sk, kk, t4⟩ := see_ok h3 i3 t3
    split at t4
    · rename_i kvs e4
      obtain ⟨hz, t5⟩ := t4
      obtain ⟨p2, ep2, m2, xs, hp2, en, nd⟩ := h3.ownAt (i := i) e4
      rw [ep] at ep2
      cases ep2
      have dyH := sk.dp h3.r.b.sub
      have dy : Dp K G3 y dk := by
        rcases sk with z | ⟨_, _, _, _, rfl, _⟩
        · exact z
        · simp [keyable] at kk
      refine ⟨p, xs, keyOf dk, rfl, hp2, entOk_of h3.r.b.sub en nd, keyOkM_of dyH kk, by rw [ent_len en]; exact hz, fun u r ry rv => ?_⟩
      exact q.nx G3 _ σ _ ((s1.trans s2).trans s3) (h3.drop0.write (e := ⟨e3.s, []⟩) e4 ep (o' := .mix (mixPut kvs dk d)) ⟨_, upd_same, mixEnt_put kk ry dy rv (dp_mono s3 _ _ i2) en, putM_nodup nd⟩) t5
    · exact t4.elim
  · exact t2.elim
/-- d.get(k, n), d in slot i -/
def dMixGetD (i : Nat) (Ta : DTA) : DT := fun e k => match e.s[i]? with
  | some (.own (.mix _)) => Ta e fun rs e1 => sees e1 rs fun ds => match ds with
    | [dk, .int n] => keyable 8 dk = true ∧ match e1.s[i]? with
      | some (.own (.mix kvs)) => k (.d ((mixAt kvs dk).getD (.int n))) (cut e1 e.t.length)
      | _ => False
    | _ => False
  | _ => False
theorem dr_mixGetD {i : Nat} {ta : TA} {Ta : DTA} (h : DRA K F ta Ta) : DR K F (tMM (rMGetD P w K) (tVar i) ta) (dMixGetD i Ta) := fun G H σ τ e k Q r t q => by
  have hl := r.tl
  unfold dMixGetD at t
  split at t
  · rename_i kvs0 e0
    obtain ⟨p, ep, _, xs0, hp0, _⟩ := r.ownAt (i := i) e0
    refine ⟨.ref p, ep, ⟨p, xs0, rfl, hp0⟩, ?_⟩
    refine h G H σ τ e _ _ r t fun vs G1 H1 τ1 e1 rs s1 h1 i1 t1 => ?_
    obtain ⟨ds, sd, t2⟩ := sees_ok h1 i1 t1
    split at t2
    · rename_i dk n
      obtain ⟨hk, t2⟩ := t2
      split at t2
      · rename_i kvs e2
        obtain ⟨p', ep', _, xs, hp, en, nd⟩ := h1.ownAt (i := i) e2
        rw [ep] at ep'
        cases ep'
        match vs, sd with
        | [y, z], ⟨sy, sz, _⟩ =>
          have ez := sz.int
          subst ez
          have fin : ∀ (v : V) (dd : D), Dp K G1 v dd → (mixAt kvs dk).getD (.int n) = dd → Q v H1 := fun v dd dv e3 => by
            rw [e3] at t2
            exact q v G1 H1 [] _ (.d dd) s1 (by rw [List.append_nil]; exact h1.cut' hl) dv t2
          rcases ent_at (d := dk) en with ⟨vv, v', dd, a1, a2, a3, a4⟩ | ⟨a1, a2⟩
          · refine ⟨p, xs, keyOf dk, y, .int n, v', rfl, rfl, hp, entOk_of h1.r.b.sub en nd, sn_key h1.r.b.sub sy hk, ?_, fin v' dd a4 (by rw [a2]; rfl)⟩
            rw [a1]
            exact a3
          · refine ⟨p, xs, keyOf dk, y, .int n, .int n, rfl, rfl, hp, entOk_of h1.r.b.sub en nd, sn_key h1.r.b.sub sy hk, ?_, fin (.int n) (.int n) (.int n) (by rw [a2]; rfl)⟩
            rw [a1]
      · exact t2.elim
    · exact t2.elim
  · exact t.elim
theorem ent_vals {G : Hp} : ∀ {xs : List MixE} {kvs : List (D × D)}, MixEnt K G xs kvs → ∃ vs, Vals vs (xs.map (·.2.2)) ∧ DpAll K G vs (kvs.map (·.2))
  | _, _, .nil => ⟨[], .nil, .nil⟩
  | _, _, .cons a t => by
    obtain ⟨vs, h1, h2⟩ := ent_vals t
    obtain ⟨_, _, _, v, rv, dv⟩ := a
    exact ⟨v :: vs, .cons rv h1, .cons dv h2⟩
/-- list(d.values()), d in slot i -/
def dMixVals (i : Nat) : DT := fun e k => match e.s[i]? with
  | some (.own (.mix kvs)) => put e (.l (kvs.map (·.2))) k
  | _ => False
theorem dr_mixVals {i : Nat} : DR K F (tCB rMList (tCons (tMVals (tVar i)) tNil)) (dMixVals i) := fun G H σ τ e k Q r t q => by
  have hl := r.tl
  unfold dMixVals at t
  split at t
  · rename_i kvs e0
    obtain ⟨p, ep, m, xs, hp, en, nd⟩ := r.ownAt (i := i) e0
    obtain ⟨vs, v1, v2⟩ := ent_vals en
    refine ⟨.ref p, ep, p, xs, rfl, hp, fun qq hq => ?_⟩
    have st := r.r.b.newH (o := valsO qq p) hq
    have r1 := r.step st
    have hp1 : (upd H qq (valsO qq p)) p = some (mixO p xs) := by rw [upd_ne (ne_of_none hp hq)]; exact hp
    refine ⟨qq, p, xs, vs, rfl, upd_same, hp1, v1, fun l hl2 => ?_⟩
    obtain ⟨st2, ok⟩ := res_new (K := K) r1.r.b hl2 v2
    obtain ⟨τ3, e3, r3, a, b, c⟩ := fin_put r1 st2 ok t
    exact q _ _ _ τ3 e3 r3 st2.g a b c
  · exact t.elim
/-- best = later: what slot j holds goes to slot i -/
def dMove (i j : Nat) : DSt := fun A s => match s[j]? with
  | some (.own o) => i ≠ j ∧ i < s.length ∧ A.nx ((s.set j .no).set i (.own o))
  | _ => False
theorem drs_move {i j : Nat} : DRs K F (tAsg (tVar j) (gName i)) (dMove i j) := fun G H σ s A E r t q => by
  unfold dMove at t
  split at t
  · rename_i o e0
    obtain ⟨hij, hi, t⟩ := t
    obtain ⟨p, ep, m, ok⟩ := r.ownAt (i := j) e0
    have ls : s.length = σ.length := r.ls
    refine ⟨.ref p, ep, ?_⟩
    have rr : RlS K F G H σ s := by simpa using r.r
    have r1 := rr.set j (some (.ref p)) .no trivial (fun _ _ _ z => by cases z)
    have es : σ.set j (some (.ref p)) = σ := by
      refine List.ext_getElem? fun n => ?_
      by_cases hn : j = n
      · subst hn
        rw [List.getElem?_set_self (List.getElem?_eq_some_iff.mp ep).1, ep]
      · rw [List.getElem?_set_ne hn]
    rw [es] at r1
    have r2 := r1.set i (some (.ref p)) (.own o) ⟨p, rfl, m, ok⟩ fun p' o' e1 e2 n o2 e3 e4 => by
      cases e1
      cases e2
      by_cases hn : j = n
      · subst hn
        rw [List.getElem?_set_self (List.getElem?_eq_some_iff.mp e0).1] at e4
        cases e4
      · rw [List.getElem?_set_ne hn] at e4
        have := rr.dis n j p _ _ e3 ep e4 e0
        omega
    refine q.nx G H _ ((s.set j .no).set i (.own o)) (Same.refl G) ⟨by simpa using r2, by simp [ls]⟩ t
  · exact t.elim
/-- {k: v} -/
def dMixOne (Tk Tv : DT) : DT := fun e k => Tk ⟨e.s, e.t ++ [.own (.mix [])]⟩ fun rk e1 => Tv e1 fun rv e2 => match rk, rv, e2.t[e.t.length]? with
  | .d dk, .d dv, some (.own (.mix [])) => keyable 8 dk = true ∧ k (.t e.t.length) ⟨e2.s, e2.t.take e.t.length ++ [.own (.mix [(dk, dv)])]⟩
  | _, _, _ => False
theorem dr_mixOne {tv : TE} {Tv : DT} (hk : DR K F tk Tk) (hv : DR K F tv Tv) : DR K F (tMOne P w K tk tv) (dMixOne Tk Tv) := fun G H σ τ e k Q h t q => fun p hp => by
  have hl := h.tl
  have st := h.r.b.newH (o := mixO p []) hp
  have z := (h.step st).r.push (some (.ref p)) (.own (.mix [])) ⟨p, rfl, h.r.b.isNew hp, [], upd_same, .nil, List.nodup_nil⟩ fun q o e1 e2 j o' a b => by
    cases e1
    exact own_some h a b hp
  have r0 : Rl K F G (upd H p (mixO p [])) σ (τ ++ [.ref p]) ⟨e.s, e.t ++ [.own (.mix [])]⟩ := ⟨by simpa using z, h.ls⟩
  refine hk G _ σ _ _ _ _ r0 t fun y G1 H1 τ1 e1 rk s1 h1 i1 t1 => ?_
  refine hv G1 H1 σ _ e1 _ _ h1 t1 fun v G2 H2 τ2 e2 rv s2 h2 i2 t2 => ?_
  split at t2
  · rename_i dk dv e3
    obtain ⟨kk, t3⟩ := t2
    have i1' : Dp K G1 y dk := i1
    have i2' : Dp K G2 v dv := i2
    have ix : ((τ ++ [V.ref p]) ++ τ1 ++ τ2)[e.t.length]? = some (V.ref p) := by
      rw [hl]
      simp
    obtain ⟨p', ep, m, xs, hpx, en, nd⟩ := h2.slotT (e := e2) (j := e.t.length) (y := .own (.mix [])) (v := .ref p) e3 ix
    cases ep
    cases en
    have hpx' : H2 p = some (mixO p []) := hpx
    refine ⟨hpx', keyOf dk, keyOkM_of (dp_mono (s2.trans h2.r.b.sub) _ _ i1') kk, fun u r ru rr => ?_⟩
    have h3 : Rl K F G2 H2 σ ((τ ++ [V.ref p]) ++ (τ1 ++ τ2)) e2 := by rw [← List.append_assoc]; exact h2
    have hc := h3.cut' (n := (τ ++ [V.ref p]).length) rfl
    have l2 : e2.s.length = σ.length := h2.ls
    have tk2 : (e2.t.take (τ ++ [V.ref p]).length) = e2.t.take e.t.length ++ [.own (.mix [])] := by
      rw [List.length_append, List.length_singleton, ← hl, List.take_add_one, e3]
      rfl
    have lt : (e2.t.take e.t.length).length = τ.length := by
      have := (List.getElem?_eq_some_iff.mp e3).1
      rw [List.length_take, hl]
      omega
    have p1 : (e2.s ++ (e2.t.take e.t.length ++ [Sl.own (Ow.mix [])]))[σ.length + τ.length]? = some (Sl.own (Ow.mix [])) := by
      rw [List.getElem?_append_right (by omega), l2, Nat.add_sub_cancel_left, ← lt]
      simp
    have p2 : (σ ++ (τ ++ [V.ref p]).map some)[σ.length + τ.length]? = some (some (.ref p)) := by
      rw [List.getElem?_append_right (by omega), Nat.add_sub_cancel_left]
      simp
    have hcr : RlS K F G2 H2 (σ ++ (τ ++ [V.ref p]).map some) (e2.s ++ (e2.t.take e.t.length ++ [Sl.own (Ow.mix [])])) := by
      have z := hc.r
      simp only [DL.cut] at z
      rw [tk2] at z
      exact z
    have z2 := hcr.wr p1 p2 (u := mixO p [(keyOf dk, u, r)]) (o' := .mix [(dk, dv)]) ⟨_, upd_same, .cons ⟨rfl, kk, ⟨y, ru, dp_mono s2 _ _ i1'⟩, v, rr, i2'⟩ .nil, by simp⟩
    have e9 : (e2.s ++ (e2.t.take e.t.length ++ [Sl.own (Ow.mix [])])).set (σ.length + τ.length) (.own (.mix [(dk, dv)])) = e2.s ++ (e2.t.take e.t.length ++ [Sl.own (Ow.mix [(dk, dv)])]) := by
      rw [List.set_append_right _ _ (by omega), l2, Nat.add_sub_cancel_left, List.set_append_right _ _ (by omega), lt, Nat.sub_self]
      rfl
    rw [e9] at z2
    exact q (.ref p) G2 _ [.ref p] ⟨e2.s, e2.t.take e.t.length ++ [Sl.own (Ow.mix [(dk, dv)])]⟩ (.t e.t.length) (s1.trans s2) ⟨z2, h2.ls⟩ (by show (τ ++ [V.ref p])[e.t.length]? = some (V.ref p); rw [hl]; simp) t3
  · exact t2.elim
end
end DL

/-! list(range(n)). -/
namespace DL
open PySem PySem.Spec L2
def dListRg (T : DT) : DT := fun e k => T e fun r e1 => see e1 r fun d => match d with
  | .int n => -(2 ^ 62) ≤ n ∧ n < 2 ^ 20 ∧ put (cut e1 e.t.length) (.l (rangeL 0 n.toNat)) k
  | _ => False
section
variable {K : PySem.W.Frag} {F : Fr} {te : TE} {Te : DT}
theorem dr_listRg (h : DR K F te Te) : DR K F (tLstRg (tRg1 te)) (dListRg Te) := fun G H σ τ e k Q r t q => by
  have hl := r.tl
  refine h G H σ τ e _ _ r t fun v G1 H1 τ1 e1 r1 s1 h1 i1 t1 => ?_
  obtain ⟨d, sd, t2⟩ := see_ok h1 i1 t1
  split at t2
  · rename_i n
    obtain ⟨n1, n2, t3⟩ := t2
    refine ⟨n, sd.int, ?_⟩
    refine ⟨⟨by decide, by decide, n1, by omega, by omega⟩, fun p hp => ?_⟩
    have da : DpAll K G1 (rgV 0 n) (rangeL 0 n.toNat) := by
      rw [show rgV 0 n = ((List.range n.toNat).map fun i : Nat => V.int (0 + (i : Int))) from by simp [rgV], rangeL]
      generalize List.range n.toNat = l
      induction l with
      | nil => exact .nil
      | cons a l ih => exact .cons (.int _) ih
    obtain ⟨st, ok⟩ := res_new (K := K) h1.r.b hp da
    obtain ⟨τ3, e3, r3, a, b, c⟩ := fin_put (h1.cut' hl) st ok t3
    exact q _ _ _ τ3 e3 r3 (s1.trans st.g) a b c
  · exact t2.elim
end
end DL

namespace DL
open PySem PySem.Spec L2
/-- one statement, the rest out of sight -/
theorem sq {T U : DSt} {A : DEnds} {s : List Sl} (h : ∀ k : List Sl → Prop, (∀ s', U A s' → k s') → T { A with nx := k } s) : dSeq T U A s := h (U A) fun _ h => h
/-- the ends out of sight -/
theorem nxq {T : DSt} {A : DEnds} {s : List Sl} (h : ∀ k : List Sl → Prop, (∀ s', A.nx s' → k s') → T { A with nx := k } s) : T A s := h A.nx fun _ h => h
end DL
namespace DL
open PySem PySem.Spec L2
/-- a loop over a list, by places -/
theorem for_ix {tg : DTg} {T : DSt} {A : DEnds} {α : Type} (c : α → D) (xs : List α) (I : Nat → List Sl → Prop) {s : List Sl} (h0 : I 0 s)
    (step : ∀ t, ∀ h : t < xs.length, ∀ s, I t s → ∀ k b : List Sl → Prop, (∀ s', I (t + 1) s' → k s') → tg (c xs[t]) s fun s1 => T { A with nx := k, ct := k, bk := b } s1) (fin : ∀ s, I xs.length s → A.nx s) : forGo tg T A (xs.map c) s :=
  for_to c (fun zs s => ∃ t, zs = xs.drop t ∧ t ≤ xs.length ∧ I t s) xs ⟨0, by simp, Nat.zero_le _, h0⟩ (fun x zs s ⟨t, e, hl, h⟩ k b hk => by
    have ht : t < xs.length := by
      by_cases q : t < xs.length
      · exact q
      · rw [List.drop_eq_nil_of_le (by omega)] at e
        cases e
    rw [List.drop_eq_getElem_cons ht] at e
    cases e
    exact step t ht s h k b fun s' hs => hk s' ⟨t + 1, rfl, ht, hs⟩)
    fun s ⟨t, e, hl, h⟩ => by
      have : t = xs.length := by
        have := congrArg List.length e
        simp at this
        omega
      exact fin s (this ▸ h)
theorem for_enum {tg : DTg} {T : DSt} {A : DEnds} {α : Type} (c : α → D) (xs : List α) (I : Nat → List Sl → Prop) {s : List Sl} (h0 : I 0 s)
    (step : ∀ t, ∀ h : t < xs.length, ∀ s, I t s → ∀ k b : List Sl → Prop, (∀ s', I (t + 1) s' → k s') → tg (.tuple [.int ((t : Nat) : Int), c xs[t]]) s fun s1 => T { A with nx := k, ct := k, bk := b } s1) (fin : ∀ s, I xs.length s → A.nx s) : forGo tg T A (enumL (xs.map c)) s := by
  rw [enumL_map]
  refine for_ix _ _ I h0 (fun t h s hs k b hk => ?_) (by simpa using fin)
  rw [List.length_zipIdx] at h
  rw [List.getElem_zipIdx]
  simpa using step t h s hs k b hk
theorem for_range {tg : DTg} {T : DSt} {A : DEnds} (lo : Int) (n : Nat) (I : Nat → List Sl → Prop) {s : List Sl} (h0 : I 0 s)
    (step : ∀ t, t < n → ∀ s, I t s → ∀ k b : List Sl → Prop, (∀ s', I (t + 1) s' → k s') → tg (.int (lo + (t : Int))) s fun s1 => T { A with nx := k, ct := k, bk := b } s1) (fin : ∀ s, I n s → A.nx s) : forGo tg T A (rangeL lo n) s := by
  refine for_ix (fun i : Nat => PyData.int (lo + (i : Int))) (List.range n) I h0 (fun t h s hs k b hk => ?_) (by simpa using fin)
  rw [List.length_range] at h
  rw [List.getElem_range]
  exact step t h s hs k b hk
end DL
namespace DL
open PySem PySem.Spec L2
theorem enumL_range (c : Nat → D) (n : Nat) : enumL ((List.range n).map c) = (List.range n).map fun i : Nat => PyData.tuple [.int (i : Int), c i] := by
  refine List.ext_getElem (by simp [enumL]) fun i h1 h2 => ?_
  simp [enumL]
end DL
namespace DL
open PySem PySem.Spec L2
theorem enumL_rangeI (f : Nat → Int) (n : Nat) : enumL (dInts ((List.range n).map f)) = (List.range n).map fun i : Nat => PyData.tuple [.int (i : Int), .int (f i)] := by
  rw [dInts_map, List.map_map, enumL_range]
  rfl
end DL


namespace TL
open PySem PySem.Spec L2 DL
/-! values, courses, windows -/
inductive Vl where
  | non
  | int (i : Int)
  | tup (xs : List Int)
deriving DecidableEq
def Vl.d : Vl → D
  | .non => .none
  | .int i => .int i
  | .tup xs => .tuple (dInts xs)
theorem eqv_vl : ∀ a b : Vl, PyData.eqv a.d b.d = decide (a = b)
  | .non, .non => by simp [Vl.d, PyData.eqv]
  | .non, .int _ => by simp [Vl.d, PyData.eqv]
  | .non, .tup _ => by simp [Vl.d, PyData.eqv]
  | .int _, .non => by simp [Vl.d, PyData.eqv]
  | .int i, .int j => by rw [Vl.d, Vl.d, eqv_int]; simp
  | .int _, .tup _ => by simp [Vl.d, PyData.eqv]
  | .tup _, .non => by simp [Vl.d, PyData.eqv]
  | .tup _, .int _ => by simp [Vl.d, PyData.eqv]
  | .tup a, .tup b => by
    simp only [Vl.d, PyData.eqv]
    rw [eqvAll_ints]
    simp
theorem lay_vl : ∀ v : Vl, v.d.canLay0 = true ∧ v.d.depth ≤ 2
  | .non => ⟨rfl, by simp [Vl.d, PyData.depth]⟩
  | .int _ => ⟨rfl, by simp [Vl.d, PyData.depth]⟩
  | .tup xs => by
    have h := depth_ints xs
    refine ⟨?_, ?_⟩
    · simp only [Vl.d, PyData.canLay0]
      exact lay_all xs
    · simp only [Vl.d, PyData.depth]
      omega
theorem shaped_of {d : D} (h : d.canLay0 = true) (h' : d.depth ≤ 64) : SeqAt.shaped d = true := by
  show (PyData.canLay0 d && decide (d.depth ≤ 64)) = true
  rw [h, Bool.true_and, decide_eq_true h']
theorem shaped_vl (v : Vl) : SeqAt.shaped v.d = true := shaped_of (lay_vl v).1 (Nat.le_trans (lay_vl v).2 (by decide))
def dVs (vs : List Vl) : List D := vs.map Vl.d
theorem dVs_len (vs : List Vl) : (dVs vs).length = vs.length := by simp [dVs]
theorem dVs_snoc (vs : List Vl) (v : Vl) : dVs vs ++ [v.d] = dVs (vs ++ [v]) := by simp [dVs]
theorem dVs_app (vs ws : List Vl) : dVs vs ++ dVs ws = dVs (vs ++ ws) := by simp [dVs]
theorem dVs_map (vs : List Vl) : dVs vs = vs.map Vl.d := rfl
theorem lay_vs : ∀ vs : List Vl, PyData.canLayAll0 (dVs vs) = true ∧ PyData.depthAll (dVs vs) ≤ 2
  | [] => ⟨rfl, by show PyData.depthAll [] ≤ 2; simp [PyData.depthAll]⟩
  | v :: vs => by
    obtain ⟨a, b⟩ := lay_vs vs
    obtain ⟨c, d⟩ := lay_vl v
    refine ⟨?_, ?_⟩
    · show (v.d.canLay0 && PyData.canLayAll0 (dVs vs)) = true
      rw [a, c]
      rfl
    · show PyData.depthAll (v.d :: dVs vs) ≤ 2
      simp only [PyData.depthAll]
      omega
theorem shaped_vs (vs : List Vl) : SeqAt.shaped (.list (dVs vs)) = true := by
  obtain ⟨a, b⟩ := lay_vs vs
  exact shaped_of (by simp only [PyData.canLay0]; exact a) (by simp only [PyData.depth]; omega)
theorem eqvAll_vs : ∀ a b : List Vl, PyData.eqvAll (dVs a) (dVs b) = decide (a = b)
  | [], [] => by simp [dVs, PyData.eqvAll]
  | [], _ :: _ => by simp [dVs, PyData.eqvAll]
  | _ :: _, [] => by simp [dVs, PyData.eqvAll]
  | x :: xs, y :: ys => by
    show (PyData.eqv x.d y.d && PyData.eqvAll (dVs xs) (dVs ys)) = _
    rw [eqvAll_vs xs ys, eqv_vl]
    by_cases h : x = y <;> by_cases h' : xs = ys <;> simp [h, h']
theorem eqv_vs (a b : List Vl) : PyData.eqv (.list (dVs a)) (.list (dVs b)) = decide (a = b) := by
  simp only [PyData.eqv]
  exact eqvAll_vs a b
theorem any_vs (v : Vl) : ∀ vs : List Vl, ((dVs vs).any fun z => PyData.eqv z v.d) = decide (v ∈ vs)
  | [] => by simp [dVs]
  | x :: xs => by
    have ih := any_vs v xs
    show (PyData.eqv x.d v.d || (dVs xs).any fun z => PyData.eqv z v.d) = _
    rw [ih, eqv_vl]
    by_cases h : x = v
    · simp [h]
    · have h' : ¬ v = x := fun z => h z.symm
      simp [h, h']
/-- lists of lists of values -/
def dCs (cs : List (List Vl)) : List D := cs.map fun c => .list (dVs c)
theorem dCs_len (cs : List (List Vl)) : (dCs cs).length = cs.length := by simp [dCs]
theorem dCs_snoc (cs : List (List Vl)) (c : List Vl) : dCs cs ++ [.list (dVs c)] = dCs (cs ++ [c]) := by simp [dCs]
theorem dCs_map (cs : List (List Vl)) : dCs cs = cs.map fun c => .list (dVs c) := rfl
theorem lay_cs : ∀ cs : List (List Vl), PyData.canLayAll0 (dCs cs) = true ∧ PyData.depthAll (dCs cs) ≤ 3
  | [] => ⟨rfl, by show PyData.depthAll [] ≤ 3; simp [PyData.depthAll]⟩
  | c :: cs => by
    obtain ⟨a, b⟩ := lay_cs cs
    obtain ⟨e, d⟩ := lay_vs c
    refine ⟨?_, ?_⟩
    · show (PyData.canLay0 (.list (dVs c)) && PyData.canLayAll0 (dCs cs)) = true
      rw [a, Bool.and_true]
      simp only [PyData.canLay0]
      exact e
    · show PyData.depthAll (.list (dVs c) :: dCs cs) ≤ 3
      simp only [PyData.depthAll, PyData.depth]
      omega
theorem shaped_cs (cs : List (List Vl)) : SeqAt.shaped (.list (dCs cs)) = true := by
  obtain ⟨a, b⟩ := lay_cs cs
  exact shaped_of (by simp only [PyData.canLay0]; exact a) (by simp only [PyData.depth]; omega)
theorem any_cs (v : List Vl) : ∀ vs : List (List Vl), ((dCs vs).any fun z => PyData.eqv z (.list (dVs v))) = decide (v ∈ vs)
  | [] => by simp [dCs]
  | x :: xs => by
    have ih := any_cs v xs
    show (PyData.eqv (.list (dVs x)) (.list (dVs v)) || (dCs xs).any fun z => PyData.eqv z (.list (dVs v))) = _
    rw [ih, eqv_vs]
    by_cases h : x = v
    · simp [h]
    · have h' : ¬ v = x := fun z => h z.symm
      simp [h, h']
theorem any_cs0 (vs : List (List Vl)) : ((dCs vs).any fun z => PyData.eqv z (.list [])) = decide ([] ∈ vs) := any_cs [] vs
def dCCs (cs : List (List (List Vl))) : List D := cs.map fun c => .list (dCs c)
/-! keys -/
theorem keys_ints : ∀ xs : List Int, keysOf (dInts xs) = xs.map NestedKey.num
  | [] => by simp [dInts, keysOf]
  | x :: xs => by
    have := keys_ints xs
    show keysOf (.int x :: dInts xs) = _
    rw [keysOf, this, DL.keyOf]
    rfl
theorem num_inj : ∀ {a b : List Int}, a.map NestedKey.num = b.map NestedKey.num → a = b
  | [], [], _ => rfl
  | [], _ :: _, h => by cases h
  | _ :: _, [], h => by cases h
  | x :: xs, y :: ys, h => by
    rw [List.map_cons, List.map_cons, List.cons.injEq] at h
    have h1 := h.1
    rw [NestedKey.num.injEq] at h1
    rw [h1, num_inj h.2]
theorem key_inj {a b : Vl} : DL.keyOf a.d = DL.keyOf b.d ↔ a = b := by
  refine ⟨fun h => ?_, fun h => by rw [h]⟩
  cases a <;> cases b <;> simp only [Vl.d, DL.keyOf, keys_ints] at h
  · rfl
  · cases h
  · cases h
  · cases h
  · rw [NestedKey.num.injEq] at h; rw [h]
  · cases h
  · cases h
  · cases h
  · rw [NestedKey.tup.injEq] at h; rw [num_inj h]
theorem keyable_vl (v : Vl) : keyable 8 v.d = true := by
  cases v with
  | non => rfl
  | int i => rfl
  | tup xs =>
    simp only [Vl.d, keyable, List.all_eq_true]
    intro x hx
    obtain ⟨i, _, rfl⟩ := List.mem_map.mp hx
    rfl
theorem mixPut_cons (q : D × D) (r : List (D × D)) (k e : D) : mixPut (q :: r) k e = if DL.keyOf q.1 = DL.keyOf k then (q.1, e) :: r else q :: mixPut r k e := by
  unfold mixPut
  rw [List.findIdx?_cons]
  by_cases h : DL.keyOf q.1 = DL.keyOf k
  · simp [h]
  · simp only [h, decide_false, if_false, Bool.false_eq_true]
    cases r.findIdx? _ <;> simp
theorem mixAt_cons (q : D × D) (r : List (D × D)) (k : D) : mixAt (q :: r) k = if DL.keyOf q.1 = DL.keyOf k then some q.2 else mixAt r k := by
  unfold mixAt
  rw [List.find?_cons]
  by_cases h : DL.keyOf q.1 = DL.keyOf k
  · simp [h]
  · simp [h]
def tab (f : Vl → Int) (us : List Vl) : List (D × D) := us.map fun v => (v.d, PyData.int (f v))
theorem tab_at (f : Vl → Int) (v : Vl) : ∀ us : List Vl, mixAt (tab f us) v.d = if v ∈ us then some (.int (f v)) else none
  | [] => rfl
  | u :: us => by
    have ih := tab_at f v us
    show mixAt ((u.d, PyData.int (f u)) :: tab f us) v.d = _
    rw [mixAt_cons, ih]
    by_cases h : u = v
    · rw [if_pos (key_inj.mpr h), if_pos (by simp [h]), h]
    · have h' : ¬ v = u := fun z => h z.symm
      rw [if_neg (fun z => h (key_inj.mp z))]
      simp [h']
def addU (us : List Vl) (v : Vl) : List Vl := if v ∈ us then us else us ++ [v]
theorem tab_put (f g : Vl → Int) (v : Vl) (hg : ∀ u, u ≠ v → g u = f u) : ∀ us : List Vl, us.Nodup → mixPut (tab f us) v.d (.int (g v)) = tab g (addU us v)
  | [], _ => by simp [addU, tab, mixPut]
  | u :: us, nd => by
    rw [List.nodup_cons] at nd
    have ih := tab_put f g v hg us nd.2
    show mixPut ((u.d, PyData.int (f u)) :: tab f us) v.d _ = _
    rw [mixPut_cons, ih]
    have tabc : ∀ ws : List Vl, v ∉ ws → tab f ws = tab g ws := fun ws hw => List.map_congr_left fun w hw2 => by rw [hg w (fun z => hw (z ▸ hw2))]
    by_cases h : u = v
    · rw [if_pos (key_inj.mpr h)]
      subst h
      rw [tabc us nd.1, addU, if_pos (by simp)]
      rfl
    · have h' : ¬ v = u := fun z => h z.symm
      rw [if_neg (fun z => h (key_inj.mp z)), ← hg u h]
      unfold addU
      by_cases hm : v ∈ us
      · simp [hm, tab]
      · simp [hm, h', tab]
theorem tab_vals (f : Vl → Int) (us : List Vl) : (tab f us).map (·.2) = dInts (us.map f) := by
  simp [tab, dInts]
theorem tab_len (f : Vl → Int) (us : List Vl) : (tab f us).length = us.length := by simp [tab]
theorem tab_congr {f g : Vl → Int} {us : List Vl} (h : ∀ u ∈ us, f u = g u) : tab f us = tab g us := List.map_congr_left fun u hu => by rw [h u hu]
/-! unlike values -/
def unl (vs : List Vl) : List Vl := vs.foldl addU []
theorem unl_snoc (vs : List Vl) (v : Vl) : unl (vs ++ [v]) = addU (unl vs) v := by simp [unl]
theorem mem_addU {us : List Vl} {v u : Vl} : u ∈ addU us v ↔ u ∈ us ∨ u = v := by
  unfold addU
  split
  · rename_i h
    exact ⟨.inl, fun z => z.elim id fun e => e ▸ h⟩
  · simp
theorem mem_unl : ∀ {vs : List Vl} {u : Vl}, u ∈ unl vs ↔ u ∈ vs := by
  have key : ∀ (vs us : List Vl) (u : Vl), u ∈ vs.foldl addU us ↔ u ∈ us ∨ u ∈ vs := fun vs => by
    induction vs with
    | nil => intro us u; simp
    | cons v vs ih =>
      intro us u
      rw [List.foldl_cons, ih, mem_addU, List.mem_cons, or_assoc]
  intro vs u
  unfold unl
  rw [key]
  simp
theorem addU_nodup {us : List Vl} (h : us.Nodup) (v : Vl) : (addU us v).Nodup := by
  unfold addU
  split
  · exact h
  · rename_i hm
    rw [List.nodup_append]
    refine ⟨h, by simp, fun a ha b hb => ?_⟩
    rw [List.mem_singleton] at hb
    intro z
    exact hm (by rw [← hb, ← z]; exact ha)
theorem unl_nodup (vs : List Vl) : (unl vs).Nodup := by
  have key : ∀ (vs us : List Vl), us.Nodup → (vs.foldl addU us).Nodup := fun vs => by
    induction vs with
    | nil => intro us h; exact h
    | cons v vs ih => intro us h; exact ih _ (addU_nodup h v)
  exact key vs [] List.nodup_nil
theorem unl_ne {vs : List Vl} (h : vs ≠ []) : unl vs ≠ [] := by
  obtain ⟨x, hx⟩ := List.exists_mem_of_ne_nil vs h
  intro z
  have := mem_unl.mpr hx
  rw [z] at this
  cases this
theorem unl_len (vs : List Vl) : (unl vs).length ≤ vs.length := by
  have key : ∀ (vs us : List Vl), (vs.foldl addU us).length ≤ us.length + vs.length := fun vs => by
    induction vs with
    | nil => intro us; simp
    | cons v vs ih =>
      intro us
      have := ih (addU us v)
      have h2 : (addU us v).length ≤ us.length + 1 := by unfold addU; split <;> simp
      rw [List.foldl_cons, List.length_cons]
      omega
  have := key vs []
  simpa [unl] using this
/-! windows -/
def win (c : List Vl) (D t : Nat) : List Vl := (c.drop (t - D)).take (t + 1 - (t - D))
theorem win_len (c : List Vl) (D t : Nat) : (win c D t).length ≤ c.length := by
  unfold win
  rw [List.length_take, List.length_drop]
  omega
theorem win_at {c : List Vl} {D t : Nat} (h : t < c.length) : c[t] ∈ win c D t := by
  unfold win
  rw [List.mem_iff_getElem]
  refine ⟨t - (t - D), by rw [List.length_take, List.length_drop]; omega, ?_⟩
  rw [List.getElem_take, List.getElem_drop]
  congr 1
  omega
theorem win_ne {c : List Vl} {D t : Nat} (h : t < c.length) : win c D t ≠ [] := List.ne_nil_of_mem (win_at h)
theorem mem_win {c : List Vl} {D t : Nat} (h : t < c.length) {v : Vl} : v ∈ win c D t ↔ ∃ p, ∃ hp : p < c.length, t ≤ p + D ∧ p ≤ t ∧ c[p] = v := by
  unfold win
  rw [List.mem_iff_getElem]
  constructor
  · rintro ⟨i, hi, rfl⟩
    rw [List.length_take, List.length_drop] at hi
    refine ⟨t - D + i, by omega, by omega, by omega, ?_⟩
    rw [List.getElem_take, List.getElem_drop]
  · rintro ⟨p, hp, h1, h2, rfl⟩
    refine ⟨p - (t - D), by rw [List.length_take, List.length_drop]; omega, ?_⟩
    rw [List.getElem_take, List.getElem_drop]
    congr 1
    omega
theorem cutL_mid {α : Type} (xs : List α) {lo hi : Nat} (h : lo ≤ hi) (h' : hi ≤ xs.length) : cutL xs (some ((lo : Nat) : Int)) (some ((hi : Nat) : Int)) = (xs.drop lo).take (hi - lo) := by
  have e1 : HT.sIx xs.length 0 (some ((lo : Nat) : Int)) = min lo xs.length := by
    show (if (lo : Int) < 0 then ((lo : Int) + (xs.length : Int)).toNat else min (lo : Int).toNat xs.length) = _
    rw [if_neg (by omega), Int.toNat_natCast]
  have e2 : HT.sIx xs.length xs.length (some ((hi : Nat) : Int)) = min hi xs.length := by
    show (if (hi : Int) < 0 then ((hi : Int) + (xs.length : Int)).toNat else min (hi : Int).toNat xs.length) = _
    rw [if_neg (by omega), Int.toNat_natCast]
  unfold cutL
  rw [e1, e2, Nat.min_eq_left h', Nat.min_eq_left (Nat.le_trans h h')]
theorem range_mid (lo hi : Nat) : ∀ n : Nat, (List.range n).filter (fun p => decide (lo ≤ p ∧ p ≤ hi)) = List.range' lo (min n (hi + 1) - lo)
  | 0 => by simp
  | n + 1 => by
    rw [List.range_succ, List.filter_append, range_mid lo hi n]
    by_cases h : lo ≤ n ∧ n ≤ hi
    · have e1 : min n (hi + 1) - lo = n - lo := by omega
      have e2 : min (n + 1) (hi + 1) - lo = (n - lo) + 1 := by omega
      rw [e1, e2, List.range'_concat]
      have e3 : lo + 1 * (n - lo) = n := by omega
      simp [h, e3]
    · have e1 : min (n + 1) (hi + 1) - lo = min n (hi + 1) - lo := by omega
      rw [e1]
      simp [h]
theorem win_law {c : List Vl} {D t : Nat} (h : t < c.length) : ((List.range c.length).filter (fun p => decide (t - D ≤ p ∧ p ≤ t))).map (fun p => c.getD p .non) = win c D t := by
  rw [range_mid, Nat.min_eq_right (by omega)]
  unfold win
  refine List.ext_getElem ?_ fun i h1 h2 => ?_
  · rw [List.length_map, List.length_range', List.length_take, List.length_drop]
    omega
  · rw [List.length_map, List.length_range'] at h1
    rw [List.getElem_map, List.getElem_range', List.getElem_take, List.getElem_drop, List.getD_eq_getElem?_getD, List.getElem?_eq_getElem (by omega)]
    simp
/-! rounds -/
def filt (cm th : List Vl) : List Vl := cm.filter fun v => decide (v ∈ th)
def wins (cs : List (List Vl)) (D t : Nat) : List (List Vl) := cs.map fun c => win c D t
structure Rs where
  bs : List Nat
  done : List (List (List Vl))
  last : List (List Vl)
def RG (cs : List (List Vl)) (D : Nat) : Nat → Rs
  | 0 => ⟨[0], [], (wins cs D 0).map unl⟩
  | t + 1 =>
    let p := RG cs D t
    let left := List.zipWith filt p.last (wins cs D (t + 1))
    if [] ∈ left then ⟨p.bs ++ [t + 1], p.done ++ [p.last], (wins cs D (t + 1)).map unl⟩ else ⟨p.bs, p.done, left⟩
/-- one course alone -/
def G1 (c : List Vl) (D : Nat) : Nat → Nat × List Vl
  | 0 => (0, unl (win c D 0))
  | t + 1 => let l := filt (G1 c D t).2 (win c D (t + 1)); if l = [] then ((G1 c D t).1 + 1, unl (win c D (t + 1))) else ((G1 c D t).1, l)
theorem RG_one (c : List Vl) (D : Nat) : ∀ t, (RG [c] D t).bs.length = (G1 c D t).1 + 1 ∧ (RG [c] D t).last = [(G1 c D t).2]
  | 0 => ⟨rfl, rfl⟩
  | t + 1 => by
    obtain ⟨h1, h2⟩ := RG_one c D t
    simp only [RG, G1, h2, wins, List.map_cons, List.map_nil, List.zipWith_cons_cons, List.zipWith_nil_left, List.mem_singleton, eq_comm (a := ([] : List Vl))]
    split
    · exact ⟨by simp [h1], rfl⟩
    · exact ⟨h1, rfl⟩
theorem G1_ok {c : List Vl} {D : Nat} : ∀ {t : Nat}, t < c.length → (G1 c D t).2 ≠ [] ∧ ∀ v ∈ (G1 c D t).2, v ∈ win c D t
  | 0, h => ⟨unl_ne (win_ne h), fun v hv => mem_unl.mp hv⟩
  | t + 1, h => by
    simp only [G1]
    split
    · exact ⟨unl_ne (win_ne h), fun v hv => mem_unl.mp hv⟩
    · rename_i hl
      exact ⟨hl, fun v hv => by simpa using (List.mem_filter.mp hv).2⟩
/-- the fewest changes -/
def few (c : List Vl) (D : Nat) : Nat := (G1 c D (c.length - 1)).1
theorem few_zero {c : List Vl} {D : Nat} (h : c ≠ []) (hD : c.length ≤ D + 1) : few c D = 0 := by
  have hp : 0 < c.length := List.length_pos_iff.mpr h
  have key : ∀ t, t < c.length → (G1 c D t).1 = 0 ∧ c[0] ∈ (G1 c D t).2 := fun t => by
    induction t with
    | zero => intro ht; exact ⟨rfl, mem_unl.mpr (win_at hp)⟩
    | succ t ih =>
      intro ht
      obtain ⟨a, b⟩ := ih (by omega)
      have m : c[0] ∈ filt (G1 c D t).2 (win c D (t + 1)) := List.mem_filter.mpr ⟨b, decide_eq_true ((mem_win ht).mpr ⟨0, hp, by omega, by omega, rfl⟩)⟩
      simp only [G1]
      rw [if_neg (List.ne_nil_of_mem m)]
      exact ⟨a, m⟩
  exact (key _ (by omega)).1
theorem G1_le (c : List Vl) (D : Nat) : ∀ t, (G1 c D t).1 ≤ t
  | 0 => Nat.le_refl _
  | t + 1 => by
    have := G1_le c D t
    simp only [G1]
    split <;> simp <;> omega
theorem few_le (c : List Vl) (D : Nat) : few c D ≤ c.length - 1 := G1_le c D _
/-- the law's own least numbers by the value told -/
def bestF (c : List Vl) (D t : Nat) (v : Vl) : Int := if v ∈ (G1 c D t).2 then ((G1 c D t).1 : Int) else ((G1 c D t).1 : Int) + 1
theorem best_min {c : List Vl} {D t : Nat} (h : t < c.length) : lmin ((unl (win c D t)).map (bestF c D t)) = ((G1 c D t).1 : Int) := by
  obtain ⟨h1, h2⟩ := G1_ok (D := D) h
  obtain ⟨x, hx⟩ := List.exists_mem_of_ne_nil _ h1
  refine lmin_is (List.mem_map.mpr ⟨x, mem_unl.mpr (h2 x hx), by simp [bestF, hx]⟩) fun y hy => ?_
  obtain ⟨z, _, rfl⟩ := List.mem_map.mp hy
  unfold bestF
  split <;> omega
theorem best_next {c : List Vl} {D t : Nat} (h : t + 1 < c.length) {v : Vl} (hv : v ∈ win c D (t + 1)) : bestF c D t v = bestF c D (t + 1) v := by
  unfold bestF
  simp only [G1]
  have hm : v ∈ (G1 c D t).2 ↔ v ∈ filt (G1 c D t).2 (win c D (t + 1)) := by simp [filt, hv]
  by_cases hl : filt (G1 c D t).2 (win c D (t + 1)) = []
  · have : v ∉ (G1 c D t).2 := fun z => by
      have := hm.mp z
      rw [hl] at this
      cases this
    simp [hl, this, mem_unl.mpr hv]
  · simp [hl, hm]
theorem best_get {c : List Vl} {D t : Nat} (h : t + 1 < c.length) (v : Vl) : min (((mixAt (tab (bestF c D t) (unl (win c D t))) v.d).getD (.int (((G1 c D t).1 : Int) + 1))) |> fun d => match d with | .int i => i | _ => 0) (((G1 c D t).1 : Int) + 1) = bestF c D t v := by
  rw [tab_at]
  obtain ⟨_, h2⟩ := G1_ok (c := c) (D := D) (t := t) (by omega)
  by_cases hm : v ∈ (G1 c D t).2
  · rw [if_pos (mem_unl.mpr (h2 v hm))]
    simp only [Option.getD_some, bestF, hm, if_true]
    omega
  · split
    · simp only [Option.getD_some, bestF, hm, if_false]
      omega
    · simp only [Option.getD_none, bestF, hm, if_false]
      omega
/-! stairs -/
def isRec (f : Nat → Int) (d : Nat) : Bool := decide (∀ e, e < d → f d < f e)
def recs (f : Nat → Int) (n : Nat) : List (Nat × Int) := ((List.range n).filter (isRec f)).map fun d => (d, f d)
theorem recs_succ (f : Nat → Int) (n : Nat) : recs f (n + 1) = recs f n ++ (if isRec f n = true then [(n, f n)] else []) := by
  unfold recs
  rw [List.range_succ, List.filter_append, List.map_append]
  cases h : isRec f n <;> simp [h]
theorem recs_last (f : Nat → Int) : ∀ n, 0 < n → ∃ init d, recs f n = init ++ [(d, f d)] ∧ d < n ∧ ∀ e, e < n → f d ≤ f e
  | 1, _ => ⟨[], 0, by rw [recs_succ]; simp [recs, isRec], by decide, fun e he => by
      have : e = 0 := by omega
      subst this
      exact Int.le_refl _⟩
  | n + 2, _ => by
    obtain ⟨init, d, h1, h2, h3⟩ := recs_last f (n + 1) (by omega)
    rw [recs_succ]
    by_cases h : isRec f (n + 1) = true
    · refine ⟨recs f (n + 1), n + 1, by rw [if_pos h], by omega, fun e he => ?_⟩
      by_cases q : e = n + 1
      · subst q; exact Int.le_refl _
      · have := (of_decide_eq_true h) e (by omega)
        omega
    · refine ⟨init, d, by rw [if_neg h, List.append_nil, h1], by omega, fun e he => ?_⟩
      by_cases q : e = n + 1
      · subst q
        have h' : ¬ ∀ e, e < n + 1 → f (n + 1) < f e := fun z => h (decide_eq_true z)
        rw [Classical.not_forall] at h'
        obtain ⟨e, he⟩ := h'
        rw [Classical.not_imp] at he
        have := h3 e he.1
        omega
      · exact h3 e (by omega)
theorem rec_iff {f : Nat → Int} {n d : Nat} {init : List (Nat × Int)} (h : recs f n = init ++ [(d, f d)]) (hd : d < n) (hm : ∀ e, e < n → f d ≤ f e) : isRec f n = decide (f n < f d) := by
  unfold isRec
  by_cases q : f n < f d
  · rw [decide_eq_true q, decide_eq_true fun e he => by have := hm e he; omega]
  · rw [decide_eq_false q, decide_eq_false fun z => q (z d hd)]
theorem first_rec (f : Nat → Int) (m : Int) : ∀ n, (((recs f n).filter fun q => decide (q.2 ≤ m)).map (·.1)).head? = (List.range n).find? fun d => decide (f d ≤ m)
  | 0 => rfl
  | n + 1 => by
    have ih := first_rec f m n
    rw [recs_succ, List.filter_append, List.map_append, List.head?_append, ih, List.range_succ, List.find?_append]
    cases q : (List.range n).find? (fun d => decide (f d ≤ m)) with
    | some d => rfl
    | none =>
      rw [List.find?_eq_none] at q
      simp only [Option.none_or]
      by_cases h : f n ≤ m
      · have : isRec f n = true := decide_eq_true fun e he => by
          have := q e (by simpa using he)
          simp at this
          omega
        simp [this, h]
      · by_cases h2 : isRec f n = true <;> simp [h, h2]
/-! values that are small -/
def OkV : Vl → Prop
  | .non => True
  | .int i => i.natAbs < 2 ^ 110
  | .tup xs => xs.length ≤ 2 ∧ ∀ x ∈ xs, Near x
theorem plain_vl : ∀ v : Vl, OkV v → plainD v.d = true ∧ wgt v.d ≤ 140
  | .non, _ => ⟨rfl, by simp [Vl.d, wgt]⟩
  | .int i, h => by
    have hl : i.natAbs.log2 < 110 := by
      by_cases h0 : i.natAbs = 0
      · rw [h0]; decide
      · exact (Nat.log2_lt h0).mpr h
    refine ⟨by simp only [Vl.d, plainD, decide_eq_true_eq]; omega, by simp only [Vl.d, wgt]; omega⟩
  | .tup xs, h => by
    obtain ⟨a, b⟩ := plain_ints h.2
    have := h.1
    refine ⟨by simp only [Vl.d, plainD]; exact a, by simp only [Vl.d, wgt]; omega⟩
theorem plain_vs : ∀ vs : List Vl, (∀ v ∈ vs, OkV v) → plainDs (dVs vs) = true ∧ wgtAll (dVs vs) ≤ 142 * vs.length
  | [], _ => ⟨rfl, by simp [dVs, wgtAll]⟩
  | v :: vs, h => by
    obtain ⟨a, b⟩ := plain_vs vs fun u hu => h u (List.mem_cons_of_mem _ hu)
    obtain ⟨c, d⟩ := plain_vl v (h v (List.mem_cons_self ..))
    refine ⟨?_, ?_⟩
    · show (plainD v.d && plainDs (dVs vs)) = true
      rw [a, c]
      rfl
    · show wgtAll (v.d :: dVs vs) ≤ _
      simp only [wgtAll, List.length_cons]
      omega
structure OkC (c : List Vl) : Prop where
  n1 : 1 ≤ c.length
  n2 : c.length ≤ 120
  v : ∀ v ∈ c, OkV v
theorem OkC.ne {c : List Vl} (h : OkC c) : c ≠ [] := fun z => by have := h.n1; rw [z] at this; simp at this
theorem nice_vs {vs : List Vl} (h : ∀ v ∈ vs, OkV v) (hl : vs.length ≤ 100000) : Nice (.list (dVs vs)) := by
  obtain ⟨a, b⟩ := plain_vs vs h
  obtain ⟨_, d⟩ := lay_vs vs
  have sz : sizeLine = 2 ^ 24 := rfl
  refine ⟨by simp only [plainD]; exact a, by simp only [PyData.depth]; omega, ?_⟩
  simp only [wgt]
  omega
def isWh : D → Bool
  | .int _ => true
  | _ => false
/-! pairs -/
def dPs (ps : List (Nat × Int)) : List D := ps.map fun q => .tuple [.int (q.1 : Int), .int q.2]
theorem dPs_snoc (ps : List (Nat × Int)) (q : Nat × Int) : dPs ps ++ [.tuple [.int (q.1 : Int), .int q.2]] = dPs (ps ++ [q]) := by simp [dPs]
theorem dPs_len (ps : List (Nat × Int)) : (dPs ps).length = ps.length := by simp [dPs]
theorem dPs_map (ps : List (Nat × Int)) : dPs ps = ps.map fun q => .tuple [.int (q.1 : Int), .int q.2] := rfl
theorem plain_ps : ∀ ps : List (Nat × Int), (∀ q ∈ ps, q.1 < 2 ^ 40 ∧ Near q.2) → plainDs (dPs ps) = true ∧ wgtAll (dPs ps) ≤ 140 * ps.length ∧ PyData.depthAll (dPs ps) ≤ 2
  | [], _ => ⟨rfl, by simp [dPs, wgtAll], by show PyData.depthAll [] ≤ 2; simp [PyData.depthAll]⟩
  | q :: ps, h => by
    obtain ⟨a, b, e⟩ := plain_ps ps fun u hu => h u (List.mem_cons_of_mem _ hu)
    obtain ⟨c, d⟩ := h q (List.mem_cons_self ..)
    have n1 := near_log (n := (q.1 : Int)) ⟨by omega, by omega⟩
    have n2 := near_log d
    refine ⟨?_, ?_, ?_⟩
    · show (plainD (.tuple [.int (q.1 : Int), .int q.2]) && plainDs (dPs ps)) = true
      rw [a, Bool.and_true]
      simp only [plainD, plainDs, Bool.and_true, Bool.and_eq_true, decide_eq_true_eq]
      exact ⟨by omega, by omega⟩
    · show wgtAll (.tuple [.int (q.1 : Int), .int q.2] :: dPs ps) ≤ _
      simp only [wgtAll, wgt, List.length_cons]
      omega
    · show PyData.depthAll (.tuple [.int (q.1 : Int), .int q.2] :: dPs ps) ≤ 2
      simp only [PyData.depthAll, PyData.depth]
      omega
theorem nice_ps {ps : List (Nat × Int)} (h : ∀ q ∈ ps, q.1 < 2 ^ 40 ∧ Near q.2) (hl : ps.length ≤ 100000) : Nice (.list (dPs ps)) := by
  obtain ⟨a, b, c⟩ := plain_ps ps h
  have sz : sizeLine = 2 ^ 24 := rfl
  refine ⟨by simp only [plainD]; exact a, by simp only [PyData.depth]; omega, ?_⟩
  simp only [wgt]
  omega
theorem filter_no {α : Type} (xs : List α) : xs.filter (fun _ => false) = [] := by simp
def bsAt (cs : List (List Vl)) (D : Nat) : Nat → List Nat
  | 0 => []
  | t + 1 => (RG cs D t).bs
def cmAt (cs : List (List Vl)) (D : Nat) : Nat → List (List (List Vl))
  | 0 => []
  | t + 1 => (RG cs D t).done ++ [(RG cs D t).last]
theorem dCCs_snoc (cs : List (List (List Vl))) (c : List (List Vl)) : dCCs cs ++ [.list (dCs c)] = dCCs (cs ++ [c]) := by simp [dCCs]
theorem dCCs_len (cs : List (List (List Vl))) : (dCCs cs).length = cs.length := by simp [dCCs]
theorem RG_bs (cs : List (List Vl)) (D : Nat) : ∀ t, (RG cs D t).bs ≠ [] ∧ (RG cs D t).bs.length ≤ t + 1 ∧ (RG cs D t).bs.length = (RG cs D t).done.length + 1
  | 0 => ⟨by simp [RG], by simp [RG], by simp [RG]⟩
  | t + 1 => by
    obtain ⟨a, b, c⟩ := RG_bs cs D t
    simp only [RG]
    split
    · exact ⟨by simp, by simp; omega, by simp; omega⟩
    · exact ⟨a, by simp only; omega, c⟩
theorem dNats_snoc (es : List Nat) (t : Nat) : dNats es ++ [.int (t : Int)] = dNats (es ++ [t]) := by simp [dNats]
theorem ixN_last {n : Nat} (h : 0 < n) : ixN n (-1) = some (n - 1) := by
  unfold ixN
  simp
  omega
theorem zip_filt (a b : List (List Vl)) : (a.zip b).map (fun q => filt q.1 q.2) = List.zipWith filt a b := by
  rw [List.zip, List.map_zipWith]
theorem atI_cc (done : List (List (List Vl))) (last : List (List Vl)) : atI (dCCs (done ++ [last])) (-1) = some (.list (dCs last)) := by
  rw [show dCCs (done ++ [last]) = dCCs done ++ [.list (dCs last)] by simp [dCCs]]
  exact atI_last _ _
theorem set_cc (done : List (List (List Vl))) (last l : List (List Vl)) : (dCCs (done ++ [last])).set done.length (.list (dCs l)) = dCCs (done ++ [l]) := by
  simp [dCCs]
theorem emp_nats {es : List Nat} (h : es ≠ []) : (dNats es).isEmpty = false := by
  cases es with
  | nil => exact absurd rfl h
  | cons e es => rfl
theorem bsAt_few {c : List Vl} (h : c ≠ []) (D : Nat) : ((bsAt [c] D c.length).length : Int) - 1 = (few c D : Int) := by
  have hp : 0 < c.length := List.length_pos_iff.mpr h
  obtain ⟨m, hm⟩ : ∃ m, c.length = m + 1 := ⟨c.length - 1, by omega⟩
  have := (RG_one c D m).1
  rw [hm, bsAt, this, few, hm]
  simp
theorem range_map_f {f : Nat → Int} (n : Nat) : ((List.range n).map fun d : Nat => PyData.int (f d)) = dInts ((List.range n).map f) := map_int f _
theorem lay_ps : ∀ ps : List (Nat × Int), PyData.canLayAll0 (dPs ps) = true ∧ PyData.depthAll (dPs ps) ≤ 2
  | [] => ⟨rfl, by show PyData.depthAll [] ≤ 2; simp [PyData.depthAll]⟩
  | q :: ps => by
    obtain ⟨a, b⟩ := lay_ps ps
    refine ⟨?_, ?_⟩
    · show (PyData.canLay0 (.tuple [.int (q.1 : Int), .int q.2]) && PyData.canLayAll0 (dPs ps)) = true
      rw [a, Bool.and_true]
      simp [PyData.canLay0, PyData.canLayAll0]
    · show PyData.depthAll (.tuple [.int (q.1 : Int), .int q.2] :: dPs ps) ≤ 2
      simp only [PyData.depthAll, PyData.depth]
      omega
theorem shaped_ps (ps : List (Nat × Int)) : SeqAt.shaped (.list (dPs ps)) = true := by
  obtain ⟨a, b⟩ := lay_ps ps
  exact shaped_of (by simp only [PyData.canLay0]; exact a) (by simp only [PyData.depth]; omega)
end TL


namespace k62
open PySem PySem.Spec L2 DL TL
def TP : Nat → DFn
  | 0 => fun _ _ _ _ => False
  | n + 1 => fun _ ds k _ => ∃ d, ds = [d] ∧ plainD d = true ∧ d.depth ≤ n ∧ wgt d ≤ sizeLine ∧ k (.bool true) 0

abbrev nn_is_whole : Nat := 1
-- 0:thing
def B_is_whole : (String → Prop) → DSt := fun kx => (dRet (dAndV (dIsi "int" (dVar 0)) (dNotV (dIsi "bool" (dVar 0)))))
def R_is_whole : DFn := den false 1 B_is_whole
def T_is_whole : DFn := fun _ ds k _ => ∃ d, ds = [d] ∧ k (.bool (isWh d)) 0
theorem imp_is_whole : ∀ B ds k kx, ds.length = 1 → T_is_whole B ds k kx → R_is_whole B ds k kx := fun B ds k kx _ h => by
  obtain ⟨d, rfl, hk⟩ := h
  cases d <;> simp [R_is_whole, B_is_whole, den, initS, endB, dSeq, dSet, dPar, dRet, dRetN, dIfS, dDrop, dFor, dNext, dBreak, dCont, dNever, dRaise, dAug, fAddI, dAppend, dSetIx, dVar, dC, dOp, dUn, dCB, dNil, dCons, dLst, dTup, dTest, dAnd, dOr, dNot, dAndV, dOrV, dNotV, dIf, dChain, dIsi, dIsi2, dYes, fAdd, fSub, fMul, fDiv, fMod, fPow, fNeg, fIx, fLen, fMax, fMin, fSum, fSorted, fAbs, fInt, fList, fTuple, fRepr, gEq, gNe, gLt, gLe, gGt, gGe, gIn, gNotIn, gIs, gIsNot, cD, put, cut, see, sees, look, fz, fzs, fzV, fill, dLc, dSeqI, dRng1, dRng2, dEnum, dZip, dName, dgTup, dgCons, dgNil, dAsg, dCall, dCallS, stAll, mapSt_st, mapSt_no, mapSt_val, mapSt_ow, mapSt_scr, mapSt_ns, noSts, wipeS, dSl, dPart, dNoPart, fSl, dRev, dBM, mCount, mIndex, dStInt, dStTurn, dStPop, dStCells, dStPut, dStTurnPut, dLenScr, tyName, isTyN, isNone, isBool, toInts_ints, dInts_len, List.map_cons, List.map_nil, List.map_append, List.getElem?_cons_zero, List.getElem?_cons_succ, List.set_cons_zero, List.set_cons_succ, List.length_cons, List.length_nil, List.take_nil, List.take_zero, List.take_succ_cons, List.cons_append, List.nil_append, List.replicate_zero, List.replicate_succ, if_true, if_false, ite_true, ite_false, Bool.false_eq_true, Bool.not_true, Bool.not_false, reduceIte, Nat.zero_add, Nat.add_zero, Nat.reduceAdd, Nat.reduceSub, Nat.sub_self, decide_true, decide_false, true_and, and_true, List.length_map] <;> exact hk

abbrev nn_is_value : Nat := 2
-- 0:thing 1:one
def B_is_value : (String → Prop) → DSt := fun kx => (dSeq (dIfS (dOr (dTest (dOp (cD gIs) (dVar 0) (dC .none))) (dTest (dCall 1 T_is_whole (fun _ => False) (dCons (dVar 0) dNil)))) (dRet (dC (.bool true))) dNext) (dRet (dAndV (dIsi "tuple" (dVar 0)) (dOp (cD gEq) (dLc (dSeqI (dVar 0)) (dName 1) (dNot (dTest (dCall 1 T_is_whole (fun _ => False) (dCons (dVar 1) dNil)))) (dVar 1) [1]) (dLst dNil)))))
def R_is_value : DFn := den false 2 B_is_value
def T_is_value : DFn := fun _ ds k _ => ∃ v : Vl, ds = [v.d] ∧ OkV v ∧ k (.bool true) 0
theorem imp_is_value : ∀ B ds k kx, ds.length = 1 → T_is_value B ds k kx → R_is_value B ds k kx := fun B ds k kx _ h => by
  obtain ⟨v, rfl, hv, hk⟩ := h
  have sz : sizeLine = 2 ^ 24 := rfl
  simp only [R_is_value, B_is_value, T_is_whole, den, initS]
  cases v with
  | non => simp [den, initS, endB, dSeq, dSet, dPar, dRet, dRetN, dIfS, dDrop, dFor, dNext, dBreak, dCont, dNever, dRaise, dAug, fAddI, dAppend, dSetIx, dVar, dC, dOp, dUn, dCB, dNil, dCons, dLst, dTup, dTest, dAnd, dOr, dNot, dAndV, dOrV, dNotV, dIf, dChain, dIsi, dIsi2, dYes, fAdd, fSub, fMul, fDiv, fMod, fPow, fNeg, fIx, fLen, fMax, fMin, fSum, fSorted, fAbs, fInt, fList, fTuple, fRepr, gEq, gNe, gLt, gLe, gGt, gGe, gIn, gNotIn, gIs, gIsNot, cD, put, cut, see, sees, look, fz, fzs, fzV, fill, dLc, dSeqI, dRng1, dRng2, dEnum, dZip, dName, dgTup, dgCons, dgNil, dAsg, dCall, dCallS, stAll, mapSt_st, mapSt_no, mapSt_val, mapSt_ow, mapSt_scr, mapSt_ns, noSts, wipeS, dSl, dPart, dNoPart, fSl, dRev, dBM, mCount, mIndex, dStInt, dStTurn, dStPop, dStCells, dStPut, dStTurnPut, dLenScr, tyName, isTyN, isNone, isBool, toInts_ints, dInts_len, List.map_cons, List.map_nil, List.map_append, List.getElem?_cons_zero, List.getElem?_cons_succ, List.set_cons_zero, List.set_cons_succ, List.length_cons, List.length_nil, List.take_nil, List.take_zero, List.take_succ_cons, List.cons_append, List.nil_append, List.replicate_zero, List.replicate_succ, if_true, if_false, ite_true, ite_false, Bool.false_eq_true, Bool.not_true, Bool.not_false, reduceIte, Nat.zero_add, Nat.add_zero, Nat.reduceAdd, Nat.reduceSub, Nat.sub_self, decide_true, decide_false, true_and, and_true, List.length_map, Vl.d]; exact hk
  | int i => simp [den, initS, endB, dSeq, dSet, dPar, dRet, dRetN, dIfS, dDrop, dFor, dNext, dBreak, dCont, dNever, dRaise, dAug, fAddI, dAppend, dSetIx, dVar, dC, dOp, dUn, dCB, dNil, dCons, dLst, dTup, dTest, dAnd, dOr, dNot, dAndV, dOrV, dNotV, dIf, dChain, dIsi, dIsi2, dYes, fAdd, fSub, fMul, fDiv, fMod, fPow, fNeg, fIx, fLen, fMax, fMin, fSum, fSorted, fAbs, fInt, fList, fTuple, fRepr, gEq, gNe, gLt, gLe, gGt, gGe, gIn, gNotIn, gIs, gIsNot, cD, put, cut, see, sees, look, fz, fzs, fzV, fill, dLc, dSeqI, dRng1, dRng2, dEnum, dZip, dName, dgTup, dgCons, dgNil, dAsg, dCall, dCallS, stAll, mapSt_st, mapSt_no, mapSt_val, mapSt_ow, mapSt_scr, mapSt_ns, noSts, wipeS, dSl, dPart, dNoPart, fSl, dRev, dBM, mCount, mIndex, dStInt, dStTurn, dStPop, dStCells, dStPut, dStTurnPut, dLenScr, tyName, isTyN, isNone, isBool, toInts_ints, dInts_len, List.map_cons, List.map_nil, List.map_append, List.getElem?_cons_zero, List.getElem?_cons_succ, List.set_cons_zero, List.set_cons_succ, List.length_cons, List.length_nil, List.take_nil, List.take_zero, List.take_succ_cons, List.cons_append, List.nil_append, List.replicate_zero, List.replicate_succ, if_true, if_false, ite_true, ite_false, Bool.false_eq_true, Bool.not_true, Bool.not_false, reduceIte, Nat.zero_add, Nat.add_zero, Nat.reduceAdd, Nat.reduceSub, Nat.sub_self, decide_true, decide_false, true_and, and_true, List.length_map, Vl.d]; exact ⟨_, rfl, hk⟩
  | tup xs =>
    simp only [den, initS, endB, dSeq, dSet, dPar, dRet, dRetN, dIfS, dDrop, dFor, dNext, dBreak, dCont, dNever, dRaise, dAug, fAddI, dAppend, dSetIx, dVar, dC, dOp, dUn, dCB, dNil, dCons, dLst, dTup, dTest, dAnd, dOr, dNot, dAndV, dOrV, dNotV, dIf, dChain, dIsi, dIsi2, dYes, fAdd, fSub, fMul, fDiv, fMod, fPow, fNeg, fIx, fLen, fMax, fMin, fSum, fSorted, fAbs, fInt, fList, fTuple, fRepr, gEq, gNe, gLt, gLe, gGt, gGe, gIn, gNotIn, gIs, gIsNot, cD, put, cut, see, sees, look, fz, fzs, fzV, fill, dLc, dSeqI, dRng1, dRng2, dEnum, dZip, dName, dgTup, dgCons, dgNil, dAsg, dCall, dCallS, stAll, mapSt_st, mapSt_no, mapSt_val, mapSt_ow, mapSt_scr, mapSt_ns, noSts, wipeS, dSl, dPart, dNoPart, fSl, dRev, dBM, mCount, mIndex, dStInt, dStTurn, dStPop, dStCells, dStPut, dStTurnPut, dLenScr, tyName, isTyN, isNone, isBool, toInts_ints, dInts_len, List.map_cons, List.map_nil, List.map_append, List.getElem?_cons_zero, List.getElem?_cons_succ, List.set_cons_zero, List.set_cons_succ, List.length_cons, List.length_nil, List.take_nil, List.take_zero, List.take_succ_cons, List.cons_append, List.nil_append, List.replicate_zero, List.replicate_succ, if_true, if_false, ite_true, ite_false, Bool.false_eq_true, Bool.not_true, Bool.not_false, reduceIte, Nat.zero_add, Nat.add_zero, Nat.reduceAdd, Nat.reduceSub, Nat.sub_self, decide_true, decide_false, true_and, and_true, List.length_map, Vl.d, isWh]
    refine ⟨_, rfl, ?_⟩
    have := hv.1
    rw [dInts_map]
    refine ⟨by omega, lc_filter PyData.int (fun _ => false) PyData.int xs (fun x hx k2 h2 => ?_) ?_⟩
    · simp only [stepLc, den, initS, endB, dSeq, dSet, dPar, dRet, dRetN, dIfS, dDrop, dFor, dNext, dBreak, dCont, dNever, dRaise, dAug, fAddI, dAppend, dSetIx, dVar, dC, dOp, dUn, dCB, dNil, dCons, dLst, dTup, dTest, dAnd, dOr, dNot, dAndV, dOrV, dNotV, dIf, dChain, dIsi, dIsi2, dYes, fAdd, fSub, fMul, fDiv, fMod, fPow, fNeg, fIx, fLen, fMax, fMin, fSum, fSorted, fAbs, fInt, fList, fTuple, fRepr, gEq, gNe, gLt, gLe, gGt, gGe, gIn, gNotIn, gIs, gIsNot, cD, put, cut, see, sees, look, fz, fzs, fzV, fill, dLc, dSeqI, dRng1, dRng2, dEnum, dZip, dName, dgTup, dgCons, dgNil, dAsg, dCall, dCallS, stAll, mapSt_st, mapSt_no, mapSt_val, mapSt_ow, mapSt_scr, mapSt_ns, noSts, wipeS, dSl, dPart, dNoPart, fSl, dRev, dBM, mCount, mIndex, dStInt, dStTurn, dStPop, dStCells, dStPut, dStTurnPut, dLenScr, tyName, isTyN, isNone, isBool, toInts_ints, dInts_len, List.map_cons, List.map_nil, List.map_append, List.getElem?_cons_zero, List.getElem?_cons_succ, List.set_cons_zero, List.set_cons_succ, List.length_cons, List.length_nil, List.take_nil, List.take_zero, List.take_succ_cons, List.cons_append, List.nil_append, List.replicate_zero, List.replicate_succ, if_true, if_false, ite_true, ite_false, Bool.false_eq_true, Bool.not_true, Bool.not_false, reduceIte, Nat.zero_add, Nat.add_zero, Nat.reduceAdd, Nat.reduceSub, Nat.sub_self, decide_true, decide_false, true_and, and_true, List.length_map, isWh]
      exact ⟨_, rfl, by simpa [isWh] using h2⟩
    · simp only [filter_no, List.map_nil, eqv_nil, den, initS, endB, dSeq, dSet, dPar, dRet, dRetN, dIfS, dDrop, dFor, dNext, dBreak, dCont, dNever, dRaise, dAug, fAddI, dAppend, dSetIx, dVar, dC, dOp, dUn, dCB, dNil, dCons, dLst, dTup, dTest, dAnd, dOr, dNot, dAndV, dOrV, dNotV, dIf, dChain, dIsi, dIsi2, dYes, fAdd, fSub, fMul, fDiv, fMod, fPow, fNeg, fIx, fLen, fMax, fMin, fSum, fSorted, fAbs, fInt, fList, fTuple, fRepr, gEq, gNe, gLt, gLe, gGt, gGe, gIn, gNotIn, gIs, gIsNot, cD, put, cut, see, sees, look, fz, fzs, fzV, fill, dLc, dSeqI, dRng1, dRng2, dEnum, dZip, dName, dgTup, dgCons, dgNil, dAsg, dCall, dCallS, stAll, mapSt_st, mapSt_no, mapSt_val, mapSt_ow, mapSt_scr, mapSt_ns, noSts, wipeS, dSl, dPart, dNoPart, fSl, dRev, dBM, mCount, mIndex, dStInt, dStTurn, dStPop, dStCells, dStPut, dStTurnPut, dLenScr, tyName, isTyN, isNone, isBool, toInts_ints, dInts_len, List.map_cons, List.map_nil, List.map_append, List.getElem?_cons_zero, List.getElem?_cons_succ, List.set_cons_zero, List.set_cons_succ, List.length_cons, List.length_nil, List.take_nil, List.take_zero, List.take_succ_cons, List.cons_append, List.nil_append, List.replicate_zero, List.replicate_succ, if_true, if_false, ite_true, ite_false, Bool.false_eq_true, Bool.not_true, Bool.not_false, reduceIte, Nat.zero_add, Nat.add_zero, Nat.reduceAdd, Nat.reduceSub, Nat.sub_self, decide_true, decide_false, true_and, and_true, List.length_map]
      exact ⟨Nat.zero_le _, shaped_ints [], shaped_ints [], by simpa using hk⟩

abbrev nn_is_course : Nat := 2
-- 0:thing 1:value
def B_is_course : (String → Prop) → DSt := fun kx => (dSeq (dIfS (dOr (dNot (dTest (dIsi "list" (dVar 0)))) (dNot (dTest (dChain gLe gLe (dC (.int 1)) (dCB fLen (dCons (dVar 0) dNil)) (dC (.int 120)))))) (dRet (dC (.bool false))) dNext) (dRet (dOp (cD gEq) (dLc (dSeqI (dVar 0)) (dName 1) (dNot (dTest (dCall 1 T_is_value (fun _ => False) (dCons (dVar 1) dNil)))) (dVar 1) [1]) (dLst dNil))))
def R_is_course : DFn := den false 2 B_is_course
def T_is_course : DFn := fun _ ds k _ => ∃ c : List Vl, ds = [.list (dVs c)] ∧ OkC c ∧ k (.bool true) 0
theorem imp_is_course : ∀ B ds k kx, ds.length = 1 → T_is_course B ds k kx → R_is_course B ds k kx := fun B ds k kx _ h => by
  obtain ⟨c, rfl, hc, hk⟩ := h
  have sz : sizeLine = 2 ^ 24 := rfl
  have n1 := hc.n1
  have n2 := hc.n2
  have a1 : decide ((1 : Int) ≤ (c.length : Int)) = true := decide_eq_true (by omega)
  have a2 : decide ((c.length : Int) ≤ 120) = true := decide_eq_true (by omega)
  simp only [R_is_course, B_is_course, T_is_value, den, initS]
  simp only [den, initS, endB, dSeq, dSet, dPar, dRet, dRetN, dIfS, dDrop, dFor, dNext, dBreak, dCont, dNever, dRaise, dAug, fAddI, dAppend, dSetIx, dVar, dC, dOp, dUn, dCB, dNil, dCons, dLst, dTup, dTest, dAnd, dOr, dNot, dAndV, dOrV, dNotV, dIf, dChain, dIsi, dIsi2, dYes, fAdd, fSub, fMul, fDiv, fMod, fPow, fNeg, fIx, fLen, fMax, fMin, fSum, fSorted, fAbs, fInt, fList, fTuple, fRepr, gEq, gNe, gLt, gLe, gGt, gGe, gIn, gNotIn, gIs, gIsNot, cD, put, cut, see, sees, look, fz, fzs, fzV, fill, dLc, dSeqI, dRng1, dRng2, dEnum, dZip, dName, dgTup, dgCons, dgNil, dAsg, dCall, dCallS, stAll, mapSt_st, mapSt_no, mapSt_val, mapSt_ow, mapSt_scr, mapSt_ns, noSts, wipeS, dSl, dPart, dNoPart, fSl, dRev, dBM, mCount, mIndex, dStInt, dStTurn, dStPop, dStCells, dStPut, dStTurnPut, dLenScr, tyName, isTyN, isNone, isBool, toInts_ints, dInts_len, List.map_cons, List.map_nil, List.map_append, List.getElem?_cons_zero, List.getElem?_cons_succ, List.set_cons_zero, List.set_cons_succ, List.length_cons, List.length_nil, List.take_nil, List.take_zero, List.take_succ_cons, List.cons_append, List.nil_append, List.replicate_zero, List.replicate_succ, if_true, if_false, ite_true, ite_false, Bool.false_eq_true, Bool.not_true, Bool.not_false, reduceIte, Nat.zero_add, Nat.add_zero, Nat.reduceAdd, Nat.reduceSub, Nat.sub_self, decide_true, decide_false, true_and, and_true, List.length_map, dVs_len, a1, a2]
  refine ⟨by omega, ?_⟩
  rw [dVs_map]
  refine lc_filter Vl.d (fun _ => false) Vl.d c (fun v hv k2 h2 => ?_) ?_
  · simp only [stepLc, den, initS, endB, dSeq, dSet, dPar, dRet, dRetN, dIfS, dDrop, dFor, dNext, dBreak, dCont, dNever, dRaise, dAug, fAddI, dAppend, dSetIx, dVar, dC, dOp, dUn, dCB, dNil, dCons, dLst, dTup, dTest, dAnd, dOr, dNot, dAndV, dOrV, dNotV, dIf, dChain, dIsi, dIsi2, dYes, fAdd, fSub, fMul, fDiv, fMod, fPow, fNeg, fIx, fLen, fMax, fMin, fSum, fSorted, fAbs, fInt, fList, fTuple, fRepr, gEq, gNe, gLt, gLe, gGt, gGe, gIn, gNotIn, gIs, gIsNot, cD, put, cut, see, sees, look, fz, fzs, fzV, fill, dLc, dSeqI, dRng1, dRng2, dEnum, dZip, dName, dgTup, dgCons, dgNil, dAsg, dCall, dCallS, stAll, mapSt_st, mapSt_no, mapSt_val, mapSt_ow, mapSt_scr, mapSt_ns, noSts, wipeS, dSl, dPart, dNoPart, fSl, dRev, dBM, mCount, mIndex, dStInt, dStTurn, dStPop, dStCells, dStPut, dStTurnPut, dLenScr, tyName, isTyN, isNone, isBool, toInts_ints, dInts_len, List.map_cons, List.map_nil, List.map_append, List.getElem?_cons_zero, List.getElem?_cons_succ, List.set_cons_zero, List.set_cons_succ, List.length_cons, List.length_nil, List.take_nil, List.take_zero, List.take_succ_cons, List.cons_append, List.nil_append, List.replicate_zero, List.replicate_succ, if_true, if_false, ite_true, ite_false, Bool.false_eq_true, Bool.not_true, Bool.not_false, reduceIte, Nat.zero_add, Nat.add_zero, Nat.reduceAdd, Nat.reduceSub, Nat.sub_self, decide_true, decide_false, true_and, and_true, List.length_map]
    exact ⟨v, rfl, hc.v v hv, by simpa using h2⟩
  · simp only [filter_no, List.map_nil, eqv_nil, den, initS, endB, dSeq, dSet, dPar, dRet, dRetN, dIfS, dDrop, dFor, dNext, dBreak, dCont, dNever, dRaise, dAug, fAddI, dAppend, dSetIx, dVar, dC, dOp, dUn, dCB, dNil, dCons, dLst, dTup, dTest, dAnd, dOr, dNot, dAndV, dOrV, dNotV, dIf, dChain, dIsi, dIsi2, dYes, fAdd, fSub, fMul, fDiv, fMod, fPow, fNeg, fIx, fLen, fMax, fMin, fSum, fSorted, fAbs, fInt, fList, fTuple, fRepr, gEq, gNe, gLt, gLe, gGt, gGe, gIn, gNotIn, gIs, gIsNot, cD, put, cut, see, sees, look, fz, fzs, fzV, fill, dLc, dSeqI, dRng1, dRng2, dEnum, dZip, dName, dgTup, dgCons, dgNil, dAsg, dCall, dCallS, stAll, mapSt_st, mapSt_no, mapSt_val, mapSt_ow, mapSt_scr, mapSt_ns, noSts, wipeS, dSl, dPart, dNoPart, fSl, dRev, dBM, mCount, mIndex, dStInt, dStTurn, dStPop, dStCells, dStPut, dStTurnPut, dLenScr, tyName, isTyN, isNone, isBool, toInts_ints, dInts_len, List.map_cons, List.map_nil, List.map_append, List.getElem?_cons_zero, List.getElem?_cons_succ, List.set_cons_zero, List.set_cons_succ, List.length_cons, List.length_nil, List.take_nil, List.take_zero, List.take_succ_cons, List.cons_append, List.nil_append, List.replicate_zero, List.replicate_succ, if_true, if_false, ite_true, ite_false, Bool.false_eq_true, Bool.not_true, Bool.not_false, reduceIte, Nat.zero_add, Nat.add_zero, Nat.reduceAdd, Nat.reduceSub, Nat.sub_self, decide_true, decide_false, true_and, and_true, List.length_map]
    exact ⟨Nat.zero_le _, shaped_ints [], shaped_ints [], by simpa using hk⟩

abbrev nn_need_number : Nat := 3
-- 0:thing 1:low 2:high
def B_need_number : (String → Prop) → DSt := fun kx => (dIfS (dOr (dNot (dTest (dCall 1 T_is_whole (fun _ => False) (dCons (dVar 0) dNil)))) (dNot (dTest (dChain gLe gLe (dVar 1) (dVar 0) (dVar 2))))) (dRaise kx "NoAsk") dNext)
def R_need_number : DFn := den false 3 B_need_number
def T_need_number : DFn := fun _ ds k _ => ∃ n lo hi : Int, ds = [.int n, .int lo, .int hi] ∧ lo ≤ n ∧ n ≤ hi ∧ k .none 0
theorem imp_need_number : ∀ B ds k kx, ds.length = 3 → T_need_number B ds k kx → R_need_number B ds k kx := fun B ds k kx _ h => by
  obtain ⟨n, lo, hi, rfl, h1, h2, hk⟩ := h
  simp only [R_need_number, B_need_number, T_is_whole, den, initS, endB, dSeq, dSet, dPar, dRet, dRetN, dIfS, dDrop, dFor, dNext, dBreak, dCont, dNever, dRaise, dAug, fAddI, dAppend, dSetIx, dVar, dC, dOp, dUn, dCB, dNil, dCons, dLst, dTup, dTest, dAnd, dOr, dNot, dAndV, dOrV, dNotV, dIf, dChain, dIsi, dIsi2, dYes, fAdd, fSub, fMul, fDiv, fMod, fPow, fNeg, fIx, fLen, fMax, fMin, fSum, fSorted, fAbs, fInt, fList, fTuple, fRepr, gEq, gNe, gLt, gLe, gGt, gGe, gIn, gNotIn, gIs, gIsNot, cD, put, cut, see, sees, look, fz, fzs, fzV, fill, dLc, dSeqI, dRng1, dRng2, dEnum, dZip, dName, dgTup, dgCons, dgNil, dAsg, dCall, dCallS, stAll, mapSt_st, mapSt_no, mapSt_val, mapSt_ow, mapSt_scr, mapSt_ns, noSts, wipeS, dSl, dPart, dNoPart, fSl, dRev, dBM, mCount, mIndex, dStInt, dStTurn, dStPop, dStCells, dStPut, dStTurnPut, dLenScr, tyName, isTyN, isNone, isBool, toInts_ints, dInts_len, List.map_cons, List.map_nil, List.map_append, List.getElem?_cons_zero, List.getElem?_cons_succ, List.set_cons_zero, List.set_cons_succ, List.length_cons, List.length_nil, List.take_nil, List.take_zero, List.take_succ_cons, List.cons_append, List.nil_append, List.replicate_zero, List.replicate_succ, if_true, if_false, ite_true, ite_false, Bool.false_eq_true, Bool.not_true, Bool.not_false, reduceIte, Nat.zero_add, Nat.add_zero, Nat.reduceAdd, Nat.reduceSub, Nat.sub_self, decide_true, decide_false, true_and, and_true, List.length_map, isWh]
  refine ⟨_, rfl, ?_⟩
  simp [h1, h2, isWh]
  exact hk

abbrev nn_need_course : Nat := 1
-- 0:course
def B_need_course : (String → Prop) → DSt := fun kx => (dIfS (dNot (dTest (dCall 1 T_is_course (fun _ => False) (dCons (dVar 0) dNil)))) (dRaise kx "NoAsk") dNext)
def R_need_course : DFn := den false 1 B_need_course
def T_need_course : DFn := fun _ ds k _ => ∃ c : List Vl, ds = [.list (dVs c)] ∧ OkC c ∧ k .none 0
theorem imp_need_course : ∀ B ds k kx, ds.length = 1 → T_need_course B ds k kx → R_need_course B ds k kx := fun B ds k kx _ h => by
  obtain ⟨c, rfl, hc, hk⟩ := h
  simp only [R_need_course, B_need_course, T_is_course, den, initS, endB, dSeq, dSet, dPar, dRet, dRetN, dIfS, dDrop, dFor, dNext, dBreak, dCont, dNever, dRaise, dAug, fAddI, dAppend, dSetIx, dVar, dC, dOp, dUn, dCB, dNil, dCons, dLst, dTup, dTest, dAnd, dOr, dNot, dAndV, dOrV, dNotV, dIf, dChain, dIsi, dIsi2, dYes, fAdd, fSub, fMul, fDiv, fMod, fPow, fNeg, fIx, fLen, fMax, fMin, fSum, fSorted, fAbs, fInt, fList, fTuple, fRepr, gEq, gNe, gLt, gLe, gGt, gGe, gIn, gNotIn, gIs, gIsNot, cD, put, cut, see, sees, look, fz, fzs, fzV, fill, dLc, dSeqI, dRng1, dRng2, dEnum, dZip, dName, dgTup, dgCons, dgNil, dAsg, dCall, dCallS, stAll, mapSt_st, mapSt_no, mapSt_val, mapSt_ow, mapSt_scr, mapSt_ns, noSts, wipeS, dSl, dPart, dNoPart, fSl, dRev, dBM, mCount, mIndex, dStInt, dStTurn, dStPop, dStCells, dStPut, dStTurnPut, dLenScr, tyName, isTyN, isNone, isBool, toInts_ints, dInts_len, List.map_cons, List.map_nil, List.map_append, List.getElem?_cons_zero, List.getElem?_cons_succ, List.set_cons_zero, List.set_cons_succ, List.length_cons, List.length_nil, List.take_nil, List.take_zero, List.take_succ_cons, List.cons_append, List.nil_append, List.replicate_zero, List.replicate_succ, if_true, if_false, ite_true, ite_false, Bool.false_eq_true, Bool.not_true, Bool.not_false, reduceIte, Nat.zero_add, Nat.add_zero, Nat.reduceAdd, Nat.reduceSub, Nat.sub_self, decide_true, decide_false, true_and, and_true, List.length_map]
  exact ⟨c, rfl, hc, hk⟩

abbrev nn_need_courses : Nat := 2
-- 0:courses 1:course
def B_need_courses : (String → Prop) → DSt := fun kx => (dSeq (dIfS (dOr (dNot (dTest (dIsi "list" (dVar 0)))) (dNot (dTest (dChain gLe gLe (dC (.int 1)) (dCB fLen (dCons (dVar 0) dNil)) (dC (.int 6)))))) (dRaise kx "NoAsk") dNext) (dFor (dSeqI (dVar 0)) (dName 1) (dSeq (dDrop (dCall 1 T_need_course (fun _ => False) (dCons (dVar 1) dNil))) (dIfS (dTest (dOp (cD gNe) (dCB fLen (dCons (dVar 1) dNil)) (dCB fLen (dCons (dOp fIx (dVar 0) (dC (.int 0))) dNil)))) (dRaise kx "NoAsk") dNext))))
def R_need_courses : DFn := den false 2 B_need_courses
structure OkCs (cs : List (List Vl)) (n : Nat) : Prop where
  n1 : 1 ≤ cs.length
  n2 : cs.length ≤ 6
  c : ∀ c ∈ cs, OkC c ∧ c.length = n
theorem OkCs.at0 {cs : List (List Vl)} {n : Nat} (h : OkCs cs n) : ∃ c r, cs = c :: r ∧ OkC c ∧ c.length = n := by
  cases cs with
  | nil => have := h.n1; simp at this
  | cons c r => exact ⟨c, r, rfl, h.c c (List.mem_cons_self ..)⟩
theorem okCs_one {c : List Vl} (h : OkC c) : OkCs [c] c.length := ⟨by simp, by simp, fun x hx => by
  rw [List.mem_singleton] at hx
  subst hx
  exact ⟨h, rfl⟩⟩
theorem atI_zero {α : Type} (x : α) (r : List α) : atI (x :: r) 0 = some x := atI_nat (j := 0) rfl
def T_need_courses : DFn := fun _ ds k _ => ∃ cs n, ds = [.list (dCs cs)] ∧ OkCs cs n ∧ k .none 0
theorem imp_need_courses : ∀ B ds k kx, ds.length = 1 → T_need_courses B ds k kx → R_need_courses B ds k kx := fun B ds k kx _ h => by
  obtain ⟨cs, n, rfl, hc, hk⟩ := h
  have n1 := hc.n1
  have n2 := hc.n2
  have a1 : decide ((1 : Int) ≤ (cs.length : Int)) = true := decide_eq_true (by omega)
  have a2 : decide ((cs.length : Int) ≤ 6) = true := decide_eq_true (by omega)
  simp only [R_need_courses, B_need_courses, den, initS]
  refine sq fun k1 h1 => ?_
  simp only [den, initS, endB, dSeq, dSet, dPar, dRet, dRetN, dIfS, dDrop, dFor, dNext, dBreak, dCont, dNever, dRaise, dAug, fAddI, dAppend, dSetIx, dVar, dC, dOp, dUn, dCB, dNil, dCons, dLst, dTup, dTest, dAnd, dOr, dNot, dAndV, dOrV, dNotV, dIf, dChain, dIsi, dIsi2, dYes, fAdd, fSub, fMul, fDiv, fMod, fPow, fNeg, fIx, fLen, fMax, fMin, fSum, fSorted, fAbs, fInt, fList, fTuple, fRepr, gEq, gNe, gLt, gLe, gGt, gGe, gIn, gNotIn, gIs, gIsNot, cD, put, cut, see, sees, look, fz, fzs, fzV, fill, dLc, dSeqI, dRng1, dRng2, dEnum, dZip, dName, dgTup, dgCons, dgNil, dAsg, dCall, dCallS, stAll, mapSt_st, mapSt_no, mapSt_val, mapSt_ow, mapSt_scr, mapSt_ns, noSts, wipeS, dSl, dPart, dNoPart, fSl, dRev, dBM, mCount, mIndex, dStInt, dStTurn, dStPop, dStCells, dStPut, dStTurnPut, dLenScr, tyName, isTyN, isNone, isBool, toInts_ints, dInts_len, List.map_cons, List.map_nil, List.map_append, List.getElem?_cons_zero, List.getElem?_cons_succ, List.set_cons_zero, List.set_cons_succ, List.length_cons, List.length_nil, List.take_nil, List.take_zero, List.take_succ_cons, List.cons_append, List.nil_append, List.replicate_zero, List.replicate_succ, if_true, if_false, ite_true, ite_false, Bool.false_eq_true, Bool.not_true, Bool.not_false, reduceIte, Nat.zero_add, Nat.add_zero, Nat.reduceAdd, Nat.reduceSub, Nat.sub_self, decide_true, decide_false, true_and, and_true, List.length_map, dCs_len, a1, a2]
  refine h1 _ ?_
  simp only [den, initS, endB, dSeq, dSet, dPar, dRet, dRetN, dIfS, dDrop, dFor, dNext, dBreak, dCont, dNever, dRaise, dAug, fAddI, dAppend, dSetIx, dVar, dC, dOp, dUn, dCB, dNil, dCons, dLst, dTup, dTest, dAnd, dOr, dNot, dAndV, dOrV, dNotV, dIf, dChain, dIsi, dIsi2, dYes, fAdd, fSub, fMul, fDiv, fMod, fPow, fNeg, fIx, fLen, fMax, fMin, fSum, fSorted, fAbs, fInt, fList, fTuple, fRepr, gEq, gNe, gLt, gLe, gGt, gGe, gIn, gNotIn, gIs, gIsNot, cD, put, cut, see, sees, look, fz, fzs, fzV, fill, dLc, dSeqI, dRng1, dRng2, dEnum, dZip, dName, dgTup, dgCons, dgNil, dAsg, dCall, dCallS, stAll, mapSt_st, mapSt_no, mapSt_val, mapSt_ow, mapSt_scr, mapSt_ns, noSts, wipeS, dSl, dPart, dNoPart, fSl, dRev, dBM, mCount, mIndex, dStInt, dStTurn, dStPop, dStCells, dStPut, dStTurnPut, dLenScr, tyName, isTyN, isNone, isBool, toInts_ints, dInts_len, List.map_cons, List.map_nil, List.map_append, List.getElem?_cons_zero, List.getElem?_cons_succ, List.set_cons_zero, List.set_cons_succ, List.length_cons, List.length_nil, List.take_nil, List.take_zero, List.take_succ_cons, List.cons_append, List.nil_append, List.replicate_zero, List.replicate_succ, if_true, if_false, ite_true, ite_false, Bool.false_eq_true, Bool.not_true, Bool.not_false, reduceIte, Nat.zero_add, Nat.add_zero, Nat.reduceAdd, Nat.reduceSub, Nat.sub_self, decide_true, decide_false, true_and, and_true, List.length_map]
  rw [dCs_map]
  obtain ⟨c0, r0, e0, o0, l0⟩ := hc.at0
  refine for_each _ (fun t => ∃ y, t = [.val (.list (dCs cs)), y]) cs ⟨_, rfl⟩ (fun c hcm t ht k' b hk' => ?_) fun t ht => ?_
  · obtain ⟨y, rfl⟩ := ht
    have e1 : atI (dCs cs) 0 = some (.list (dVs c0)) := by rw [e0]; exact atI_zero _ _
    simp only [T_need_course, den, initS, endB, dSeq, dSet, dPar, dRet, dRetN, dIfS, dDrop, dFor, dNext, dBreak, dCont, dNever, dRaise, dAug, fAddI, dAppend, dSetIx, dVar, dC, dOp, dUn, dCB, dNil, dCons, dLst, dTup, dTest, dAnd, dOr, dNot, dAndV, dOrV, dNotV, dIf, dChain, dIsi, dIsi2, dYes, fAdd, fSub, fMul, fDiv, fMod, fPow, fNeg, fIx, fLen, fMax, fMin, fSum, fSorted, fAbs, fInt, fList, fTuple, fRepr, gEq, gNe, gLt, gLe, gGt, gGe, gIn, gNotIn, gIs, gIsNot, cD, put, cut, see, sees, look, fz, fzs, fzV, fill, dLc, dSeqI, dRng1, dRng2, dEnum, dZip, dName, dgTup, dgCons, dgNil, dAsg, dCall, dCallS, stAll, mapSt_st, mapSt_no, mapSt_val, mapSt_ow, mapSt_scr, mapSt_ns, noSts, wipeS, dSl, dPart, dNoPart, fSl, dRev, dBM, mCount, mIndex, dStInt, dStTurn, dStPop, dStCells, dStPut, dStTurnPut, dLenScr, tyName, isTyN, isNone, isBool, toInts_ints, dInts_len, List.map_cons, List.map_nil, List.map_append, List.getElem?_cons_zero, List.getElem?_cons_succ, List.set_cons_zero, List.set_cons_succ, List.length_cons, List.length_nil, List.take_nil, List.take_zero, List.take_succ_cons, List.cons_append, List.nil_append, List.replicate_zero, List.replicate_succ, if_true, if_false, ite_true, ite_false, Bool.false_eq_true, Bool.not_true, Bool.not_false, reduceIte, Nat.zero_add, Nat.add_zero, Nat.reduceAdd, Nat.reduceSub, Nat.sub_self, decide_true, decide_false, true_and, and_true, List.length_map, e1, dVs_len, eqv_int]
    refine ⟨c, rfl, (hc.c c hcm).1, shaped_int _, shaped_int _, ?_⟩
    simp [l0, (hc.c c hcm).2]
    exact hk' _ ⟨_, rfl⟩
  · obtain ⟨y, rfl⟩ := ht
    exact hk

abbrev nn_unlike : Nat := 3
-- 0:values 1:found 2:value
def B_unlike : (String → Prop) → DSt := fun kx => (dSeq (dSet 1 (dLst dNil)) (dSeq (dFor (dSeqI (dVar 0)) (dName 2) (dIfS (dTest (dOp (cD gNotIn) (dVar 2) (dVar 1))) (dAppend 1 (dVar 2)) dNext)) (dRet (dVar 1))))
def R_unlike : DFn := den false 3 B_unlike
def T_unlike : DFn := fun _ ds k _ => ∃ c : List Vl, ds = [.list (dVs c)] ∧ c.length < sizeLine ∧ k (.list (dVs (unl c))) 0
theorem imp_unlike : ∀ B ds k kx, ds.length = 1 → T_unlike B ds k kx → R_unlike B ds k kx := fun B ds k kx _ h => by
  obtain ⟨c, rfl, hl, hk⟩ := h
  simp only [R_unlike, B_unlike, den, initS]
  refine sq fun k1 h1 => ?_
  simp only [den, initS, endB, dSeq, dSet, dPar, dRet, dRetN, dIfS, dDrop, dFor, dNext, dBreak, dCont, dNever, dRaise, dAug, fAddI, dAppend, dSetIx, dVar, dC, dOp, dUn, dCB, dNil, dCons, dLst, dTup, dTest, dAnd, dOr, dNot, dAndV, dOrV, dNotV, dIf, dChain, dIsi, dIsi2, dYes, fAdd, fSub, fMul, fDiv, fMod, fPow, fNeg, fIx, fLen, fMax, fMin, fSum, fSorted, fAbs, fInt, fList, fTuple, fRepr, gEq, gNe, gLt, gLe, gGt, gGe, gIn, gNotIn, gIs, gIsNot, cD, put, cut, see, sees, look, fz, fzs, fzV, fill, dLc, dSeqI, dRng1, dRng2, dEnum, dZip, dName, dgTup, dgCons, dgNil, dAsg, dCall, dCallS, stAll, mapSt_st, mapSt_no, mapSt_val, mapSt_ow, mapSt_scr, mapSt_ns, noSts, wipeS, dSl, dPart, dNoPart, fSl, dRev, dBM, mCount, mIndex, dStInt, dStTurn, dStPop, dStCells, dStPut, dStTurnPut, dLenScr, tyName, isTyN, isNone, isBool, toInts_ints, dInts_len, List.map_cons, List.map_nil, List.map_append, List.getElem?_cons_zero, List.getElem?_cons_succ, List.set_cons_zero, List.set_cons_succ, List.length_cons, List.length_nil, List.take_nil, List.take_zero, List.take_succ_cons, List.cons_append, List.nil_append, List.replicate_zero, List.replicate_succ, if_true, if_false, ite_true, ite_false, Bool.false_eq_true, Bool.not_true, Bool.not_false, reduceIte, Nat.zero_add, Nat.add_zero, Nat.reduceAdd, Nat.reduceSub, Nat.sub_self, decide_true, decide_false, true_and, and_true, List.length_map]
  refine ⟨Nat.zero_le _, h1 _ ?_⟩
  refine sq fun k1 h1 => ?_
  simp only [den, initS, endB, dSeq, dSet, dPar, dRet, dRetN, dIfS, dDrop, dFor, dNext, dBreak, dCont, dNever, dRaise, dAug, fAddI, dAppend, dSetIx, dVar, dC, dOp, dUn, dCB, dNil, dCons, dLst, dTup, dTest, dAnd, dOr, dNot, dAndV, dOrV, dNotV, dIf, dChain, dIsi, dIsi2, dYes, fAdd, fSub, fMul, fDiv, fMod, fPow, fNeg, fIx, fLen, fMax, fMin, fSum, fSorted, fAbs, fInt, fList, fTuple, fRepr, gEq, gNe, gLt, gLe, gGt, gGe, gIn, gNotIn, gIs, gIsNot, cD, put, cut, see, sees, look, fz, fzs, fzV, fill, dLc, dSeqI, dRng1, dRng2, dEnum, dZip, dName, dgTup, dgCons, dgNil, dAsg, dCall, dCallS, stAll, mapSt_st, mapSt_no, mapSt_val, mapSt_ow, mapSt_scr, mapSt_ns, noSts, wipeS, dSl, dPart, dNoPart, fSl, dRev, dBM, mCount, mIndex, dStInt, dStTurn, dStPop, dStCells, dStPut, dStTurnPut, dLenScr, tyName, isTyN, isNone, isBool, toInts_ints, dInts_len, List.map_cons, List.map_nil, List.map_append, List.getElem?_cons_zero, List.getElem?_cons_succ, List.set_cons_zero, List.set_cons_succ, List.length_cons, List.length_nil, List.take_nil, List.take_zero, List.take_succ_cons, List.cons_append, List.nil_append, List.replicate_zero, List.replicate_succ, if_true, if_false, ite_true, ite_false, Bool.false_eq_true, Bool.not_true, Bool.not_false, reduceIte, Nat.zero_add, Nat.add_zero, Nat.reduceAdd, Nat.reduceSub, Nat.sub_self, decide_true, decide_false, true_and, and_true, List.length_map]
  rw [dVs_map]
  refine for_to _ (fun zs t => ∃ pre, c = pre ++ zs ∧ ∃ y, t = [.val (.list (dVs c)), .own (.lst (dVs (unl pre))), y]) c ⟨[], rfl, _, rfl⟩ (fun v zs t ht k' b hk' => ?_) fun t ht => ?_
  · obtain ⟨pre, e, y, rfl⟩ := ht
    have e1 : c = (pre ++ [v]) ++ zs := by rw [e]; simp
    have lu := unl_len pre
    have : pre.length < c.length := by rw [e]; simp
    simp only [den, initS, endB, dSeq, dSet, dPar, dRet, dRetN, dIfS, dDrop, dFor, dNext, dBreak, dCont, dNever, dRaise, dAug, fAddI, dAppend, dSetIx, dVar, dC, dOp, dUn, dCB, dNil, dCons, dLst, dTup, dTest, dAnd, dOr, dNot, dAndV, dOrV, dNotV, dIf, dChain, dIsi, dIsi2, dYes, fAdd, fSub, fMul, fDiv, fMod, fPow, fNeg, fIx, fLen, fMax, fMin, fSum, fSorted, fAbs, fInt, fList, fTuple, fRepr, gEq, gNe, gLt, gLe, gGt, gGe, gIn, gNotIn, gIs, gIsNot, cD, put, cut, see, sees, look, fz, fzs, fzV, fill, dLc, dSeqI, dRng1, dRng2, dEnum, dZip, dName, dgTup, dgCons, dgNil, dAsg, dCall, dCallS, stAll, mapSt_st, mapSt_no, mapSt_val, mapSt_ow, mapSt_scr, mapSt_ns, noSts, wipeS, dSl, dPart, dNoPart, fSl, dRev, dBM, mCount, mIndex, dStInt, dStTurn, dStPop, dStCells, dStPut, dStTurnPut, dLenScr, tyName, isTyN, isNone, isBool, toInts_ints, dInts_len, List.map_cons, List.map_nil, List.map_append, List.getElem?_cons_zero, List.getElem?_cons_succ, List.set_cons_zero, List.set_cons_succ, List.length_cons, List.length_nil, List.take_nil, List.take_zero, List.take_succ_cons, List.cons_append, List.nil_append, List.replicate_zero, List.replicate_succ, if_true, if_false, ite_true, ite_false, Bool.false_eq_true, Bool.not_true, Bool.not_false, reduceIte, Nat.zero_add, Nat.add_zero, Nat.reduceAdd, Nat.reduceSub, Nat.sub_self, decide_true, decide_false, true_and, and_true, List.length_map, any_vs]
    refine ⟨shaped_vl v, shaped_vs _, ?_⟩
    have eu := unl_snoc pre v
    unfold addU at eu
    by_cases hm : v ∈ unl pre
    · rw [if_pos hm] at eu
      simp only [hm, den, initS, endB, dSeq, dSet, dPar, dRet, dRetN, dIfS, dDrop, dFor, dNext, dBreak, dCont, dNever, dRaise, dAug, fAddI, dAppend, dSetIx, dVar, dC, dOp, dUn, dCB, dNil, dCons, dLst, dTup, dTest, dAnd, dOr, dNot, dAndV, dOrV, dNotV, dIf, dChain, dIsi, dIsi2, dYes, fAdd, fSub, fMul, fDiv, fMod, fPow, fNeg, fIx, fLen, fMax, fMin, fSum, fSorted, fAbs, fInt, fList, fTuple, fRepr, gEq, gNe, gLt, gLe, gGt, gGe, gIn, gNotIn, gIs, gIsNot, cD, put, cut, see, sees, look, fz, fzs, fzV, fill, dLc, dSeqI, dRng1, dRng2, dEnum, dZip, dName, dgTup, dgCons, dgNil, dAsg, dCall, dCallS, stAll, mapSt_st, mapSt_no, mapSt_val, mapSt_ow, mapSt_scr, mapSt_ns, noSts, wipeS, dSl, dPart, dNoPart, fSl, dRev, dBM, mCount, mIndex, dStInt, dStTurn, dStPop, dStCells, dStPut, dStTurnPut, dLenScr, tyName, isTyN, isNone, isBool, toInts_ints, dInts_len, List.map_cons, List.map_nil, List.map_append, List.getElem?_cons_zero, List.getElem?_cons_succ, List.set_cons_zero, List.set_cons_succ, List.length_cons, List.length_nil, List.take_nil, List.take_zero, List.take_succ_cons, List.cons_append, List.nil_append, List.replicate_zero, List.replicate_succ, if_true, if_false, ite_true, ite_false, Bool.false_eq_true, Bool.not_true, Bool.not_false, reduceIte, Nat.zero_add, Nat.add_zero, Nat.reduceAdd, Nat.reduceSub, Nat.sub_self, decide_true, decide_false, true_and, and_true, List.length_map]
      exact hk' _ ⟨_, e1, _, by rw [eu]⟩
    · rw [if_neg hm] at eu
      simp only [hm, den, initS, endB, dSeq, dSet, dPar, dRet, dRetN, dIfS, dDrop, dFor, dNext, dBreak, dCont, dNever, dRaise, dAug, fAddI, dAppend, dSetIx, dVar, dC, dOp, dUn, dCB, dNil, dCons, dLst, dTup, dTest, dAnd, dOr, dNot, dAndV, dOrV, dNotV, dIf, dChain, dIsi, dIsi2, dYes, fAdd, fSub, fMul, fDiv, fMod, fPow, fNeg, fIx, fLen, fMax, fMin, fSum, fSorted, fAbs, fInt, fList, fTuple, fRepr, gEq, gNe, gLt, gLe, gGt, gGe, gIn, gNotIn, gIs, gIsNot, cD, put, cut, see, sees, look, fz, fzs, fzV, fill, dLc, dSeqI, dRng1, dRng2, dEnum, dZip, dName, dgTup, dgCons, dgNil, dAsg, dCall, dCallS, stAll, mapSt_st, mapSt_no, mapSt_val, mapSt_ow, mapSt_scr, mapSt_ns, noSts, wipeS, dSl, dPart, dNoPart, fSl, dRev, dBM, mCount, mIndex, dStInt, dStTurn, dStPop, dStCells, dStPut, dStTurnPut, dLenScr, tyName, isTyN, isNone, isBool, toInts_ints, dInts_len, List.map_cons, List.map_nil, List.map_append, List.getElem?_cons_zero, List.getElem?_cons_succ, List.set_cons_zero, List.set_cons_succ, List.length_cons, List.length_nil, List.take_nil, List.take_zero, List.take_succ_cons, List.cons_append, List.nil_append, List.replicate_zero, List.replicate_succ, if_true, if_false, ite_true, ite_false, Bool.false_eq_true, Bool.not_true, Bool.not_false, reduceIte, Nat.zero_add, Nat.add_zero, Nat.reduceAdd, Nat.reduceSub, Nat.sub_self, decide_true, decide_false, true_and, and_true, List.length_map, dVs_snoc, dVs_len]
      exact ⟨by omega, hk' _ ⟨_, e1, _, by rw [eu]⟩⟩
  · obtain ⟨pre, e, y, rfl⟩ := ht
    rw [List.append_nil] at e
    subst e
    refine h1 _ ?_
    simp only [den, initS, endB, dSeq, dSet, dPar, dRet, dRetN, dIfS, dDrop, dFor, dNext, dBreak, dCont, dNever, dRaise, dAug, fAddI, dAppend, dSetIx, dVar, dC, dOp, dUn, dCB, dNil, dCons, dLst, dTup, dTest, dAnd, dOr, dNot, dAndV, dOrV, dNotV, dIf, dChain, dIsi, dIsi2, dYes, fAdd, fSub, fMul, fDiv, fMod, fPow, fNeg, fIx, fLen, fMax, fMin, fSum, fSorted, fAbs, fInt, fList, fTuple, fRepr, gEq, gNe, gLt, gLe, gGt, gGe, gIn, gNotIn, gIs, gIsNot, cD, put, cut, see, sees, look, fz, fzs, fzV, fill, dLc, dSeqI, dRng1, dRng2, dEnum, dZip, dName, dgTup, dgCons, dgNil, dAsg, dCall, dCallS, stAll, mapSt_st, mapSt_no, mapSt_val, mapSt_ow, mapSt_scr, mapSt_ns, noSts, wipeS, dSl, dPart, dNoPart, fSl, dRev, dBM, mCount, mIndex, dStInt, dStTurn, dStPop, dStCells, dStPut, dStTurnPut, dLenScr, tyName, isTyN, isNone, isBool, toInts_ints, dInts_len, List.map_cons, List.map_nil, List.map_append, List.getElem?_cons_zero, List.getElem?_cons_succ, List.set_cons_zero, List.set_cons_succ, List.length_cons, List.length_nil, List.take_nil, List.take_zero, List.take_succ_cons, List.cons_append, List.nil_append, List.replicate_zero, List.replicate_succ, if_true, if_false, ite_true, ite_false, Bool.false_eq_true, Bool.not_true, Bool.not_false, reduceIte, Nat.zero_add, Nat.add_zero, Nat.reduceAdd, Nat.reduceSub, Nat.sub_self, decide_true, decide_false, true_and, and_true, List.length_map]
    exact hk

abbrev nn_window : Nat := 3
-- 0:course 1:delay 2:at
def B_window : (String → Prop) → DSt := fun kx => (dRet (dSl (dVar 0) (dPart (dCB fMax (dCons (dC (.int 0)) (dCons (dOp fSub (dVar 2) (dVar 1)) dNil)))) (dPart (dOp fAdd (dVar 2) (dC (.int 1))))))
def R_window : DFn := den false 3 B_window
def T_window : DFn := fun _ ds k _ => ∃ (c : List Vl) (D t : Nat), ds = [.list (dVs c), .int (D : Int), .int (t : Int)] ∧ t < c.length ∧ k (.list (dVs (win c D t))) 0
theorem imp_window : ∀ B ds k kx, ds.length = 3 → T_window B ds k kx → R_window B ds k kx := fun B ds k kx _ h => by
  obtain ⟨c, D, t, rfl, hl, hk⟩ := h
  simp only [R_window, B_window, den, initS, endB, dSeq, dSet, dPar, dRet, dRetN, dIfS, dDrop, dFor, dNext, dBreak, dCont, dNever, dRaise, dAug, fAddI, dAppend, dSetIx, dVar, dC, dOp, dUn, dCB, dNil, dCons, dLst, dTup, dTest, dAnd, dOr, dNot, dAndV, dOrV, dNotV, dIf, dChain, dIsi, dIsi2, dYes, fAdd, fSub, fMul, fDiv, fMod, fPow, fNeg, fIx, fLen, fMax, fMin, fSum, fSorted, fAbs, fInt, fList, fTuple, fRepr, gEq, gNe, gLt, gLe, gGt, gGe, gIn, gNotIn, gIs, gIsNot, cD, put, cut, see, sees, look, fz, fzs, fzV, fill, dLc, dSeqI, dRng1, dRng2, dEnum, dZip, dName, dgTup, dgCons, dgNil, dAsg, dCall, dCallS, stAll, mapSt_st, mapSt_no, mapSt_val, mapSt_ow, mapSt_scr, mapSt_ns, noSts, wipeS, dSl, dPart, dNoPart, fSl, dRev, dBM, mCount, mIndex, dStInt, dStTurn, dStPop, dStCells, dStPut, dStTurnPut, dLenScr, tyName, isTyN, isNone, isBool, toInts_ints, dInts_len, List.map_cons, List.map_nil, List.map_append, List.getElem?_cons_zero, List.getElem?_cons_succ, List.set_cons_zero, List.set_cons_succ, List.length_cons, List.length_nil, List.take_nil, List.take_zero, List.take_succ_cons, List.cons_append, List.nil_append, List.replicate_zero, List.replicate_succ, if_true, if_false, ite_true, ite_false, Bool.false_eq_true, Bool.not_true, Bool.not_false, reduceIte, Nat.zero_add, Nat.add_zero, Nat.reduceAdd, Nat.reduceSub, Nat.sub_self, decide_true, decide_false, true_and, and_true, List.length_map]
  have e1 : max (0 : Int) ((t : Int) - (D : Int)) = ((t - D : Nat) : Int) := by omega
  have e2 : (t : Int) + 1 = ((t + 1 : Nat) : Int) := rfl
  rw [e1, e2, cutL_mid _ (by omega) (by rw [dVs_len]; omega)]
  have e3 : ((dVs c).drop (t - D)).take (t + 1 - (t - D)) = dVs (win c D t) := by simp [dVs, win]
  rw [e3]
  exact hk

abbrev nn_rounds_of : Nat := 12
-- 0:courses 1:delay 2:begins 3:commons 4:at 5:_ 6:windows 7:left 8:common 9:there 10:course 11:value
def B_rounds_of : (String → Prop) → DSt := fun kx => (dSeq (dPar [2, 3] (dCons (dLst dNil) (dCons (dLst dNil) dNil))) (dSeq (dFor (dEnum (dCons (dOp fIx (dVar 0) (dC (.int 0))) dNil)) (dgTup 2 (dgCons (dName 4) (dgCons (dName 5) dgNil))) (dSeq (dSet 6 (dLc (dSeqI (dVar 0)) (dName 10) dYes (dCall 3 T_window (fun _ => False) (dCons (dVar 10) (dCons (dVar 1) (dCons (dVar 4) dNil)))) [10])) (dSeq (dSet 7 (dLst dNil)) (dSeq (dIfS (dTest (dOp (cD gNe) (dVar 2) (dLst dNil))) (dFor (dZip (dCons (dOp fIx (dVar 3) (dUn fNeg (dC (.int 1)))) (dCons (dVar 6) dNil))) (dgTup 2 (dgCons (dName 8) (dgCons (dName 9) dgNil))) (dAppend 7 (dLc (dSeqI (dVar 8)) (dName 11) (dTest (dOp (cD gIn) (dVar 11) (dVar 9))) (dVar 11) [11]))) dNext) (dIfS (dOr (dTest (dOp (cD gEq) (dVar 2) (dLst dNil))) (dTest (dOp (cD gIn) (dLst dNil) (dVar 7)))) (dSeq (dAppend 2 (dVar 4)) (dAppend 3 (dLc (dSeqI (dVar 6)) (dName 9) dYes (dCall 1 T_unlike (fun _ => False) (dCons (dVar 9) dNil)) [9]))) (dSetIx 3 (dUn fNeg (dC (.int 1))) (dVar 7))))))) (dRet (dTup (dCons (dVar 2) (dCons (dVar 3) dNil))))))
def R_rounds_of : DFn := den false 12 B_rounds_of
theorem RG_small {cs : List (List Vl)} {D n : Nat} (h : OkCs cs n) : ∀ t, t < n → ∀ c ∈ (RG cs D t).last, c.length ≤ 120
  | 0, ht, c, hc => by
    simp only [RG, wins, List.mem_map] at hc
    obtain ⟨_, ⟨c', hc', rfl⟩, rfl⟩ := hc
    have := unl_len (win c' D 0)
    have := win_len c' D 0
    have := (h.c c' hc').1.n2
    omega
  | t + 1, ht, c, hc => by
    simp only [RG] at hc
    split at hc
    · simp only [wins, List.mem_map] at hc
      obtain ⟨_, ⟨c', hc', rfl⟩, rfl⟩ := hc
      have := unl_len (win c' D (t + 1))
      have := win_len c' D (t + 1)
      have := (h.c c' hc').1.n2
      omega
    · simp only at hc
      rw [← zip_filt] at hc
      obtain ⟨q, hq, rfl⟩ := List.mem_map.mp hc
      have := RG_small h t (by omega) q.1 (List.of_mem_zip hq).1
      have := List.length_filter_le (fun v => decide (v ∈ q.2)) q.1
      simp only [filt]
      omega
def T_rounds_of : DFn := fun _ ds k _ => ∃ (cs : List (List Vl)) (D n : Nat), ds = [.list (dCs cs), .int (D : Int)] ∧ OkCs cs n ∧ k (.tuple [.list (dNats (bsAt cs D n)), .list (dCCs (cmAt cs D n))]) 0
theorem imp_rounds_of : ∀ B ds k kx, ds.length = 2 → T_rounds_of B ds k kx → R_rounds_of B ds k kx := fun B ds k kx _ h => by
  obtain ⟨cs, D, n, rfl, hc, hk⟩ := h
  have sz : sizeLine = 2 ^ 24 := rfl
  have n1 := hc.n1
  have n2 := hc.n2
  obtain ⟨c0, r0, e0, o0, l0⟩ := hc.at0
  have e1 : atI (dCs cs) 0 = some (.list (dVs c0)) := by rw [e0]; exact atI_zero _ _
  have o1 := o0.n2
  simp only [R_rounds_of, B_rounds_of, den, initS]
  refine sq fun k1 h1 => ?_
  simp only [den, initS, endB, dSeq, dSet, dPar, dRet, dRetN, dIfS, dDrop, dFor, dNext, dBreak, dCont, dNever, dRaise, dAug, fAddI, dAppend, dSetIx, dVar, dC, dOp, dUn, dCB, dNil, dCons, dLst, dTup, dTest, dAnd, dOr, dNot, dAndV, dOrV, dNotV, dIf, dChain, dIsi, dIsi2, dYes, fAdd, fSub, fMul, fDiv, fMod, fPow, fNeg, fIx, fLen, fMax, fMin, fSum, fSorted, fAbs, fInt, fList, fTuple, fRepr, gEq, gNe, gLt, gLe, gGt, gGe, gIn, gNotIn, gIs, gIsNot, cD, put, cut, see, sees, look, fz, fzs, fzV, fill, dLc, dSeqI, dRng1, dRng2, dEnum, dZip, dName, dgTup, dgCons, dgNil, dAsg, dCall, dCallS, stAll, mapSt_st, mapSt_no, mapSt_val, mapSt_ow, mapSt_scr, mapSt_ns, noSts, wipeS, dSl, dPart, dNoPart, fSl, dRev, dBM, mCount, mIndex, dStInt, dStTurn, dStPop, dStCells, dStPut, dStTurnPut, dLenScr, tyName, isTyN, isNone, isBool, toInts_ints, dInts_len, List.map_cons, List.map_nil, List.map_append, List.getElem?_cons_zero, List.getElem?_cons_succ, List.set_cons_zero, List.set_cons_succ, List.length_cons, List.length_nil, List.take_nil, List.take_zero, List.take_succ_cons, List.cons_append, List.nil_append, List.replicate_zero, List.replicate_succ, if_true, if_false, ite_true, ite_false, Bool.false_eq_true, Bool.not_true, Bool.not_false, reduceIte, Nat.zero_add, Nat.add_zero, Nat.reduceAdd, Nat.reduceSub, Nat.sub_self, decide_true, decide_false, true_and, and_true, List.length_map]
  refine ⟨Nat.zero_le _, Nat.zero_le _, h1 _ ?_⟩
  clear h1 k1
  refine sq fun k1 h1 => ?_
  simp only [den, initS, endB, dSeq, dSet, dPar, dRet, dRetN, dIfS, dDrop, dFor, dNext, dBreak, dCont, dNever, dRaise, dAug, fAddI, dAppend, dSetIx, dVar, dC, dOp, dUn, dCB, dNil, dCons, dLst, dTup, dTest, dAnd, dOr, dNot, dAndV, dOrV, dNotV, dIf, dChain, dIsi, dIsi2, dYes, fAdd, fSub, fMul, fDiv, fMod, fPow, fNeg, fIx, fLen, fMax, fMin, fSum, fSorted, fAbs, fInt, fList, fTuple, fRepr, gEq, gNe, gLt, gLe, gGt, gGe, gIn, gNotIn, gIs, gIsNot, cD, put, cut, see, sees, look, fz, fzs, fzV, fill, dLc, dSeqI, dRng1, dRng2, dEnum, dZip, dName, dgTup, dgCons, dgNil, dAsg, dCall, dCallS, stAll, mapSt_st, mapSt_no, mapSt_val, mapSt_ow, mapSt_scr, mapSt_ns, noSts, wipeS, dSl, dPart, dNoPart, fSl, dRev, dBM, mCount, mIndex, dStInt, dStTurn, dStPop, dStCells, dStPut, dStTurnPut, dLenScr, tyName, isTyN, isNone, isBool, toInts_ints, dInts_len, List.map_cons, List.map_nil, List.map_append, List.getElem?_cons_zero, List.getElem?_cons_succ, List.set_cons_zero, List.set_cons_succ, List.length_cons, List.length_nil, List.take_nil, List.take_zero, List.take_succ_cons, List.cons_append, List.nil_append, List.replicate_zero, List.replicate_succ, if_true, if_false, ite_true, ite_false, Bool.false_eq_true, Bool.not_true, Bool.not_false, reduceIte, Nat.zero_add, Nat.add_zero, Nat.reduceAdd, Nat.reduceSub, Nat.sub_self, decide_true, decide_false, true_and, and_true, List.length_map, e1]
  rw [dVs_map]
  refine for_enum Vl.d c0 (fun t s => ∃ y4 y5 y6 y7 y8 y9 y10 y11, s = [.val (.list (dCs cs)), .val (.int (D : Int)), .own (.lst (dNats (bsAt cs D t))), .own (.lst (dCCs (cmAt cs D t))), y4, y5, y6, y7, y8, y9, y10, y11]) ⟨_, _, _, _, _, _, _, _, rfl⟩ (fun t ht s hs k' b hk' => ?_) fun t ht => ?_
  · obtain ⟨y4, y5, y6, y7, y8, y9, y10, y11, rfl⟩ := hs
    simp only [dgTup, dgCons, dgNil, dName, List.set_cons_succ, List.set_cons_zero, List.length_cons, List.length_nil, Nat.zero_add, Nat.reduceAdd, true_and]
    refine sq fun k2 h2 => ?_
    simp only [T_window, den, initS, endB, dSeq, dSet, dPar, dRet, dRetN, dIfS, dDrop, dFor, dNext, dBreak, dCont, dNever, dRaise, dAug, fAddI, dAppend, dSetIx, dVar, dC, dOp, dUn, dCB, dNil, dCons, dLst, dTup, dTest, dAnd, dOr, dNot, dAndV, dOrV, dNotV, dIf, dChain, dIsi, dIsi2, dYes, fAdd, fSub, fMul, fDiv, fMod, fPow, fNeg, fIx, fLen, fMax, fMin, fSum, fSorted, fAbs, fInt, fList, fTuple, fRepr, gEq, gNe, gLt, gLe, gGt, gGe, gIn, gNotIn, gIs, gIsNot, cD, put, cut, see, sees, look, fz, fzs, fzV, fill, dLc, dSeqI, dRng1, dRng2, dEnum, dZip, dName, dgTup, dgCons, dgNil, dAsg, dCall, dCallS, stAll, mapSt_st, mapSt_no, mapSt_val, mapSt_ow, mapSt_scr, mapSt_ns, noSts, wipeS, dSl, dPart, dNoPart, fSl, dRev, dBM, mCount, mIndex, dStInt, dStTurn, dStPop, dStCells, dStPut, dStTurnPut, dLenScr, tyName, isTyN, isNone, isBool, toInts_ints, dInts_len, List.map_cons, List.map_nil, List.map_append, List.getElem?_cons_zero, List.getElem?_cons_succ, List.set_cons_zero, List.set_cons_succ, List.length_cons, List.length_nil, List.take_nil, List.take_zero, List.take_succ_cons, List.cons_append, List.nil_append, List.replicate_zero, List.replicate_succ, if_true, if_false, ite_true, ite_false, Bool.false_eq_true, Bool.not_true, Bool.not_false, reduceIte, Nat.zero_add, Nat.add_zero, Nat.reduceAdd, Nat.reduceSub, Nat.sub_self, decide_true, decide_false, true_and, and_true, List.length_map, dCs_len]
    refine ⟨by omega, ?_⟩
    rw [dCs_map cs]
    refine lc_map _ (fun c => .list (dVs (win c D t))) _ (fun c hcm k3 h3 => ?_) ?_
    · simp only [stepLc, T_window, den, initS, endB, dSeq, dSet, dPar, dRet, dRetN, dIfS, dDrop, dFor, dNext, dBreak, dCont, dNever, dRaise, dAug, fAddI, dAppend, dSetIx, dVar, dC, dOp, dUn, dCB, dNil, dCons, dLst, dTup, dTest, dAnd, dOr, dNot, dAndV, dOrV, dNotV, dIf, dChain, dIsi, dIsi2, dYes, fAdd, fSub, fMul, fDiv, fMod, fPow, fNeg, fIx, fLen, fMax, fMin, fSum, fSorted, fAbs, fInt, fList, fTuple, fRepr, gEq, gNe, gLt, gLe, gGt, gGe, gIn, gNotIn, gIs, gIsNot, cD, put, cut, see, sees, look, fz, fzs, fzV, fill, dLc, dSeqI, dRng1, dRng2, dEnum, dZip, dName, dgTup, dgCons, dgNil, dAsg, dCall, dCallS, stAll, mapSt_st, mapSt_no, mapSt_val, mapSt_ow, mapSt_scr, mapSt_ns, noSts, wipeS, dSl, dPart, dNoPart, fSl, dRev, dBM, mCount, mIndex, dStInt, dStTurn, dStPop, dStCells, dStPut, dStTurnPut, dLenScr, tyName, isTyN, isNone, isBool, toInts_ints, dInts_len, List.map_cons, List.map_nil, List.map_append, List.getElem?_cons_zero, List.getElem?_cons_succ, List.set_cons_zero, List.set_cons_succ, List.length_cons, List.length_nil, List.take_nil, List.take_zero, List.take_succ_cons, List.cons_append, List.nil_append, List.replicate_zero, List.replicate_succ, if_true, if_false, ite_true, ite_false, Bool.false_eq_true, Bool.not_true, Bool.not_false, reduceIte, Nat.zero_add, Nat.add_zero, Nat.reduceAdd, Nat.reduceSub, Nat.sub_self, decide_true, decide_false, true_and, and_true, List.length_map]
      exact ⟨c, D, t, rfl, by have := (hc.c c hcm).2; omega, h3⟩
    have ew : (cs.map fun c => PyData.list (dVs (win c D t))) = dCs (wins cs D t) := by simp [dCs, wins]
    rw [ew, ← dCs_map cs]
    simp only [den, initS, endB, dSeq, dSet, dPar, dRet, dRetN, dIfS, dDrop, dFor, dNext, dBreak, dCont, dNever, dRaise, dAug, fAddI, dAppend, dSetIx, dVar, dC, dOp, dUn, dCB, dNil, dCons, dLst, dTup, dTest, dAnd, dOr, dNot, dAndV, dOrV, dNotV, dIf, dChain, dIsi, dIsi2, dYes, fAdd, fSub, fMul, fDiv, fMod, fPow, fNeg, fIx, fLen, fMax, fMin, fSum, fSorted, fAbs, fInt, fList, fTuple, fRepr, gEq, gNe, gLt, gLe, gGt, gGe, gIn, gNotIn, gIs, gIsNot, cD, put, cut, see, sees, look, fz, fzs, fzV, fill, dLc, dSeqI, dRng1, dRng2, dEnum, dZip, dName, dgTup, dgCons, dgNil, dAsg, dCall, dCallS, stAll, mapSt_st, mapSt_no, mapSt_val, mapSt_ow, mapSt_scr, mapSt_ns, noSts, wipeS, dSl, dPart, dNoPart, fSl, dRev, dBM, mCount, mIndex, dStInt, dStTurn, dStPop, dStCells, dStPut, dStTurnPut, dLenScr, tyName, isTyN, isNone, isBool, toInts_ints, dInts_len, List.map_cons, List.map_nil, List.map_append, List.getElem?_cons_zero, List.getElem?_cons_succ, List.set_cons_zero, List.set_cons_succ, List.length_cons, List.length_nil, List.take_nil, List.take_zero, List.take_succ_cons, List.cons_append, List.nil_append, List.replicate_zero, List.replicate_succ, if_true, if_false, ite_true, ite_false, Bool.false_eq_true, Bool.not_true, Bool.not_false, reduceIte, Nat.zero_add, Nat.add_zero, Nat.reduceAdd, Nat.reduceSub, Nat.sub_self, decide_true, decide_false, true_and, and_true, List.length_map]
    refine h2 _ ?_
    clear h2 k2
    refine sq fun k2 h2 => ?_
    simp only [den, initS, endB, dSeq, dSet, dPar, dRet, dRetN, dIfS, dDrop, dFor, dNext, dBreak, dCont, dNever, dRaise, dAug, fAddI, dAppend, dSetIx, dVar, dC, dOp, dUn, dCB, dNil, dCons, dLst, dTup, dTest, dAnd, dOr, dNot, dAndV, dOrV, dNotV, dIf, dChain, dIsi, dIsi2, dYes, fAdd, fSub, fMul, fDiv, fMod, fPow, fNeg, fIx, fLen, fMax, fMin, fSum, fSorted, fAbs, fInt, fList, fTuple, fRepr, gEq, gNe, gLt, gLe, gGt, gGe, gIn, gNotIn, gIs, gIsNot, cD, put, cut, see, sees, look, fz, fzs, fzV, fill, dLc, dSeqI, dRng1, dRng2, dEnum, dZip, dName, dgTup, dgCons, dgNil, dAsg, dCall, dCallS, stAll, mapSt_st, mapSt_no, mapSt_val, mapSt_ow, mapSt_scr, mapSt_ns, noSts, wipeS, dSl, dPart, dNoPart, fSl, dRev, dBM, mCount, mIndex, dStInt, dStTurn, dStPop, dStCells, dStPut, dStTurnPut, dLenScr, tyName, isTyN, isNone, isBool, toInts_ints, dInts_len, List.map_cons, List.map_nil, List.map_append, List.getElem?_cons_zero, List.getElem?_cons_succ, List.set_cons_zero, List.set_cons_succ, List.length_cons, List.length_nil, List.take_nil, List.take_zero, List.take_succ_cons, List.cons_append, List.nil_append, List.replicate_zero, List.replicate_succ, if_true, if_false, ite_true, ite_false, Bool.false_eq_true, Bool.not_true, Bool.not_false, reduceIte, Nat.zero_add, Nat.add_zero, Nat.reduceAdd, Nat.reduceSub, Nat.sub_self, decide_true, decide_false, true_and, and_true, List.length_map]
    refine ⟨Nat.zero_le _, h2 _ ?_⟩
    clear h2 k2
    have lw : (wins cs D t).length = cs.length := by simp [wins]
    cases t with
    | zero =>
      refine sq fun k2 h2 => ?_
      simp only [den, initS, endB, dSeq, dSet, dPar, dRet, dRetN, dIfS, dDrop, dFor, dNext, dBreak, dCont, dNever, dRaise, dAug, fAddI, dAppend, dSetIx, dVar, dC, dOp, dUn, dCB, dNil, dCons, dLst, dTup, dTest, dAnd, dOr, dNot, dAndV, dOrV, dNotV, dIf, dChain, dIsi, dIsi2, dYes, fAdd, fSub, fMul, fDiv, fMod, fPow, fNeg, fIx, fLen, fMax, fMin, fSum, fSorted, fAbs, fInt, fList, fTuple, fRepr, gEq, gNe, gLt, gLe, gGt, gGe, gIn, gNotIn, gIs, gIsNot, cD, put, cut, see, sees, look, fz, fzs, fzV, fill, dLc, dSeqI, dRng1, dRng2, dEnum, dZip, dName, dgTup, dgCons, dgNil, dAsg, dCall, dCallS, stAll, mapSt_st, mapSt_no, mapSt_val, mapSt_ow, mapSt_scr, mapSt_ns, noSts, wipeS, dSl, dPart, dNoPart, fSl, dRev, dBM, mCount, mIndex, dStInt, dStTurn, dStPop, dStCells, dStPut, dStTurnPut, dLenScr, tyName, isTyN, isNone, isBool, toInts_ints, dInts_len, List.map_cons, List.map_nil, List.map_append, List.getElem?_cons_zero, List.getElem?_cons_succ, List.set_cons_zero, List.set_cons_succ, List.length_cons, List.length_nil, List.take_nil, List.take_zero, List.take_succ_cons, List.cons_append, List.nil_append, List.replicate_zero, List.replicate_succ, if_true, if_false, ite_true, ite_false, Bool.false_eq_true, Bool.not_true, Bool.not_false, reduceIte, Nat.zero_add, Nat.add_zero, Nat.reduceAdd, Nat.reduceSub, Nat.sub_self, decide_true, decide_false, true_and, and_true, List.length_map, bsAt, dNats, eqv_nil, List.isEmpty_nil]
      refine ⟨Nat.zero_le _, shaped_ints [], shaped_ints [], h2 _ ?_⟩
      clear h2 k2
      simp only [den, initS, endB, dSeq, dSet, dPar, dRet, dRetN, dIfS, dDrop, dFor, dNext, dBreak, dCont, dNever, dRaise, dAug, fAddI, dAppend, dSetIx, dVar, dC, dOp, dUn, dCB, dNil, dCons, dLst, dTup, dTest, dAnd, dOr, dNot, dAndV, dOrV, dNotV, dIf, dChain, dIsi, dIsi2, dYes, fAdd, fSub, fMul, fDiv, fMod, fPow, fNeg, fIx, fLen, fMax, fMin, fSum, fSorted, fAbs, fInt, fList, fTuple, fRepr, gEq, gNe, gLt, gLe, gGt, gGe, gIn, gNotIn, gIs, gIsNot, cD, put, cut, see, sees, look, fz, fzs, fzV, fill, dLc, dSeqI, dRng1, dRng2, dEnum, dZip, dName, dgTup, dgCons, dgNil, dAsg, dCall, dCallS, stAll, mapSt_st, mapSt_no, mapSt_val, mapSt_ow, mapSt_scr, mapSt_ns, noSts, wipeS, dSl, dPart, dNoPart, fSl, dRev, dBM, mCount, mIndex, dStInt, dStTurn, dStPop, dStCells, dStPut, dStTurnPut, dLenScr, tyName, isTyN, isNone, isBool, toInts_ints, dInts_len, List.map_cons, List.map_nil, List.map_append, List.getElem?_cons_zero, List.getElem?_cons_succ, List.set_cons_zero, List.set_cons_succ, List.length_cons, List.length_nil, List.take_nil, List.take_zero, List.take_succ_cons, List.cons_append, List.nil_append, List.replicate_zero, List.replicate_succ, if_true, if_false, ite_true, ite_false, Bool.false_eq_true, Bool.not_true, Bool.not_false, reduceIte, Nat.zero_add, Nat.add_zero, Nat.reduceAdd, Nat.reduceSub, Nat.sub_self, decide_true, decide_false, true_and, and_true, List.length_map, cmAt, dCCs, eqv_nil, List.isEmpty_nil]
      refine ⟨Nat.zero_le _, shaped_ints [], shaped_ints [], by omega, by rw [dCs_len]; omega, ?_⟩
      rw [dCs_map (wins cs D 0)]
      refine lc_map _ (fun c => .list (dVs (unl c))) _ (fun c hcm k3 h3 => ?_) ?_
      · obtain ⟨c', hc', rfl⟩ := List.mem_map.mp hcm
        have := win_len c' D 0
        have := (hc.c c' hc').1.n2
        simp only [stepLc, T_unlike, den, initS, endB, dSeq, dSet, dPar, dRet, dRetN, dIfS, dDrop, dFor, dNext, dBreak, dCont, dNever, dRaise, dAug, fAddI, dAppend, dSetIx, dVar, dC, dOp, dUn, dCB, dNil, dCons, dLst, dTup, dTest, dAnd, dOr, dNot, dAndV, dOrV, dNotV, dIf, dChain, dIsi, dIsi2, dYes, fAdd, fSub, fMul, fDiv, fMod, fPow, fNeg, fIx, fLen, fMax, fMin, fSum, fSorted, fAbs, fInt, fList, fTuple, fRepr, gEq, gNe, gLt, gLe, gGt, gGe, gIn, gNotIn, gIs, gIsNot, cD, put, cut, see, sees, look, fz, fzs, fzV, fill, dLc, dSeqI, dRng1, dRng2, dEnum, dZip, dName, dgTup, dgCons, dgNil, dAsg, dCall, dCallS, stAll, mapSt_st, mapSt_no, mapSt_val, mapSt_ow, mapSt_scr, mapSt_ns, noSts, wipeS, dSl, dPart, dNoPart, fSl, dRev, dBM, mCount, mIndex, dStInt, dStTurn, dStPop, dStCells, dStPut, dStTurnPut, dLenScr, tyName, isTyN, isNone, isBool, toInts_ints, dInts_len, List.map_cons, List.map_nil, List.map_append, List.getElem?_cons_zero, List.getElem?_cons_succ, List.set_cons_zero, List.set_cons_succ, List.length_cons, List.length_nil, List.take_nil, List.take_zero, List.take_succ_cons, List.cons_append, List.nil_append, List.replicate_zero, List.replicate_succ, if_true, if_false, ite_true, ite_false, Bool.false_eq_true, Bool.not_true, Bool.not_false, reduceIte, Nat.zero_add, Nat.add_zero, Nat.reduceAdd, Nat.reduceSub, Nat.sub_self, decide_true, decide_false, true_and, and_true, List.length_map]
        exact ⟨_, rfl, by omega, h3⟩
      · simp only [den, initS, endB, dSeq, dSet, dPar, dRet, dRetN, dIfS, dDrop, dFor, dNext, dBreak, dCont, dNever, dRaise, dAug, fAddI, dAppend, dSetIx, dVar, dC, dOp, dUn, dCB, dNil, dCons, dLst, dTup, dTest, dAnd, dOr, dNot, dAndV, dOrV, dNotV, dIf, dChain, dIsi, dIsi2, dYes, fAdd, fSub, fMul, fDiv, fMod, fPow, fNeg, fIx, fLen, fMax, fMin, fSum, fSorted, fAbs, fInt, fList, fTuple, fRepr, gEq, gNe, gLt, gLe, gGt, gGe, gIn, gNotIn, gIs, gIsNot, cD, put, cut, see, sees, look, fz, fzs, fzV, fill, dLc, dSeqI, dRng1, dRng2, dEnum, dZip, dName, dgTup, dgCons, dgNil, dAsg, dCall, dCallS, stAll, mapSt_st, mapSt_no, mapSt_val, mapSt_ow, mapSt_scr, mapSt_ns, noSts, wipeS, dSl, dPart, dNoPart, fSl, dRev, dBM, mCount, mIndex, dStInt, dStTurn, dStPop, dStCells, dStPut, dStTurnPut, dLenScr, tyName, isTyN, isNone, isBool, toInts_ints, dInts_len, List.map_cons, List.map_nil, List.map_append, List.getElem?_cons_zero, List.getElem?_cons_succ, List.set_cons_zero, List.set_cons_succ, List.length_cons, List.length_nil, List.take_nil, List.take_zero, List.take_succ_cons, List.cons_append, List.nil_append, List.replicate_zero, List.replicate_succ, if_true, if_false, ite_true, ite_false, Bool.false_eq_true, Bool.not_true, Bool.not_false, reduceIte, Nat.zero_add, Nat.add_zero, Nat.reduceAdd, Nat.reduceSub, Nat.sub_self, decide_true, decide_false, true_and, and_true, List.length_map]
        have e9 : ((wins cs D 0).map fun c => PyData.list (dVs (unl c))) = dCs ((wins cs D 0).map unl) := by simp [dCs]
        rw [e9]
        exact ⟨by omega, hk' _ ⟨_, _, _, _, _, _, _, _, rfl⟩⟩
    | succ t =>
      obtain ⟨b1, b2, b3⟩ := RG_bs cs D t
      have eb : bsAt cs D (t + 1) = (RG cs D t).bs := rfl
      have ec : cmAt cs D (t + 1) = (RG cs D t).done ++ [(RG cs D t).last] := rfl
      rw [eb, ec]
      refine seq_toP (fun s => ∃ y8 y9 y11, s = [.val (.list (dCs cs)), .val (.int (D : Int)), .own (.lst (dNats (RG cs D t).bs)), .own (.lst (dCCs ((RG cs D t).done ++ [(RG cs D t).last]))), .val (.int ((t + 1 : Nat) : Int)), .val c0[t + 1].d, .val (.list (dCs (wins cs D (t + 1)))), .own (.lst (dCs (List.zipWith filt (RG cs D t).last (wins cs D (t + 1))))), y8, y9, .no, y11]) (fun k2 h2 => ?_) fun s hs => ?_
      · simp only [den, initS, endB, dSeq, dSet, dPar, dRet, dRetN, dIfS, dDrop, dFor, dNext, dBreak, dCont, dNever, dRaise, dAug, fAddI, dAppend, dSetIx, dVar, dC, dOp, dUn, dCB, dNil, dCons, dLst, dTup, dTest, dAnd, dOr, dNot, dAndV, dOrV, dNotV, dIf, dChain, dIsi, dIsi2, dYes, fAdd, fSub, fMul, fDiv, fMod, fPow, fNeg, fIx, fLen, fMax, fMin, fSum, fSorted, fAbs, fInt, fList, fTuple, fRepr, gEq, gNe, gLt, gLe, gGt, gGe, gIn, gNotIn, gIs, gIsNot, cD, put, cut, see, sees, look, fz, fzs, fzV, fill, dLc, dSeqI, dRng1, dRng2, dEnum, dZip, dName, dgTup, dgCons, dgNil, dAsg, dCall, dCallS, stAll, mapSt_st, mapSt_no, mapSt_val, mapSt_ow, mapSt_scr, mapSt_ns, noSts, wipeS, dSl, dPart, dNoPart, fSl, dRev, dBM, mCount, mIndex, dStInt, dStTurn, dStPop, dStCells, dStPut, dStTurnPut, dLenScr, tyName, isTyN, isNone, isBool, toInts_ints, dInts_len, List.map_cons, List.map_nil, List.map_append, List.getElem?_cons_zero, List.getElem?_cons_succ, List.set_cons_zero, List.set_cons_succ, List.length_cons, List.length_nil, List.take_nil, List.take_zero, List.take_succ_cons, List.cons_append, List.nil_append, List.replicate_zero, List.replicate_succ, if_true, if_false, ite_true, ite_false, Bool.false_eq_true, Bool.not_true, Bool.not_false, reduceIte, Nat.zero_add, Nat.add_zero, Nat.reduceAdd, Nat.reduceSub, Nat.sub_self, decide_true, decide_false, true_and, and_true, List.length_map, eqv_nil, emp_nats b1, atI_cc]
        refine ⟨Nat.zero_le _, by rw [dNats_ints]; exact shaped_ints _, shaped_ints [], ?_⟩
        rw [dCs_map (RG cs D t).last, dCs_map (wins cs D (t + 1)), zipL_map, ← dCs_map]
        refine for_push _ (fun q : List Vl × List Vl => filt q.1 q.2) (fun ys s => ∃ y8 y9 y11, s = [.val (.list (dCs cs)), .val (.int (D : Int)), .own (.lst (dNats (RG cs D t).bs)), .own (.lst (dCCs ((RG cs D t).done ++ [(RG cs D t).last]))), .val (.int ((t + 1 : Nat) : Int)), .val c0[t + 1].d, .val (.list (dCs (wins cs D (t + 1)))), .own (.lst (dCs ys)), y8, y9, .no, y11]) _ ⟨_, _, _, rfl⟩ (fun q hq ys s hl hs k3 b3 h3 => ?_) fun s hs => ?_
        · obtain ⟨y8, y9, y11, rfl⟩ := hs
          obtain ⟨cm, th⟩ := q
          have hth : th.length ≤ 120 := by
            obtain ⟨c', hc', rfl⟩ := List.mem_map.mp (List.of_mem_zip hq).2
            have := win_len c' D (t + 1)
            have := (hc.c c' hc').1.n2
            omega
          have hcm : cm.length ≤ 120 := RG_small hc t (by omega) cm (List.of_mem_zip hq).1
          rw [List.length_zip] at hl
          simp only [den, initS, endB, dSeq, dSet, dPar, dRet, dRetN, dIfS, dDrop, dFor, dNext, dBreak, dCont, dNever, dRaise, dAug, fAddI, dAppend, dSetIx, dVar, dC, dOp, dUn, dCB, dNil, dCons, dLst, dTup, dTest, dAnd, dOr, dNot, dAndV, dOrV, dNotV, dIf, dChain, dIsi, dIsi2, dYes, fAdd, fSub, fMul, fDiv, fMod, fPow, fNeg, fIx, fLen, fMax, fMin, fSum, fSorted, fAbs, fInt, fList, fTuple, fRepr, gEq, gNe, gLt, gLe, gGt, gGe, gIn, gNotIn, gIs, gIsNot, cD, put, cut, see, sees, look, fz, fzs, fzV, fill, dLc, dSeqI, dRng1, dRng2, dEnum, dZip, dName, dgTup, dgCons, dgNil, dAsg, dCall, dCallS, stAll, mapSt_st, mapSt_no, mapSt_val, mapSt_ow, mapSt_scr, mapSt_ns, noSts, wipeS, dSl, dPart, dNoPart, fSl, dRev, dBM, mCount, mIndex, dStInt, dStTurn, dStPop, dStCells, dStPut, dStTurnPut, dLenScr, tyName, isTyN, isNone, isBool, toInts_ints, dInts_len, List.map_cons, List.map_nil, List.map_append, List.getElem?_cons_zero, List.getElem?_cons_succ, List.set_cons_zero, List.set_cons_succ, List.length_cons, List.length_nil, List.take_nil, List.take_zero, List.take_succ_cons, List.cons_append, List.nil_append, List.replicate_zero, List.replicate_succ, if_true, if_false, ite_true, ite_false, Bool.false_eq_true, Bool.not_true, Bool.not_false, reduceIte, Nat.zero_add, Nat.add_zero, Nat.reduceAdd, Nat.reduceSub, Nat.sub_self, decide_true, decide_false, true_and, and_true, List.length_map]
          refine ⟨by rw [dVs_len]; omega, ?_⟩
          rw [dVs_map cm]
          refine lc_filter Vl.d (fun v => decide (v ∈ th)) Vl.d cm (fun v hv k5 h5 => ?_) ?_
          · simp only [stepLc, den, initS, endB, dSeq, dSet, dPar, dRet, dRetN, dIfS, dDrop, dFor, dNext, dBreak, dCont, dNever, dRaise, dAug, fAddI, dAppend, dSetIx, dVar, dC, dOp, dUn, dCB, dNil, dCons, dLst, dTup, dTest, dAnd, dOr, dNot, dAndV, dOrV, dNotV, dIf, dChain, dIsi, dIsi2, dYes, fAdd, fSub, fMul, fDiv, fMod, fPow, fNeg, fIx, fLen, fMax, fMin, fSum, fSorted, fAbs, fInt, fList, fTuple, fRepr, gEq, gNe, gLt, gLe, gGt, gGe, gIn, gNotIn, gIs, gIsNot, cD, put, cut, see, sees, look, fz, fzs, fzV, fill, dLc, dSeqI, dRng1, dRng2, dEnum, dZip, dName, dgTup, dgCons, dgNil, dAsg, dCall, dCallS, stAll, mapSt_st, mapSt_no, mapSt_val, mapSt_ow, mapSt_scr, mapSt_ns, noSts, wipeS, dSl, dPart, dNoPart, fSl, dRev, dBM, mCount, mIndex, dStInt, dStTurn, dStPop, dStCells, dStPut, dStTurnPut, dLenScr, tyName, isTyN, isNone, isBool, toInts_ints, dInts_len, List.map_cons, List.map_nil, List.map_append, List.getElem?_cons_zero, List.getElem?_cons_succ, List.set_cons_zero, List.set_cons_succ, List.length_cons, List.length_nil, List.take_nil, List.take_zero, List.take_succ_cons, List.cons_append, List.nil_append, List.replicate_zero, List.replicate_succ, if_true, if_false, ite_true, ite_false, Bool.false_eq_true, Bool.not_true, Bool.not_false, reduceIte, Nat.zero_add, Nat.add_zero, Nat.reduceAdd, Nat.reduceSub, Nat.sub_self, decide_true, decide_false, true_and, and_true, List.length_map, any_vs]
            refine ⟨shaped_vl v, shaped_vs _, ?_⟩
            by_cases hm : v ∈ th <;> simpa [hm] using h5
          · have e8 : (cm.filter fun v => decide (v ∈ th)).map Vl.d = dVs (filt cm th) := rfl
            rw [e8]
            simp only [den, initS, endB, dSeq, dSet, dPar, dRet, dRetN, dIfS, dDrop, dFor, dNext, dBreak, dCont, dNever, dRaise, dAug, fAddI, dAppend, dSetIx, dVar, dC, dOp, dUn, dCB, dNil, dCons, dLst, dTup, dTest, dAnd, dOr, dNot, dAndV, dOrV, dNotV, dIf, dChain, dIsi, dIsi2, dYes, fAdd, fSub, fMul, fDiv, fMod, fPow, fNeg, fIx, fLen, fMax, fMin, fSum, fSorted, fAbs, fInt, fList, fTuple, fRepr, gEq, gNe, gLt, gLe, gGt, gGe, gIn, gNotIn, gIs, gIsNot, cD, put, cut, see, sees, look, fz, fzs, fzV, fill, dLc, dSeqI, dRng1, dRng2, dEnum, dZip, dName, dgTup, dgCons, dgNil, dAsg, dCall, dCallS, stAll, mapSt_st, mapSt_no, mapSt_val, mapSt_ow, mapSt_scr, mapSt_ns, noSts, wipeS, dSl, dPart, dNoPart, fSl, dRev, dBM, mCount, mIndex, dStInt, dStTurn, dStPop, dStCells, dStPut, dStTurnPut, dLenScr, tyName, isTyN, isNone, isBool, toInts_ints, dInts_len, List.map_cons, List.map_nil, List.map_append, List.getElem?_cons_zero, List.getElem?_cons_succ, List.set_cons_zero, List.set_cons_succ, List.length_cons, List.length_nil, List.take_nil, List.take_zero, List.take_succ_cons, List.cons_append, List.nil_append, List.replicate_zero, List.replicate_succ, if_true, if_false, ite_true, ite_false, Bool.false_eq_true, Bool.not_true, Bool.not_false, reduceIte, Nat.zero_add, Nat.add_zero, Nat.reduceAdd, Nat.reduceSub, Nat.sub_self, decide_true, decide_false, true_and, and_true, List.length_map, dCs_snoc, dCs_len]
            exact ⟨by omega, h3 _ ⟨_, _, _, rfl⟩⟩
        · obtain ⟨y8, y9, y11, rfl⟩ := hs
          rw [zip_filt]
          exact h2 _ ⟨_, _, _, rfl⟩
      · obtain ⟨y8, y9, y11, rfl⟩ := hs
        simp only [den, initS, endB, dSeq, dSet, dPar, dRet, dRetN, dIfS, dDrop, dFor, dNext, dBreak, dCont, dNever, dRaise, dAug, fAddI, dAppend, dSetIx, dVar, dC, dOp, dUn, dCB, dNil, dCons, dLst, dTup, dTest, dAnd, dOr, dNot, dAndV, dOrV, dNotV, dIf, dChain, dIsi, dIsi2, dYes, fAdd, fSub, fMul, fDiv, fMod, fPow, fNeg, fIx, fLen, fMax, fMin, fSum, fSorted, fAbs, fInt, fList, fTuple, fRepr, gEq, gNe, gLt, gLe, gGt, gGe, gIn, gNotIn, gIs, gIsNot, cD, put, cut, see, sees, look, fz, fzs, fzV, fill, dLc, dSeqI, dRng1, dRng2, dEnum, dZip, dName, dgTup, dgCons, dgNil, dAsg, dCall, dCallS, stAll, mapSt_st, mapSt_no, mapSt_val, mapSt_ow, mapSt_scr, mapSt_ns, noSts, wipeS, dSl, dPart, dNoPart, fSl, dRev, dBM, mCount, mIndex, dStInt, dStTurn, dStPop, dStCells, dStPut, dStTurnPut, dLenScr, tyName, isTyN, isNone, isBool, toInts_ints, dInts_len, List.map_cons, List.map_nil, List.map_append, List.getElem?_cons_zero, List.getElem?_cons_succ, List.set_cons_zero, List.set_cons_succ, List.length_cons, List.length_nil, List.take_nil, List.take_zero, List.take_succ_cons, List.cons_append, List.nil_append, List.replicate_zero, List.replicate_succ, if_true, if_false, ite_true, ite_false, Bool.false_eq_true, Bool.not_true, Bool.not_false, reduceIte, Nat.zero_add, Nat.add_zero, Nat.reduceAdd, Nat.reduceSub, Nat.sub_self, decide_true, decide_false, true_and, and_true, List.length_map, eqv_nil, emp_nats b1, any_cs0]
        refine ⟨Nat.zero_le _, by rw [dNats_ints]; exact shaped_ints _, shaped_ints [], Nat.zero_le _, shaped_ints [], shaped_cs _, ?_⟩
        by_cases hm : [] ∈ List.zipWith filt (RG cs D t).last (wins cs D (t + 1))
        · rw [if_pos (decide_eq_true hm)]
          have er : RG cs D (t + 1) = ⟨(RG cs D t).bs ++ [t + 1], (RG cs D t).done ++ [(RG cs D t).last], (wins cs D (t + 1)).map unl⟩ := by
            rw [RG]
            exact if_pos hm
          simp only [den, initS, endB, dSeq, dSet, dPar, dRet, dRetN, dIfS, dDrop, dFor, dNext, dBreak, dCont, dNever, dRaise, dAug, fAddI, dAppend, dSetIx, dVar, dC, dOp, dUn, dCB, dNil, dCons, dLst, dTup, dTest, dAnd, dOr, dNot, dAndV, dOrV, dNotV, dIf, dChain, dIsi, dIsi2, dYes, fAdd, fSub, fMul, fDiv, fMod, fPow, fNeg, fIx, fLen, fMax, fMin, fSum, fSorted, fAbs, fInt, fList, fTuple, fRepr, gEq, gNe, gLt, gLe, gGt, gGe, gIn, gNotIn, gIs, gIsNot, cD, put, cut, see, sees, look, fz, fzs, fzV, fill, dLc, dSeqI, dRng1, dRng2, dEnum, dZip, dName, dgTup, dgCons, dgNil, dAsg, dCall, dCallS, stAll, mapSt_st, mapSt_no, mapSt_val, mapSt_ow, mapSt_scr, mapSt_ns, noSts, wipeS, dSl, dPart, dNoPart, fSl, dRev, dBM, mCount, mIndex, dStInt, dStTurn, dStPop, dStCells, dStPut, dStTurnPut, dLenScr, tyName, isTyN, isNone, isBool, toInts_ints, dInts_len, List.map_cons, List.map_nil, List.map_append, List.getElem?_cons_zero, List.getElem?_cons_succ, List.set_cons_zero, List.set_cons_succ, List.length_cons, List.length_nil, List.take_nil, List.take_zero, List.take_succ_cons, List.cons_append, List.nil_append, List.replicate_zero, List.replicate_succ, if_true, if_false, ite_true, ite_false, Bool.false_eq_true, Bool.not_true, Bool.not_false, reduceIte, Nat.zero_add, Nat.add_zero, Nat.reduceAdd, Nat.reduceSub, Nat.sub_self, decide_true, decide_false, true_and, and_true, List.length_map, dNats_snoc, dNats_len, dCCs_len, dCs_len]
          refine ⟨by omega, by omega, ?_⟩
          rw [dCs_map (wins cs D (t + 1))]
          refine lc_map _ (fun c => .list (dVs (unl c))) _ (fun c hcm k3 h3 => ?_) ?_
          · obtain ⟨c', hc', rfl⟩ := List.mem_map.mp hcm
            have := win_len c' D (t + 1)
            have := (hc.c c' hc').1.n2
            simp only [stepLc, T_unlike, den, initS, endB, dSeq, dSet, dPar, dRet, dRetN, dIfS, dDrop, dFor, dNext, dBreak, dCont, dNever, dRaise, dAug, fAddI, dAppend, dSetIx, dVar, dC, dOp, dUn, dCB, dNil, dCons, dLst, dTup, dTest, dAnd, dOr, dNot, dAndV, dOrV, dNotV, dIf, dChain, dIsi, dIsi2, dYes, fAdd, fSub, fMul, fDiv, fMod, fPow, fNeg, fIx, fLen, fMax, fMin, fSum, fSorted, fAbs, fInt, fList, fTuple, fRepr, gEq, gNe, gLt, gLe, gGt, gGe, gIn, gNotIn, gIs, gIsNot, cD, put, cut, see, sees, look, fz, fzs, fzV, fill, dLc, dSeqI, dRng1, dRng2, dEnum, dZip, dName, dgTup, dgCons, dgNil, dAsg, dCall, dCallS, stAll, mapSt_st, mapSt_no, mapSt_val, mapSt_ow, mapSt_scr, mapSt_ns, noSts, wipeS, dSl, dPart, dNoPart, fSl, dRev, dBM, mCount, mIndex, dStInt, dStTurn, dStPop, dStCells, dStPut, dStTurnPut, dLenScr, tyName, isTyN, isNone, isBool, toInts_ints, dInts_len, List.map_cons, List.map_nil, List.map_append, List.getElem?_cons_zero, List.getElem?_cons_succ, List.set_cons_zero, List.set_cons_succ, List.length_cons, List.length_nil, List.take_nil, List.take_zero, List.take_succ_cons, List.cons_append, List.nil_append, List.replicate_zero, List.replicate_succ, if_true, if_false, ite_true, ite_false, Bool.false_eq_true, Bool.not_true, Bool.not_false, reduceIte, Nat.zero_add, Nat.add_zero, Nat.reduceAdd, Nat.reduceSub, Nat.sub_self, decide_true, decide_false, true_and, and_true, List.length_map]
            exact ⟨_, rfl, by omega, h3⟩
          · have e9 : ((wins cs D (t + 1)).map fun c => PyData.list (dVs (unl c))) = dCs ((wins cs D (t + 1)).map unl) := by simp [dCs]
            rw [e9]
            simp only [den, initS, endB, dSeq, dSet, dPar, dRet, dRetN, dIfS, dDrop, dFor, dNext, dBreak, dCont, dNever, dRaise, dAug, fAddI, dAppend, dSetIx, dVar, dC, dOp, dUn, dCB, dNil, dCons, dLst, dTup, dTest, dAnd, dOr, dNot, dAndV, dOrV, dNotV, dIf, dChain, dIsi, dIsi2, dYes, fAdd, fSub, fMul, fDiv, fMod, fPow, fNeg, fIx, fLen, fMax, fMin, fSum, fSorted, fAbs, fInt, fList, fTuple, fRepr, gEq, gNe, gLt, gLe, gGt, gGe, gIn, gNotIn, gIs, gIsNot, cD, put, cut, see, sees, look, fz, fzs, fzV, fill, dLc, dSeqI, dRng1, dRng2, dEnum, dZip, dName, dgTup, dgCons, dgNil, dAsg, dCall, dCallS, stAll, mapSt_st, mapSt_no, mapSt_val, mapSt_ow, mapSt_scr, mapSt_ns, noSts, wipeS, dSl, dPart, dNoPart, fSl, dRev, dBM, mCount, mIndex, dStInt, dStTurn, dStPop, dStCells, dStPut, dStTurnPut, dLenScr, tyName, isTyN, isNone, isBool, toInts_ints, dInts_len, List.map_cons, List.map_nil, List.map_append, List.getElem?_cons_zero, List.getElem?_cons_succ, List.set_cons_zero, List.set_cons_succ, List.length_cons, List.length_nil, List.take_nil, List.take_zero, List.take_succ_cons, List.cons_append, List.nil_append, List.replicate_zero, List.replicate_succ, if_true, if_false, ite_true, ite_false, Bool.false_eq_true, Bool.not_true, Bool.not_false, reduceIte, Nat.zero_add, Nat.add_zero, Nat.reduceAdd, Nat.reduceSub, Nat.sub_self, decide_true, decide_false, true_and, and_true, List.length_map, dCCs_snoc, dCCs_len, List.length_append]
            have eb2 : bsAt cs D (t + 1 + 1) = (RG cs D t).bs ++ [t + 1] := by rw [bsAt, er]
            have ec2 : cmAt cs D (t + 1 + 1) = (RG cs D t).done ++ [(RG cs D t).last] ++ [(wins cs D (t + 1)).map unl] := by rw [cmAt, er]
            rw [eb2, ec2] at hk'
            exact ⟨by omega, hk' _ ⟨_, _, _, _, _, _, _, _, rfl⟩⟩
        · rw [if_neg (by simpa using hm)]
          have er : RG cs D (t + 1) = ⟨(RG cs D t).bs, (RG cs D t).done, List.zipWith filt (RG cs D t).last (wins cs D (t + 1))⟩ := by
            rw [RG]
            exact if_neg hm
          have eb2 : bsAt cs D (t + 1 + 1) = (RG cs D t).bs := by rw [bsAt, er]
          have ec2 : cmAt cs D (t + 1 + 1) = (RG cs D t).done ++ [List.zipWith filt (RG cs D t).last (wins cs D (t + 1))] := by rw [cmAt, er]
          rw [eb2, ec2, ← set_cc (RG cs D t).done (RG cs D t).last] at hk'
          have el : (dCCs ((RG cs D t).done ++ [(RG cs D t).last])).length = (RG cs D t).done.length + 1 := by rw [dCCs_len]; simp
          simp only [den, initS, endB, dSeq, dSet, dPar, dRet, dRetN, dIfS, dDrop, dFor, dNext, dBreak, dCont, dNever, dRaise, dAug, fAddI, dAppend, dSetIx, dVar, dC, dOp, dUn, dCB, dNil, dCons, dLst, dTup, dTest, dAnd, dOr, dNot, dAndV, dOrV, dNotV, dIf, dChain, dIsi, dIsi2, dYes, fAdd, fSub, fMul, fDiv, fMod, fPow, fNeg, fIx, fLen, fMax, fMin, fSum, fSorted, fAbs, fInt, fList, fTuple, fRepr, gEq, gNe, gLt, gLe, gGt, gGe, gIn, gNotIn, gIs, gIsNot, cD, put, cut, see, sees, look, fz, fzs, fzV, fill, dLc, dSeqI, dRng1, dRng2, dEnum, dZip, dName, dgTup, dgCons, dgNil, dAsg, dCall, dCallS, stAll, mapSt_st, mapSt_no, mapSt_val, mapSt_ow, mapSt_scr, mapSt_ns, noSts, wipeS, dSl, dPart, dNoPart, fSl, dRev, dBM, mCount, mIndex, dStInt, dStTurn, dStPop, dStCells, dStPut, dStTurnPut, dLenScr, tyName, isTyN, isNone, isBool, toInts_ints, dInts_len, List.map_cons, List.map_nil, List.map_append, List.getElem?_cons_zero, List.getElem?_cons_succ, List.set_cons_zero, List.set_cons_succ, List.length_cons, List.length_nil, List.take_nil, List.take_zero, List.take_succ_cons, List.cons_append, List.nil_append, List.replicate_zero, List.replicate_succ, if_true, if_false, ite_true, ite_false, Bool.false_eq_true, Bool.not_true, Bool.not_false, reduceIte, Nat.zero_add, Nat.add_zero, Nat.reduceAdd, Nat.reduceSub, Nat.sub_self, decide_true, decide_false, true_and, and_true, List.length_map, el, ixN_last (n := (RG cs D t).done.length + 1) (by omega)]
          exact hk' _ ⟨_, _, _, _, _, _, _, _, rfl⟩
  · obtain ⟨y4, y5, y6, y7, y8, y9, y10, y11, rfl⟩ := ht
    refine h1 _ ?_
    simp only [den, initS, endB, dSeq, dSet, dPar, dRet, dRetN, dIfS, dDrop, dFor, dNext, dBreak, dCont, dNever, dRaise, dAug, fAddI, dAppend, dSetIx, dVar, dC, dOp, dUn, dCB, dNil, dCons, dLst, dTup, dTest, dAnd, dOr, dNot, dAndV, dOrV, dNotV, dIf, dChain, dIsi, dIsi2, dYes, fAdd, fSub, fMul, fDiv, fMod, fPow, fNeg, fIx, fLen, fMax, fMin, fSum, fSorted, fAbs, fInt, fList, fTuple, fRepr, gEq, gNe, gLt, gLe, gGt, gGe, gIn, gNotIn, gIs, gIsNot, cD, put, cut, see, sees, look, fz, fzs, fzV, fill, dLc, dSeqI, dRng1, dRng2, dEnum, dZip, dName, dgTup, dgCons, dgNil, dAsg, dCall, dCallS, stAll, mapSt_st, mapSt_no, mapSt_val, mapSt_ow, mapSt_scr, mapSt_ns, noSts, wipeS, dSl, dPart, dNoPart, fSl, dRev, dBM, mCount, mIndex, dStInt, dStTurn, dStPop, dStCells, dStPut, dStTurnPut, dLenScr, tyName, isTyN, isNone, isBool, toInts_ints, dInts_len, List.map_cons, List.map_nil, List.map_append, List.getElem?_cons_zero, List.getElem?_cons_succ, List.set_cons_zero, List.set_cons_succ, List.length_cons, List.length_nil, List.take_nil, List.take_zero, List.take_succ_cons, List.cons_append, List.nil_append, List.replicate_zero, List.replicate_succ, if_true, if_false, ite_true, ite_false, Bool.false_eq_true, Bool.not_true, Bool.not_false, reduceIte, Nat.zero_add, Nat.add_zero, Nat.reduceAdd, Nat.reduceSub, Nat.sub_self, decide_true, decide_false, true_and, and_true, List.length_map]
    rw [l0]
    exact ⟨by omega, hk⟩

abbrev nn_fewest_together : Nat := 2
-- 0:courses 1:delay
def B_fewest_together : (String → Prop) → DSt := fun kx => (dSeq (dDrop (dCall 1 T_need_courses (fun _ => False) (dCons (dVar 0) dNil))) (dSeq (dDrop (dCall 3 T_need_number (fun _ => False) (dCons (dVar 1) (dCons (dC (.int 0)) (dCons (dC (.int 200)) dNil))))) (dRet (dOp fSub (dCB fLen (dCons (dOp fIx (dCall 2 T_rounds_of (fun _ => False) (dCons (dVar 0) (dCons (dVar 1) dNil))) (dC (.int 0))) dNil)) (dC (.int 1))))))
def R_fewest_together : DFn := den false 2 B_fewest_together
def T_fewest_together : DFn := fun _ ds k _ => ∃ (cs : List (List Vl)) (D n : Nat), ds = [.list (dCs cs), .int (D : Int)] ∧ OkCs cs n ∧ D ≤ 200 ∧ k (.int (((bsAt cs D n).length : Int) - 1)) 0
theorem imp_fewest_together : ∀ B ds k kx, ds.length = 2 → T_fewest_together B ds k kx → R_fewest_together B ds k kx := fun B ds k kx _ h => by
  obtain ⟨cs, D, n, rfl, hc, hD, hk⟩ := h
  simp only [R_fewest_together, B_fewest_together, den, initS]
  refine sq fun k1 h1 => ?_
  simp only [T_need_courses, den, initS, endB, dSeq, dSet, dPar, dRet, dRetN, dIfS, dDrop, dFor, dNext, dBreak, dCont, dNever, dRaise, dAug, fAddI, dAppend, dSetIx, dVar, dC, dOp, dUn, dCB, dNil, dCons, dLst, dTup, dTest, dAnd, dOr, dNot, dAndV, dOrV, dNotV, dIf, dChain, dIsi, dIsi2, dYes, fAdd, fSub, fMul, fDiv, fMod, fPow, fNeg, fIx, fLen, fMax, fMin, fSum, fSorted, fAbs, fInt, fList, fTuple, fRepr, gEq, gNe, gLt, gLe, gGt, gGe, gIn, gNotIn, gIs, gIsNot, cD, put, cut, see, sees, look, fz, fzs, fzV, fill, dLc, dSeqI, dRng1, dRng2, dEnum, dZip, dName, dgTup, dgCons, dgNil, dAsg, dCall, dCallS, stAll, mapSt_st, mapSt_no, mapSt_val, mapSt_ow, mapSt_scr, mapSt_ns, noSts, wipeS, dSl, dPart, dNoPart, fSl, dRev, dBM, mCount, mIndex, dStInt, dStTurn, dStPop, dStCells, dStPut, dStTurnPut, dLenScr, tyName, isTyN, isNone, isBool, toInts_ints, dInts_len, List.map_cons, List.map_nil, List.map_append, List.getElem?_cons_zero, List.getElem?_cons_succ, List.set_cons_zero, List.set_cons_succ, List.length_cons, List.length_nil, List.take_nil, List.take_zero, List.take_succ_cons, List.cons_append, List.nil_append, List.replicate_zero, List.replicate_succ, if_true, if_false, ite_true, ite_false, Bool.false_eq_true, Bool.not_true, Bool.not_false, reduceIte, Nat.zero_add, Nat.add_zero, Nat.reduceAdd, Nat.reduceSub, Nat.sub_self, decide_true, decide_false, true_and, and_true, List.length_map]
  refine ⟨cs, n, rfl, hc, h1 _ ?_⟩
  clear h1 k1
  refine sq fun k1 h1 => ?_
  simp only [T_need_number, den, initS, endB, dSeq, dSet, dPar, dRet, dRetN, dIfS, dDrop, dFor, dNext, dBreak, dCont, dNever, dRaise, dAug, fAddI, dAppend, dSetIx, dVar, dC, dOp, dUn, dCB, dNil, dCons, dLst, dTup, dTest, dAnd, dOr, dNot, dAndV, dOrV, dNotV, dIf, dChain, dIsi, dIsi2, dYes, fAdd, fSub, fMul, fDiv, fMod, fPow, fNeg, fIx, fLen, fMax, fMin, fSum, fSorted, fAbs, fInt, fList, fTuple, fRepr, gEq, gNe, gLt, gLe, gGt, gGe, gIn, gNotIn, gIs, gIsNot, cD, put, cut, see, sees, look, fz, fzs, fzV, fill, dLc, dSeqI, dRng1, dRng2, dEnum, dZip, dName, dgTup, dgCons, dgNil, dAsg, dCall, dCallS, stAll, mapSt_st, mapSt_no, mapSt_val, mapSt_ow, mapSt_scr, mapSt_ns, noSts, wipeS, dSl, dPart, dNoPart, fSl, dRev, dBM, mCount, mIndex, dStInt, dStTurn, dStPop, dStCells, dStPut, dStTurnPut, dLenScr, tyName, isTyN, isNone, isBool, toInts_ints, dInts_len, List.map_cons, List.map_nil, List.map_append, List.getElem?_cons_zero, List.getElem?_cons_succ, List.set_cons_zero, List.set_cons_succ, List.length_cons, List.length_nil, List.take_nil, List.take_zero, List.take_succ_cons, List.cons_append, List.nil_append, List.replicate_zero, List.replicate_succ, if_true, if_false, ite_true, ite_false, Bool.false_eq_true, Bool.not_true, Bool.not_false, reduceIte, Nat.zero_add, Nat.add_zero, Nat.reduceAdd, Nat.reduceSub, Nat.sub_self, decide_true, decide_false, true_and, and_true, List.length_map]
  refine ⟨D, 0, 200, rfl, by omega, by omega, h1 _ ?_⟩
  simp only [T_rounds_of, den, initS, endB, dSeq, dSet, dPar, dRet, dRetN, dIfS, dDrop, dFor, dNext, dBreak, dCont, dNever, dRaise, dAug, fAddI, dAppend, dSetIx, dVar, dC, dOp, dUn, dCB, dNil, dCons, dLst, dTup, dTest, dAnd, dOr, dNot, dAndV, dOrV, dNotV, dIf, dChain, dIsi, dIsi2, dYes, fAdd, fSub, fMul, fDiv, fMod, fPow, fNeg, fIx, fLen, fMax, fMin, fSum, fSorted, fAbs, fInt, fList, fTuple, fRepr, gEq, gNe, gLt, gLe, gGt, gGe, gIn, gNotIn, gIs, gIsNot, cD, put, cut, see, sees, look, fz, fzs, fzV, fill, dLc, dSeqI, dRng1, dRng2, dEnum, dZip, dName, dgTup, dgCons, dgNil, dAsg, dCall, dCallS, stAll, mapSt_st, mapSt_no, mapSt_val, mapSt_ow, mapSt_scr, mapSt_ns, noSts, wipeS, dSl, dPart, dNoPart, fSl, dRev, dBM, mCount, mIndex, dStInt, dStTurn, dStPop, dStCells, dStPut, dStTurnPut, dLenScr, tyName, isTyN, isNone, isBool, toInts_ints, dInts_len, List.map_cons, List.map_nil, List.map_append, List.getElem?_cons_zero, List.getElem?_cons_succ, List.set_cons_zero, List.set_cons_succ, List.length_cons, List.length_nil, List.take_nil, List.take_zero, List.take_succ_cons, List.cons_append, List.nil_append, List.replicate_zero, List.replicate_succ, if_true, if_false, ite_true, ite_false, Bool.false_eq_true, Bool.not_true, Bool.not_false, reduceIte, Nat.zero_add, Nat.add_zero, Nat.reduceAdd, Nat.reduceSub, Nat.sub_self, decide_true, decide_false, true_and, and_true, List.length_map]
  refine ⟨cs, D, n, rfl, hc, ?_⟩
  simp only [atI_zero, den, initS, endB, dSeq, dSet, dPar, dRet, dRetN, dIfS, dDrop, dFor, dNext, dBreak, dCont, dNever, dRaise, dAug, fAddI, dAppend, dSetIx, dVar, dC, dOp, dUn, dCB, dNil, dCons, dLst, dTup, dTest, dAnd, dOr, dNot, dAndV, dOrV, dNotV, dIf, dChain, dIsi, dIsi2, dYes, fAdd, fSub, fMul, fDiv, fMod, fPow, fNeg, fIx, fLen, fMax, fMin, fSum, fSorted, fAbs, fInt, fList, fTuple, fRepr, gEq, gNe, gLt, gLe, gGt, gGe, gIn, gNotIn, gIs, gIsNot, cD, put, cut, see, sees, look, fz, fzs, fzV, fill, dLc, dSeqI, dRng1, dRng2, dEnum, dZip, dName, dgTup, dgCons, dgNil, dAsg, dCall, dCallS, stAll, mapSt_st, mapSt_no, mapSt_val, mapSt_ow, mapSt_scr, mapSt_ns, noSts, wipeS, dSl, dPart, dNoPart, fSl, dRev, dBM, mCount, mIndex, dStInt, dStTurn, dStPop, dStCells, dStPut, dStTurnPut, dLenScr, tyName, isTyN, isNone, isBool, toInts_ints, dInts_len, List.map_cons, List.map_nil, List.map_append, List.getElem?_cons_zero, List.getElem?_cons_succ, List.set_cons_zero, List.set_cons_succ, List.length_cons, List.length_nil, List.take_nil, List.take_zero, List.take_succ_cons, List.cons_append, List.nil_append, List.replicate_zero, List.replicate_succ, if_true, if_false, ite_true, ite_false, Bool.false_eq_true, Bool.not_true, Bool.not_false, reduceIte, Nat.zero_add, Nat.add_zero, Nat.reduceAdd, Nat.reduceSub, Nat.sub_self, decide_true, decide_false, true_and, and_true, List.length_map, dNats_len]
  exact hk

abbrev nn_fewest_changes : Nat := 2
-- 0:course 1:delay
def B_fewest_changes : (String → Prop) → DSt := fun kx => (dRet (dCall 2 T_fewest_together (fun _ => False) (dCons (dLst (dCons (dVar 0) dNil)) (dCons (dVar 1) dNil))))
def R_fewest_changes : DFn := den false 2 B_fewest_changes
def T_fewest_changes : DFn := fun _ ds k _ => ∃ (c : List Vl) (D : Nat), ds = [.list (dVs c), .int (D : Int)] ∧ OkC c ∧ D ≤ 200 ∧ k (.int (few c D : Int)) 0
theorem imp_fewest_changes : ∀ B ds k kx, ds.length = 2 → T_fewest_changes B ds k kx → R_fewest_changes B ds k kx := fun B ds k kx _ h => by
  obtain ⟨c, D, rfl, hc, hD, hk⟩ := h
  have sz : sizeLine = 2 ^ 24 := rfl
  simp only [R_fewest_changes, B_fewest_changes, T_fewest_together, den, initS, endB, dSeq, dSet, dPar, dRet, dRetN, dIfS, dDrop, dFor, dNext, dBreak, dCont, dNever, dRaise, dAug, fAddI, dAppend, dSetIx, dVar, dC, dOp, dUn, dCB, dNil, dCons, dLst, dTup, dTest, dAnd, dOr, dNot, dAndV, dOrV, dNotV, dIf, dChain, dIsi, dIsi2, dYes, fAdd, fSub, fMul, fDiv, fMod, fPow, fNeg, fIx, fLen, fMax, fMin, fSum, fSorted, fAbs, fInt, fList, fTuple, fRepr, gEq, gNe, gLt, gLe, gGt, gGe, gIn, gNotIn, gIs, gIsNot, cD, put, cut, see, sees, look, fz, fzs, fzV, fill, dLc, dSeqI, dRng1, dRng2, dEnum, dZip, dName, dgTup, dgCons, dgNil, dAsg, dCall, dCallS, stAll, mapSt_st, mapSt_no, mapSt_val, mapSt_ow, mapSt_scr, mapSt_ns, noSts, wipeS, dSl, dPart, dNoPart, fSl, dRev, dBM, mCount, mIndex, dStInt, dStTurn, dStPop, dStCells, dStPut, dStTurnPut, dLenScr, tyName, isTyN, isNone, isBool, toInts_ints, dInts_len, List.map_cons, List.map_nil, List.map_append, List.getElem?_cons_zero, List.getElem?_cons_succ, List.set_cons_zero, List.set_cons_succ, List.length_cons, List.length_nil, List.take_nil, List.take_zero, List.take_succ_cons, List.cons_append, List.nil_append, List.replicate_zero, List.replicate_succ, if_true, if_false, ite_true, ite_false, Bool.false_eq_true, Bool.not_true, Bool.not_false, reduceIte, Nat.zero_add, Nat.add_zero, Nat.reduceAdd, Nat.reduceSub, Nat.sub_self, decide_true, decide_false, true_and, and_true, List.length_map]
  refine ⟨by omega, [c], D, c.length, rfl, okCs_one hc, hD, ?_⟩
  rw [bsAt_few hc.ne]
  exact hk

abbrev nn_stair : Nat := 5
-- 0:course 1:found 2:delay 3:_ 4:fewest
def B_stair : (String → Prop) → DSt := fun kx => (dSeq (dDrop (dCall 1 T_need_course (fun _ => False) (dCons (dVar 0) dNil))) (dSeq (dSet 1 (dLst dNil)) (dSeq (dFor (dEnum (dCons (dVar 0) dNil)) (dgTup 2 (dgCons (dName 2) (dgCons (dName 3) dgNil))) (dSeq (dSet 4 (dCall 2 T_fewest_changes (fun _ => False) (dCons (dVar 0) (dCons (dVar 2) dNil)))) (dIfS (dOr (dTest (dOp (cD gEq) (dVar 1) (dLst dNil))) (dTest (dOp (cD gLt) (dVar 4) (dOp fIx (dOp fIx (dVar 1) (dUn fNeg (dC (.int 1)))) (dC (.int 1)))))) (dAppend 1 (dTup (dCons (dVar 2) (dCons (dVar 4) dNil)))) dNext))) (dRet (dVar 1)))))
def R_stair : DFn := den false 5 B_stair
def T_stair : DFn := fun _ ds k _ => ∃ (c : List Vl), ds = [.list (dVs c)] ∧ OkC c ∧ k (.list (dPs (recs (fun d => (few c d : Int)) c.length))) 0
theorem imp_stair : ∀ B ds k kx, ds.length = 1 → T_stair B ds k kx → R_stair B ds k kx := fun B ds k kx _ h => by
  obtain ⟨c, rfl, hc, hk⟩ := h
  have sz : sizeLine = 2 ^ 24 := rfl
  have n2 := hc.n2
  simp only [R_stair, B_stair, den, initS]
  refine sq fun k1 h1 => ?_
  simp only [T_need_course, den, initS, endB, dSeq, dSet, dPar, dRet, dRetN, dIfS, dDrop, dFor, dNext, dBreak, dCont, dNever, dRaise, dAug, fAddI, dAppend, dSetIx, dVar, dC, dOp, dUn, dCB, dNil, dCons, dLst, dTup, dTest, dAnd, dOr, dNot, dAndV, dOrV, dNotV, dIf, dChain, dIsi, dIsi2, dYes, fAdd, fSub, fMul, fDiv, fMod, fPow, fNeg, fIx, fLen, fMax, fMin, fSum, fSorted, fAbs, fInt, fList, fTuple, fRepr, gEq, gNe, gLt, gLe, gGt, gGe, gIn, gNotIn, gIs, gIsNot, cD, put, cut, see, sees, look, fz, fzs, fzV, fill, dLc, dSeqI, dRng1, dRng2, dEnum, dZip, dName, dgTup, dgCons, dgNil, dAsg, dCall, dCallS, stAll, mapSt_st, mapSt_no, mapSt_val, mapSt_ow, mapSt_scr, mapSt_ns, noSts, wipeS, dSl, dPart, dNoPart, fSl, dRev, dBM, mCount, mIndex, dStInt, dStTurn, dStPop, dStCells, dStPut, dStTurnPut, dLenScr, tyName, isTyN, isNone, isBool, toInts_ints, dInts_len, List.map_cons, List.map_nil, List.map_append, List.getElem?_cons_zero, List.getElem?_cons_succ, List.set_cons_zero, List.set_cons_succ, List.length_cons, List.length_nil, List.take_nil, List.take_zero, List.take_succ_cons, List.cons_append, List.nil_append, List.replicate_zero, List.replicate_succ, if_true, if_false, ite_true, ite_false, Bool.false_eq_true, Bool.not_true, Bool.not_false, reduceIte, Nat.zero_add, Nat.add_zero, Nat.reduceAdd, Nat.reduceSub, Nat.sub_self, decide_true, decide_false, true_and, and_true, List.length_map]
  refine ⟨c, rfl, hc, h1 _ ?_⟩
  clear h1 k1
  refine sq fun k1 h1 => ?_
  simp only [den, initS, endB, dSeq, dSet, dPar, dRet, dRetN, dIfS, dDrop, dFor, dNext, dBreak, dCont, dNever, dRaise, dAug, fAddI, dAppend, dSetIx, dVar, dC, dOp, dUn, dCB, dNil, dCons, dLst, dTup, dTest, dAnd, dOr, dNot, dAndV, dOrV, dNotV, dIf, dChain, dIsi, dIsi2, dYes, fAdd, fSub, fMul, fDiv, fMod, fPow, fNeg, fIx, fLen, fMax, fMin, fSum, fSorted, fAbs, fInt, fList, fTuple, fRepr, gEq, gNe, gLt, gLe, gGt, gGe, gIn, gNotIn, gIs, gIsNot, cD, put, cut, see, sees, look, fz, fzs, fzV, fill, dLc, dSeqI, dRng1, dRng2, dEnum, dZip, dName, dgTup, dgCons, dgNil, dAsg, dCall, dCallS, stAll, mapSt_st, mapSt_no, mapSt_val, mapSt_ow, mapSt_scr, mapSt_ns, noSts, wipeS, dSl, dPart, dNoPart, fSl, dRev, dBM, mCount, mIndex, dStInt, dStTurn, dStPop, dStCells, dStPut, dStTurnPut, dLenScr, tyName, isTyN, isNone, isBool, toInts_ints, dInts_len, List.map_cons, List.map_nil, List.map_append, List.getElem?_cons_zero, List.getElem?_cons_succ, List.set_cons_zero, List.set_cons_succ, List.length_cons, List.length_nil, List.take_nil, List.take_zero, List.take_succ_cons, List.cons_append, List.nil_append, List.replicate_zero, List.replicate_succ, if_true, if_false, ite_true, ite_false, Bool.false_eq_true, Bool.not_true, Bool.not_false, reduceIte, Nat.zero_add, Nat.add_zero, Nat.reduceAdd, Nat.reduceSub, Nat.sub_self, decide_true, decide_false, true_and, and_true, List.length_map]
  refine ⟨Nat.zero_le _, h1 _ ?_⟩
  clear h1 k1
  refine sq fun k1 h1 => ?_
  simp only [den, initS, endB, dSeq, dSet, dPar, dRet, dRetN, dIfS, dDrop, dFor, dNext, dBreak, dCont, dNever, dRaise, dAug, fAddI, dAppend, dSetIx, dVar, dC, dOp, dUn, dCB, dNil, dCons, dLst, dTup, dTest, dAnd, dOr, dNot, dAndV, dOrV, dNotV, dIf, dChain, dIsi, dIsi2, dYes, fAdd, fSub, fMul, fDiv, fMod, fPow, fNeg, fIx, fLen, fMax, fMin, fSum, fSorted, fAbs, fInt, fList, fTuple, fRepr, gEq, gNe, gLt, gLe, gGt, gGe, gIn, gNotIn, gIs, gIsNot, cD, put, cut, see, sees, look, fz, fzs, fzV, fill, dLc, dSeqI, dRng1, dRng2, dEnum, dZip, dName, dgTup, dgCons, dgNil, dAsg, dCall, dCallS, stAll, mapSt_st, mapSt_no, mapSt_val, mapSt_ow, mapSt_scr, mapSt_ns, noSts, wipeS, dSl, dPart, dNoPart, fSl, dRev, dBM, mCount, mIndex, dStInt, dStTurn, dStPop, dStCells, dStPut, dStTurnPut, dLenScr, tyName, isTyN, isNone, isBool, toInts_ints, dInts_len, List.map_cons, List.map_nil, List.map_append, List.getElem?_cons_zero, List.getElem?_cons_succ, List.set_cons_zero, List.set_cons_succ, List.length_cons, List.length_nil, List.take_nil, List.take_zero, List.take_succ_cons, List.cons_append, List.nil_append, List.replicate_zero, List.replicate_succ, if_true, if_false, ite_true, ite_false, Bool.false_eq_true, Bool.not_true, Bool.not_false, reduceIte, Nat.zero_add, Nat.add_zero, Nat.reduceAdd, Nat.reduceSub, Nat.sub_self, decide_true, decide_false, true_and, and_true, List.length_map]
  rw [dVs_map]
  refine for_enum Vl.d c (fun t s => ∃ y2 y3 y4, s = [.val (.list (dVs c)), .own (.lst (dPs (recs (fun d => (few c d : Int)) t))), y2, y3, y4]) ⟨_, _, _, rfl⟩ (fun t ht s hs k' b hk' => ?_) fun t ht => ?_
  · obtain ⟨y2, y3, y4, rfl⟩ := hs
    simp only [dgTup, dgCons, dgNil, dName, List.set_cons_succ, List.set_cons_zero, List.length_cons, List.length_nil, Nat.zero_add, Nat.reduceAdd, true_and]
    refine sq fun k2 h2 => ?_
    simp only [T_fewest_changes, den, initS, endB, dSeq, dSet, dPar, dRet, dRetN, dIfS, dDrop, dFor, dNext, dBreak, dCont, dNever, dRaise, dAug, fAddI, dAppend, dSetIx, dVar, dC, dOp, dUn, dCB, dNil, dCons, dLst, dTup, dTest, dAnd, dOr, dNot, dAndV, dOrV, dNotV, dIf, dChain, dIsi, dIsi2, dYes, fAdd, fSub, fMul, fDiv, fMod, fPow, fNeg, fIx, fLen, fMax, fMin, fSum, fSorted, fAbs, fInt, fList, fTuple, fRepr, gEq, gNe, gLt, gLe, gGt, gGe, gIn, gNotIn, gIs, gIsNot, cD, put, cut, see, sees, look, fz, fzs, fzV, fill, dLc, dSeqI, dRng1, dRng2, dEnum, dZip, dName, dgTup, dgCons, dgNil, dAsg, dCall, dCallS, stAll, mapSt_st, mapSt_no, mapSt_val, mapSt_ow, mapSt_scr, mapSt_ns, noSts, wipeS, dSl, dPart, dNoPart, fSl, dRev, dBM, mCount, mIndex, dStInt, dStTurn, dStPop, dStCells, dStPut, dStTurnPut, dLenScr, tyName, isTyN, isNone, isBool, toInts_ints, dInts_len, List.map_cons, List.map_nil, List.map_append, List.getElem?_cons_zero, List.getElem?_cons_succ, List.set_cons_zero, List.set_cons_succ, List.length_cons, List.length_nil, List.take_nil, List.take_zero, List.take_succ_cons, List.cons_append, List.nil_append, List.replicate_zero, List.replicate_succ, if_true, if_false, ite_true, ite_false, Bool.false_eq_true, Bool.not_true, Bool.not_false, reduceIte, Nat.zero_add, Nat.add_zero, Nat.reduceAdd, Nat.reduceSub, Nat.sub_self, decide_true, decide_false, true_and, and_true, List.length_map]
    refine ⟨c, t, rfl, hc, by omega, h2 _ ?_⟩
    clear h2 k2
    have hl : (recs (fun d => (few c d : Int)) t).length ≤ t := by
      unfold recs
      rw [List.length_map]
      exact Nat.le_trans (List.length_filter_le _ _) (by simp)
    rw [recs_succ] at hk'
    cases t with
    | zero =>
      have e : isRec (fun d => (few c d : Int)) 0 = true := by simp [isRec]
      rw [e] at hk'
      have e2 : recs (fun d => (few c d : Int)) 0 = [] := rfl
      rw [e2] at hk' ⊢
      simp only [den, initS, endB, dSeq, dSet, dPar, dRet, dRetN, dIfS, dDrop, dFor, dNext, dBreak, dCont, dNever, dRaise, dAug, fAddI, dAppend, dSetIx, dVar, dC, dOp, dUn, dCB, dNil, dCons, dLst, dTup, dTest, dAnd, dOr, dNot, dAndV, dOrV, dNotV, dIf, dChain, dIsi, dIsi2, dYes, fAdd, fSub, fMul, fDiv, fMod, fPow, fNeg, fIx, fLen, fMax, fMin, fSum, fSorted, fAbs, fInt, fList, fTuple, fRepr, gEq, gNe, gLt, gLe, gGt, gGe, gIn, gNotIn, gIs, gIsNot, cD, put, cut, see, sees, look, fz, fzs, fzV, fill, dLc, dSeqI, dRng1, dRng2, dEnum, dZip, dName, dgTup, dgCons, dgNil, dAsg, dCall, dCallS, stAll, mapSt_st, mapSt_no, mapSt_val, mapSt_ow, mapSt_scr, mapSt_ns, noSts, wipeS, dSl, dPart, dNoPart, fSl, dRev, dBM, mCount, mIndex, dStInt, dStTurn, dStPop, dStCells, dStPut, dStTurnPut, dLenScr, tyName, isTyN, isNone, isBool, toInts_ints, dInts_len, List.map_cons, List.map_nil, List.map_append, List.getElem?_cons_zero, List.getElem?_cons_succ, List.set_cons_zero, List.set_cons_succ, List.length_cons, List.length_nil, List.take_nil, List.take_zero, List.take_succ_cons, List.cons_append, List.nil_append, List.replicate_zero, List.replicate_succ, if_true, if_false, ite_true, ite_false, Bool.false_eq_true, Bool.not_true, Bool.not_false, reduceIte, Nat.zero_add, Nat.add_zero, Nat.reduceAdd, Nat.reduceSub, Nat.sub_self, decide_true, decide_false, true_and, and_true, List.length_map, eqv_nil, dPs, List.isEmpty_nil]
      exact ⟨Nat.zero_le _, shaped_ints [], shaped_ints [], by omega, by omega, hk' _ ⟨_, _, _, rfl⟩⟩
    | succ t =>
      obtain ⟨init, d, e3, e4, e5⟩ := recs_last (fun d => (few c d : Int)) (t + 1) (by omega)
      have e6 := rec_iff e3 e4 e5
      have e7 : (dPs (recs (fun d => (few c d : Int)) (t + 1))).isEmpty = false := by rw [e3]; simp [dPs]
      have e8 : atI (dPs (recs (fun d => (few c d : Int)) (t + 1))) (-1) = some (.tuple [.int (d : Int), .int (few c d : Int)]) := by
        rw [e3, ← dPs_snoc]
        exact atI_last _ _
      have e9 : atI [PyData.int (d : Int), .int (few c d : Int)] 1 = some (.int (few c d : Int)) := atI_nat (j := 1) rfl
      rw [e6] at hk'
      simp only [den, initS, endB, dSeq, dSet, dPar, dRet, dRetN, dIfS, dDrop, dFor, dNext, dBreak, dCont, dNever, dRaise, dAug, fAddI, dAppend, dSetIx, dVar, dC, dOp, dUn, dCB, dNil, dCons, dLst, dTup, dTest, dAnd, dOr, dNot, dAndV, dOrV, dNotV, dIf, dChain, dIsi, dIsi2, dYes, fAdd, fSub, fMul, fDiv, fMod, fPow, fNeg, fIx, fLen, fMax, fMin, fSum, fSorted, fAbs, fInt, fList, fTuple, fRepr, gEq, gNe, gLt, gLe, gGt, gGe, gIn, gNotIn, gIs, gIsNot, cD, put, cut, see, sees, look, fz, fzs, fzV, fill, dLc, dSeqI, dRng1, dRng2, dEnum, dZip, dName, dgTup, dgCons, dgNil, dAsg, dCall, dCallS, stAll, mapSt_st, mapSt_no, mapSt_val, mapSt_ow, mapSt_scr, mapSt_ns, noSts, wipeS, dSl, dPart, dNoPart, fSl, dRev, dBM, mCount, mIndex, dStInt, dStTurn, dStPop, dStCells, dStPut, dStTurnPut, dLenScr, tyName, isTyN, isNone, isBool, toInts_ints, dInts_len, List.map_cons, List.map_nil, List.map_append, List.getElem?_cons_zero, List.getElem?_cons_succ, List.set_cons_zero, List.set_cons_succ, List.length_cons, List.length_nil, List.take_nil, List.take_zero, List.take_succ_cons, List.cons_append, List.nil_append, List.replicate_zero, List.replicate_succ, if_true, if_false, ite_true, ite_false, Bool.false_eq_true, Bool.not_true, Bool.not_false, reduceIte, Nat.zero_add, Nat.add_zero, Nat.reduceAdd, Nat.reduceSub, Nat.sub_self, decide_true, decide_false, true_and, and_true, List.length_map, eqv_nil, e7, e8, e9, dPs_len]
      refine ⟨Nat.zero_le _, shaped_ps _, shaped_ints [], ?_⟩
      by_cases hm : (few c (t + 1) : Int) < few c d
      · simp only [hm, decide_true, if_true] at hk' ⊢
        exact ⟨by omega, by omega, hk' _ ⟨_, _, _, by rw [← dPs_snoc]⟩⟩
      · simp only [hm, decide_false, if_false, Bool.false_eq_true] at hk' ⊢
        exact hk' _ ⟨_, _, _, by rw [List.append_nil]⟩
  · obtain ⟨y2, y3, y4, rfl⟩ := ht
    refine h1 _ ?_
    simp only [den, initS, endB, dSeq, dSet, dPar, dRet, dRetN, dIfS, dDrop, dFor, dNext, dBreak, dCont, dNever, dRaise, dAug, fAddI, dAppend, dSetIx, dVar, dC, dOp, dUn, dCB, dNil, dCons, dLst, dTup, dTest, dAnd, dOr, dNot, dAndV, dOrV, dNotV, dIf, dChain, dIsi, dIsi2, dYes, fAdd, fSub, fMul, fDiv, fMod, fPow, fNeg, fIx, fLen, fMax, fMin, fSum, fSorted, fAbs, fInt, fList, fTuple, fRepr, gEq, gNe, gLt, gLe, gGt, gGe, gIn, gNotIn, gIs, gIsNot, cD, put, cut, see, sees, look, fz, fzs, fzV, fill, dLc, dSeqI, dRng1, dRng2, dEnum, dZip, dName, dgTup, dgCons, dgNil, dAsg, dCall, dCallS, stAll, mapSt_st, mapSt_no, mapSt_val, mapSt_ow, mapSt_scr, mapSt_ns, noSts, wipeS, dSl, dPart, dNoPart, fSl, dRev, dBM, mCount, mIndex, dStInt, dStTurn, dStPop, dStCells, dStPut, dStTurnPut, dLenScr, tyName, isTyN, isNone, isBool, toInts_ints, dInts_len, List.map_cons, List.map_nil, List.map_append, List.getElem?_cons_zero, List.getElem?_cons_succ, List.set_cons_zero, List.set_cons_succ, List.length_cons, List.length_nil, List.take_nil, List.take_zero, List.take_succ_cons, List.cons_append, List.nil_append, List.replicate_zero, List.replicate_succ, if_true, if_false, ite_true, ite_false, Bool.false_eq_true, Bool.not_true, Bool.not_false, reduceIte, Nat.zero_add, Nat.add_zero, Nat.reduceAdd, Nat.reduceSub, Nat.sub_self, decide_true, decide_false, true_and, and_true, List.length_map]
    exact hk

abbrev nn_least_delay : Nat := 4
-- 0:course 1:changes 2:delay 3:fewest
def B_least_delay : (String → Prop) → DSt := fun kx => (dSeq (dDrop (dCall 1 T_need_course (fun _ => False) (dCons (dVar 0) dNil))) (dSeq (dDrop (dCall 3 T_need_number (fun _ => False) (dCons (dVar 1) (dCons (dC (.int 0)) (dCons (dC (.int 200)) dNil))))) (dRet (dOp fIx (dLc (dSeqI (dCall 1 T_stair (fun _ => False) (dCons (dVar 0) dNil))) (dgTup 2 (dgCons (dName 2) (dgCons (dName 3) dgNil))) (dTest (dOp (cD gLe) (dVar 3) (dVar 1))) (dVar 2) [2, 3]) (dC (.int 0))))))
def R_least_delay : DFn := den false 4 B_least_delay
def T_least_delay : DFn := fun _ ds k _ => ∃ (c : List Vl) (m : Int) (d : Nat), ds = [.list (dVs c), .int m] ∧ OkC c ∧ 0 ≤ m ∧ m ≤ 200 ∧ (List.range c.length).find? (fun d => decide ((few c d : Int) ≤ m)) = some d ∧ k (.int (d : Int)) 0
theorem imp_least_delay : ∀ B ds k kx, ds.length = 2 → T_least_delay B ds k kx → R_least_delay B ds k kx := fun B ds k kx _ h => by
  obtain ⟨c, m, d, rfl, hc, m0, m1, hd, hk⟩ := h
  have sz : sizeLine = 2 ^ 24 := rfl
  have n2 := hc.n2
  simp only [R_least_delay, B_least_delay, den, initS]
  refine sq fun k1 h1 => ?_
  simp only [T_need_course, den, initS, endB, dSeq, dSet, dPar, dRet, dRetN, dIfS, dDrop, dFor, dNext, dBreak, dCont, dNever, dRaise, dAug, fAddI, dAppend, dSetIx, dVar, dC, dOp, dUn, dCB, dNil, dCons, dLst, dTup, dTest, dAnd, dOr, dNot, dAndV, dOrV, dNotV, dIf, dChain, dIsi, dIsi2, dYes, fAdd, fSub, fMul, fDiv, fMod, fPow, fNeg, fIx, fLen, fMax, fMin, fSum, fSorted, fAbs, fInt, fList, fTuple, fRepr, gEq, gNe, gLt, gLe, gGt, gGe, gIn, gNotIn, gIs, gIsNot, cD, put, cut, see, sees, look, fz, fzs, fzV, fill, dLc, dSeqI, dRng1, dRng2, dEnum, dZip, dName, dgTup, dgCons, dgNil, dAsg, dCall, dCallS, stAll, mapSt_st, mapSt_no, mapSt_val, mapSt_ow, mapSt_scr, mapSt_ns, noSts, wipeS, dSl, dPart, dNoPart, fSl, dRev, dBM, mCount, mIndex, dStInt, dStTurn, dStPop, dStCells, dStPut, dStTurnPut, dLenScr, tyName, isTyN, isNone, isBool, toInts_ints, dInts_len, List.map_cons, List.map_nil, List.map_append, List.getElem?_cons_zero, List.getElem?_cons_succ, List.set_cons_zero, List.set_cons_succ, List.length_cons, List.length_nil, List.take_nil, List.take_zero, List.take_succ_cons, List.cons_append, List.nil_append, List.replicate_zero, List.replicate_succ, if_true, if_false, ite_true, ite_false, Bool.false_eq_true, Bool.not_true, Bool.not_false, reduceIte, Nat.zero_add, Nat.add_zero, Nat.reduceAdd, Nat.reduceSub, Nat.sub_self, decide_true, decide_false, true_and, and_true, List.length_map]
  refine ⟨c, rfl, hc, h1 _ ?_⟩
  clear h1 k1
  refine sq fun k1 h1 => ?_
  simp only [T_need_number, den, initS, endB, dSeq, dSet, dPar, dRet, dRetN, dIfS, dDrop, dFor, dNext, dBreak, dCont, dNever, dRaise, dAug, fAddI, dAppend, dSetIx, dVar, dC, dOp, dUn, dCB, dNil, dCons, dLst, dTup, dTest, dAnd, dOr, dNot, dAndV, dOrV, dNotV, dIf, dChain, dIsi, dIsi2, dYes, fAdd, fSub, fMul, fDiv, fMod, fPow, fNeg, fIx, fLen, fMax, fMin, fSum, fSorted, fAbs, fInt, fList, fTuple, fRepr, gEq, gNe, gLt, gLe, gGt, gGe, gIn, gNotIn, gIs, gIsNot, cD, put, cut, see, sees, look, fz, fzs, fzV, fill, dLc, dSeqI, dRng1, dRng2, dEnum, dZip, dName, dgTup, dgCons, dgNil, dAsg, dCall, dCallS, stAll, mapSt_st, mapSt_no, mapSt_val, mapSt_ow, mapSt_scr, mapSt_ns, noSts, wipeS, dSl, dPart, dNoPart, fSl, dRev, dBM, mCount, mIndex, dStInt, dStTurn, dStPop, dStCells, dStPut, dStTurnPut, dLenScr, tyName, isTyN, isNone, isBool, toInts_ints, dInts_len, List.map_cons, List.map_nil, List.map_append, List.getElem?_cons_zero, List.getElem?_cons_succ, List.set_cons_zero, List.set_cons_succ, List.length_cons, List.length_nil, List.take_nil, List.take_zero, List.take_succ_cons, List.cons_append, List.nil_append, List.replicate_zero, List.replicate_succ, if_true, if_false, ite_true, ite_false, Bool.false_eq_true, Bool.not_true, Bool.not_false, reduceIte, Nat.zero_add, Nat.add_zero, Nat.reduceAdd, Nat.reduceSub, Nat.sub_self, decide_true, decide_false, true_and, and_true, List.length_map]
  refine ⟨m, 0, 200, rfl, by omega, by omega, h1 _ ?_⟩
  simp only [T_stair, den, initS, endB, dSeq, dSet, dPar, dRet, dRetN, dIfS, dDrop, dFor, dNext, dBreak, dCont, dNever, dRaise, dAug, fAddI, dAppend, dSetIx, dVar, dC, dOp, dUn, dCB, dNil, dCons, dLst, dTup, dTest, dAnd, dOr, dNot, dAndV, dOrV, dNotV, dIf, dChain, dIsi, dIsi2, dYes, fAdd, fSub, fMul, fDiv, fMod, fPow, fNeg, fIx, fLen, fMax, fMin, fSum, fSorted, fAbs, fInt, fList, fTuple, fRepr, gEq, gNe, gLt, gLe, gGt, gGe, gIn, gNotIn, gIs, gIsNot, cD, put, cut, see, sees, look, fz, fzs, fzV, fill, dLc, dSeqI, dRng1, dRng2, dEnum, dZip, dName, dgTup, dgCons, dgNil, dAsg, dCall, dCallS, stAll, mapSt_st, mapSt_no, mapSt_val, mapSt_ow, mapSt_scr, mapSt_ns, noSts, wipeS, dSl, dPart, dNoPart, fSl, dRev, dBM, mCount, mIndex, dStInt, dStTurn, dStPop, dStCells, dStPut, dStTurnPut, dLenScr, tyName, isTyN, isNone, isBool, toInts_ints, dInts_len, List.map_cons, List.map_nil, List.map_append, List.getElem?_cons_zero, List.getElem?_cons_succ, List.set_cons_zero, List.set_cons_succ, List.length_cons, List.length_nil, List.take_nil, List.take_zero, List.take_succ_cons, List.cons_append, List.nil_append, List.replicate_zero, List.replicate_succ, if_true, if_false, ite_true, ite_false, Bool.false_eq_true, Bool.not_true, Bool.not_false, reduceIte, Nat.zero_add, Nat.add_zero, Nat.reduceAdd, Nat.reduceSub, Nat.sub_self, decide_true, decide_false, true_and, and_true, List.length_map]
  refine ⟨c, rfl, hc, ?_⟩
  have hl : (recs (fun d => (few c d : Int)) c.length).length ≤ c.length := by
    unfold recs
    rw [List.length_map]
    exact Nat.le_trans (List.length_filter_le _ _) (by simp)
  refine ⟨by rw [dPs_len]; omega, ?_⟩
  rw [dPs_map]
  refine lc_filter _ (fun q : Nat × Int => decide (q.2 ≤ m)) (fun q => .int (q.1 : Int)) _ (fun q hq k3 h3 => ?_) ?_
  · simp only [stepLc, den, initS, endB, dSeq, dSet, dPar, dRet, dRetN, dIfS, dDrop, dFor, dNext, dBreak, dCont, dNever, dRaise, dAug, fAddI, dAppend, dSetIx, dVar, dC, dOp, dUn, dCB, dNil, dCons, dLst, dTup, dTest, dAnd, dOr, dNot, dAndV, dOrV, dNotV, dIf, dChain, dIsi, dIsi2, dYes, fAdd, fSub, fMul, fDiv, fMod, fPow, fNeg, fIx, fLen, fMax, fMin, fSum, fSorted, fAbs, fInt, fList, fTuple, fRepr, gEq, gNe, gLt, gLe, gGt, gGe, gIn, gNotIn, gIs, gIsNot, cD, put, cut, see, sees, look, fz, fzs, fzV, fill, dLc, dSeqI, dRng1, dRng2, dEnum, dZip, dName, dgTup, dgCons, dgNil, dAsg, dCall, dCallS, stAll, mapSt_st, mapSt_no, mapSt_val, mapSt_ow, mapSt_scr, mapSt_ns, noSts, wipeS, dSl, dPart, dNoPart, fSl, dRev, dBM, mCount, mIndex, dStInt, dStTurn, dStPop, dStCells, dStPut, dStTurnPut, dLenScr, tyName, isTyN, isNone, isBool, toInts_ints, dInts_len, List.map_cons, List.map_nil, List.map_append, List.getElem?_cons_zero, List.getElem?_cons_succ, List.set_cons_zero, List.set_cons_succ, List.length_cons, List.length_nil, List.take_nil, List.take_zero, List.take_succ_cons, List.cons_append, List.nil_append, List.replicate_zero, List.replicate_succ, if_true, if_false, ite_true, ite_false, Bool.false_eq_true, Bool.not_true, Bool.not_false, reduceIte, Nat.zero_add, Nat.add_zero, Nat.reduceAdd, Nat.reduceSub, Nat.sub_self, decide_true, decide_false, true_and, and_true, List.length_map]
    by_cases hm : q.2 ≤ m <;> simpa [hm] using h3
  · have := first_rec (fun d => (few c d : Int)) m c.length
    rw [hd] at this
    cases e : (recs (fun d => (few c d : Int)) c.length).filter fun q => decide (q.2 ≤ m) with
    | nil => rw [e] at this; simp at this
    | cons q r =>
      rw [e] at this
      simp at this
      simp only [den, initS, endB, dSeq, dSet, dPar, dRet, dRetN, dIfS, dDrop, dFor, dNext, dBreak, dCont, dNever, dRaise, dAug, fAddI, dAppend, dSetIx, dVar, dC, dOp, dUn, dCB, dNil, dCons, dLst, dTup, dTest, dAnd, dOr, dNot, dAndV, dOrV, dNotV, dIf, dChain, dIsi, dIsi2, dYes, fAdd, fSub, fMul, fDiv, fMod, fPow, fNeg, fIx, fLen, fMax, fMin, fSum, fSorted, fAbs, fInt, fList, fTuple, fRepr, gEq, gNe, gLt, gLe, gGt, gGe, gIn, gNotIn, gIs, gIsNot, cD, put, cut, see, sees, look, fz, fzs, fzV, fill, dLc, dSeqI, dRng1, dRng2, dEnum, dZip, dName, dgTup, dgCons, dgNil, dAsg, dCall, dCallS, stAll, mapSt_st, mapSt_no, mapSt_val, mapSt_ow, mapSt_scr, mapSt_ns, noSts, wipeS, dSl, dPart, dNoPart, fSl, dRev, dBM, mCount, mIndex, dStInt, dStTurn, dStPop, dStCells, dStPut, dStTurnPut, dLenScr, tyName, isTyN, isNone, isBool, toInts_ints, dInts_len, List.map_cons, List.map_nil, List.map_append, List.getElem?_cons_zero, List.getElem?_cons_succ, List.set_cons_zero, List.set_cons_succ, List.length_cons, List.length_nil, List.take_nil, List.take_zero, List.take_succ_cons, List.cons_append, List.nil_append, List.replicate_zero, List.replicate_succ, if_true, if_false, ite_true, ite_false, Bool.false_eq_true, Bool.not_true, Bool.not_false, reduceIte, Nat.zero_add, Nat.add_zero, Nat.reduceAdd, Nat.reduceSub, Nat.sub_self, decide_true, decide_false, true_and, and_true, List.length_map, atI_zero, this]
      exact hk



abbrev nn__law_mixed : Nat := 6
-- 0:state 1:turn 2:found 3:prime 4:blend 5:cell
def B__law_mixed : (String → Prop) → DSt := fun kx => (dSeq (dPar [1, 2] (dCons (dOp fAdd (dStTurn 0) (dC (.int 1))) (dCons (dC (.int 0)) dNil))) (dSeq (dStTurnPut 0 (dVar 1)) (dSeq (dFor (dSeqI (dLst (dCons (dC (.int 2147483629)) (dCons (dC (.int 2147483587)) (dCons (dC (.int 2147483579)) (dCons (dC (.int 2147483563)) dNil)))))) (dName 3) (dSeq (dSet 4 (dOp fAdd (dOp fMul (dC (.int 69621)) (dVar 1)) (dOp fDiv (dVar 3) (dC (.int 41))))) (dSeq (dFor (dStCells 0) (dName 5) (dSet 4 (dOp fMod (dCB fInt (dCons (dOp fAdd (dOp fAdd (dOp fMul (dVar 4) (dC (.int 48271))) (dVar 5)) (dVar 1)) dNil)) (dVar 3)))) (dSet 2 (dOp fAdd (dOp fMul (dVar 2) (dC (.int 2147483659))) (dOp fMod (dCB fInt (dCons (dOp fPow (dVar 4) (dC (.int 5))) dNil)) (dVar 3))))))) (dRet (dVar 2)))))
def R__law_mixed : DFn := den true 6 B__law_mixed
/-- a mixed number: any number, one turn more -/
def T__law_mixed : DFn := fun B ds k _ => ds = [] ∧ 0 ≤ B ∧ B < 2 ^ 40 ∧ ∀ n : Int, k (.int n) (B + 1)
theorem imp__law_mixed : ∀ B ds k kx, ds.length = 0 → T__law_mixed B ds k kx → R__law_mixed B ds k kx := fun B ds k kx _ h => by
  obtain ⟨rfl, h0, h1, hk⟩ := h
  simp only [R__law_mixed, B__law_mixed, den, initS, endB, dSeq, dSet, dPar, dRet, dRetN, dIfS, dDrop, dFor, dNext, dBreak, dCont, dNever, dRaise, dAug, fAddI, dAppend, dSetIx, dVar, dC, dOp, dUn, dCB, dNil, dCons, dLst, dTup, dTest, dAnd, dOr, dNot, dAndV, dOrV, dNotV, dIf, dChain, dIsi, dIsi2, dYes, fAdd, fSub, fMul, fDiv, fMod, fPow, fNeg, fIx, fLen, fMax, fMin, fSum, fSorted, fAbs, fInt, fList, fTuple, fRepr, gEq, gNe, gLt, gLe, gGt, gGe, gIn, gNotIn, gIs, gIsNot, cD, put, cut, see, sees, look, fz, fzs, fzV, fill, dLc, dSeqI, dRng1, dRng2, dEnum, dZip, dName, dgTup, dgCons, dgNil, dAsg, dCall, dCallS, stAll, mapSt_st, mapSt_no, mapSt_val, mapSt_ow, mapSt_scr, mapSt_ns, noSts, wipeS, dSl, dPart, dNoPart, fSl, dRev, dBM, mCount, mIndex, dStInt, dStTurn, dStPop, dStCells, dStPut, dStTurnPut, dLenScr, tyName, isTyN, isNone, isBool, toInts_ints, dInts_len, List.map_cons, List.map_nil, List.map_append, List.getElem?_cons_zero, List.getElem?_cons_succ, List.set_cons_zero, List.set_cons_succ, List.length_cons, List.length_nil, List.take_nil, List.take_zero, List.take_succ_cons, List.cons_append, List.nil_append, List.replicate_zero, List.replicate_succ, if_true, if_false, ite_true, ite_false, Bool.false_eq_true, Bool.not_true, Bool.not_false, reduceIte, Nat.zero_add, Nat.add_zero, Nat.reduceAdd, Nat.reduceSub, Nat.sub_self, decide_true, decide_false, true_and, and_true, List.length_map]
  intro n n0 n1
  refine ⟨by omega, by decide, ?_⟩
  refine for_inv (c := PyData.int) (fun ps s => (∀ p ∈ ps, (0 : Int) < p ∧ p < 2 ^ 31) ∧ ∃ f x3 x4 x5, s = [.st (n + 1), .val (.int (n + 1)), .val (.int f), x3, x4, x5]) (fun p ps s hI k' hk' => ?_) (fun s hI => ?_) [_, _, _, _] _ ⟨by decide, _, _, _, _, rfl⟩
  · obtain ⟨hp, f, x3, x4, x5, rfl⟩ := hI
    obtain ⟨p0, p1⟩ := hp p (List.mem_cons_self ..)
    simp only [den, initS, endB, dSeq, dSet, dPar, dRet, dRetN, dIfS, dDrop, dFor, dNext, dBreak, dCont, dNever, dRaise, dAug, fAddI, dAppend, dSetIx, dVar, dC, dOp, dUn, dCB, dNil, dCons, dLst, dTup, dTest, dAnd, dOr, dNot, dAndV, dOrV, dNotV, dIf, dChain, dIsi, dIsi2, dYes, fAdd, fSub, fMul, fDiv, fMod, fPow, fNeg, fIx, fLen, fMax, fMin, fSum, fSorted, fAbs, fInt, fList, fTuple, fRepr, gEq, gNe, gLt, gLe, gGt, gGe, gIn, gNotIn, gIs, gIsNot, cD, put, cut, see, sees, look, fz, fzs, fzV, fill, dLc, dSeqI, dRng1, dRng2, dEnum, dZip, dName, dgTup, dgCons, dgNil, dAsg, dCall, dCallS, stAll, mapSt_st, mapSt_no, mapSt_val, mapSt_ow, mapSt_scr, mapSt_ns, noSts, wipeS, dSl, dPart, dNoPart, fSl, dRev, dBM, mCount, mIndex, dStInt, dStTurn, dStPop, dStCells, dStPut, dStTurnPut, dLenScr, tyName, isTyN, isNone, isBool, toInts_ints, dInts_len, List.map_cons, List.map_nil, List.map_append, List.getElem?_cons_zero, List.getElem?_cons_succ, List.set_cons_zero, List.set_cons_succ, List.length_cons, List.length_nil, List.take_nil, List.take_zero, List.take_succ_cons, List.cons_append, List.nil_append, List.replicate_zero, List.replicate_succ, if_true, if_false, ite_true, ite_false, Bool.false_eq_true, Bool.not_true, Bool.not_false, reduceIte, Nat.zero_add, Nat.add_zero, Nat.reduceAdd, Nat.reduceSub, Nat.sub_self, decide_true, decide_false, true_and, and_true, List.length_map]
    refine ⟨.inl ⟨by decide, by decide⟩, ⟨by decide, by decide⟩, fun ns => ?_⟩
    have b0 : -(2 ^ 63) < 69621 * (n + 1) + p / 41 ∧ 69621 * (n + 1) + p / 41 < 2 ^ 63 := by omega
    have pos : 0 < p := p0
    refine for_inv (c := PyData.int) (fun _ s => ∃ b x5, s = [.st (n + 1), .val (.int (n + 1)), .val (.int f), .val (.int p), .val (.int b), x5] ∧ -(2 ^ 63) < b ∧ b < 2 ^ 63) (fun c cs s hJ k2 hk2 => ?_) (fun s hJ => ?_) ns _ ⟨_, _, rfl, b0⟩
    · obtain ⟨b, x5, rfl, b1, b2⟩ := hJ
      simp only [den, initS, endB, dSeq, dSet, dPar, dRet, dRetN, dIfS, dDrop, dFor, dNext, dBreak, dCont, dNever, dRaise, dAug, fAddI, dAppend, dSetIx, dVar, dC, dOp, dUn, dCB, dNil, dCons, dLst, dTup, dTest, dAnd, dOr, dNot, dAndV, dOrV, dNotV, dIf, dChain, dIsi, dIsi2, dYes, fAdd, fSub, fMul, fDiv, fMod, fPow, fNeg, fIx, fLen, fMax, fMin, fSum, fSorted, fAbs, fInt, fList, fTuple, fRepr, gEq, gNe, gLt, gLe, gGt, gGe, gIn, gNotIn, gIs, gIsNot, cD, put, cut, see, sees, look, fz, fzs, fzV, fill, dLc, dSeqI, dRng1, dRng2, dEnum, dZip, dName, dgTup, dgCons, dgNil, dAsg, dCall, dCallS, stAll, mapSt_st, mapSt_no, mapSt_val, mapSt_ow, mapSt_scr, mapSt_ns, noSts, wipeS, dSl, dPart, dNoPart, fSl, dRev, dBM, mCount, mIndex, dStInt, dStTurn, dStPop, dStCells, dStPut, dStTurnPut, dLenScr, tyName, isTyN, isNone, isBool, toInts_ints, dInts_len, List.map_cons, List.map_nil, List.map_append, List.getElem?_cons_zero, List.getElem?_cons_succ, List.set_cons_zero, List.set_cons_succ, List.length_cons, List.length_nil, List.take_nil, List.take_zero, List.take_succ_cons, List.cons_append, List.nil_append, List.replicate_zero, List.replicate_succ, if_true, if_false, ite_true, ite_false, Bool.false_eq_true, Bool.not_true, Bool.not_false, reduceIte, Nat.zero_add, Nat.add_zero, Nat.reduceAdd, Nat.reduceSub, Nat.sub_self, decide_true, decide_false, true_and, and_true, List.length_map]
      refine ⟨.inr ⟨by decide, by decide⟩, pos, hk2 _ ⟨_, _, rfl, ?_, ?_⟩⟩
      · have := Int.emod_nonneg (b * 48271 + c + (n + 1)) (Int.ne_of_gt pos)
        omega
      · have := Int.emod_lt_of_pos (b * 48271 + c + (n + 1)) pos
        omega
    · obtain ⟨b, x5, rfl, b1, b2⟩ := hJ
      simp only [den, initS, endB, dSeq, dSet, dPar, dRet, dRetN, dIfS, dDrop, dFor, dNext, dBreak, dCont, dNever, dRaise, dAug, fAddI, dAppend, dSetIx, dVar, dC, dOp, dUn, dCB, dNil, dCons, dLst, dTup, dTest, dAnd, dOr, dNot, dAndV, dOrV, dNotV, dIf, dChain, dIsi, dIsi2, dYes, fAdd, fSub, fMul, fDiv, fMod, fPow, fNeg, fIx, fLen, fMax, fMin, fSum, fSorted, fAbs, fInt, fList, fTuple, fRepr, gEq, gNe, gLt, gLe, gGt, gGe, gIn, gNotIn, gIs, gIsNot, cD, put, cut, see, sees, look, fz, fzs, fzV, fill, dLc, dSeqI, dRng1, dRng2, dEnum, dZip, dName, dgTup, dgCons, dgNil, dAsg, dCall, dCallS, stAll, mapSt_st, mapSt_no, mapSt_val, mapSt_ow, mapSt_scr, mapSt_ns, noSts, wipeS, dSl, dPart, dNoPart, fSl, dRev, dBM, mCount, mIndex, dStInt, dStTurn, dStPop, dStCells, dStPut, dStTurnPut, dLenScr, tyName, isTyN, isNone, isBool, toInts_ints, dInts_len, List.map_cons, List.map_nil, List.map_append, List.getElem?_cons_zero, List.getElem?_cons_succ, List.set_cons_zero, List.set_cons_succ, List.length_cons, List.length_nil, List.take_nil, List.take_zero, List.take_succ_cons, List.cons_append, List.nil_append, List.replicate_zero, List.replicate_succ, if_true, if_false, ite_true, ite_false, Bool.false_eq_true, Bool.not_true, Bool.not_false, reduceIte, Nat.zero_add, Nat.add_zero, Nat.reduceAdd, Nat.reduceSub, Nat.sub_self, decide_true, decide_false, true_and, and_true, List.length_map]
      refine ⟨.inr ⟨by decide, by decide⟩, ⟨by decide, by decide, by omega⟩, pos, hk' _ ⟨fun q hq => hp q (List.mem_cons_of_mem _ hq), _, _, _, _, rfl⟩⟩
  · obtain ⟨_, f, x3, x4, x5, rfl⟩ := hI
    simp only [den, initS, endB, dSeq, dSet, dPar, dRet, dRetN, dIfS, dDrop, dFor, dNext, dBreak, dCont, dNever, dRaise, dAug, fAddI, dAppend, dSetIx, dVar, dC, dOp, dUn, dCB, dNil, dCons, dLst, dTup, dTest, dAnd, dOr, dNot, dAndV, dOrV, dNotV, dIf, dChain, dIsi, dIsi2, dYes, fAdd, fSub, fMul, fDiv, fMod, fPow, fNeg, fIx, fLen, fMax, fMin, fSum, fSorted, fAbs, fInt, fList, fTuple, fRepr, gEq, gNe, gLt, gLe, gGt, gGe, gIn, gNotIn, gIs, gIsNot, cD, put, cut, see, sees, look, fz, fzs, fzV, fill, dLc, dSeqI, dRng1, dRng2, dEnum, dZip, dName, dgTup, dgCons, dgNil, dAsg, dCall, dCallS, stAll, mapSt_st, mapSt_no, mapSt_val, mapSt_ow, mapSt_scr, mapSt_ns, noSts, wipeS, dSl, dPart, dNoPart, fSl, dRev, dBM, mCount, mIndex, dStInt, dStTurn, dStPop, dStCells, dStPut, dStTurnPut, dLenScr, tyName, isTyN, isNone, isBool, toInts_ints, dInts_len, List.map_cons, List.map_nil, List.map_append, List.getElem?_cons_zero, List.getElem?_cons_succ, List.set_cons_zero, List.set_cons_succ, List.length_cons, List.length_nil, List.take_nil, List.take_zero, List.take_succ_cons, List.cons_append, List.nil_append, List.replicate_zero, List.replicate_succ, if_true, if_false, ite_true, ite_false, Bool.false_eq_true, Bool.not_true, Bool.not_false, reduceIte, Nat.zero_add, Nat.add_zero, Nat.reduceAdd, Nat.reduceSub, Nat.sub_self, decide_true, decide_false, true_and, and_true, List.length_map]
    exact ⟨B + 1, by omega, hk f⟩

abbrev nn__law_draw : Nat := 3
-- 0:state 1:room 2:found
def B__law_draw : (String → Prop) → DSt := fun kx => (dSeq (dIfS (dTest (dOp (cD gEq) (dStInt 0) (dC (.int 0)))) (dStPut 0 (dStPop 0 (dCallS 0 0 T__law_mixed (fun _ => False) dNil))) dNext) (dSeq (dSet 2 (dOp fMod (dCB fInt (dCons (dStInt 0) dNil)) (dVar 1))) (dSeq (dStPut 0 (dOp fDiv (dStInt 0) (dVar 1))) (dRet (dVar 2)))))
def R__law_draw : DFn := den true 3 B__law_draw
/-- a number below room, one turn more at most -/
def T__law_draw : DFn := fun B ds k _ => ∃ room : Int, ds = [.int room] ∧ 0 ≤ B ∧ B < 2 ^ 40 ∧ 0 < room ∧ room < 2 ^ 30 ∧ ∀ n : Int, 0 ≤ n → n < room → k (.int n) (B + 1)
theorem imp__law_draw : ∀ B ds k kx, ds.length = 1 → T__law_draw B ds k kx → R__law_draw B ds k kx := fun B ds k kx _ h => by
  obtain ⟨room, rfl, h0, h1, h2, h3, hk⟩ := h
  simp only [R__law_draw, B__law_draw, den, initS, endB, dSeq, dSet, dPar, dRet, dRetN, dIfS, dDrop, dFor, dNext, dBreak, dCont, dNever, dRaise, dAug, fAddI, dAppend, dSetIx, dVar, dC, dOp, dUn, dCB, dNil, dCons, dLst, dTup, dTest, dAnd, dOr, dNot, dAndV, dOrV, dNotV, dIf, dChain, dIsi, dIsi2, dYes, fAdd, fSub, fMul, fDiv, fMod, fPow, fNeg, fIx, fLen, fMax, fMin, fSum, fSorted, fAbs, fInt, fList, fTuple, fRepr, gEq, gNe, gLt, gLe, gGt, gGe, gIn, gNotIn, gIs, gIsNot, cD, put, cut, see, sees, look, fz, fzs, fzV, fill, dLc, dSeqI, dRng1, dRng2, dEnum, dZip, dName, dgTup, dgCons, dgNil, dAsg, dCall, dCallS, stAll, mapSt_st, mapSt_no, mapSt_val, mapSt_ow, mapSt_scr, mapSt_ns, noSts, wipeS, dSl, dPart, dNoPart, fSl, dRev, dBM, mCount, mIndex, dStInt, dStTurn, dStPop, dStCells, dStPut, dStTurnPut, dLenScr, tyName, isTyN, isNone, isBool, toInts_ints, dInts_len, List.map_cons, List.map_nil, List.map_append, List.getElem?_cons_zero, List.getElem?_cons_succ, List.set_cons_zero, List.set_cons_succ, List.length_cons, List.length_nil, List.take_nil, List.take_zero, List.take_succ_cons, List.cons_append, List.nil_append, List.replicate_zero, List.replicate_succ, if_true, if_false, ite_true, ite_false, Bool.false_eq_true, Bool.not_true, Bool.not_false, reduceIte, Nat.zero_add, Nat.add_zero, Nat.reduceAdd, Nat.reduceSub, Nat.sub_self, decide_true, decide_false, true_and, and_true, List.length_map]
  intro n
  have fin : ∀ n : Int, k (.int (n % room)) (B + 1) := fun n => hk _ (Int.emod_nonneg n (Int.ne_of_gt h2)) (Int.emod_lt_of_pos n h2)
  refine ⟨shaped_int _, shaped_int _, ?_⟩
  split
  · exact ⟨fun _ m => ⟨h2, fun _ => ⟨⟨h2, h3⟩, B + 1, by omega, fin m⟩⟩, rfl, h0, h1, fun _ m => ⟨h2, fun _ => ⟨⟨h2, h3⟩, B + 1, by omega, fin m⟩⟩⟩
  · exact fun m => ⟨h2, fun _ => ⟨⟨h2, h3⟩, B + 1, by omega, fin m⟩⟩

abbrev nn__law_pick : Nat := 2
-- 0:state 1:some
def B__law_pick : (String → Prop) → DSt := fun kx => (dRet (dOp fIx (dVar 1) (dCallS 0 1 T__law_draw (fun _ => False) (dCons (dCB fLen (dCons (dVar 1) dNil)) dNil))))
def R__law_pick : DFn := den true 2 B__law_pick
/-- one of some -/
def T__law_pick : DFn := fun B ds k _ => ∃ xs : List D, ds = [.list xs] ∧ 0 ≤ B ∧ B < 2 ^ 40 ∧ 0 < xs.length ∧ xs.length < 2 ^ 30 ∧ ∀ x ∈ xs, k x (B + 1)
theorem imp__law_pick : ∀ B ds k kx, ds.length = 1 → T__law_pick B ds k kx → R__law_pick B ds k kx := fun B ds k kx _ h => by
  obtain ⟨xs, rfl, h0, h1, h2, h3, hk⟩ := h
  simp only [R__law_pick, B__law_pick, den, initS, endB, dSeq, dSet, dPar, dRet, dRetN, dIfS, dDrop, dFor, dNext, dBreak, dCont, dNever, dRaise, dAug, fAddI, dAppend, dSetIx, dVar, dC, dOp, dUn, dCB, dNil, dCons, dLst, dTup, dTest, dAnd, dOr, dNot, dAndV, dOrV, dNotV, dIf, dChain, dIsi, dIsi2, dYes, fAdd, fSub, fMul, fDiv, fMod, fPow, fNeg, fIx, fLen, fMax, fMin, fSum, fSorted, fAbs, fInt, fList, fTuple, fRepr, gEq, gNe, gLt, gLe, gGt, gGe, gIn, gNotIn, gIs, gIsNot, cD, put, cut, see, sees, look, fz, fzs, fzV, fill, dLc, dSeqI, dRng1, dRng2, dEnum, dZip, dName, dgTup, dgCons, dgNil, dAsg, dCall, dCallS, stAll, mapSt_st, mapSt_no, mapSt_val, mapSt_ow, mapSt_scr, mapSt_ns, noSts, wipeS, dSl, dPart, dNoPart, fSl, dRev, dBM, mCount, mIndex, dStInt, dStTurn, dStPop, dStCells, dStPut, dStTurnPut, dLenScr, tyName, isTyN, isNone, isBool, toInts_ints, dInts_len, List.map_cons, List.map_nil, List.map_append, List.getElem?_cons_zero, List.getElem?_cons_succ, List.set_cons_zero, List.set_cons_succ, List.length_cons, List.length_nil, List.take_nil, List.take_zero, List.take_succ_cons, List.cons_append, List.nil_append, List.replicate_zero, List.replicate_succ, if_true, if_false, ite_true, ite_false, Bool.false_eq_true, Bool.not_true, Bool.not_false, reduceIte, Nat.zero_add, Nat.add_zero, Nat.reduceAdd, Nat.reduceSub, Nat.sub_self, decide_true, decide_false, true_and, and_true, List.length_map]
  refine ⟨_, rfl, h0, h1, by omega, by omega, fun n n0 n1 => ?_⟩
  obtain ⟨m, rfl⟩ := Int.eq_ofNat_of_zero_le n0
  have hm : m < xs.length := by omega
  have e : atI xs ((m : Nat) : Int) = some xs[m] := atI_nat (List.getElem?_eq_getElem hm)
  simp only [e]
  exact ⟨_, Int.le_refl _, hk _ (List.getElem_mem hm)⟩

def B__law_plain (Tp : DFn) : (String → Prop) → DSt := fun kx => (dSeq (dIfS (dTest (dIsi2 "list" "tuple" (dVar 0))) (dRet (dOp (cD gEq) (dLc (dSeqI (dVar 0)) (dName 1) (dNot (dTest (dCall 1 Tp (fun _ => False) (dCons (dVar 1) dNil)))) (dC (.int 1)) [1]) (dLst dNil))) dNext) (dSeq (dIfS (dTest (dIsi "dict" (dVar 0))) dNever dNext) (dRet (dOrV (dOp (cD gIs) (dVar 0) (dC .none)) (dIsi2 "int" "str" (dVar 0))))))
abbrev T__law_plain : DFn := TP 8
theorem plainDs_mem : ∀ {xs : List D}, plainDs xs = true → ∀ x ∈ xs, plainD x = true
  | [], _, _, h => by cases h
  | y :: ys, h, x, hx => by
    simp only [plainDs, Bool.and_eq_true] at h
    rcases List.mem_cons.mp hx with rfl | hx
    · exact h.1
    · exact plainDs_mem h.2 x hx
theorem depthAll_mem : ∀ {xs : List D} {n : Nat}, PyData.depthAll xs ≤ n → ∀ x ∈ xs, x.depth ≤ n
  | [], _, _, _, h => by cases h
  | y :: ys, n, h, x, hx => by
    simp only [PyData.depthAll] at h
    rcases List.mem_cons.mp hx with rfl | hx
    · omega
    · exact depthAll_mem (by omega) x hx
theorem wgtAll_mem : ∀ {xs : List D} {n : Nat}, wgtAll xs ≤ n → ∀ x ∈ xs, wgt x ≤ n
  | [], _, _, _, h => by cases h
  | y :: ys, n, h, x, hx => by
    simp only [wgtAll] at h
    rcases List.mem_cons.mp hx with rfl | hx
    · omega
    · exact wgtAll_mem (by omega) x hx
theorem wgtAll_len : ∀ xs : List D, xs.length ≤ wgtAll xs
  | [] => by simp [wgtAll]
  | y :: ys => by
    have := wgtAll_len ys
    simp only [wgtAll, List.length_cons]
    omega
theorem imp__law_plain (n : Nat) : ∀ B ds k kx, ds.length = 1 → TP (n + 1) B ds k kx → den false 2 (B__law_plain (TP n)) B ds k kx := fun B ds k kx _ h => by
  obtain ⟨d, rfl, hp, hd, hw, hk⟩ := h
  have seqs : ∀ (ds : List D) (K : List D → List Sl → Prop), plainDs ds = true → PyData.depthAll ds + 1 ≤ n → wgtAll ds ≤ sizeLine → K [] [.val d, .no] → lcGo (dName 1) (dNot (dTest (dCall 1 (TP n) (fun _ => False) (dCons (dVar 1) dNil)))) (dC (.int 1)) [1] ds [] [.val d, .no] K := fun ds K h1 h2 h4 h3 => by
    refine lc_pure (fun _ => none) ds [] (fun x hx k h => ?_) ?_
    · simp only [stepLc, den, initS, endB, dSeq, dSet, dPar, dRet, dRetN, dIfS, dDrop, dFor, dNext, dBreak, dCont, dNever, dRaise, dAug, fAddI, dAppend, dSetIx, dVar, dC, dOp, dUn, dCB, dNil, dCons, dLst, dTup, dTest, dAnd, dOr, dNot, dAndV, dOrV, dNotV, dIf, dChain, dIsi, dIsi2, dYes, fAdd, fSub, fMul, fDiv, fMod, fPow, fNeg, fIx, fLen, fMax, fMin, fSum, fSorted, fAbs, fInt, fList, fTuple, fRepr, gEq, gNe, gLt, gLe, gGt, gGe, gIn, gNotIn, gIs, gIsNot, cD, put, cut, see, sees, look, fz, fzs, fzV, fill, dLc, dSeqI, dRng1, dRng2, dEnum, dZip, dName, dgTup, dgCons, dgNil, dAsg, dCall, dCallS, stAll, mapSt_st, mapSt_no, mapSt_val, mapSt_ow, mapSt_scr, mapSt_ns, noSts, wipeS, dSl, dPart, dNoPart, fSl, dRev, dBM, mCount, mIndex, dStInt, dStTurn, dStPop, dStCells, dStPut, dStTurnPut, dLenScr, tyName, isTyN, isNone, isBool, toInts_ints, dInts_len, List.map_cons, List.map_nil, List.map_append, List.getElem?_cons_zero, List.getElem?_cons_succ, List.set_cons_zero, List.set_cons_succ, List.length_cons, List.length_nil, List.take_nil, List.take_zero, List.take_succ_cons, List.cons_append, List.nil_append, List.replicate_zero, List.replicate_succ, if_true, if_false, ite_true, ite_false, Bool.false_eq_true, Bool.not_true, Bool.not_false, reduceIte, Nat.zero_add, Nat.add_zero, Nat.reduceAdd, Nat.reduceSub, Nat.sub_self, decide_true, decide_false, true_and, and_true, List.length_map]
      match n, h2 with
      | m + 1, h2 => exact ⟨x, rfl, plainDs_mem h1 x hx, depthAll_mem (by omega) x hx, wgtAll_mem h4 x hx, by simpa using h⟩
    · have e : ds.filterMap (fun _ => (none : Option D)) = [] := by
        induction ds with
        | nil => rfl
        | cons a l ih => simp
      rw [e]
      exact h3
  have e0 : SeqAt.shaped (.list []) = true := by decide
  have e1 : PyData.eqv (.list []) (.list []) = true := by simp [PyData.eqv, PyData.eqvAll]
  cases d with
  | none => simpa [B__law_plain, den, initS, endB, dSeq, dSet, dPar, dRet, dRetN, dIfS, dDrop, dFor, dNext, dBreak, dCont, dNever, dRaise, dAug, fAddI, dAppend, dSetIx, dVar, dC, dOp, dUn, dCB, dNil, dCons, dLst, dTup, dTest, dAnd, dOr, dNot, dAndV, dOrV, dNotV, dIf, dChain, dIsi, dIsi2, dYes, fAdd, fSub, fMul, fDiv, fMod, fPow, fNeg, fIx, fLen, fMax, fMin, fSum, fSorted, fAbs, fInt, fList, fTuple, fRepr, gEq, gNe, gLt, gLe, gGt, gGe, gIn, gNotIn, gIs, gIsNot, cD, put, cut, see, sees, look, fz, fzs, fzV, fill, dLc, dSeqI, dRng1, dRng2, dEnum, dZip, dName, dgTup, dgCons, dgNil, dAsg, dCall, dCallS, stAll, mapSt_st, mapSt_no, mapSt_val, mapSt_ow, mapSt_scr, mapSt_ns, noSts, wipeS, dSl, dPart, dNoPart, fSl, dRev, dBM, mCount, mIndex, dStInt, dStTurn, dStPop, dStCells, dStPut, dStTurnPut, dLenScr, tyName, isTyN, isNone, isBool, toInts_ints, dInts_len, List.map_cons, List.map_nil, List.map_append, List.getElem?_cons_zero, List.getElem?_cons_succ, List.set_cons_zero, List.set_cons_succ, List.length_cons, List.length_nil, List.take_nil, List.take_zero, List.take_succ_cons, List.cons_append, List.nil_append, List.replicate_zero, List.replicate_succ, if_true, if_false, ite_true, ite_false, Bool.false_eq_true, Bool.not_true, Bool.not_false, reduceIte, Nat.zero_add, Nat.add_zero, Nat.reduceAdd, Nat.reduceSub, Nat.sub_self, decide_true, decide_false, true_and, and_true, List.length_map] using hk
  | bool b => simpa [B__law_plain, den, initS, endB, dSeq, dSet, dPar, dRet, dRetN, dIfS, dDrop, dFor, dNext, dBreak, dCont, dNever, dRaise, dAug, fAddI, dAppend, dSetIx, dVar, dC, dOp, dUn, dCB, dNil, dCons, dLst, dTup, dTest, dAnd, dOr, dNot, dAndV, dOrV, dNotV, dIf, dChain, dIsi, dIsi2, dYes, fAdd, fSub, fMul, fDiv, fMod, fPow, fNeg, fIx, fLen, fMax, fMin, fSum, fSorted, fAbs, fInt, fList, fTuple, fRepr, gEq, gNe, gLt, gLe, gGt, gGe, gIn, gNotIn, gIs, gIsNot, cD, put, cut, see, sees, look, fz, fzs, fzV, fill, dLc, dSeqI, dRng1, dRng2, dEnum, dZip, dName, dgTup, dgCons, dgNil, dAsg, dCall, dCallS, stAll, mapSt_st, mapSt_no, mapSt_val, mapSt_ow, mapSt_scr, mapSt_ns, noSts, wipeS, dSl, dPart, dNoPart, fSl, dRev, dBM, mCount, mIndex, dStInt, dStTurn, dStPop, dStCells, dStPut, dStTurnPut, dLenScr, tyName, isTyN, isNone, isBool, toInts_ints, dInts_len, List.map_cons, List.map_nil, List.map_append, List.getElem?_cons_zero, List.getElem?_cons_succ, List.set_cons_zero, List.set_cons_succ, List.length_cons, List.length_nil, List.take_nil, List.take_zero, List.take_succ_cons, List.cons_append, List.nil_append, List.replicate_zero, List.replicate_succ, if_true, if_false, ite_true, ite_false, Bool.false_eq_true, Bool.not_true, Bool.not_false, reduceIte, Nat.zero_add, Nat.add_zero, Nat.reduceAdd, Nat.reduceSub, Nat.sub_self, decide_true, decide_false, true_and, and_true, List.length_map] using hk
  | int i => simpa [B__law_plain, den, initS, endB, dSeq, dSet, dPar, dRet, dRetN, dIfS, dDrop, dFor, dNext, dBreak, dCont, dNever, dRaise, dAug, fAddI, dAppend, dSetIx, dVar, dC, dOp, dUn, dCB, dNil, dCons, dLst, dTup, dTest, dAnd, dOr, dNot, dAndV, dOrV, dNotV, dIf, dChain, dIsi, dIsi2, dYes, fAdd, fSub, fMul, fDiv, fMod, fPow, fNeg, fIx, fLen, fMax, fMin, fSum, fSorted, fAbs, fInt, fList, fTuple, fRepr, gEq, gNe, gLt, gLe, gGt, gGe, gIn, gNotIn, gIs, gIsNot, cD, put, cut, see, sees, look, fz, fzs, fzV, fill, dLc, dSeqI, dRng1, dRng2, dEnum, dZip, dName, dgTup, dgCons, dgNil, dAsg, dCall, dCallS, stAll, mapSt_st, mapSt_no, mapSt_val, mapSt_ow, mapSt_scr, mapSt_ns, noSts, wipeS, dSl, dPart, dNoPart, fSl, dRev, dBM, mCount, mIndex, dStInt, dStTurn, dStPop, dStCells, dStPut, dStTurnPut, dLenScr, tyName, isTyN, isNone, isBool, toInts_ints, dInts_len, List.map_cons, List.map_nil, List.map_append, List.getElem?_cons_zero, List.getElem?_cons_succ, List.set_cons_zero, List.set_cons_succ, List.length_cons, List.length_nil, List.take_nil, List.take_zero, List.take_succ_cons, List.cons_append, List.nil_append, List.replicate_zero, List.replicate_succ, if_true, if_false, ite_true, ite_false, Bool.false_eq_true, Bool.not_true, Bool.not_false, reduceIte, Nat.zero_add, Nat.add_zero, Nat.reduceAdd, Nat.reduceSub, Nat.sub_self, decide_true, decide_false, true_and, and_true, List.length_map] using hk
  | str x => simpa [B__law_plain, den, initS, endB, dSeq, dSet, dPar, dRet, dRetN, dIfS, dDrop, dFor, dNext, dBreak, dCont, dNever, dRaise, dAug, fAddI, dAppend, dSetIx, dVar, dC, dOp, dUn, dCB, dNil, dCons, dLst, dTup, dTest, dAnd, dOr, dNot, dAndV, dOrV, dNotV, dIf, dChain, dIsi, dIsi2, dYes, fAdd, fSub, fMul, fDiv, fMod, fPow, fNeg, fIx, fLen, fMax, fMin, fSum, fSorted, fAbs, fInt, fList, fTuple, fRepr, gEq, gNe, gLt, gLe, gGt, gGe, gIn, gNotIn, gIs, gIsNot, cD, put, cut, see, sees, look, fz, fzs, fzV, fill, dLc, dSeqI, dRng1, dRng2, dEnum, dZip, dName, dgTup, dgCons, dgNil, dAsg, dCall, dCallS, stAll, mapSt_st, mapSt_no, mapSt_val, mapSt_ow, mapSt_scr, mapSt_ns, noSts, wipeS, dSl, dPart, dNoPart, fSl, dRev, dBM, mCount, mIndex, dStInt, dStTurn, dStPop, dStCells, dStPut, dStTurnPut, dLenScr, tyName, isTyN, isNone, isBool, toInts_ints, dInts_len, List.map_cons, List.map_nil, List.map_append, List.getElem?_cons_zero, List.getElem?_cons_succ, List.set_cons_zero, List.set_cons_succ, List.length_cons, List.length_nil, List.take_nil, List.take_zero, List.take_succ_cons, List.cons_append, List.nil_append, List.replicate_zero, List.replicate_succ, if_true, if_false, ite_true, ite_false, Bool.false_eq_true, Bool.not_true, Bool.not_false, reduceIte, Nat.zero_add, Nat.add_zero, Nat.reduceAdd, Nat.reduceSub, Nat.sub_self, decide_true, decide_false, true_and, and_true, List.length_map] using hk
  | dict x => simp [plainD] at hp
  | list xs =>
    simp only [plainD] at hp
    simp only [PyData.depth] at hd
    simp only [wgt] at hw
    have := wgtAll_len xs
    simp [B__law_plain, den, initS, endB, dSeq, dSet, dPar, dRet, dRetN, dIfS, dDrop, dFor, dNext, dBreak, dCont, dNever, dRaise, dAug, fAddI, dAppend, dSetIx, dVar, dC, dOp, dUn, dCB, dNil, dCons, dLst, dTup, dTest, dAnd, dOr, dNot, dAndV, dOrV, dNotV, dIf, dChain, dIsi, dIsi2, dYes, fAdd, fSub, fMul, fDiv, fMod, fPow, fNeg, fIx, fLen, fMax, fMin, fSum, fSorted, fAbs, fInt, fList, fTuple, fRepr, gEq, gNe, gLt, gLe, gGt, gGe, gIn, gNotIn, gIs, gIsNot, cD, put, cut, see, sees, look, fz, fzs, fzV, fill, dLc, dSeqI, dRng1, dRng2, dEnum, dZip, dName, dgTup, dgCons, dgNil, dAsg, dCall, dCallS, stAll, mapSt_st, mapSt_no, mapSt_val, mapSt_ow, mapSt_scr, mapSt_ns, noSts, wipeS, dSl, dPart, dNoPart, fSl, dRev, dBM, mCount, mIndex, dStInt, dStTurn, dStPop, dStCells, dStPut, dStTurnPut, dLenScr, tyName, isTyN, isNone, isBool, toInts_ints, dInts_len, List.map_cons, List.map_nil, List.map_append, List.getElem?_cons_zero, List.getElem?_cons_succ, List.set_cons_zero, List.set_cons_succ, List.length_cons, List.length_nil, List.take_nil, List.take_zero, List.take_succ_cons, List.cons_append, List.nil_append, List.replicate_zero, List.replicate_succ, if_true, if_false, ite_true, ite_false, Bool.false_eq_true, Bool.not_true, Bool.not_false, reduceIte, Nat.zero_add, Nat.add_zero, Nat.reduceAdd, Nat.reduceSub, Nat.sub_self, decide_true, decide_false, true_and, and_true, List.length_map]
    exact ⟨by omega, seqs xs _ hp hd (by omega) ⟨e0, e0, by rw [e1]; exact hk⟩⟩
  | tuple xs =>
    simp only [plainD] at hp
    simp only [PyData.depth] at hd
    simp only [wgt] at hw
    have := wgtAll_len xs
    simp [B__law_plain, den, initS, endB, dSeq, dSet, dPar, dRet, dRetN, dIfS, dDrop, dFor, dNext, dBreak, dCont, dNever, dRaise, dAug, fAddI, dAppend, dSetIx, dVar, dC, dOp, dUn, dCB, dNil, dCons, dLst, dTup, dTest, dAnd, dOr, dNot, dAndV, dOrV, dNotV, dIf, dChain, dIsi, dIsi2, dYes, fAdd, fSub, fMul, fDiv, fMod, fPow, fNeg, fIx, fLen, fMax, fMin, fSum, fSorted, fAbs, fInt, fList, fTuple, fRepr, gEq, gNe, gLt, gLe, gGt, gGe, gIn, gNotIn, gIs, gIsNot, cD, put, cut, see, sees, look, fz, fzs, fzV, fill, dLc, dSeqI, dRng1, dRng2, dEnum, dZip, dName, dgTup, dgCons, dgNil, dAsg, dCall, dCallS, stAll, mapSt_st, mapSt_no, mapSt_val, mapSt_ow, mapSt_scr, mapSt_ns, noSts, wipeS, dSl, dPart, dNoPart, fSl, dRev, dBM, mCount, mIndex, dStInt, dStTurn, dStPop, dStCells, dStPut, dStTurnPut, dLenScr, tyName, isTyN, isNone, isBool, toInts_ints, dInts_len, List.map_cons, List.map_nil, List.map_append, List.getElem?_cons_zero, List.getElem?_cons_succ, List.set_cons_zero, List.set_cons_succ, List.length_cons, List.length_nil, List.take_nil, List.take_zero, List.take_succ_cons, List.cons_append, List.nil_append, List.replicate_zero, List.replicate_succ, if_true, if_false, ite_true, ite_false, Bool.false_eq_true, Bool.not_true, Bool.not_false, reduceIte, Nat.zero_add, Nat.add_zero, Nat.reduceAdd, Nat.reduceSub, Nat.sub_self, decide_true, decide_false, true_and, and_true, List.length_map]
    exact ⟨by omega, seqs xs _ hp hd (by omega) ⟨e0, e0, by rw [e1]; exact hk⟩⟩

abbrev nn__law_is : Nat := 2
-- 0:found 1:due
def B__law_is : (String → Prop) → DSt := fun kx => (dRet (dAndV (dCall 1 T__law_plain (fun _ => False) (dCons (dVar 0) dNil)) (dAndV (dOp (cD gEq) (dVar 0) (dVar 1)) (dAndV (dOp (cD gEq) (dVar 1) (dVar 0)) (dOp (cD gEq) (dCB fRepr (dCons (dVar 0) dNil)) (dCB fRepr (dCons (dVar 1) dNil)))))))
def R__law_is : DFn := den false 2 B__law_is
/-- the same data -/
def T__law_is : DFn := fun _ ds k _ => ∃ d, ds = [d, d] ∧ Nice d ∧ k (.bool true) 0
theorem imp__law_is : ∀ B ds k kx, ds.length = 2 → T__law_is B ds k kx → R__law_is B ds k kx := fun B ds k kx _ h => by
  obtain ⟨d, rfl, n, hk⟩ := h
  simp only [R__law_is, B__law_is, den, initS, endB, dSeq, dSet, dPar, dRet, dRetN, dIfS, dDrop, dFor, dNext, dBreak, dCont, dNever, dRaise, dAug, fAddI, dAppend, dSetIx, dVar, dC, dOp, dUn, dCB, dNil, dCons, dLst, dTup, dTest, dAnd, dOr, dNot, dAndV, dOrV, dNotV, dIf, dChain, dIsi, dIsi2, dYes, fAdd, fSub, fMul, fDiv, fMod, fPow, fNeg, fIx, fLen, fMax, fMin, fSum, fSorted, fAbs, fInt, fList, fTuple, fRepr, gEq, gNe, gLt, gLe, gGt, gGe, gIn, gNotIn, gIs, gIsNot, cD, put, cut, see, sees, look, fz, fzs, fzV, fill, dLc, dSeqI, dRng1, dRng2, dEnum, dZip, dName, dgTup, dgCons, dgNil, dAsg, dCall, dCallS, stAll, mapSt_st, mapSt_no, mapSt_val, mapSt_ow, mapSt_scr, mapSt_ns, noSts, wipeS, dSl, dPart, dNoPart, fSl, dRev, dBM, mCount, mIndex, dStInt, dStTurn, dStPop, dStCells, dStPut, dStTurnPut, dLenScr, tyName, isTyN, isNone, isBool, toInts_ints, dInts_len, List.map_cons, List.map_nil, List.map_append, List.getElem?_cons_zero, List.getElem?_cons_succ, List.set_cons_zero, List.set_cons_succ, List.length_cons, List.length_nil, List.take_nil, List.take_zero, List.take_succ_cons, List.cons_append, List.nil_append, List.replicate_zero, List.replicate_succ, if_true, if_false, ite_true, ite_false, Bool.false_eq_true, Bool.not_true, Bool.not_false, reduceIte, Nat.zero_add, Nat.add_zero, Nat.reduceAdd, Nat.reduceSub, Nat.sub_self, decide_true, decide_false, true_and, and_true, List.length_map]
  refine ⟨d, rfl, n.p, Nat.le_trans n.d6 (by decide), n.w, ?_⟩
  simp only [n.eqv, eqv_str]
  exact ⟨n.shaped, n.shaped, n.shaped, n.shaped, n.rep, n.rep, n.shapedS, n.shapedS, hk⟩

abbrev nn__law_some_course : Nat := 8
-- 0:state 1:most 2:pool 3:many 4:stay 5:found 6:at 7:stays
def B__law_some_course : (String → Prop) → DSt := fun kx => (dSeq (dSet 2 (dCallS 0 1 T__law_pick (fun _ => False) (dCons (dLst (dCons (dLst (dCons (dC (.int 0)) (dCons (dC (.int 1)) dNil))) (dCons (dLst (dCons (dC (.int 0)) (dCons (dC (.int 1)) (dCons (dC (.int 2)) dNil)))) (dCons (dLst (dCons (dC .none) (dCons (dTup (dCons (dC (.int 1)) (dCons (dC (.int 2)) dNil))) (dCons (dC (.int 0)) (dCons (dTup (dCons (dC (.int 0)) dNil)) (dCons (dTup dNil) dNil)))))) (dCons (dListRg (dC (.int 7))) (dCons (dLst (dCons (dC .none) (dCons (dC (.int 0)) dNil))) (dCons (dLst (dCons (dUn fNeg (dC (.int 3))) (dCons (dOp fPow (dC (.int 10)) (dC (.int 30))) (dCons (dC (.int 5)) (dCons (dTup (dCons (dC (.int 2)) (dCons (dUn fNeg (dC (.int 1))) dNil))) dNil))))) (dCons (dListRg (dC (.int 40))) (dCons (dLst (dCons (dC (.int 4)) dNil)) dNil))))))))) dNil))) (dSeq (dPar [3, 4, 5] (dCons (dOp fAdd (dC (.int 1)) (dCallS 0 1 T__law_draw (fun _ => False) (dCons (dVar 1) dNil))) (dCons (dCallS 0 1 T__law_draw (fun _ => False) (dCons (dC (.int 4)) dNil)) (dCons (dLst dNil) dNil)))) (dSeq (dFor (dRng1 (dCons (dVar 3) dNil)) (dName 6) (dSeq (dSet 7 (dAndV (dOp (cD gNe) (dVar 5) (dLst dNil)) (dOp (cD gLt) (dCallS 0 1 T__law_draw (fun _ => False) (dCons (dC (.int 4)) dNil)) (dVar 4)))) (dAppend 5 (dIf (dTest (dVar 7)) (dOp fIx (dVar 5) (dUn fNeg (dC (.int 1)))) (dCallS 0 1 T__law_pick (fun _ => False) (dCons (dVar 2) dNil)))))) (dRet (dVar 5)))))
def R__law_some_course : DFn := den true 8 B__law_some_course
theorem pools_ok : ∀ d ∈ ([.list [.int 0, .int 1], .list [.int 0, .int 1, .int 2], .list [.none, .tuple [.int 1, .int 2], .int 0, .tuple [.int 0], .tuple []], .list (rangeL 0 (7 : Int).toNat), .list [.none, .int 0], .list [.int (-3), .int (10 ^ (30 : Int).toNat), .int 5, .tuple [.int 2, .int (-1)]], .list (rangeL 0 (40 : Int).toNat), .list [.int 4]] : List D), ∃ ps : List Vl, d = .list (dVs ps) ∧ 1 ≤ ps.length ∧ ps.length ≤ 40 ∧ ∀ v ∈ ps, OkV v := by
  have rg : ∀ n : Nat, 1 ≤ n → n ≤ 40 → ∃ ps : List Vl, PyData.list (rangeL 0 n) = .list (dVs ps) ∧ 1 ≤ ps.length ∧ ps.length ≤ 40 ∧ ∀ v ∈ ps, OkV v := fun n h1 h2 => by
    refine ⟨(List.range n).map fun i : Nat => .int (i : Int), by rw [rangeL0, dVs, List.map_map]; rfl, by simpa using h1, by simpa using h2, fun v hv => ?_⟩
    obtain ⟨i, hi, rfl⟩ := List.mem_map.mp hv
    rw [List.mem_range] at hi
    show Int.natAbs (i : Int) < 2 ^ 110
    rw [Int.natAbs_natCast]
    omega
  intro d hd
  simp only [List.mem_cons, List.not_mem_nil, or_false] at hd
  rcases hd with rfl | rfl | rfl | rfl | rfl | rfl | rfl | rfl
  · exact ⟨[.int 0, .int 1], rfl, by decide, by decide, by simp [OkV]⟩
  · exact ⟨[.int 0, .int 1, .int 2], rfl, by decide, by decide, by simp [OkV]⟩
  · exact ⟨[.non, .tup [1, 2], .int 0, .tup [0], .tup []], rfl, by decide, by decide, by simp [OkV, Near]⟩
  · exact rg 7 (by decide) (by decide)
  · exact ⟨[.non, .int 0], rfl, by decide, by decide, by simp [OkV]⟩
  · exact ⟨[.int (-3), .int (10 ^ (30 : Int).toNat), .int 5, .tup [2, -1]], rfl, by simp, by simp, by simp [OkV, Near]⟩
  · exact rg 40 (by decide) (by decide)
  · exact ⟨[.int 4], rfl, by decide, by decide, by simp [OkV]⟩
def T__law_some_course : DFn := fun B ds k _ => ∃ most : Nat, ds = [.int (most : Int)] ∧ 0 ≤ B ∧ B < 2 ^ 39 ∧ 1 ≤ most ∧ most ≤ 120 ∧ ∀ c : List Vl, c.length ≤ most → OkC c → k (.list (dVs c)) (B + 3 + 2 * most)
theorem imp__law_some_course : ∀ B ds k kx, ds.length = 1 → T__law_some_course B ds k kx → R__law_some_course B ds k kx := fun B ds k kx _ h => by
  obtain ⟨most, rfl, h0, h1, m1, m2, hk⟩ := h
  have sz : sizeLine = 2 ^ 24 := rfl
  simp only [R__law_some_course, B__law_some_course, den, initS]
  refine sq fun k1 h2 => ?_
  simp only [T__law_pick, dListRg, den, initS, endB, dSeq, dSet, dPar, dRet, dRetN, dIfS, dDrop, dFor, dNext, dBreak, dCont, dNever, dRaise, dAug, fAddI, dAppend, dSetIx, dVar, dC, dOp, dUn, dCB, dNil, dCons, dLst, dTup, dTest, dAnd, dOr, dNot, dAndV, dOrV, dNotV, dIf, dChain, dIsi, dIsi2, dYes, fAdd, fSub, fMul, fDiv, fMod, fPow, fNeg, fIx, fLen, fMax, fMin, fSum, fSorted, fAbs, fInt, fList, fTuple, fRepr, gEq, gNe, gLt, gLe, gGt, gGe, gIn, gNotIn, gIs, gIsNot, cD, put, cut, see, sees, look, fz, fzs, fzV, fill, dLc, dSeqI, dRng1, dRng2, dEnum, dZip, dName, dgTup, dgCons, dgNil, dAsg, dCall, dCallS, stAll, mapSt_st, mapSt_no, mapSt_val, mapSt_ow, mapSt_scr, mapSt_ns, noSts, wipeS, dSl, dPart, dNoPart, fSl, dRev, dBM, mCount, mIndex, dStInt, dStTurn, dStPop, dStCells, dStPut, dStTurnPut, dLenScr, tyName, isTyN, isNone, isBool, toInts_ints, dInts_len, List.map_cons, List.map_nil, List.map_append, List.getElem?_cons_zero, List.getElem?_cons_succ, List.set_cons_zero, List.set_cons_succ, List.length_cons, List.length_nil, List.take_nil, List.take_zero, List.take_succ_cons, List.cons_append, List.nil_append, List.replicate_zero, List.replicate_succ, if_true, if_false, ite_true, ite_false, Bool.false_eq_true, Bool.not_true, Bool.not_false, reduceIte, Nat.zero_add, Nat.add_zero, Nat.reduceAdd, Nat.reduceSub, Nat.sub_self, decide_true, decide_false, true_and, and_true, List.length_map, rangeL_len]
  refine ⟨by omega, by omega, by omega, by omega, by omega, by omega, by omega, by omega, by omega, ⟨by decide, by decide, by decide⟩, by omega, by omega, by omega, by omega, by omega, by omega, _, rfl, h0, by omega, by simp, by simp, fun d hd => h2 _ ?_⟩
  obtain ⟨ps, rfl, p1, p2, p3⟩ := pools_ok d hd
  clear h2 k1
  refine sq fun k1 h2 => ?_
  simp only [T__law_draw, den, initS, endB, dSeq, dSet, dPar, dRet, dRetN, dIfS, dDrop, dFor, dNext, dBreak, dCont, dNever, dRaise, dAug, fAddI, dAppend, dSetIx, dVar, dC, dOp, dUn, dCB, dNil, dCons, dLst, dTup, dTest, dAnd, dOr, dNot, dAndV, dOrV, dNotV, dIf, dChain, dIsi, dIsi2, dYes, fAdd, fSub, fMul, fDiv, fMod, fPow, fNeg, fIx, fLen, fMax, fMin, fSum, fSorted, fAbs, fInt, fList, fTuple, fRepr, gEq, gNe, gLt, gLe, gGt, gGe, gIn, gNotIn, gIs, gIsNot, cD, put, cut, see, sees, look, fz, fzs, fzV, fill, dLc, dSeqI, dRng1, dRng2, dEnum, dZip, dName, dgTup, dgCons, dgNil, dAsg, dCall, dCallS, stAll, mapSt_st, mapSt_no, mapSt_val, mapSt_ow, mapSt_scr, mapSt_ns, noSts, wipeS, dSl, dPart, dNoPart, fSl, dRev, dBM, mCount, mIndex, dStInt, dStTurn, dStPop, dStCells, dStPut, dStTurnPut, dLenScr, tyName, isTyN, isNone, isBool, toInts_ints, dInts_len, List.map_cons, List.map_nil, List.map_append, List.getElem?_cons_zero, List.getElem?_cons_succ, List.set_cons_zero, List.set_cons_succ, List.length_cons, List.length_nil, List.take_nil, List.take_zero, List.take_succ_cons, List.cons_append, List.nil_append, List.replicate_zero, List.replicate_succ, if_true, if_false, ite_true, ite_false, Bool.false_eq_true, Bool.not_true, Bool.not_false, reduceIte, Nat.zero_add, Nat.add_zero, Nat.reduceAdd, Nat.reduceSub, Nat.sub_self, decide_true, decide_false, true_and, and_true, List.length_map]
  refine ⟨most, rfl, by omega, by omega, by omega, by omega, fun n n0 n1 => ⟨4, rfl, by omega, by omega, by omega, by omega, fun stay s0 s1 => ⟨Nat.zero_le _, h2 _ ?_⟩⟩⟩
  clear h2 k1
  refine sq fun k1 h2 => ?_
  simp only [den, initS, endB, dSeq, dSet, dPar, dRet, dRetN, dIfS, dDrop, dFor, dNext, dBreak, dCont, dNever, dRaise, dAug, fAddI, dAppend, dSetIx, dVar, dC, dOp, dUn, dCB, dNil, dCons, dLst, dTup, dTest, dAnd, dOr, dNot, dAndV, dOrV, dNotV, dIf, dChain, dIsi, dIsi2, dYes, fAdd, fSub, fMul, fDiv, fMod, fPow, fNeg, fIx, fLen, fMax, fMin, fSum, fSorted, fAbs, fInt, fList, fTuple, fRepr, gEq, gNe, gLt, gLe, gGt, gGe, gIn, gNotIn, gIs, gIsNot, cD, put, cut, see, sees, look, fz, fzs, fzV, fill, dLc, dSeqI, dRng1, dRng2, dEnum, dZip, dName, dgTup, dgCons, dgNil, dAsg, dCall, dCallS, stAll, mapSt_st, mapSt_no, mapSt_val, mapSt_ow, mapSt_scr, mapSt_ns, noSts, wipeS, dSl, dPart, dNoPart, fSl, dRev, dBM, mCount, mIndex, dStInt, dStTurn, dStPop, dStCells, dStPut, dStTurnPut, dLenScr, tyName, isTyN, isNone, isBool, toInts_ints, dInts_len, List.map_cons, List.map_nil, List.map_append, List.getElem?_cons_zero, List.getElem?_cons_succ, List.set_cons_zero, List.set_cons_succ, List.length_cons, List.length_nil, List.take_nil, List.take_zero, List.take_succ_cons, List.cons_append, List.nil_append, List.replicate_zero, List.replicate_succ, if_true, if_false, ite_true, ite_false, Bool.false_eq_true, Bool.not_true, Bool.not_false, reduceIte, Nat.zero_add, Nat.add_zero, Nat.reduceAdd, Nat.reduceSub, Nat.sub_self, decide_true, decide_false, true_and, and_true, List.length_map]
  refine ⟨⟨by omega, by omega⟩, ?_⟩
  refine for_range 0 (1 + n).toNat (fun t s => ∃ (B' : Int) (f : List Vl) (y6 y7 : Sl), B + 1 + 1 + 1 ≤ B' ∧ B' ≤ B + 3 + 2 * t ∧ f.length = t ∧ (∀ v ∈ f, OkV v) ∧ s = [.st B', .val (.int (most : Int)), .val (.list (dVs ps)), .val (.int (1 + n)), .val (.int stay), .own (.lst (dVs f)), ns y6, ns y7]) ⟨_, [], .no, .no, Int.le_refl _, by omega, rfl, fun v hv => (by cases hv), rfl⟩ (fun t ht s hs k' b hk' => ?_) fun t ht => ?_
  · obtain ⟨B', f, y6, y7, b1, b2, fl, fo, rfl⟩ := hs
    simp only [dName, List.set_cons_succ, List.set_cons_zero]
    refine seq_toP (fun s => ∃ (B2 : Int) (b : Bool), B' ≤ B2 ∧ B2 ≤ B' + 1 ∧ (b = true → f ≠ []) ∧ s = [.st B2, .val (.int (most : Int)), .val (.list (dVs ps)), .val (.int (1 + n)), .val (.int stay), .own (.lst (dVs f)), .val (.int (0 + (t : Int))), .val (.bool b)]) (fun k2 h3 => ?_) fun s hs => ?_
    · simp only [T__law_draw, den, initS, endB, dSeq, dSet, dPar, dRet, dRetN, dIfS, dDrop, dFor, dNext, dBreak, dCont, dNever, dRaise, dAug, fAddI, dAppend, dSetIx, dVar, dC, dOp, dUn, dCB, dNil, dCons, dLst, dTup, dTest, dAnd, dOr, dNot, dAndV, dOrV, dNotV, dIf, dChain, dIsi, dIsi2, dYes, fAdd, fSub, fMul, fDiv, fMod, fPow, fNeg, fIx, fLen, fMax, fMin, fSum, fSorted, fAbs, fInt, fList, fTuple, fRepr, gEq, gNe, gLt, gLe, gGt, gGe, gIn, gNotIn, gIs, gIsNot, cD, put, cut, see, sees, look, fz, fzs, fzV, fill, dLc, dSeqI, dRng1, dRng2, dEnum, dZip, dName, dgTup, dgCons, dgNil, dAsg, dCall, dCallS, stAll, mapSt_st, mapSt_no, mapSt_val, mapSt_ow, mapSt_scr, mapSt_ns, noSts, wipeS, dSl, dPart, dNoPart, fSl, dRev, dBM, mCount, mIndex, dStInt, dStTurn, dStPop, dStCells, dStPut, dStTurnPut, dLenScr, tyName, isTyN, isNone, isBool, toInts_ints, dInts_len, List.map_cons, List.map_nil, List.map_append, List.getElem?_cons_zero, List.getElem?_cons_succ, List.set_cons_zero, List.set_cons_succ, List.length_cons, List.length_nil, List.take_nil, List.take_zero, List.take_succ_cons, List.cons_append, List.nil_append, List.replicate_zero, List.replicate_succ, if_true, if_false, ite_true, ite_false, Bool.false_eq_true, Bool.not_true, Bool.not_false, reduceIte, Nat.zero_add, Nat.add_zero, Nat.reduceAdd, Nat.reduceSub, Nat.sub_self, decide_true, decide_false, true_and, and_true, List.length_map, eqv_nil]
      refine ⟨Nat.zero_le _, shaped_vs _, shaped_ints [], ?_⟩
      cases f with
      | nil => exact h3 _ ⟨B', false, Int.le_refl _, by omega, by simp, rfl⟩
      | cons x r => exact ⟨4, rfl, by omega, by omega, by omega, by omega, fun z z0 z1 => h3 _ ⟨B' + 1, _, by omega, by omega, by simp, rfl⟩⟩
    · obtain ⟨B2, b, c1, c2, c3, rfl⟩ := hs
      cases b with
      | true =>
        obtain ⟨init, x, e⟩ : ∃ init x, f = init ++ [x] := ⟨f.dropLast, f.getLast (c3 rfl), (List.dropLast_concat_getLast (c3 rfl)).symm⟩
        have e2 : atI (dVs f) (-1) = some x.d := by
          rw [e, ← dVs_snoc]
          exact atI_last _ _
        simp only [den, initS, endB, dSeq, dSet, dPar, dRet, dRetN, dIfS, dDrop, dFor, dNext, dBreak, dCont, dNever, dRaise, dAug, fAddI, dAppend, dSetIx, dVar, dC, dOp, dUn, dCB, dNil, dCons, dLst, dTup, dTest, dAnd, dOr, dNot, dAndV, dOrV, dNotV, dIf, dChain, dIsi, dIsi2, dYes, fAdd, fSub, fMul, fDiv, fMod, fPow, fNeg, fIx, fLen, fMax, fMin, fSum, fSorted, fAbs, fInt, fList, fTuple, fRepr, gEq, gNe, gLt, gLe, gGt, gGe, gIn, gNotIn, gIs, gIsNot, cD, put, cut, see, sees, look, fz, fzs, fzV, fill, dLc, dSeqI, dRng1, dRng2, dEnum, dZip, dName, dgTup, dgCons, dgNil, dAsg, dCall, dCallS, stAll, mapSt_st, mapSt_no, mapSt_val, mapSt_ow, mapSt_scr, mapSt_ns, noSts, wipeS, dSl, dPart, dNoPart, fSl, dRev, dBM, mCount, mIndex, dStInt, dStTurn, dStPop, dStCells, dStPut, dStTurnPut, dLenScr, tyName, isTyN, isNone, isBool, toInts_ints, dInts_len, List.map_cons, List.map_nil, List.map_append, List.getElem?_cons_zero, List.getElem?_cons_succ, List.set_cons_zero, List.set_cons_succ, List.length_cons, List.length_nil, List.take_nil, List.take_zero, List.take_succ_cons, List.cons_append, List.nil_append, List.replicate_zero, List.replicate_succ, if_true, if_false, ite_true, ite_false, Bool.false_eq_true, Bool.not_true, Bool.not_false, reduceIte, Nat.zero_add, Nat.add_zero, Nat.reduceAdd, Nat.reduceSub, Nat.sub_self, decide_true, decide_false, true_and, and_true, List.length_map, e2, dVs_snoc, dVs_len]
        refine ⟨by omega, hk' _ ⟨B2, f ++ [x], .val _, .val _, by omega, by omega, by simp [fl], fun v hv => ?_, rfl⟩⟩
        rcases List.mem_append.mp hv with hv | hv
        · exact fo v hv
        · rw [List.mem_singleton] at hv
          subst hv
          exact fo v (by rw [e]; simp)
      | false =>
        simp only [T__law_pick, den, initS, endB, dSeq, dSet, dPar, dRet, dRetN, dIfS, dDrop, dFor, dNext, dBreak, dCont, dNever, dRaise, dAug, fAddI, dAppend, dSetIx, dVar, dC, dOp, dUn, dCB, dNil, dCons, dLst, dTup, dTest, dAnd, dOr, dNot, dAndV, dOrV, dNotV, dIf, dChain, dIsi, dIsi2, dYes, fAdd, fSub, fMul, fDiv, fMod, fPow, fNeg, fIx, fLen, fMax, fMin, fSum, fSorted, fAbs, fInt, fList, fTuple, fRepr, gEq, gNe, gLt, gLe, gGt, gGe, gIn, gNotIn, gIs, gIsNot, cD, put, cut, see, sees, look, fz, fzs, fzV, fill, dLc, dSeqI, dRng1, dRng2, dEnum, dZip, dName, dgTup, dgCons, dgNil, dAsg, dCall, dCallS, stAll, mapSt_st, mapSt_no, mapSt_val, mapSt_ow, mapSt_scr, mapSt_ns, noSts, wipeS, dSl, dPart, dNoPart, fSl, dRev, dBM, mCount, mIndex, dStInt, dStTurn, dStPop, dStCells, dStPut, dStTurnPut, dLenScr, tyName, isTyN, isNone, isBool, toInts_ints, dInts_len, List.map_cons, List.map_nil, List.map_append, List.getElem?_cons_zero, List.getElem?_cons_succ, List.set_cons_zero, List.set_cons_succ, List.length_cons, List.length_nil, List.take_nil, List.take_zero, List.take_succ_cons, List.cons_append, List.nil_append, List.replicate_zero, List.replicate_succ, if_true, if_false, ite_true, ite_false, Bool.false_eq_true, Bool.not_true, Bool.not_false, reduceIte, Nat.zero_add, Nat.add_zero, Nat.reduceAdd, Nat.reduceSub, Nat.sub_self, decide_true, decide_false, true_and, and_true, List.length_map]
        refine ⟨_, rfl, by omega, by omega, by rw [dVs_len]; omega, by rw [dVs_len]; omega, fun d hd => ?_⟩
        obtain ⟨x, hx, rfl⟩ := List.mem_map.mp hd
        simp only [dVs_snoc, dVs_len]
        refine ⟨by omega, hk' _ ⟨B2 + 1, f ++ [x], .val _, .val _, by omega, by omega, by simp [fl], fun v hv => ?_, rfl⟩⟩
        rcases List.mem_append.mp hv with hv | hv
        · exact fo v hv
        · rw [List.mem_singleton] at hv
          subst hv
          exact p3 v hx
  · obtain ⟨B', f, y6, y7, b1, b2, fl, fo, rfl⟩ := ht
    refine h2 _ ?_
    simp only [den, initS, endB, dSeq, dSet, dPar, dRet, dRetN, dIfS, dDrop, dFor, dNext, dBreak, dCont, dNever, dRaise, dAug, fAddI, dAppend, dSetIx, dVar, dC, dOp, dUn, dCB, dNil, dCons, dLst, dTup, dTest, dAnd, dOr, dNot, dAndV, dOrV, dNotV, dIf, dChain, dIsi, dIsi2, dYes, fAdd, fSub, fMul, fDiv, fMod, fPow, fNeg, fIx, fLen, fMax, fMin, fSum, fSorted, fAbs, fInt, fList, fTuple, fRepr, gEq, gNe, gLt, gLe, gGt, gGe, gIn, gNotIn, gIs, gIsNot, cD, put, cut, see, sees, look, fz, fzs, fzV, fill, dLc, dSeqI, dRng1, dRng2, dEnum, dZip, dName, dgTup, dgCons, dgNil, dAsg, dCall, dCallS, stAll, mapSt_st, mapSt_no, mapSt_val, mapSt_ow, mapSt_scr, mapSt_ns, noSts, wipeS, dSl, dPart, dNoPart, fSl, dRev, dBM, mCount, mIndex, dStInt, dStTurn, dStPop, dStCells, dStPut, dStTurnPut, dLenScr, tyName, isTyN, isNone, isBool, toInts_ints, dInts_len, List.map_cons, List.map_nil, List.map_append, List.getElem?_cons_zero, List.getElem?_cons_succ, List.set_cons_zero, List.set_cons_succ, List.length_cons, List.length_nil, List.take_nil, List.take_zero, List.take_succ_cons, List.cons_append, List.nil_append, List.replicate_zero, List.replicate_succ, if_true, if_false, ite_true, ite_false, Bool.false_eq_true, Bool.not_true, Bool.not_false, reduceIte, Nat.zero_add, Nat.add_zero, Nat.reduceAdd, Nat.reduceSub, Nat.sub_self, decide_true, decide_false, true_and, and_true, List.length_map]
    exact ⟨B + 3 + 2 * most, by omega, hk f (by omega) ⟨by omega, by omega, fo⟩⟩

abbrev nn__law_window : Nat := 4
-- 0:course 1:delay 2:at 3:place
def B__law_window : (String → Prop) → DSt := fun kx => (dRet (dLc (dRng1 (dCons (dCB fLen (dCons (dVar 0) dNil)) dNil)) (dName 3) (dTest (dChain gLe gLe (dOp fSub (dVar 2) (dVar 1)) (dVar 3) (dVar 2))) (dOp fIx (dVar 0) (dVar 3)) [3]))
def R__law_window : DFn := den false 4 B__law_window
def T__law_window : DFn := fun _ ds k _ => ∃ (c : List Vl) (D t : Nat), ds = [.list (dVs c), .int (D : Int), .int (t : Int)] ∧ t < c.length ∧ c.length ≤ 1000 ∧ k (.list (dVs (win c D t))) 0
theorem imp__law_window : ∀ B ds k kx, ds.length = 3 → T__law_window B ds k kx → R__law_window B ds k kx := fun B ds k kx _ h => by
  obtain ⟨c, D, t, rfl, hl, hn, hk⟩ := h
  have sz : sizeLine = 2 ^ 24 := rfl
  simp only [R__law_window, B__law_window, den, initS, endB, dSeq, dSet, dPar, dRet, dRetN, dIfS, dDrop, dFor, dNext, dBreak, dCont, dNever, dRaise, dAug, fAddI, dAppend, dSetIx, dVar, dC, dOp, dUn, dCB, dNil, dCons, dLst, dTup, dTest, dAnd, dOr, dNot, dAndV, dOrV, dNotV, dIf, dChain, dIsi, dIsi2, dYes, fAdd, fSub, fMul, fDiv, fMod, fPow, fNeg, fIx, fLen, fMax, fMin, fSum, fSorted, fAbs, fInt, fList, fTuple, fRepr, gEq, gNe, gLt, gLe, gGt, gGe, gIn, gNotIn, gIs, gIsNot, cD, put, cut, see, sees, look, fz, fzs, fzV, fill, dLc, dSeqI, dRng1, dRng2, dEnum, dZip, dName, dgTup, dgCons, dgNil, dAsg, dCall, dCallS, stAll, mapSt_st, mapSt_no, mapSt_val, mapSt_ow, mapSt_scr, mapSt_ns, noSts, wipeS, dSl, dPart, dNoPart, fSl, dRev, dBM, mCount, mIndex, dStInt, dStTurn, dStPop, dStCells, dStPut, dStTurnPut, dLenScr, tyName, isTyN, isNone, isBool, toInts_ints, dInts_len, List.map_cons, List.map_nil, List.map_append, List.getElem?_cons_zero, List.getElem?_cons_succ, List.set_cons_zero, List.set_cons_succ, List.length_cons, List.length_nil, List.take_nil, List.take_zero, List.take_succ_cons, List.cons_append, List.nil_append, List.replicate_zero, List.replicate_succ, if_true, if_false, ite_true, ite_false, Bool.false_eq_true, Bool.not_true, Bool.not_false, reduceIte, Nat.zero_add, Nat.add_zero, Nat.reduceAdd, Nat.reduceSub, Nat.sub_self, decide_true, decide_false, true_and, and_true, List.length_map, dVs_len]
  refine ⟨by omega, by rw [rangeL_len]; omega, ?_⟩
  rw [rangeL0, Int.toNat_natCast]
  refine lc_filter _ (fun p : Nat => decide (t - D ≤ p ∧ p ≤ t)) (fun p => (c.getD p .non).d) _ (fun p hp k3 h3 => ?_) ?_
  · rw [List.mem_range] at hp
    have e1 : atI (dVs c) ((p : Nat) : Int) = some c[p].d := atI_mapN Vl.d c hp
    have e2 : c.getD p .non = c[p] := by simp [List.getD_eq_getElem?_getD, hp]
    rw [e2] at h3
    simp only [stepLc, den, initS, endB, dSeq, dSet, dPar, dRet, dRetN, dIfS, dDrop, dFor, dNext, dBreak, dCont, dNever, dRaise, dAug, fAddI, dAppend, dSetIx, dVar, dC, dOp, dUn, dCB, dNil, dCons, dLst, dTup, dTest, dAnd, dOr, dNot, dAndV, dOrV, dNotV, dIf, dChain, dIsi, dIsi2, dYes, fAdd, fSub, fMul, fDiv, fMod, fPow, fNeg, fIx, fLen, fMax, fMin, fSum, fSorted, fAbs, fInt, fList, fTuple, fRepr, gEq, gNe, gLt, gLe, gGt, gGe, gIn, gNotIn, gIs, gIsNot, cD, put, cut, see, sees, look, fz, fzs, fzV, fill, dLc, dSeqI, dRng1, dRng2, dEnum, dZip, dName, dgTup, dgCons, dgNil, dAsg, dCall, dCallS, stAll, mapSt_st, mapSt_no, mapSt_val, mapSt_ow, mapSt_scr, mapSt_ns, noSts, wipeS, dSl, dPart, dNoPart, fSl, dRev, dBM, mCount, mIndex, dStInt, dStTurn, dStPop, dStCells, dStPut, dStTurnPut, dLenScr, tyName, isTyN, isNone, isBool, toInts_ints, dInts_len, List.map_cons, List.map_nil, List.map_append, List.getElem?_cons_zero, List.getElem?_cons_succ, List.set_cons_zero, List.set_cons_succ, List.length_cons, List.length_nil, List.take_nil, List.take_zero, List.take_succ_cons, List.cons_append, List.nil_append, List.replicate_zero, List.replicate_succ, if_true, if_false, ite_true, ite_false, Bool.false_eq_true, Bool.not_true, Bool.not_false, reduceIte, Nat.zero_add, Nat.add_zero, Nat.reduceAdd, Nat.reduceSub, Nat.sub_self, decide_true, decide_false, true_and, and_true, List.length_map, e1]
    by_cases a : (t : Int) - (D : Int) ≤ (p : Int)
    · rw [if_pos (decide_eq_true a)]
      by_cases b : (p : Int) ≤ (t : Int)
      · rw [if_pos (decide_eq_true b)]
        rw [if_pos (decide_eq_true ⟨by omega, by omega⟩)] at h3
        exact h3
      · rw [if_neg (by simpa using b)]
        rw [if_neg (by simp; omega)] at h3
        exact h3
    · rw [if_neg (by simpa using a)]
      rw [if_neg (by simp; omega)] at h3
      exact h3
  · have e3 : (((List.range c.length).filter (fun p => decide (t - D ≤ p ∧ p ≤ t))).map fun p => (c.getD p .non).d) = dVs (win c D t) := by
      rw [← win_law hl, dVs, List.map_map]
      rfl
    rw [e3]
    exact hk

abbrev nn__law_fewest : Nat := 7
-- 0:course 1:delay 2:best 3:at 4:far 5:later 6:value
def B__law_fewest : (String → Prop) → DSt := fun kx => (dSeq (dSet 2 (dMixOne (dOp fIx (dVar 0) (dC (.int 0))) (dC (.int 0)))) (dSeq (dFor (dRng2 (dCons (dC (.int 1)) (dCons (dCB fLen (dCons (dVar 0) dNil)) dNil))) (dName 3) (dSeq (dPar [4, 5] (dCons (dOp fAdd (dCB fMin (dCons (dMixVals 2) dNil)) (dC (.int 1))) (dCons dMixNew dNil))) (dSeq (dFor (dSeqI (dCall 3 T__law_window (fun _ => False) (dCons (dVar 0) (dCons (dVar 1) (dCons (dVar 3) dNil))))) (dName 6) (dMixPut 5 (dVar 6) (dCB fMin (dCons (dMixGetD 2 (dCons (dVar 6) (dCons (dVar 4) dNil))) (dCons (dVar 4) dNil))))) (dMove 2 5)))) (dRet (dCB fMin (dCons (dMixVals 2) dNil)))))
def R__law_fewest : DFn := den false 7 B__law_fewest
def T__law_fewest : DFn := fun _ ds k _ => ∃ (c : List Vl) (D : Nat), ds = [.list (dVs c), .int (D : Int)] ∧ OkC c ∧ k (.int (few c D : Int)) 0
theorem imp__law_fewest : ∀ B ds k kx, ds.length = 2 → T__law_fewest B ds k kx → R__law_fewest B ds k kx := fun B ds k kx _ h => by
  obtain ⟨c, D, rfl, hc, hk⟩ := h
  have sz : sizeLine = 2 ^ 24 := rfl
  have n1 := hc.n1
  have n2 := hc.n2
  obtain ⟨m, hm⟩ : ∃ m, c.length = m + 1 := ⟨c.length - 1, by omega⟩
  have hp : 0 < c.length := by omega
  simp only [R__law_fewest, B__law_fewest, den, initS]
  refine sq fun k1 h1 => ?_
  have e1 : atI (dVs c) 0 = some c[0].d := atI_mapN Vl.d c hp
  simp only [dMixOne, den, initS, endB, dSeq, dSet, dPar, dRet, dRetN, dIfS, dDrop, dFor, dNext, dBreak, dCont, dNever, dRaise, dAug, fAddI, dAppend, dSetIx, dVar, dC, dOp, dUn, dCB, dNil, dCons, dLst, dTup, dTest, dAnd, dOr, dNot, dAndV, dOrV, dNotV, dIf, dChain, dIsi, dIsi2, dYes, fAdd, fSub, fMul, fDiv, fMod, fPow, fNeg, fIx, fLen, fMax, fMin, fSum, fSorted, fAbs, fInt, fList, fTuple, fRepr, gEq, gNe, gLt, gLe, gGt, gGe, gIn, gNotIn, gIs, gIsNot, cD, put, cut, see, sees, look, fz, fzs, fzV, fill, dLc, dSeqI, dRng1, dRng2, dEnum, dZip, dName, dgTup, dgCons, dgNil, dAsg, dCall, dCallS, stAll, mapSt_st, mapSt_no, mapSt_val, mapSt_ow, mapSt_scr, mapSt_ns, noSts, wipeS, dSl, dPart, dNoPart, fSl, dRev, dBM, mCount, mIndex, dStInt, dStTurn, dStPop, dStCells, dStPut, dStTurnPut, dLenScr, tyName, isTyN, isNone, isBool, toInts_ints, dInts_len, List.map_cons, List.map_nil, List.map_append, List.getElem?_cons_zero, List.getElem?_cons_succ, List.set_cons_zero, List.set_cons_succ, List.length_cons, List.length_nil, List.take_nil, List.take_zero, List.take_succ_cons, List.cons_append, List.nil_append, List.replicate_zero, List.replicate_succ, if_true, if_false, ite_true, ite_false, Bool.false_eq_true, Bool.not_true, Bool.not_false, reduceIte, Nat.zero_add, Nat.add_zero, Nat.reduceAdd, Nat.reduceSub, Nat.sub_self, decide_true, decide_false, true_and, and_true, List.length_map, e1]
  refine ⟨keyable_vl _, h1 _ ?_⟩
  clear h1 k1
  have w0 : win c D 0 = [c[0]] := by
    unfold win
    rw [Nat.zero_sub, List.drop_zero, Nat.sub_zero, List.take_one]
    cases c with
    | nil => simp at hp
    | cons a r => rfl
  have u0 : unl (win c D 0) = [c[0]] := by
    rw [w0]
    rfl
  have t0 : [(c[0].d, PyData.int 0)] = tab (bestF c D 0) (unl (win c D 0)) := by
    rw [u0]
    simp [tab, bestF, G1, u0]
  rw [t0]
  refine sq fun k1 h1 => ?_
  simp only [den, initS, endB, dSeq, dSet, dPar, dRet, dRetN, dIfS, dDrop, dFor, dNext, dBreak, dCont, dNever, dRaise, dAug, fAddI, dAppend, dSetIx, dVar, dC, dOp, dUn, dCB, dNil, dCons, dLst, dTup, dTest, dAnd, dOr, dNot, dAndV, dOrV, dNotV, dIf, dChain, dIsi, dIsi2, dYes, fAdd, fSub, fMul, fDiv, fMod, fPow, fNeg, fIx, fLen, fMax, fMin, fSum, fSorted, fAbs, fInt, fList, fTuple, fRepr, gEq, gNe, gLt, gLe, gGt, gGe, gIn, gNotIn, gIs, gIsNot, cD, put, cut, see, sees, look, fz, fzs, fzV, fill, dLc, dSeqI, dRng1, dRng2, dEnum, dZip, dName, dgTup, dgCons, dgNil, dAsg, dCall, dCallS, stAll, mapSt_st, mapSt_no, mapSt_val, mapSt_ow, mapSt_scr, mapSt_ns, noSts, wipeS, dSl, dPart, dNoPart, fSl, dRev, dBM, mCount, mIndex, dStInt, dStTurn, dStPop, dStCells, dStPut, dStTurnPut, dLenScr, tyName, isTyN, isNone, isBool, toInts_ints, dInts_len, List.map_cons, List.map_nil, List.map_append, List.getElem?_cons_zero, List.getElem?_cons_succ, List.set_cons_zero, List.set_cons_succ, List.length_cons, List.length_nil, List.take_nil, List.take_zero, List.take_succ_cons, List.cons_append, List.nil_append, List.replicate_zero, List.replicate_succ, if_true, if_false, ite_true, ite_false, Bool.false_eq_true, Bool.not_true, Bool.not_false, reduceIte, Nat.zero_add, Nat.add_zero, Nat.reduceAdd, Nat.reduceSub, Nat.sub_self, decide_true, decide_false, true_and, and_true, List.length_map, dVs_len]
  refine ⟨⟨by omega, by omega, by omega, by omega⟩, ?_⟩
  rw [show ((c.length : Int) - 1).toNat = m by omega]
  refine for_range 1 m (fun t s => ∃ y3 y4 y5 y6, s = [.val (.list (dVs c)), .val (.int (D : Int)), .own (.mix (tab (bestF c D t) (unl (win c D t)))), y3, y4, y5, y6]) ⟨_, _, _, _, rfl⟩ (fun t ht s hs k' b hk' => ?_) fun t ht => ?_
  · obtain ⟨y3, y4, y5, y6, rfl⟩ := hs
    have ht1 : t < c.length := by omega
    have ht2 : t + 1 < c.length := by omega
    have ne : (unl (win c D t)).map (bestF c D t) ≠ [] := fun z => unl_ne (win_ne (D := D) ht1) (by simpa using z)
    simp only [dName, List.set_cons_succ, List.set_cons_zero]
    refine sq fun k2 h2 => ?_
    simp only [dMixVals, dMixNew, den, initS, endB, dSeq, dSet, dPar, dRet, dRetN, dIfS, dDrop, dFor, dNext, dBreak, dCont, dNever, dRaise, dAug, fAddI, dAppend, dSetIx, dVar, dC, dOp, dUn, dCB, dNil, dCons, dLst, dTup, dTest, dAnd, dOr, dNot, dAndV, dOrV, dNotV, dIf, dChain, dIsi, dIsi2, dYes, fAdd, fSub, fMul, fDiv, fMod, fPow, fNeg, fIx, fLen, fMax, fMin, fSum, fSorted, fAbs, fInt, fList, fTuple, fRepr, gEq, gNe, gLt, gLe, gGt, gGe, gIn, gNotIn, gIs, gIsNot, cD, put, cut, see, sees, look, fz, fzs, fzV, fill, dLc, dSeqI, dRng1, dRng2, dEnum, dZip, dName, dgTup, dgCons, dgNil, dAsg, dCall, dCallS, stAll, mapSt_st, mapSt_no, mapSt_val, mapSt_ow, mapSt_scr, mapSt_ns, noSts, wipeS, dSl, dPart, dNoPart, fSl, dRev, dBM, mCount, mIndex, dStInt, dStTurn, dStPop, dStCells, dStPut, dStTurnPut, dLenScr, tyName, isTyN, isNone, isBool, toInts_ints, dInts_len, List.map_cons, List.map_nil, List.map_append, List.getElem?_cons_zero, List.getElem?_cons_succ, List.set_cons_zero, List.set_cons_succ, List.length_cons, List.length_nil, List.take_nil, List.take_zero, List.take_succ_cons, List.cons_append, List.nil_append, List.replicate_zero, List.replicate_succ, if_true, if_false, ite_true, ite_false, Bool.false_eq_true, Bool.not_true, Bool.not_false, reduceIte, Nat.zero_add, Nat.add_zero, Nat.reduceAdd, Nat.reduceSub, Nat.sub_self, decide_true, decide_false, true_and, and_true, List.length_map, tab_vals, best_min ht1]
    refine ⟨ne, h2 _ ?_⟩
    clear h2 k2
    have e2 : (1 : Int) + (t : Int) = ((t + 1 : Nat) : Int) := by omega
    refine seq_toP (fun s => ∃ y6, s = [.val (.list (dVs c)), .val (.int (D : Int)), .own (.mix (tab (bestF c D t) (unl (win c D t)))), .val (.int (1 + (t : Int))), .val (.int (((G1 c D t).1 : Int) + 1)), .own (.mix (tab (bestF c D t) (unl (win c D (t + 1))))), y6]) (fun k2 h2 => ?_) fun s hs => ?_
    · simp only [T__law_window, den, initS, endB, dSeq, dSet, dPar, dRet, dRetN, dIfS, dDrop, dFor, dNext, dBreak, dCont, dNever, dRaise, dAug, fAddI, dAppend, dSetIx, dVar, dC, dOp, dUn, dCB, dNil, dCons, dLst, dTup, dTest, dAnd, dOr, dNot, dAndV, dOrV, dNotV, dIf, dChain, dIsi, dIsi2, dYes, fAdd, fSub, fMul, fDiv, fMod, fPow, fNeg, fIx, fLen, fMax, fMin, fSum, fSorted, fAbs, fInt, fList, fTuple, fRepr, gEq, gNe, gLt, gLe, gGt, gGe, gIn, gNotIn, gIs, gIsNot, cD, put, cut, see, sees, look, fz, fzs, fzV, fill, dLc, dSeqI, dRng1, dRng2, dEnum, dZip, dName, dgTup, dgCons, dgNil, dAsg, dCall, dCallS, stAll, mapSt_st, mapSt_no, mapSt_val, mapSt_ow, mapSt_scr, mapSt_ns, noSts, wipeS, dSl, dPart, dNoPart, fSl, dRev, dBM, mCount, mIndex, dStInt, dStTurn, dStPop, dStCells, dStPut, dStTurnPut, dLenScr, tyName, isTyN, isNone, isBool, toInts_ints, dInts_len, List.map_cons, List.map_nil, List.map_append, List.getElem?_cons_zero, List.getElem?_cons_succ, List.set_cons_zero, List.set_cons_succ, List.length_cons, List.length_nil, List.take_nil, List.take_zero, List.take_succ_cons, List.cons_append, List.nil_append, List.replicate_zero, List.replicate_succ, if_true, if_false, ite_true, ite_false, Bool.false_eq_true, Bool.not_true, Bool.not_false, reduceIte, Nat.zero_add, Nat.add_zero, Nat.reduceAdd, Nat.reduceSub, Nat.sub_self, decide_true, decide_false, true_and, and_true, List.length_map]
      refine ⟨c, D, t + 1, by rw [e2], ht2, by omega, ?_⟩
      rw [dVs_map (win c D (t + 1))]
      refine for_to _ (fun zs s => ∃ pre, win c D (t + 1) = pre ++ zs ∧ ∃ y6, s = [.val (.list (dVs c)), .val (.int (D : Int)), .own (.mix (tab (bestF c D t) (unl (win c D t)))), .val (.int (1 + (t : Int))), .val (.int (((G1 c D t).1 : Int) + 1)), .own (.mix (tab (bestF c D t) (unl pre))), y6]) _ ⟨[], rfl, _, rfl⟩ (fun v zs s hs k3 b3 h3 => ?_) fun s hs => ?_
      · obtain ⟨pre, e, y6, rfl⟩ := hs
        have lp := unl_len pre
        have lw := win_len c D (t + 1)
        have lz : pre.length ≤ (win c D (t + 1)).length := by rw [e]; simp
        have bg := best_get (D := D) ht2 v
        simp only [dMixPut, dMixGetD, den, initS, endB, dSeq, dSet, dPar, dRet, dRetN, dIfS, dDrop, dFor, dNext, dBreak, dCont, dNever, dRaise, dAug, fAddI, dAppend, dSetIx, dVar, dC, dOp, dUn, dCB, dNil, dCons, dLst, dTup, dTest, dAnd, dOr, dNot, dAndV, dOrV, dNotV, dIf, dChain, dIsi, dIsi2, dYes, fAdd, fSub, fMul, fDiv, fMod, fPow, fNeg, fIx, fLen, fMax, fMin, fSum, fSorted, fAbs, fInt, fList, fTuple, fRepr, gEq, gNe, gLt, gLe, gGt, gGe, gIn, gNotIn, gIs, gIsNot, cD, put, cut, see, sees, look, fz, fzs, fzV, fill, dLc, dSeqI, dRng1, dRng2, dEnum, dZip, dName, dgTup, dgCons, dgNil, dAsg, dCall, dCallS, stAll, mapSt_st, mapSt_no, mapSt_val, mapSt_ow, mapSt_scr, mapSt_ns, noSts, wipeS, dSl, dPart, dNoPart, fSl, dRev, dBM, mCount, mIndex, dStInt, dStTurn, dStPop, dStCells, dStPut, dStTurnPut, dLenScr, tyName, isTyN, isNone, isBool, toInts_ints, dInts_len, List.map_cons, List.map_nil, List.map_append, List.getElem?_cons_zero, List.getElem?_cons_succ, List.set_cons_zero, List.set_cons_succ, List.length_cons, List.length_nil, List.take_nil, List.take_zero, List.take_succ_cons, List.cons_append, List.nil_append, List.replicate_zero, List.replicate_succ, if_true, if_false, ite_true, ite_false, Bool.false_eq_true, Bool.not_true, Bool.not_false, reduceIte, Nat.zero_add, Nat.add_zero, Nat.reduceAdd, Nat.reduceSub, Nat.sub_self, decide_true, decide_false, true_and, and_true, List.length_map, tab_len]
        refine ⟨keyable_vl v, ?_⟩
        have bt := tab_put (bestF c D t) (bestF c D t) v (fun _ _ => rfl) (unl pre) (unl_nodup pre)
        rw [← unl_snoc] at bt
        rw [tab_at] at bg ⊢
        by_cases hv : v ∈ unl (win c D t)
        · rw [if_pos hv] at bg ⊢
          simp only [Option.getD_some, den, initS, endB, dSeq, dSet, dPar, dRet, dRetN, dIfS, dDrop, dFor, dNext, dBreak, dCont, dNever, dRaise, dAug, fAddI, dAppend, dSetIx, dVar, dC, dOp, dUn, dCB, dNil, dCons, dLst, dTup, dTest, dAnd, dOr, dNot, dAndV, dOrV, dNotV, dIf, dChain, dIsi, dIsi2, dYes, fAdd, fSub, fMul, fDiv, fMod, fPow, fNeg, fIx, fLen, fMax, fMin, fSum, fSorted, fAbs, fInt, fList, fTuple, fRepr, gEq, gNe, gLt, gLe, gGt, gGe, gIn, gNotIn, gIs, gIsNot, cD, put, cut, see, sees, look, fz, fzs, fzV, fill, dLc, dSeqI, dRng1, dRng2, dEnum, dZip, dName, dgTup, dgCons, dgNil, dAsg, dCall, dCallS, stAll, mapSt_st, mapSt_no, mapSt_val, mapSt_ow, mapSt_scr, mapSt_ns, noSts, wipeS, dSl, dPart, dNoPart, fSl, dRev, dBM, mCount, mIndex, dStInt, dStTurn, dStPop, dStCells, dStPut, dStTurnPut, dLenScr, tyName, isTyN, isNone, isBool, toInts_ints, dInts_len, List.map_cons, List.map_nil, List.map_append, List.getElem?_cons_zero, List.getElem?_cons_succ, List.set_cons_zero, List.set_cons_succ, List.length_cons, List.length_nil, List.take_nil, List.take_zero, List.take_succ_cons, List.cons_append, List.nil_append, List.replicate_zero, List.replicate_succ, if_true, if_false, ite_true, ite_false, Bool.false_eq_true, Bool.not_true, Bool.not_false, reduceIte, Nat.zero_add, Nat.add_zero, Nat.reduceAdd, Nat.reduceSub, Nat.sub_self, decide_true, decide_false, true_and, and_true, List.length_map] at bg ⊢
          refine ⟨keyable_vl v, by omega, ?_⟩
          rw [bg, bt]
          exact h3 _ ⟨pre ++ [v], by rw [e]; simp, _, rfl⟩
        · rw [if_neg hv] at bg ⊢
          simp only [Option.getD_none, den, initS, endB, dSeq, dSet, dPar, dRet, dRetN, dIfS, dDrop, dFor, dNext, dBreak, dCont, dNever, dRaise, dAug, fAddI, dAppend, dSetIx, dVar, dC, dOp, dUn, dCB, dNil, dCons, dLst, dTup, dTest, dAnd, dOr, dNot, dAndV, dOrV, dNotV, dIf, dChain, dIsi, dIsi2, dYes, fAdd, fSub, fMul, fDiv, fMod, fPow, fNeg, fIx, fLen, fMax, fMin, fSum, fSorted, fAbs, fInt, fList, fTuple, fRepr, gEq, gNe, gLt, gLe, gGt, gGe, gIn, gNotIn, gIs, gIsNot, cD, put, cut, see, sees, look, fz, fzs, fzV, fill, dLc, dSeqI, dRng1, dRng2, dEnum, dZip, dName, dgTup, dgCons, dgNil, dAsg, dCall, dCallS, stAll, mapSt_st, mapSt_no, mapSt_val, mapSt_ow, mapSt_scr, mapSt_ns, noSts, wipeS, dSl, dPart, dNoPart, fSl, dRev, dBM, mCount, mIndex, dStInt, dStTurn, dStPop, dStCells, dStPut, dStTurnPut, dLenScr, tyName, isTyN, isNone, isBool, toInts_ints, dInts_len, List.map_cons, List.map_nil, List.map_append, List.getElem?_cons_zero, List.getElem?_cons_succ, List.set_cons_zero, List.set_cons_succ, List.length_cons, List.length_nil, List.take_nil, List.take_zero, List.take_succ_cons, List.cons_append, List.nil_append, List.replicate_zero, List.replicate_succ, if_true, if_false, ite_true, ite_false, Bool.false_eq_true, Bool.not_true, Bool.not_false, reduceIte, Nat.zero_add, Nat.add_zero, Nat.reduceAdd, Nat.reduceSub, Nat.sub_self, decide_true, decide_false, true_and, and_true, List.length_map] at bg ⊢
          refine ⟨keyable_vl v, by omega, ?_⟩
          rw [bg, bt]
          exact h3 _ ⟨pre ++ [v], by rw [e]; simp, _, rfl⟩
      · obtain ⟨pre, e, y6, rfl⟩ := hs
        rw [List.append_nil] at e
        rw [← e]
        exact h2 _ ⟨_, rfl⟩
    · obtain ⟨y6, rfl⟩ := hs
      simp only [dMove, den, initS, endB, dSeq, dSet, dPar, dRet, dRetN, dIfS, dDrop, dFor, dNext, dBreak, dCont, dNever, dRaise, dAug, fAddI, dAppend, dSetIx, dVar, dC, dOp, dUn, dCB, dNil, dCons, dLst, dTup, dTest, dAnd, dOr, dNot, dAndV, dOrV, dNotV, dIf, dChain, dIsi, dIsi2, dYes, fAdd, fSub, fMul, fDiv, fMod, fPow, fNeg, fIx, fLen, fMax, fMin, fSum, fSorted, fAbs, fInt, fList, fTuple, fRepr, gEq, gNe, gLt, gLe, gGt, gGe, gIn, gNotIn, gIs, gIsNot, cD, put, cut, see, sees, look, fz, fzs, fzV, fill, dLc, dSeqI, dRng1, dRng2, dEnum, dZip, dName, dgTup, dgCons, dgNil, dAsg, dCall, dCallS, stAll, mapSt_st, mapSt_no, mapSt_val, mapSt_ow, mapSt_scr, mapSt_ns, noSts, wipeS, dSl, dPart, dNoPart, fSl, dRev, dBM, mCount, mIndex, dStInt, dStTurn, dStPop, dStCells, dStPut, dStTurnPut, dLenScr, tyName, isTyN, isNone, isBool, toInts_ints, dInts_len, List.map_cons, List.map_nil, List.map_append, List.getElem?_cons_zero, List.getElem?_cons_succ, List.set_cons_zero, List.set_cons_succ, List.length_cons, List.length_nil, List.take_nil, List.take_zero, List.take_succ_cons, List.cons_append, List.nil_append, List.replicate_zero, List.replicate_succ, if_true, if_false, ite_true, ite_false, Bool.false_eq_true, Bool.not_true, Bool.not_false, reduceIte, Nat.zero_add, Nat.add_zero, Nat.reduceAdd, Nat.reduceSub, Nat.sub_self, decide_true, decide_false, true_and, and_true, List.length_map]
      refine ⟨by decide, by decide, ?_⟩
      rw [tab_congr (g := bestF c D (t + 1)) (fun v hv => best_next ht2 (mem_unl.mp hv))]
      exact hk' _ ⟨_, _, _, _, rfl⟩
  · obtain ⟨y3, y4, y5, y6, rfl⟩ := ht
    refine h1 _ ?_
    have hm1 : m < c.length := by omega
    have ne : (unl (win c D m)).map (bestF c D m) ≠ [] := fun z => unl_ne (win_ne (D := D) hm1) (by simpa using z)
    simp only [dMixVals, den, initS, endB, dSeq, dSet, dPar, dRet, dRetN, dIfS, dDrop, dFor, dNext, dBreak, dCont, dNever, dRaise, dAug, fAddI, dAppend, dSetIx, dVar, dC, dOp, dUn, dCB, dNil, dCons, dLst, dTup, dTest, dAnd, dOr, dNot, dAndV, dOrV, dNotV, dIf, dChain, dIsi, dIsi2, dYes, fAdd, fSub, fMul, fDiv, fMod, fPow, fNeg, fIx, fLen, fMax, fMin, fSum, fSorted, fAbs, fInt, fList, fTuple, fRepr, gEq, gNe, gLt, gLe, gGt, gGe, gIn, gNotIn, gIs, gIsNot, cD, put, cut, see, sees, look, fz, fzs, fzV, fill, dLc, dSeqI, dRng1, dRng2, dEnum, dZip, dName, dgTup, dgCons, dgNil, dAsg, dCall, dCallS, stAll, mapSt_st, mapSt_no, mapSt_val, mapSt_ow, mapSt_scr, mapSt_ns, noSts, wipeS, dSl, dPart, dNoPart, fSl, dRev, dBM, mCount, mIndex, dStInt, dStTurn, dStPop, dStCells, dStPut, dStTurnPut, dLenScr, tyName, isTyN, isNone, isBool, toInts_ints, dInts_len, List.map_cons, List.map_nil, List.map_append, List.getElem?_cons_zero, List.getElem?_cons_succ, List.set_cons_zero, List.set_cons_succ, List.length_cons, List.length_nil, List.take_nil, List.take_zero, List.take_succ_cons, List.cons_append, List.nil_append, List.replicate_zero, List.replicate_succ, if_true, if_false, ite_true, ite_false, Bool.false_eq_true, Bool.not_true, Bool.not_false, reduceIte, Nat.zero_add, Nat.add_zero, Nat.reduceAdd, Nat.reduceSub, Nat.sub_self, decide_true, decide_false, true_and, and_true, List.length_map, tab_vals, best_min hm1]
    refine ⟨ne, ?_⟩
    rw [few, hm] at hk
    exact hk

abbrev nn__law_stair_right : Nat := 6
-- 0:course 1:fewest 2:due 3:many 4:first 5:delay
def B__law_stair_right : (String → Prop) → DSt := fun kx => (dSeq (dSet 1 (dLc (dRng1 (dCons (dCB fLen (dCons (dVar 0) dNil)) dNil)) (dName 5) dYes (dCall 2 T__law_fewest (fun _ => False) (dCons (dVar 0) (dCons (dVar 5) dNil))) [5])) (dSeq (dSet 2 (dLc (dEnum (dCons (dVar 1) dNil)) (dgTup 2 (dgCons (dName 5) (dgCons (dName 3) dgNil))) (dOr (dTest (dOp (cD gEq) (dVar 5) (dC (.int 0)))) (dTest (dOp (cD gLt) (dVar 3) (dCB fMin (dCons (dSl (dVar 1) dNoPart (dPart (dVar 5))) dNil))))) (dTup (dCons (dVar 5) (dCons (dVar 3) dNil))) [5, 3])) (dSeq (dIfS (dOr (dNot (dTest (dCall 2 T__law_is (fun _ => False) (dCons (dCall 1 T_stair (fun _ => False) (dCons (dVar 0) dNil)) (dCons (dVar 2) dNil))))) (dTest (dOp (cD gNe) (dOp fIx (dOp fIx (dVar 2) (dUn fNeg (dC (.int 1)))) (dC (.int 1))) (dC (.int 0))))) (dRet (dC (.bool false))) dNext) (dSeq (dFor (dSeqI (dOp fAdd (dListRg (dOp fAdd (dOp fIx (dVar 1) (dC (.int 0))) (dC (.int 2)))) (dLst (dCons (dC (.int 119)) (dCons (dC (.int 200)) dNil))))) (dName 3) (dSeq (dSet 4 (dOp fIx (dLc (dRng1 (dCons (dCB fLen (dCons (dVar 0) dNil)) dNil)) (dName 5) (dTest (dOp (cD gLe) (dOp fIx (dVar 1) (dVar 5)) (dVar 3))) (dVar 5) [5]) (dC (.int 0)))) (dIfS (dNot (dTest (dCall 2 T__law_is (fun _ => False) (dCons (dCall 2 T_least_delay (fun _ => False) (dCons (dVar 0) (dCons (dVar 3) dNil))) (dCons (dVar 4) dNil))))) (dRet (dC (.bool false))) dNext))) (dRet (dOp (cD gEq) (dLc (dRng1 (dCons (dCB fLen (dCons (dVar 0) dNil)) dNil)) (dName 5) (dTest (dOp (cD gNe) (dCall 2 T_fewest_changes (fun _ => False) (dCons (dVar 0) (dCons (dVar 5) dNil))) (dOp fIx (dVar 1) (dVar 5)))) (dC (.int 1)) [5]) (dLst dNil)))))))
def R__law_stair_right : DFn := den false 6 B__law_stair_right
def T__law_stair_right : DFn := fun _ ds k _ => ∃ (c : List Vl), ds = [.list (dVs c)] ∧ OkC c ∧ c.length ≤ 100 ∧ k (.bool true) 0
theorem imp__law_stair_right : ∀ B ds k kx, ds.length = 1 → T__law_stair_right B ds k kx → R__law_stair_right B ds k kx := fun B ds k kx _ h => by
  obtain ⟨c, rfl, hc, h100, hk⟩ := h
  have sz : sizeLine = 2 ^ 24 := rfl
  have n1 := hc.n1
  have n2 := hc.n2
  have fl : ∀ d, (few c d : Int) ≤ 120 ∧ 0 ≤ (few c d : Int) := fun d => by
    have := few_le c d
    omega
  have f0 : few c (c.length - 1) = 0 := few_zero hc.ne (by omega)
  simp only [R__law_stair_right, B__law_stair_right, den, initS]
  refine sq fun k1 h1 => ?_
  simp only [den, initS, endB, dSeq, dSet, dPar, dRet, dRetN, dIfS, dDrop, dFor, dNext, dBreak, dCont, dNever, dRaise, dAug, fAddI, dAppend, dSetIx, dVar, dC, dOp, dUn, dCB, dNil, dCons, dLst, dTup, dTest, dAnd, dOr, dNot, dAndV, dOrV, dNotV, dIf, dChain, dIsi, dIsi2, dYes, fAdd, fSub, fMul, fDiv, fMod, fPow, fNeg, fIx, fLen, fMax, fMin, fSum, fSorted, fAbs, fInt, fList, fTuple, fRepr, gEq, gNe, gLt, gLe, gGt, gGe, gIn, gNotIn, gIs, gIsNot, cD, put, cut, see, sees, look, fz, fzs, fzV, fill, dLc, dSeqI, dRng1, dRng2, dEnum, dZip, dName, dgTup, dgCons, dgNil, dAsg, dCall, dCallS, stAll, mapSt_st, mapSt_no, mapSt_val, mapSt_ow, mapSt_scr, mapSt_ns, noSts, wipeS, dSl, dPart, dNoPart, fSl, dRev, dBM, mCount, mIndex, dStInt, dStTurn, dStPop, dStCells, dStPut, dStTurnPut, dLenScr, tyName, isTyN, isNone, isBool, toInts_ints, dInts_len, List.map_cons, List.map_nil, List.map_append, List.getElem?_cons_zero, List.getElem?_cons_succ, List.set_cons_zero, List.set_cons_succ, List.length_cons, List.length_nil, List.take_nil, List.take_zero, List.take_succ_cons, List.cons_append, List.nil_append, List.replicate_zero, List.replicate_succ, if_true, if_false, ite_true, ite_false, Bool.false_eq_true, Bool.not_true, Bool.not_false, reduceIte, Nat.zero_add, Nat.add_zero, Nat.reduceAdd, Nat.reduceSub, Nat.sub_self, decide_true, decide_false, true_and, and_true, List.length_map, dVs_len]
  refine ⟨by omega, by rw [rangeL_len]; omega, ?_⟩
  rw [rangeL0, Int.toNat_natCast]
  refine lc_map _ (fun d : Nat => .int (few c d : Int)) _ (fun d hd k3 h3 => ?_) ?_
  · simp only [stepLc, T__law_fewest, den, initS, endB, dSeq, dSet, dPar, dRet, dRetN, dIfS, dDrop, dFor, dNext, dBreak, dCont, dNever, dRaise, dAug, fAddI, dAppend, dSetIx, dVar, dC, dOp, dUn, dCB, dNil, dCons, dLst, dTup, dTest, dAnd, dOr, dNot, dAndV, dOrV, dNotV, dIf, dChain, dIsi, dIsi2, dYes, fAdd, fSub, fMul, fDiv, fMod, fPow, fNeg, fIx, fLen, fMax, fMin, fSum, fSorted, fAbs, fInt, fList, fTuple, fRepr, gEq, gNe, gLt, gLe, gGt, gGe, gIn, gNotIn, gIs, gIsNot, cD, put, cut, see, sees, look, fz, fzs, fzV, fill, dLc, dSeqI, dRng1, dRng2, dEnum, dZip, dName, dgTup, dgCons, dgNil, dAsg, dCall, dCallS, stAll, mapSt_st, mapSt_no, mapSt_val, mapSt_ow, mapSt_scr, mapSt_ns, noSts, wipeS, dSl, dPart, dNoPart, fSl, dRev, dBM, mCount, mIndex, dStInt, dStTurn, dStPop, dStCells, dStPut, dStTurnPut, dLenScr, tyName, isTyN, isNone, isBool, toInts_ints, dInts_len, List.map_cons, List.map_nil, List.map_append, List.getElem?_cons_zero, List.getElem?_cons_succ, List.set_cons_zero, List.set_cons_succ, List.length_cons, List.length_nil, List.take_nil, List.take_zero, List.take_succ_cons, List.cons_append, List.nil_append, List.replicate_zero, List.replicate_succ, if_true, if_false, ite_true, ite_false, Bool.false_eq_true, Bool.not_true, Bool.not_false, reduceIte, Nat.zero_add, Nat.add_zero, Nat.reduceAdd, Nat.reduceSub, Nat.sub_self, decide_true, decide_false, true_and, and_true, List.length_map]
    exact ⟨c, d, rfl, hc, h3⟩
  rw [map_int]
  simp only [den, initS, endB, dSeq, dSet, dPar, dRet, dRetN, dIfS, dDrop, dFor, dNext, dBreak, dCont, dNever, dRaise, dAug, fAddI, dAppend, dSetIx, dVar, dC, dOp, dUn, dCB, dNil, dCons, dLst, dTup, dTest, dAnd, dOr, dNot, dAndV, dOrV, dNotV, dIf, dChain, dIsi, dIsi2, dYes, fAdd, fSub, fMul, fDiv, fMod, fPow, fNeg, fIx, fLen, fMax, fMin, fSum, fSorted, fAbs, fInt, fList, fTuple, fRepr, gEq, gNe, gLt, gLe, gGt, gGe, gIn, gNotIn, gIs, gIsNot, cD, put, cut, see, sees, look, fz, fzs, fzV, fill, dLc, dSeqI, dRng1, dRng2, dEnum, dZip, dName, dgTup, dgCons, dgNil, dAsg, dCall, dCallS, stAll, mapSt_st, mapSt_no, mapSt_val, mapSt_ow, mapSt_scr, mapSt_ns, noSts, wipeS, dSl, dPart, dNoPart, fSl, dRev, dBM, mCount, mIndex, dStInt, dStTurn, dStPop, dStCells, dStPut, dStTurnPut, dLenScr, tyName, isTyN, isNone, isBool, toInts_ints, dInts_len, List.map_cons, List.map_nil, List.map_append, List.getElem?_cons_zero, List.getElem?_cons_succ, List.set_cons_zero, List.set_cons_succ, List.length_cons, List.length_nil, List.take_nil, List.take_zero, List.take_succ_cons, List.cons_append, List.nil_append, List.replicate_zero, List.replicate_succ, if_true, if_false, ite_true, ite_false, Bool.false_eq_true, Bool.not_true, Bool.not_false, reduceIte, Nat.zero_add, Nat.add_zero, Nat.reduceAdd, Nat.reduceSub, Nat.sub_self, decide_true, decide_false, true_and, and_true, List.length_map]
  refine h1 _ ?_
  clear h1 k1
  refine sq fun k1 h1 => ?_
  simp only [dSet, dLc, dEnum, den, initS, endB, dSeq, dSet, dPar, dRet, dRetN, dIfS, dDrop, dFor, dNext, dBreak, dCont, dNever, dRaise, dAug, fAddI, dAppend, dSetIx, dVar, dC, dOp, dUn, dCB, dNil, dCons, dLst, dTup, dTest, dAnd, dOr, dNot, dAndV, dOrV, dNotV, dIf, dChain, dIsi, dIsi2, dYes, fAdd, fSub, fMul, fDiv, fMod, fPow, fNeg, fIx, fLen, fMax, fMin, fSum, fSorted, fAbs, fInt, fList, fTuple, fRepr, gEq, gNe, gLt, gLe, gGt, gGe, gIn, gNotIn, gIs, gIsNot, cD, put, cut, see, sees, look, fz, fzs, fzV, fill, dLc, dSeqI, dRng1, dRng2, dEnum, dZip, dName, dgTup, dgCons, dgNil, dAsg, dCall, dCallS, stAll, mapSt_st, mapSt_no, mapSt_val, mapSt_ow, mapSt_scr, mapSt_ns, noSts, wipeS, dSl, dPart, dNoPart, fSl, dRev, dBM, mCount, mIndex, dStInt, dStTurn, dStPop, dStCells, dStPut, dStTurnPut, dLenScr, tyName, isTyN, isNone, isBool, toInts_ints, dInts_len, List.map_cons, List.map_nil, List.map_append, List.getElem?_cons_zero, List.getElem?_cons_succ, List.set_cons_zero, List.set_cons_succ, List.length_cons, List.length_nil, List.take_nil, List.take_zero, List.take_succ_cons, List.cons_append, List.nil_append, List.replicate_zero, List.replicate_succ, if_true, if_false, ite_true, ite_false, Bool.false_eq_true, Bool.not_true, Bool.not_false, reduceIte, Nat.zero_add, Nat.add_zero, Nat.reduceAdd, Nat.reduceSub, Nat.sub_self, decide_true, decide_false, true_and, and_true, List.length_map]
  rw [enumL_rangeI]
  refine ⟨by rw [List.length_map, List.length_range]; omega, ?_⟩
  refine lc_filter _ (isRec (fun d => (few c d : Int))) (fun d : Nat => .tuple [.int (d : Int), .int (few c d : Int)]) _ (fun d hd k3 h3 => ?_) ?_
  · rw [List.mem_range] at hd
    simp only [stepLc, den, initS, endB, dSeq, dSet, dPar, dRet, dRetN, dIfS, dDrop, dFor, dNext, dBreak, dCont, dNever, dRaise, dAug, fAddI, dAppend, dSetIx, dVar, dC, dOp, dUn, dCB, dNil, dCons, dLst, dTup, dTest, dAnd, dOr, dNot, dAndV, dOrV, dNotV, dIf, dChain, dIsi, dIsi2, dYes, fAdd, fSub, fMul, fDiv, fMod, fPow, fNeg, fIx, fLen, fMax, fMin, fSum, fSorted, fAbs, fInt, fList, fTuple, fRepr, gEq, gNe, gLt, gLe, gGt, gGe, gIn, gNotIn, gIs, gIsNot, cD, put, cut, see, sees, look, fz, fzs, fzV, fill, dLc, dSeqI, dRng1, dRng2, dEnum, dZip, dName, dgTup, dgCons, dgNil, dAsg, dCall, dCallS, stAll, mapSt_st, mapSt_no, mapSt_val, mapSt_ow, mapSt_scr, mapSt_ns, noSts, wipeS, dSl, dPart, dNoPart, fSl, dRev, dBM, mCount, mIndex, dStInt, dStTurn, dStPop, dStCells, dStPut, dStTurnPut, dLenScr, tyName, isTyN, isNone, isBool, toInts_ints, dInts_len, List.map_cons, List.map_nil, List.map_append, List.getElem?_cons_zero, List.getElem?_cons_succ, List.set_cons_zero, List.set_cons_succ, List.length_cons, List.length_nil, List.take_nil, List.take_zero, List.take_succ_cons, List.cons_append, List.nil_append, List.replicate_zero, List.replicate_succ, if_true, if_false, ite_true, ite_false, Bool.false_eq_true, Bool.not_true, Bool.not_false, reduceIte, Nat.zero_add, Nat.add_zero, Nat.reduceAdd, Nat.reduceSub, Nat.sub_self, decide_true, decide_false, true_and, and_true, List.length_map, eqv_int]
    refine ⟨shaped_int _, shaped_int _, ?_⟩
    cases d with
    | zero =>
      have e : isRec (fun d => (few c d : Int)) 0 = true := by simp [isRec]
      rw [e] at h3
      simp only [den, initS, endB, dSeq, dSet, dPar, dRet, dRetN, dIfS, dDrop, dFor, dNext, dBreak, dCont, dNever, dRaise, dAug, fAddI, dAppend, dSetIx, dVar, dC, dOp, dUn, dCB, dNil, dCons, dLst, dTup, dTest, dAnd, dOr, dNot, dAndV, dOrV, dNotV, dIf, dChain, dIsi, dIsi2, dYes, fAdd, fSub, fMul, fDiv, fMod, fPow, fNeg, fIx, fLen, fMax, fMin, fSum, fSorted, fAbs, fInt, fList, fTuple, fRepr, gEq, gNe, gLt, gLe, gGt, gGe, gIn, gNotIn, gIs, gIsNot, cD, put, cut, see, sees, look, fz, fzs, fzV, fill, dLc, dSeqI, dRng1, dRng2, dEnum, dZip, dName, dgTup, dgCons, dgNil, dAsg, dCall, dCallS, stAll, mapSt_st, mapSt_no, mapSt_val, mapSt_ow, mapSt_scr, mapSt_ns, noSts, wipeS, dSl, dPart, dNoPart, fSl, dRev, dBM, mCount, mIndex, dStInt, dStTurn, dStPop, dStCells, dStPut, dStTurnPut, dLenScr, tyName, isTyN, isNone, isBool, toInts_ints, dInts_len, List.map_cons, List.map_nil, List.map_append, List.getElem?_cons_zero, List.getElem?_cons_succ, List.set_cons_zero, List.set_cons_succ, List.length_cons, List.length_nil, List.take_nil, List.take_zero, List.take_succ_cons, List.cons_append, List.nil_append, List.replicate_zero, List.replicate_succ, if_true, if_false, ite_true, ite_false, Bool.false_eq_true, Bool.not_true, Bool.not_false, reduceIte, Nat.zero_add, Nat.add_zero, Nat.reduceAdd, Nat.reduceSub, Nat.sub_self, decide_true, decide_false, true_and, and_true, List.length_map, Int.ofNat_zero] at h3 ⊢
      exact ⟨by omega, h3⟩
    | succ d =>
      rw [if_neg (by simp; omega)]
      have e1 : (some ((d + 1 : Nat) : Int)) = some ((d + 1 : Nat) : Int) := rfl
      rw [cutL_to, dInts_take, ← List.map_take]
      simp only [den, initS, endB, dSeq, dSet, dPar, dRet, dRetN, dIfS, dDrop, dFor, dNext, dBreak, dCont, dNever, dRaise, dAug, fAddI, dAppend, dSetIx, dVar, dC, dOp, dUn, dCB, dNil, dCons, dLst, dTup, dTest, dAnd, dOr, dNot, dAndV, dOrV, dNotV, dIf, dChain, dIsi, dIsi2, dYes, fAdd, fSub, fMul, fDiv, fMod, fPow, fNeg, fIx, fLen, fMax, fMin, fSum, fSorted, fAbs, fInt, fList, fTuple, fRepr, gEq, gNe, gLt, gLe, gGt, gGe, gIn, gNotIn, gIs, gIsNot, cD, put, cut, see, sees, look, fz, fzs, fzV, fill, dLc, dSeqI, dRng1, dRng2, dEnum, dZip, dName, dgTup, dgCons, dgNil, dAsg, dCall, dCallS, stAll, mapSt_st, mapSt_no, mapSt_val, mapSt_ow, mapSt_scr, mapSt_ns, noSts, wipeS, dSl, dPart, dNoPart, fSl, dRev, dBM, mCount, mIndex, dStInt, dStTurn, dStPop, dStCells, dStPut, dStTurnPut, dLenScr, tyName, isTyN, isNone, isBool, toInts_ints, dInts_len, List.map_cons, List.map_nil, List.map_append, List.getElem?_cons_zero, List.getElem?_cons_succ, List.set_cons_zero, List.set_cons_succ, List.length_cons, List.length_nil, List.take_nil, List.take_zero, List.take_succ_cons, List.cons_append, List.nil_append, List.replicate_zero, List.replicate_succ, if_true, if_false, ite_true, ite_false, Bool.false_eq_true, Bool.not_true, Bool.not_false, reduceIte, Nat.zero_add, Nat.add_zero, Nat.reduceAdd, Nat.reduceSub, Nat.sub_self, decide_true, decide_false, true_and, and_true, List.length_map]
      have tk : (List.range c.length).take (d + 1) = List.range (d + 1) := by
        rw [List.take_range, Nat.min_eq_left (by omega)]
      rw [tk]
      have ne : ((List.range (d + 1)).map fun d => (few c d : Int)) ≠ [] := by simp
      obtain ⟨a, b⟩ := lmin_spec ne
      refine ⟨ne, ?_⟩
      have e2 : isRec (fun d => (few c d : Int)) (d + 1) = decide ((few c (d + 1) : Int) < lmin ((List.range (d + 1)).map fun d => (few c d : Int))) := by
        unfold isRec
        by_cases q : (few c (d + 1) : Int) < lmin ((List.range (d + 1)).map fun d => (few c d : Int))
        · rw [decide_eq_true q, decide_eq_true fun e he => by
            have := b _ (List.mem_map.mpr ⟨e, List.mem_range.mpr he, rfl⟩)
            show (few c (d + 1) : Int) < few c e
            omega]
        · rw [decide_eq_false q, decide_eq_false fun z => q ?_]
          obtain ⟨e, he, h⟩ := List.mem_map.mp a
          rw [← h]
          exact z e (List.mem_range.mp he)
      rw [e2] at h3
      by_cases q : (few c (d + 1) : Int) < lmin ((List.range (d + 1)).map fun d => (few c d : Int))
      · simp only [q, den, initS, endB, dSeq, dSet, dPar, dRet, dRetN, dIfS, dDrop, dFor, dNext, dBreak, dCont, dNever, dRaise, dAug, fAddI, dAppend, dSetIx, dVar, dC, dOp, dUn, dCB, dNil, dCons, dLst, dTup, dTest, dAnd, dOr, dNot, dAndV, dOrV, dNotV, dIf, dChain, dIsi, dIsi2, dYes, fAdd, fSub, fMul, fDiv, fMod, fPow, fNeg, fIx, fLen, fMax, fMin, fSum, fSorted, fAbs, fInt, fList, fTuple, fRepr, gEq, gNe, gLt, gLe, gGt, gGe, gIn, gNotIn, gIs, gIsNot, cD, put, cut, see, sees, look, fz, fzs, fzV, fill, dLc, dSeqI, dRng1, dRng2, dEnum, dZip, dName, dgTup, dgCons, dgNil, dAsg, dCall, dCallS, stAll, mapSt_st, mapSt_no, mapSt_val, mapSt_ow, mapSt_scr, mapSt_ns, noSts, wipeS, dSl, dPart, dNoPart, fSl, dRev, dBM, mCount, mIndex, dStInt, dStTurn, dStPop, dStCells, dStPut, dStTurnPut, dLenScr, tyName, isTyN, isNone, isBool, toInts_ints, dInts_len, List.map_cons, List.map_nil, List.map_append, List.getElem?_cons_zero, List.getElem?_cons_succ, List.set_cons_zero, List.set_cons_succ, List.length_cons, List.length_nil, List.take_nil, List.take_zero, List.take_succ_cons, List.cons_append, List.nil_append, List.replicate_zero, List.replicate_succ, if_true, if_false, ite_true, ite_false, Bool.false_eq_true, Bool.not_true, Bool.not_false, reduceIte, Nat.zero_add, Nat.add_zero, Nat.reduceAdd, Nat.reduceSub, Nat.sub_self, decide_true, decide_false, true_and, and_true, List.length_map] at h3 ⊢
        exact ⟨by omega, h3⟩
      · simp only [q, den, initS, endB, dSeq, dSet, dPar, dRet, dRetN, dIfS, dDrop, dFor, dNext, dBreak, dCont, dNever, dRaise, dAug, fAddI, dAppend, dSetIx, dVar, dC, dOp, dUn, dCB, dNil, dCons, dLst, dTup, dTest, dAnd, dOr, dNot, dAndV, dOrV, dNotV, dIf, dChain, dIsi, dIsi2, dYes, fAdd, fSub, fMul, fDiv, fMod, fPow, fNeg, fIx, fLen, fMax, fMin, fSum, fSorted, fAbs, fInt, fList, fTuple, fRepr, gEq, gNe, gLt, gLe, gGt, gGe, gIn, gNotIn, gIs, gIsNot, cD, put, cut, see, sees, look, fz, fzs, fzV, fill, dLc, dSeqI, dRng1, dRng2, dEnum, dZip, dName, dgTup, dgCons, dgNil, dAsg, dCall, dCallS, stAll, mapSt_st, mapSt_no, mapSt_val, mapSt_ow, mapSt_scr, mapSt_ns, noSts, wipeS, dSl, dPart, dNoPart, fSl, dRev, dBM, mCount, mIndex, dStInt, dStTurn, dStPop, dStCells, dStPut, dStTurnPut, dLenScr, tyName, isTyN, isNone, isBool, toInts_ints, dInts_len, List.map_cons, List.map_nil, List.map_append, List.getElem?_cons_zero, List.getElem?_cons_succ, List.set_cons_zero, List.set_cons_succ, List.length_cons, List.length_nil, List.take_nil, List.take_zero, List.take_succ_cons, List.cons_append, List.nil_append, List.replicate_zero, List.replicate_succ, if_true, if_false, ite_true, ite_false, Bool.false_eq_true, Bool.not_true, Bool.not_false, reduceIte, Nat.zero_add, Nat.add_zero, Nat.reduceAdd, Nat.reduceSub, Nat.sub_self, decide_true, decide_false, true_and, and_true, List.length_map] at h3 ⊢
        exact h3
  have ed : (((List.range c.length).filter (isRec fun d => (few c d : Int))).map fun d : Nat => PyData.tuple [.int (d : Int), .int (few c d : Int)]) = dPs (recs (fun d => (few c d : Int)) c.length) := by
    rw [recs, dPs, List.map_map]
    rfl
  rw [ed]
  simp only [den, initS, endB, dSeq, dSet, dPar, dRet, dRetN, dIfS, dDrop, dFor, dNext, dBreak, dCont, dNever, dRaise, dAug, fAddI, dAppend, dSetIx, dVar, dC, dOp, dUn, dCB, dNil, dCons, dLst, dTup, dTest, dAnd, dOr, dNot, dAndV, dOrV, dNotV, dIf, dChain, dIsi, dIsi2, dYes, fAdd, fSub, fMul, fDiv, fMod, fPow, fNeg, fIx, fLen, fMax, fMin, fSum, fSorted, fAbs, fInt, fList, fTuple, fRepr, gEq, gNe, gLt, gLe, gGt, gGe, gIn, gNotIn, gIs, gIsNot, cD, put, cut, see, sees, look, fz, fzs, fzV, fill, dLc, dSeqI, dRng1, dRng2, dEnum, dZip, dName, dgTup, dgCons, dgNil, dAsg, dCall, dCallS, stAll, mapSt_st, mapSt_no, mapSt_val, mapSt_ow, mapSt_scr, mapSt_ns, noSts, wipeS, dSl, dPart, dNoPart, fSl, dRev, dBM, mCount, mIndex, dStInt, dStTurn, dStPop, dStCells, dStPut, dStTurnPut, dLenScr, tyName, isTyN, isNone, isBool, toInts_ints, dInts_len, List.map_cons, List.map_nil, List.map_append, List.getElem?_cons_zero, List.getElem?_cons_succ, List.set_cons_zero, List.set_cons_succ, List.length_cons, List.length_nil, List.take_nil, List.take_zero, List.take_succ_cons, List.cons_append, List.nil_append, List.replicate_zero, List.replicate_succ, if_true, if_false, ite_true, ite_false, Bool.false_eq_true, Bool.not_true, Bool.not_false, reduceIte, Nat.zero_add, Nat.add_zero, Nat.reduceAdd, Nat.reduceSub, Nat.sub_self, decide_true, decide_false, true_and, and_true, List.length_map]
  refine h1 _ ?_
  clear h1 k1
  obtain ⟨init, d, e3, e4, e5⟩ := recs_last (fun d => (few c d : Int)) c.length (by omega)
  have z0 : (few c d : Int) = 0 := by
    have := e5 (c.length - 1) (by omega)
    rw [f0] at this
    have := (fl d).2
    omega
  have hl : (recs (fun d => (few c d : Int)) c.length).length ≤ c.length := by
    unfold recs
    rw [List.length_map]
    exact Nat.le_trans (List.length_filter_le _ _) (by simp)
  have nice : Nice (.list (dPs (recs (fun d => (few c d : Int)) c.length))) := nice_ps (fun q hq => by
    obtain ⟨e, he, rfl⟩ := List.mem_map.mp hq
    have := (fl e)
    have he := (List.mem_filter.mp he).1
    rw [List.mem_range] at he
    exact ⟨by show e < _; omega, by show -(2 ^ 60) < (few c e : Int); omega, by show (few c e : Int) < 2 ^ 60; omega⟩) (by omega)
  have e8 : atI (dPs (recs (fun d => (few c d : Int)) c.length)) (-1) = some (.tuple [.int (d : Int), .int (few c d : Int)]) := by
    rw [e3, ← dPs_snoc]
    exact atI_last _ _
  have e9 : atI [PyData.int (d : Int), .int (few c d : Int)] 1 = some (.int (few c d : Int)) := atI_nat (j := 1) rfl
  refine sq fun k1 h1 => ?_
  simp only [T_stair, T__law_is, den, initS, endB, dSeq, dSet, dPar, dRet, dRetN, dIfS, dDrop, dFor, dNext, dBreak, dCont, dNever, dRaise, dAug, fAddI, dAppend, dSetIx, dVar, dC, dOp, dUn, dCB, dNil, dCons, dLst, dTup, dTest, dAnd, dOr, dNot, dAndV, dOrV, dNotV, dIf, dChain, dIsi, dIsi2, dYes, fAdd, fSub, fMul, fDiv, fMod, fPow, fNeg, fIx, fLen, fMax, fMin, fSum, fSorted, fAbs, fInt, fList, fTuple, fRepr, gEq, gNe, gLt, gLe, gGt, gGe, gIn, gNotIn, gIs, gIsNot, cD, put, cut, see, sees, look, fz, fzs, fzV, fill, dLc, dSeqI, dRng1, dRng2, dEnum, dZip, dName, dgTup, dgCons, dgNil, dAsg, dCall, dCallS, stAll, mapSt_st, mapSt_no, mapSt_val, mapSt_ow, mapSt_scr, mapSt_ns, noSts, wipeS, dSl, dPart, dNoPart, fSl, dRev, dBM, mCount, mIndex, dStInt, dStTurn, dStPop, dStCells, dStPut, dStTurnPut, dLenScr, tyName, isTyN, isNone, isBool, toInts_ints, dInts_len, List.map_cons, List.map_nil, List.map_append, List.getElem?_cons_zero, List.getElem?_cons_succ, List.set_cons_zero, List.set_cons_succ, List.length_cons, List.length_nil, List.take_nil, List.take_zero, List.take_succ_cons, List.cons_append, List.nil_append, List.replicate_zero, List.replicate_succ, if_true, if_false, ite_true, ite_false, Bool.false_eq_true, Bool.not_true, Bool.not_false, reduceIte, Nat.zero_add, Nat.add_zero, Nat.reduceAdd, Nat.reduceSub, Nat.sub_self, decide_true, decide_false, true_and, and_true, List.length_map, e8, e9, z0, eqv_int]
  refine ⟨c, rfl, hc, _, rfl, nice, shaped_int _, shaped_int _, h1 _ ?_⟩
  clear h1 k1
  have a0 : atI (dInts ((List.range c.length).map fun d => (few c d : Int))) 0 = some (.int (few c 0 : Int)) := by
    have := atI_ints (ns := (List.range c.length).map fun d => (few c d : Int)) (i := 0) (by simp; omega)
    simpa using this
  refine sq fun k1 h1 => ?_
  have ei : ∀ j, j < c.length → atI (dInts ((List.range c.length).map fun d => (few c d : Int))) ((j : Nat) : Int) = some (.int (few c j : Int)) := fun j hj => by
    have := atI_ints (ns := (List.range c.length).map fun d => (few c d : Int)) (i := j) (by simpa using hj)
    simpa using this
  have := (fl 0)
  simp only [dFor, dListRg, den, initS, endB, dSeq, dSet, dPar, dRet, dRetN, dIfS, dDrop, dFor, dNext, dBreak, dCont, dNever, dRaise, dAug, fAddI, dAppend, dSetIx, dVar, dC, dOp, dUn, dCB, dNil, dCons, dLst, dTup, dTest, dAnd, dOr, dNot, dAndV, dOrV, dNotV, dIf, dChain, dIsi, dIsi2, dYes, fAdd, fSub, fMul, fDiv, fMod, fPow, fNeg, fIx, fLen, fMax, fMin, fSum, fSorted, fAbs, fInt, fList, fTuple, fRepr, gEq, gNe, gLt, gLe, gGt, gGe, gIn, gNotIn, gIs, gIsNot, cD, put, cut, see, sees, look, fz, fzs, fzV, fill, dLc, dSeqI, dRng1, dRng2, dEnum, dZip, dName, dgTup, dgCons, dgNil, dAsg, dCall, dCallS, stAll, mapSt_st, mapSt_no, mapSt_val, mapSt_ow, mapSt_scr, mapSt_ns, noSts, wipeS, dSl, dPart, dNoPart, fSl, dRev, dBM, mCount, mIndex, dStInt, dStTurn, dStPop, dStCells, dStPut, dStTurnPut, dLenScr, tyName, isTyN, isNone, isBool, toInts_ints, dInts_len, List.map_cons, List.map_nil, List.map_append, List.getElem?_cons_zero, List.getElem?_cons_succ, List.set_cons_zero, List.set_cons_succ, List.length_cons, List.length_nil, List.take_nil, List.take_zero, List.take_succ_cons, List.cons_append, List.nil_append, List.replicate_zero, List.replicate_succ, if_true, if_false, ite_true, ite_false, Bool.false_eq_true, Bool.not_true, Bool.not_false, reduceIte, Nat.zero_add, Nat.add_zero, Nat.reduceAdd, Nat.reduceSub, Nat.sub_self, decide_true, decide_false, true_and, and_true, List.length_map, a0]
  refine ⟨by omega, by omega, by omega, by rw [rangeL_len]; omega, ?_⟩
  have em : rangeL 0 ((few c 0 : Int) + 2).toNat ++ [PyData.int 119, .int 200] = dInts (((List.range (few c 0 + 2)).map fun i : Nat => (i : Int)) ++ [119, 200]) := by
    rw [show ((few c 0 : Int) + 2).toNat = few c 0 + 2 by omega, rangeL0]
    simp [dInts]
  rw [em, dInts_map]
  refine for_each _ (fun s => ∃ y3 y4 y5, s = [.val (.list (dVs c)), .val (.list (dInts ((List.range c.length).map fun d => (few c d : Int)))), .val (.list (dPs (recs (fun d => (few c d : Int)) c.length))), y3, y4, y5]) _ ⟨_, _, _, rfl⟩ (fun m hm s hs k' b hk' => ?_) fun s hs => ?_
  · obtain ⟨y3, y4, y5, rfl⟩ := hs
    have m01 : 0 ≤ m ∧ m ≤ 200 := by
      rcases List.mem_append.mp hm with hm | hm
      · obtain ⟨i, hi, rfl⟩ := List.mem_map.mp hm
        rw [List.mem_range] at hi
        omega
      · simp at hm
        omega
    simp only [dName, List.set_cons_succ, List.set_cons_zero]
    obtain ⟨d, hd⟩ : ∃ d, (List.range c.length).find? (fun d => decide ((few c d : Int) ≤ m)) = some d := by
      rw [← Option.isSome_iff_exists, List.find?_isSome]
      exact ⟨c.length - 1, by simp; omega, by rw [f0]; simpa using m01.1⟩
    refine sq fun k2 h2 => ?_
    simp only [den, initS, endB, dSeq, dSet, dPar, dRet, dRetN, dIfS, dDrop, dFor, dNext, dBreak, dCont, dNever, dRaise, dAug, fAddI, dAppend, dSetIx, dVar, dC, dOp, dUn, dCB, dNil, dCons, dLst, dTup, dTest, dAnd, dOr, dNot, dAndV, dOrV, dNotV, dIf, dChain, dIsi, dIsi2, dYes, fAdd, fSub, fMul, fDiv, fMod, fPow, fNeg, fIx, fLen, fMax, fMin, fSum, fSorted, fAbs, fInt, fList, fTuple, fRepr, gEq, gNe, gLt, gLe, gGt, gGe, gIn, gNotIn, gIs, gIsNot, cD, put, cut, see, sees, look, fz, fzs, fzV, fill, dLc, dSeqI, dRng1, dRng2, dEnum, dZip, dName, dgTup, dgCons, dgNil, dAsg, dCall, dCallS, stAll, mapSt_st, mapSt_no, mapSt_val, mapSt_ow, mapSt_scr, mapSt_ns, noSts, wipeS, dSl, dPart, dNoPart, fSl, dRev, dBM, mCount, mIndex, dStInt, dStTurn, dStPop, dStCells, dStPut, dStTurnPut, dLenScr, tyName, isTyN, isNone, isBool, toInts_ints, dInts_len, List.map_cons, List.map_nil, List.map_append, List.getElem?_cons_zero, List.getElem?_cons_succ, List.set_cons_zero, List.set_cons_succ, List.length_cons, List.length_nil, List.take_nil, List.take_zero, List.take_succ_cons, List.cons_append, List.nil_append, List.replicate_zero, List.replicate_succ, if_true, if_false, ite_true, ite_false, Bool.false_eq_true, Bool.not_true, Bool.not_false, reduceIte, Nat.zero_add, Nat.add_zero, Nat.reduceAdd, Nat.reduceSub, Nat.sub_self, decide_true, decide_false, true_and, and_true, List.length_map, dVs_len]
    refine ⟨by omega, by rw [rangeL_len]; omega, ?_⟩
    rw [rangeL0, Int.toNat_natCast]
    refine lc_filter _ (fun d : Nat => decide ((few c d : Int) ≤ m)) (fun d : Nat => .int (d : Int)) _ (fun d hd k3 h3 => ?_) ?_
    · rw [List.mem_range] at hd
      simp only [stepLc, den, initS, endB, dSeq, dSet, dPar, dRet, dRetN, dIfS, dDrop, dFor, dNext, dBreak, dCont, dNever, dRaise, dAug, fAddI, dAppend, dSetIx, dVar, dC, dOp, dUn, dCB, dNil, dCons, dLst, dTup, dTest, dAnd, dOr, dNot, dAndV, dOrV, dNotV, dIf, dChain, dIsi, dIsi2, dYes, fAdd, fSub, fMul, fDiv, fMod, fPow, fNeg, fIx, fLen, fMax, fMin, fSum, fSorted, fAbs, fInt, fList, fTuple, fRepr, gEq, gNe, gLt, gLe, gGt, gGe, gIn, gNotIn, gIs, gIsNot, cD, put, cut, see, sees, look, fz, fzs, fzV, fill, dLc, dSeqI, dRng1, dRng2, dEnum, dZip, dName, dgTup, dgCons, dgNil, dAsg, dCall, dCallS, stAll, mapSt_st, mapSt_no, mapSt_val, mapSt_ow, mapSt_scr, mapSt_ns, noSts, wipeS, dSl, dPart, dNoPart, fSl, dRev, dBM, mCount, mIndex, dStInt, dStTurn, dStPop, dStCells, dStPut, dStTurnPut, dLenScr, tyName, isTyN, isNone, isBool, toInts_ints, dInts_len, List.map_cons, List.map_nil, List.map_append, List.getElem?_cons_zero, List.getElem?_cons_succ, List.set_cons_zero, List.set_cons_succ, List.length_cons, List.length_nil, List.take_nil, List.take_zero, List.take_succ_cons, List.cons_append, List.nil_append, List.replicate_zero, List.replicate_succ, if_true, if_false, ite_true, ite_false, Bool.false_eq_true, Bool.not_true, Bool.not_false, reduceIte, Nat.zero_add, Nat.add_zero, Nat.reduceAdd, Nat.reduceSub, Nat.sub_self, decide_true, decide_false, true_and, and_true, List.length_map, ei d hd]
      by_cases q : (few c d : Int) ≤ m
      · simp only [q, den, initS, endB, dSeq, dSet, dPar, dRet, dRetN, dIfS, dDrop, dFor, dNext, dBreak, dCont, dNever, dRaise, dAug, fAddI, dAppend, dSetIx, dVar, dC, dOp, dUn, dCB, dNil, dCons, dLst, dTup, dTest, dAnd, dOr, dNot, dAndV, dOrV, dNotV, dIf, dChain, dIsi, dIsi2, dYes, fAdd, fSub, fMul, fDiv, fMod, fPow, fNeg, fIx, fLen, fMax, fMin, fSum, fSorted, fAbs, fInt, fList, fTuple, fRepr, gEq, gNe, gLt, gLe, gGt, gGe, gIn, gNotIn, gIs, gIsNot, cD, put, cut, see, sees, look, fz, fzs, fzV, fill, dLc, dSeqI, dRng1, dRng2, dEnum, dZip, dName, dgTup, dgCons, dgNil, dAsg, dCall, dCallS, stAll, mapSt_st, mapSt_no, mapSt_val, mapSt_ow, mapSt_scr, mapSt_ns, noSts, wipeS, dSl, dPart, dNoPart, fSl, dRev, dBM, mCount, mIndex, dStInt, dStTurn, dStPop, dStCells, dStPut, dStTurnPut, dLenScr, tyName, isTyN, isNone, isBool, toInts_ints, dInts_len, List.map_cons, List.map_nil, List.map_append, List.getElem?_cons_zero, List.getElem?_cons_succ, List.set_cons_zero, List.set_cons_succ, List.length_cons, List.length_nil, List.take_nil, List.take_zero, List.take_succ_cons, List.cons_append, List.nil_append, List.replicate_zero, List.replicate_succ, if_true, if_false, ite_true, ite_false, Bool.false_eq_true, Bool.not_true, Bool.not_false, reduceIte, Nat.zero_add, Nat.add_zero, Nat.reduceAdd, Nat.reduceSub, Nat.sub_self, decide_true, decide_false, true_and, and_true, List.length_map] at h3 ⊢
        exact h3
      · simp only [q, den, initS, endB, dSeq, dSet, dPar, dRet, dRetN, dIfS, dDrop, dFor, dNext, dBreak, dCont, dNever, dRaise, dAug, fAddI, dAppend, dSetIx, dVar, dC, dOp, dUn, dCB, dNil, dCons, dLst, dTup, dTest, dAnd, dOr, dNot, dAndV, dOrV, dNotV, dIf, dChain, dIsi, dIsi2, dYes, fAdd, fSub, fMul, fDiv, fMod, fPow, fNeg, fIx, fLen, fMax, fMin, fSum, fSorted, fAbs, fInt, fList, fTuple, fRepr, gEq, gNe, gLt, gLe, gGt, gGe, gIn, gNotIn, gIs, gIsNot, cD, put, cut, see, sees, look, fz, fzs, fzV, fill, dLc, dSeqI, dRng1, dRng2, dEnum, dZip, dName, dgTup, dgCons, dgNil, dAsg, dCall, dCallS, stAll, mapSt_st, mapSt_no, mapSt_val, mapSt_ow, mapSt_scr, mapSt_ns, noSts, wipeS, dSl, dPart, dNoPart, fSl, dRev, dBM, mCount, mIndex, dStInt, dStTurn, dStPop, dStCells, dStPut, dStTurnPut, dLenScr, tyName, isTyN, isNone, isBool, toInts_ints, dInts_len, List.map_cons, List.map_nil, List.map_append, List.getElem?_cons_zero, List.getElem?_cons_succ, List.set_cons_zero, List.set_cons_succ, List.length_cons, List.length_nil, List.take_nil, List.take_zero, List.take_succ_cons, List.cons_append, List.nil_append, List.replicate_zero, List.replicate_succ, if_true, if_false, ite_true, ite_false, Bool.false_eq_true, Bool.not_true, Bool.not_false, reduceIte, Nat.zero_add, Nat.add_zero, Nat.reduceAdd, Nat.reduceSub, Nat.sub_self, decide_true, decide_false, true_and, and_true, List.length_map] at h3 ⊢
        exact h3
    have hh := List.head?_filter (p := fun d : Nat => decide ((few c d : Int) ≤ m)) (l := List.range c.length)
    rw [hd] at hh
    cases ee : (List.range c.length).filter fun d : Nat => decide ((few c d : Int) ≤ m) with
    | nil => rw [ee] at hh; simp at hh
    | cons x r =>
      rw [ee] at hh
      simp at hh
      subst hh
      have hx : x < c.length := by
        have := List.mem_of_find?_eq_some hd
        simpa using this
      simp only [den, initS, endB, dSeq, dSet, dPar, dRet, dRetN, dIfS, dDrop, dFor, dNext, dBreak, dCont, dNever, dRaise, dAug, fAddI, dAppend, dSetIx, dVar, dC, dOp, dUn, dCB, dNil, dCons, dLst, dTup, dTest, dAnd, dOr, dNot, dAndV, dOrV, dNotV, dIf, dChain, dIsi, dIsi2, dYes, fAdd, fSub, fMul, fDiv, fMod, fPow, fNeg, fIx, fLen, fMax, fMin, fSum, fSorted, fAbs, fInt, fList, fTuple, fRepr, gEq, gNe, gLt, gLe, gGt, gGe, gIn, gNotIn, gIs, gIsNot, cD, put, cut, see, sees, look, fz, fzs, fzV, fill, dLc, dSeqI, dRng1, dRng2, dEnum, dZip, dName, dgTup, dgCons, dgNil, dAsg, dCall, dCallS, stAll, mapSt_st, mapSt_no, mapSt_val, mapSt_ow, mapSt_scr, mapSt_ns, noSts, wipeS, dSl, dPart, dNoPart, fSl, dRev, dBM, mCount, mIndex, dStInt, dStTurn, dStPop, dStCells, dStPut, dStTurnPut, dLenScr, tyName, isTyN, isNone, isBool, toInts_ints, dInts_len, List.map_cons, List.map_nil, List.map_append, List.getElem?_cons_zero, List.getElem?_cons_succ, List.set_cons_zero, List.set_cons_succ, List.length_cons, List.length_nil, List.take_nil, List.take_zero, List.take_succ_cons, List.cons_append, List.nil_append, List.replicate_zero, List.replicate_succ, if_true, if_false, ite_true, ite_false, Bool.false_eq_true, Bool.not_true, Bool.not_false, reduceIte, Nat.zero_add, Nat.add_zero, Nat.reduceAdd, Nat.reduceSub, Nat.sub_self, decide_true, decide_false, true_and, and_true, List.length_map, atI_zero]
      refine h2 _ ?_
      simp only [T_least_delay, T__law_is, den, initS, endB, dSeq, dSet, dPar, dRet, dRetN, dIfS, dDrop, dFor, dNext, dBreak, dCont, dNever, dRaise, dAug, fAddI, dAppend, dSetIx, dVar, dC, dOp, dUn, dCB, dNil, dCons, dLst, dTup, dTest, dAnd, dOr, dNot, dAndV, dOrV, dNotV, dIf, dChain, dIsi, dIsi2, dYes, fAdd, fSub, fMul, fDiv, fMod, fPow, fNeg, fIx, fLen, fMax, fMin, fSum, fSorted, fAbs, fInt, fList, fTuple, fRepr, gEq, gNe, gLt, gLe, gGt, gGe, gIn, gNotIn, gIs, gIsNot, cD, put, cut, see, sees, look, fz, fzs, fzV, fill, dLc, dSeqI, dRng1, dRng2, dEnum, dZip, dName, dgTup, dgCons, dgNil, dAsg, dCall, dCallS, stAll, mapSt_st, mapSt_no, mapSt_val, mapSt_ow, mapSt_scr, mapSt_ns, noSts, wipeS, dSl, dPart, dNoPart, fSl, dRev, dBM, mCount, mIndex, dStInt, dStTurn, dStPop, dStCells, dStPut, dStTurnPut, dLenScr, tyName, isTyN, isNone, isBool, toInts_ints, dInts_len, List.map_cons, List.map_nil, List.map_append, List.getElem?_cons_zero, List.getElem?_cons_succ, List.set_cons_zero, List.set_cons_succ, List.length_cons, List.length_nil, List.take_nil, List.take_zero, List.take_succ_cons, List.cons_append, List.nil_append, List.replicate_zero, List.replicate_succ, if_true, if_false, ite_true, ite_false, Bool.false_eq_true, Bool.not_true, Bool.not_false, reduceIte, Nat.zero_add, Nat.add_zero, Nat.reduceAdd, Nat.reduceSub, Nat.sub_self, decide_true, decide_false, true_and, and_true, List.length_map]
      exact ⟨c, m, x, rfl, hc, m01.1, m01.2, hd, _, rfl, nice_int ⟨by omega, by omega⟩, hk' _ ⟨_, _, _, rfl⟩⟩
  · obtain ⟨y3, y4, y5, rfl⟩ := hs
    refine h1 _ ?_
    simp only [den, initS, endB, dSeq, dSet, dPar, dRet, dRetN, dIfS, dDrop, dFor, dNext, dBreak, dCont, dNever, dRaise, dAug, fAddI, dAppend, dSetIx, dVar, dC, dOp, dUn, dCB, dNil, dCons, dLst, dTup, dTest, dAnd, dOr, dNot, dAndV, dOrV, dNotV, dIf, dChain, dIsi, dIsi2, dYes, fAdd, fSub, fMul, fDiv, fMod, fPow, fNeg, fIx, fLen, fMax, fMin, fSum, fSorted, fAbs, fInt, fList, fTuple, fRepr, gEq, gNe, gLt, gLe, gGt, gGe, gIn, gNotIn, gIs, gIsNot, cD, put, cut, see, sees, look, fz, fzs, fzV, fill, dLc, dSeqI, dRng1, dRng2, dEnum, dZip, dName, dgTup, dgCons, dgNil, dAsg, dCall, dCallS, stAll, mapSt_st, mapSt_no, mapSt_val, mapSt_ow, mapSt_scr, mapSt_ns, noSts, wipeS, dSl, dPart, dNoPart, fSl, dRev, dBM, mCount, mIndex, dStInt, dStTurn, dStPop, dStCells, dStPut, dStTurnPut, dLenScr, tyName, isTyN, isNone, isBool, toInts_ints, dInts_len, List.map_cons, List.map_nil, List.map_append, List.getElem?_cons_zero, List.getElem?_cons_succ, List.set_cons_zero, List.set_cons_succ, List.length_cons, List.length_nil, List.take_nil, List.take_zero, List.take_succ_cons, List.cons_append, List.nil_append, List.replicate_zero, List.replicate_succ, if_true, if_false, ite_true, ite_false, Bool.false_eq_true, Bool.not_true, Bool.not_false, reduceIte, Nat.zero_add, Nat.add_zero, Nat.reduceAdd, Nat.reduceSub, Nat.sub_self, decide_true, decide_false, true_and, and_true, List.length_map, dVs_len]
    refine ⟨by omega, by rw [rangeL_len]; omega, ?_⟩
    rw [rangeL0, Int.toNat_natCast]
    refine lc_filter _ (fun _ => false) (fun _ => .int 1) _ (fun d hd k3 h3 => ?_) ?_
    · rw [List.mem_range] at hd
      simp only [stepLc, T_fewest_changes, den, initS, endB, dSeq, dSet, dPar, dRet, dRetN, dIfS, dDrop, dFor, dNext, dBreak, dCont, dNever, dRaise, dAug, fAddI, dAppend, dSetIx, dVar, dC, dOp, dUn, dCB, dNil, dCons, dLst, dTup, dTest, dAnd, dOr, dNot, dAndV, dOrV, dNotV, dIf, dChain, dIsi, dIsi2, dYes, fAdd, fSub, fMul, fDiv, fMod, fPow, fNeg, fIx, fLen, fMax, fMin, fSum, fSorted, fAbs, fInt, fList, fTuple, fRepr, gEq, gNe, gLt, gLe, gGt, gGe, gIn, gNotIn, gIs, gIsNot, cD, put, cut, see, sees, look, fz, fzs, fzV, fill, dLc, dSeqI, dRng1, dRng2, dEnum, dZip, dName, dgTup, dgCons, dgNil, dAsg, dCall, dCallS, stAll, mapSt_st, mapSt_no, mapSt_val, mapSt_ow, mapSt_scr, mapSt_ns, noSts, wipeS, dSl, dPart, dNoPart, fSl, dRev, dBM, mCount, mIndex, dStInt, dStTurn, dStPop, dStCells, dStPut, dStTurnPut, dLenScr, tyName, isTyN, isNone, isBool, toInts_ints, dInts_len, List.map_cons, List.map_nil, List.map_append, List.getElem?_cons_zero, List.getElem?_cons_succ, List.set_cons_zero, List.set_cons_succ, List.length_cons, List.length_nil, List.take_nil, List.take_zero, List.take_succ_cons, List.cons_append, List.nil_append, List.replicate_zero, List.replicate_succ, if_true, if_false, ite_true, ite_false, Bool.false_eq_true, Bool.not_true, Bool.not_false, reduceIte, Nat.zero_add, Nat.add_zero, Nat.reduceAdd, Nat.reduceSub, Nat.sub_self, decide_true, decide_false, true_and, and_true, List.length_map, ei d hd, eqv_int]
      exact ⟨c, d, rfl, hc, by omega, shaped_int _, shaped_int _, by simpa using h3⟩
    · simp only [filter_no, List.map_nil, eqv_nil, List.isEmpty_nil, den, initS, endB, dSeq, dSet, dPar, dRet, dRetN, dIfS, dDrop, dFor, dNext, dBreak, dCont, dNever, dRaise, dAug, fAddI, dAppend, dSetIx, dVar, dC, dOp, dUn, dCB, dNil, dCons, dLst, dTup, dTest, dAnd, dOr, dNot, dAndV, dOrV, dNotV, dIf, dChain, dIsi, dIsi2, dYes, fAdd, fSub, fMul, fDiv, fMod, fPow, fNeg, fIx, fLen, fMax, fMin, fSum, fSorted, fAbs, fInt, fList, fTuple, fRepr, gEq, gNe, gLt, gLe, gGt, gGe, gIn, gNotIn, gIs, gIsNot, cD, put, cut, see, sees, look, fz, fzs, fzV, fill, dLc, dSeqI, dRng1, dRng2, dEnum, dZip, dName, dgTup, dgCons, dgNil, dAsg, dCall, dCallS, stAll, mapSt_st, mapSt_no, mapSt_val, mapSt_ow, mapSt_scr, mapSt_ns, noSts, wipeS, dSl, dPart, dNoPart, fSl, dRev, dBM, mCount, mIndex, dStInt, dStTurn, dStPop, dStCells, dStPut, dStTurnPut, dLenScr, tyName, isTyN, isNone, isBool, toInts_ints, dInts_len, List.map_cons, List.map_nil, List.map_append, List.getElem?_cons_zero, List.getElem?_cons_succ, List.set_cons_zero, List.set_cons_succ, List.length_cons, List.length_nil, List.take_nil, List.take_zero, List.take_succ_cons, List.cons_append, List.nil_append, List.replicate_zero, List.replicate_succ, if_true, if_false, ite_true, ite_false, Bool.false_eq_true, Bool.not_true, Bool.not_false, reduceIte, Nat.zero_add, Nat.add_zero, Nat.reduceAdd, Nat.reduceSub, Nat.sub_self, decide_true, decide_false, true_and, and_true, List.length_map]
      exact ⟨Nat.zero_le _, shaped_ints [], shaped_ints [], hk⟩

abbrev nn_law : Nat := 5
-- 0:script 1:state 2:turn 3:apart 4:at
def B_law : (String → Prop) → DSt := fun kx => (dSeq (dFor (dRng1 (dCons (dOp fAdd (dC (.int 3)) (dCB fMin (dCons (dLenScr 0) (dCons (dC (.int 5)) dNil)))) dNil)) (dName 2) (dIfS (dNot (dTest (dCall 1 T__law_stair_right (fun _ => False) (dCons (dCallS 1 1 T__law_some_course (fun _ => False) (dCons (dCallS 1 1 T__law_pick (fun _ => False) (dCons (dLst (dCons (dC (.int 5)) (dCons (dC (.int 12)) (dCons (dC (.int 24)) dNil)))) dNil)) dNil)) dNil)))) (dRet (dC (.bool false))) dNext)) (dSeq (dSet 3 (dLc (dRng1 (dCons (dOp fAdd (dC (.int 2)) (dCallS 1 1 T__law_draw (fun _ => False) (dCons (dC (.int 12)) dNil))) dNil)) (dName 4) dYes (dOp fAdd (dCallS 1 1 T__law_draw (fun _ => False) (dCons (dC (.int 5)) dNil)) (dOp fMul (dC (.int 5)) (dVar 4))) [4])) (dRet (dAndV (dCall 1 T__law_stair_right (fun _ => False) (dCons (dVar 3) dNil)) (dAndV (dCall 1 T__law_stair_right (fun _ => False) (dCons (dOp fAdd (dVar 3) (dRev (dSl (dVar 3) dNoPart (dPart (dUn fNeg (dC (.int 1))))))) dNil)) (dCall 1 T__law_stair_right (fun _ => False) (dCons (dSl (dOp fMul (dSl (dVar 3) dNoPart (dPart (dC (.int 3)))) (dC (.int 24))) dNoPart (dPart (dC (.int 24)))) dNil)))))))
theorem ints_vs (ns : List Int) : dInts ns = dVs (ns.map .int) := by
  rw [dInts, dVs, List.map_map]
  rfl
theorem okc_ints {ns : List Int} (h1 : 1 ≤ ns.length) (h2 : ns.length ≤ 120) (h : ∀ n ∈ ns, 0 ≤ n ∧ n ≤ 1000) : OkC (ns.map .int) := ⟨by simpa using h1, by simpa using h2, fun v hv => by
  obtain ⟨n, hn, rfl⟩ := List.mem_map.mp hv
  have := h n hn
  show n.natAbs < 2 ^ 110
  omega⟩
theorem law_true : ∀ n : Nat, n ≤ 63 → B_law (fun _ => False) ⟨fun _ => False, fun d _ => d = .bool true, fun _ => False, fun _ => False⟩ (lawS n nn_law) := fun n hn => by
  have sz : sizeLine = 2 ^ 24 := rfl
  have e0 : lawS n nn_law = [.scr n, .st 0, .no, .no, .no] := rfl
  rw [e0]
  unfold B_law
  refine seq_toP (fun t => ∃ (B : Int) (y2 : Sl), 0 ≤ B ∧ B ≤ 100000 ∧ t = [.scr n, .st B, ns y2, .no, .no]) (fun k' hk' => ?_) fun t ht => ?_
  · simp only [dFor, den, initS, endB, dSeq, dSet, dPar, dRet, dRetN, dIfS, dDrop, dFor, dNext, dBreak, dCont, dNever, dRaise, dAug, fAddI, dAppend, dSetIx, dVar, dC, dOp, dUn, dCB, dNil, dCons, dLst, dTup, dTest, dAnd, dOr, dNot, dAndV, dOrV, dNotV, dIf, dChain, dIsi, dIsi2, dYes, fAdd, fSub, fMul, fDiv, fMod, fPow, fNeg, fIx, fLen, fMax, fMin, fSum, fSorted, fAbs, fInt, fList, fTuple, fRepr, gEq, gNe, gLt, gLe, gGt, gGe, gIn, gNotIn, gIs, gIsNot, cD, put, cut, see, sees, look, fz, fzs, fzV, fill, dLc, dSeqI, dRng1, dRng2, dEnum, dZip, dName, dgTup, dgCons, dgNil, dAsg, dCall, dCallS, stAll, mapSt_st, mapSt_no, mapSt_val, mapSt_ow, mapSt_scr, mapSt_ns, noSts, wipeS, dSl, dPart, dNoPart, fSl, dRev, dBM, mCount, mIndex, dStInt, dStTurn, dStPop, dStCells, dStPut, dStTurnPut, dLenScr, tyName, isTyN, isNone, isBool, toInts_ints, dInts_len, List.map_cons, List.map_nil, List.map_append, List.getElem?_cons_zero, List.getElem?_cons_succ, List.set_cons_zero, List.set_cons_succ, List.length_cons, List.length_nil, List.take_nil, List.take_zero, List.take_succ_cons, List.cons_append, List.nil_append, List.replicate_zero, List.replicate_succ, if_true, if_false, ite_true, ite_false, Bool.false_eq_true, Bool.not_true, Bool.not_false, reduceIte, Nat.zero_add, Nat.add_zero, Nat.reduceAdd, Nat.reduceSub, Nat.sub_self, decide_true, decide_false, true_and, and_true, List.length_map]
    refine ⟨by omega, ?_⟩
    refine for_range 0 _ (fun t s => ∃ (B : Int) (y2 : Sl), 0 ≤ B ∧ B ≤ 1000 * t ∧ s = [.scr n, .st B, ns y2, .no, .no]) ⟨0, .no, by omega, by omega, rfl⟩ (fun t ht s hs k b hk => ?_) fun s hs => ?_
    · obtain ⟨B, y2, b1, b2, rfl⟩ := hs
      simp only [T__law_stair_right, T__law_some_course, T__law_pick, den, initS, endB, dSeq, dSet, dPar, dRet, dRetN, dIfS, dDrop, dFor, dNext, dBreak, dCont, dNever, dRaise, dAug, fAddI, dAppend, dSetIx, dVar, dC, dOp, dUn, dCB, dNil, dCons, dLst, dTup, dTest, dAnd, dOr, dNot, dAndV, dOrV, dNotV, dIf, dChain, dIsi, dIsi2, dYes, fAdd, fSub, fMul, fDiv, fMod, fPow, fNeg, fIx, fLen, fMax, fMin, fSum, fSorted, fAbs, fInt, fList, fTuple, fRepr, gEq, gNe, gLt, gLe, gGt, gGe, gIn, gNotIn, gIs, gIsNot, cD, put, cut, see, sees, look, fz, fzs, fzV, fill, dLc, dSeqI, dRng1, dRng2, dEnum, dZip, dName, dgTup, dgCons, dgNil, dAsg, dCall, dCallS, stAll, mapSt_st, mapSt_no, mapSt_val, mapSt_ow, mapSt_scr, mapSt_ns, noSts, wipeS, dSl, dPart, dNoPart, fSl, dRev, dBM, mCount, mIndex, dStInt, dStTurn, dStPop, dStCells, dStPut, dStTurnPut, dLenScr, tyName, isTyN, isNone, isBool, toInts_ints, dInts_len, List.map_cons, List.map_nil, List.map_append, List.getElem?_cons_zero, List.getElem?_cons_succ, List.set_cons_zero, List.set_cons_succ, List.length_cons, List.length_nil, List.take_nil, List.take_zero, List.take_succ_cons, List.cons_append, List.nil_append, List.replicate_zero, List.replicate_succ, if_true, if_false, ite_true, ite_false, Bool.false_eq_true, Bool.not_true, Bool.not_false, reduceIte, Nat.zero_add, Nat.add_zero, Nat.reduceAdd, Nat.reduceSub, Nat.sub_self, decide_true, decide_false, true_and, and_true, List.length_map]
      refine ⟨by omega, _, rfl, b1, by omega, by simp, by simp, fun d hd => ?_⟩
      have hd2 : ∃ m : Nat, d = .int (m : Int) ∧ 1 ≤ m ∧ m ≤ 24 := by
        simp at hd
        rcases hd with rfl | rfl | rfl
        · exact ⟨5, rfl, by omega, by omega⟩
        · exact ⟨12, rfl, by omega, by omega⟩
        · exact ⟨24, rfl, by omega, by omega⟩
      obtain ⟨m, rfl, m1, m2⟩ := hd2
      refine ⟨m, rfl, by omega, by omega, by omega, by omega, fun c cl ck => ⟨c, rfl, ck, by omega, ?_⟩⟩
      exact hk _ ⟨_, .val _, by omega, by omega, rfl⟩
    · obtain ⟨B, y2, b1, b2, rfl⟩ := hs
      exact hk' _ ⟨B, y2, b1, by omega, rfl⟩
  · obtain ⟨B, y2, b1, b2, rfl⟩ := ht
    refine sq fun k1 h1 => ?_
    simp only [T__law_draw, den, initS, endB, dSeq, dSet, dPar, dRet, dRetN, dIfS, dDrop, dFor, dNext, dBreak, dCont, dNever, dRaise, dAug, fAddI, dAppend, dSetIx, dVar, dC, dOp, dUn, dCB, dNil, dCons, dLst, dTup, dTest, dAnd, dOr, dNot, dAndV, dOrV, dNotV, dIf, dChain, dIsi, dIsi2, dYes, fAdd, fSub, fMul, fDiv, fMod, fPow, fNeg, fIx, fLen, fMax, fMin, fSum, fSorted, fAbs, fInt, fList, fTuple, fRepr, gEq, gNe, gLt, gLe, gGt, gGe, gIn, gNotIn, gIs, gIsNot, cD, put, cut, see, sees, look, fz, fzs, fzV, fill, dLc, dSeqI, dRng1, dRng2, dEnum, dZip, dName, dgTup, dgCons, dgNil, dAsg, dCall, dCallS, stAll, mapSt_st, mapSt_no, mapSt_val, mapSt_ow, mapSt_scr, mapSt_ns, noSts, wipeS, dSl, dPart, dNoPart, fSl, dRev, dBM, mCount, mIndex, dStInt, dStTurn, dStPop, dStCells, dStPut, dStTurnPut, dLenScr, tyName, isTyN, isNone, isBool, toInts_ints, dInts_len, List.map_cons, List.map_nil, List.map_append, List.getElem?_cons_zero, List.getElem?_cons_succ, List.set_cons_zero, List.set_cons_succ, List.length_cons, List.length_nil, List.take_nil, List.take_zero, List.take_succ_cons, List.cons_append, List.nil_append, List.replicate_zero, List.replicate_succ, if_true, if_false, ite_true, ite_false, Bool.false_eq_true, Bool.not_true, Bool.not_false, reduceIte, Nat.zero_add, Nat.add_zero, Nat.reduceAdd, Nat.reduceSub, Nat.sub_self, decide_true, decide_false, true_and, and_true, List.length_map]
    refine ⟨12, rfl, by omega, by omega, by omega, by omega, fun q q0 q1 => ⟨⟨by omega, by omega⟩, by rw [rangeL_len]; omega, ?_⟩⟩
    refine lc_draw (fun B => [.scr n, .st B, ns y2, .no, .no]) (fun x => 0 ≤ x ∧ x ≤ 1000) _ (B + 1) (fun d hd B' c1 c2 k3 h3 => ?_) fun ns hl hm => ?_
    · rw [rangeL_len] at c2
      rw [rangeL0] at hd
      obtain ⟨i, hi, rfl⟩ := List.mem_map.mp hd
      rw [List.mem_range] at hi
      simp only [stepLc, T__law_draw, den, initS, endB, dSeq, dSet, dPar, dRet, dRetN, dIfS, dDrop, dFor, dNext, dBreak, dCont, dNever, dRaise, dAug, fAddI, dAppend, dSetIx, dVar, dC, dOp, dUn, dCB, dNil, dCons, dLst, dTup, dTest, dAnd, dOr, dNot, dAndV, dOrV, dNotV, dIf, dChain, dIsi, dIsi2, dYes, fAdd, fSub, fMul, fDiv, fMod, fPow, fNeg, fIx, fLen, fMax, fMin, fSum, fSorted, fAbs, fInt, fList, fTuple, fRepr, gEq, gNe, gLt, gLe, gGt, gGe, gIn, gNotIn, gIs, gIsNot, cD, put, cut, see, sees, look, fz, fzs, fzV, fill, dLc, dSeqI, dRng1, dRng2, dEnum, dZip, dName, dgTup, dgCons, dgNil, dAsg, dCall, dCallS, stAll, mapSt_st, mapSt_no, mapSt_val, mapSt_ow, mapSt_scr, mapSt_ns, noSts, wipeS, dSl, dPart, dNoPart, fSl, dRev, dBM, mCount, mIndex, dStInt, dStTurn, dStPop, dStCells, dStPut, dStTurnPut, dLenScr, tyName, isTyN, isNone, isBool, toInts_ints, dInts_len, List.map_cons, List.map_nil, List.map_append, List.getElem?_cons_zero, List.getElem?_cons_succ, List.set_cons_zero, List.set_cons_succ, List.length_cons, List.length_nil, List.take_nil, List.take_zero, List.take_succ_cons, List.cons_append, List.nil_append, List.replicate_zero, List.replicate_succ, if_true, if_false, ite_true, ite_false, Bool.false_eq_true, Bool.not_true, Bool.not_false, reduceIte, Nat.zero_add, Nat.add_zero, Nat.reduceAdd, Nat.reduceSub, Nat.sub_self, decide_true, decide_false, true_and, and_true, List.length_map]
      exact ⟨5, rfl, by omega, by omega, by omega, by omega, fun m m0 m1 => ⟨.inr ⟨by omega, by omega⟩, h3 _ ⟨by omega, by omega⟩⟩⟩
    · rw [rangeL_len] at hl
      simp only [den, initS, endB, dSeq, dSet, dPar, dRet, dRetN, dIfS, dDrop, dFor, dNext, dBreak, dCont, dNever, dRaise, dAug, fAddI, dAppend, dSetIx, dVar, dC, dOp, dUn, dCB, dNil, dCons, dLst, dTup, dTest, dAnd, dOr, dNot, dAndV, dOrV, dNotV, dIf, dChain, dIsi, dIsi2, dYes, fAdd, fSub, fMul, fDiv, fMod, fPow, fNeg, fIx, fLen, fMax, fMin, fSum, fSorted, fAbs, fInt, fList, fTuple, fRepr, gEq, gNe, gLt, gLe, gGt, gGe, gIn, gNotIn, gIs, gIsNot, cD, put, cut, see, sees, look, fz, fzs, fzV, fill, dLc, dSeqI, dRng1, dRng2, dEnum, dZip, dName, dgTup, dgCons, dgNil, dAsg, dCall, dCallS, stAll, mapSt_st, mapSt_no, mapSt_val, mapSt_ow, mapSt_scr, mapSt_ns, noSts, wipeS, dSl, dPart, dNoPart, fSl, dRev, dBM, mCount, mIndex, dStInt, dStTurn, dStPop, dStCells, dStPut, dStTurnPut, dLenScr, tyName, isTyN, isNone, isBool, toInts_ints, dInts_len, List.map_cons, List.map_nil, List.map_append, List.getElem?_cons_zero, List.getElem?_cons_succ, List.set_cons_zero, List.set_cons_succ, List.length_cons, List.length_nil, List.take_nil, List.take_zero, List.take_succ_cons, List.cons_append, List.nil_append, List.replicate_zero, List.replicate_succ, if_true, if_false, ite_true, ite_false, Bool.false_eq_true, Bool.not_true, Bool.not_false, reduceIte, Nat.zero_add, Nat.add_zero, Nat.reduceAdd, Nat.reduceSub, Nat.sub_self, decide_true, decide_false, true_and, and_true, List.length_map]
      refine h1 _ ?_
      have l1 : 2 ≤ ns.length := by omega
      have l2 : ns.length ≤ 13 := by omega
      simp only [T__law_stair_right, den, initS, endB, dSeq, dSet, dPar, dRet, dRetN, dIfS, dDrop, dFor, dNext, dBreak, dCont, dNever, dRaise, dAug, fAddI, dAppend, dSetIx, dVar, dC, dOp, dUn, dCB, dNil, dCons, dLst, dTup, dTest, dAnd, dOr, dNot, dAndV, dOrV, dNotV, dIf, dChain, dIsi, dIsi2, dYes, fAdd, fSub, fMul, fDiv, fMod, fPow, fNeg, fIx, fLen, fMax, fMin, fSum, fSorted, fAbs, fInt, fList, fTuple, fRepr, gEq, gNe, gLt, gLe, gGt, gGe, gIn, gNotIn, gIs, gIsNot, cD, put, cut, see, sees, look, fz, fzs, fzV, fill, dLc, dSeqI, dRng1, dRng2, dEnum, dZip, dName, dgTup, dgCons, dgNil, dAsg, dCall, dCallS, stAll, mapSt_st, mapSt_no, mapSt_val, mapSt_ow, mapSt_scr, mapSt_ns, noSts, wipeS, dSl, dPart, dNoPart, fSl, dRev, dBM, mCount, mIndex, dStInt, dStTurn, dStPop, dStCells, dStPut, dStTurnPut, dLenScr, tyName, isTyN, isNone, isBool, toInts_ints, dInts_len, List.map_cons, List.map_nil, List.map_append, List.getElem?_cons_zero, List.getElem?_cons_succ, List.set_cons_zero, List.set_cons_succ, List.length_cons, List.length_nil, List.take_nil, List.take_zero, List.take_succ_cons, List.cons_append, List.nil_append, List.replicate_zero, List.replicate_succ, if_true, if_false, ite_true, ite_false, Bool.false_eq_true, Bool.not_true, Bool.not_false, reduceIte, Nat.zero_add, Nat.add_zero, Nat.reduceAdd, Nat.reduceSub, Nat.sub_self, decide_true, decide_false, true_and, and_true, List.length_map]
      have x3 : (some (3 : Int)) = some ((3 : Nat) : Int) := rfl
      have x24 : (some (24 : Int)) = some ((24 : Nat) : Int) := rfl
      refine ⟨ns.map .int, by rw [ints_vs], okc_ints (by omega) (by omega) hm, by simp; omega, ?_⟩
      have c1 : cutL (dInts ns) none (some (-1)) = dInts ns.dropLast := by
        have e1 : HT.sIx (dInts ns).length (dInts ns).length (some (-1)) = ns.length - 1 := by
          show (if (-1 : Int) < 0 then ((-1 : Int) + ((dInts ns).length : Int)).toNat else min (-1 : Int).toNat (dInts ns).length) = _
          rw [if_pos (by decide), dInts_len]
          omega
        have e2 : HT.sIx (dInts ns).length 0 none = 0 := rfl
        unfold cutL
        rw [e1, e2, List.drop_zero, Nat.sub_zero, dInts_take, List.dropLast_eq_take]
      rw [c1, dInts_rev, dInts_app, x3, x24, cutL_to, cutL_to, dInts_take]
      have lr : ns.dropLast.reverse.length = ns.length - 1 := by simp
      refine ⟨by rw [dInts_len, lr]; omega, (ns ++ ns.dropLast.reverse).map .int, by rw [ints_vs], okc_ints (by simp; omega) (by simp; omega) (fun x hx => ?_), by simp; omega, ?_⟩
      · rcases List.mem_append.mp hx with hx | hx
        · exact hm x hx
        · exact hm x (List.dropLast_subset ns (by simpa using hx))
      have l3 : (ns.take 3).length ≤ 3 ∧ 1 ≤ (ns.take 3).length := by
        rw [List.length_take]
        omega
      have e24 : (List.replicate (24 : Int).toNat (dInts (ns.take 3))).flatten = dInts (List.replicate 24 (ns.take 3)).flatten := by
        simp [dInts]
      rw [e24, dInts_take]
      refine ⟨by decide, by decide, by rw [dInts_len]; simp; omega, ((List.replicate 24 (ns.take 3)).flatten.take 24).map .int, by rw [ints_vs], okc_ints (by simp; omega) (by simp; omega) (fun x hx => ?_), by simp; omega⟩
      · have hx := List.mem_of_mem_take hx
        rw [List.mem_flatten] at hx
        obtain ⟨l, hl, hx⟩ := hx
        rw [(List.mem_replicate.mp hl).2] at hx
        exact hm x (List.mem_of_mem_take hx)

end k62


namespace k62
open PySem PySem.Spec L2 DL
def top (i : Nat) : Stmt := PySem.Challenge.pw_riverknown_k62_whole_stairs_of_delays.main.body.getD i (.Pass ⟨0, 0, 0, 0⟩)
abbrev FnP (K : PySem.W.Frag) (x : Str) (st : Stmt) (f : Addr) (fd : FuncData) : Prop := FunD K x x (defArgs st) (defBody st) (defScope st) [] [] f fd

structure Glob (K : PySem.W.Frag) (mg : Str → Option Value) (cls : String → Addr) : Prop where
  f_abs : mg "abs" = none
  f_bool : mg "bool" = none
  f_dict : mg "dict" = none
  f_enumerate : mg "enumerate" = none
  f_int : mg "int" = none
  f_isinstance : mg "isinstance" = none
  f_len : mg "len" = none
  f_list : mg "list" = none
  f_max : mg "max" = none
  f_min : mg "min" = none
  f_range : mg "range" = none
  f_repr : mg "repr" = none
  f_str : mg "str" = none
  f_tuple : mg "tuple" = none
  f_zip : mg "zip" = none
  i_MOST_COURSES : ∃ u, mg "MOST_COURSES" = some u ∧ RelV (.int 6) u
  i_MOST_DELAY : ∃ u, mg "MOST_DELAY" = some u ∧ RelV (.int 200) u
  i_MOST_VALUES : ∃ u, mg "MOST_VALUES" = some u ∧ RelV (.int 120) u
  x_NoAsk : XcF K mg "NoAsk" (cls "NoAsk")
section
variable {P : Program} {w : World} {K : PySem.W.Frag} {mg : Str → Option Value} {base : Heap} {cls : String → Addr} {f : Addr} {fd : FuncData}
abbrev S_is_whole : Stmt := top 7
abbrev N_is_whole : List Str := ["thing"]
theorem sc_is_whole : FnScope N_is_whole ["thing"] (defScope S_is_whole) := ⟨rfl, rfl, rfl, by decide +kernel, rfl, by decide +kernel, by decide +kernel⟩
theorem ok_is_whole (G : Glob K mg cls)  (F : FnP K "is_whole" S_is_whole f fd) : FnG P w K mg base 1 f fd ["thing"] (spD K cls false 1 T_is_whole) := by
  refine fnD F sc_is_whole rfl B_is_whole imp_is_whole fun cdv A outer s H E hr hgd => ⟨_, (pss_one (ps_ret (pe_and (pe_callB (k_isi (K := K) rfl) rfl G.f_isinstance bt_isi (pa_cons (pv 0) (pa_cons (pe_bltn (v := .ty "int") rfl G.f_int bt_int rfl) pa_nil))) (pe_one (pe_not (pe_callB (k_isi (K := K) rfl) rfl G.f_isinstance bt_isi (pa_cons (pv 0) (pa_cons (pe_bltn (v := .ty "bool") rfl G.f_bool bt_bool rfl) pa_nil)))))))), fun Fr kx hx => ?_⟩
  exact (drs_ret (dr_andV (dr_isi (T := "int") (by decide) (dr_var 0)) (dr_notV (dr_isi (T := "bool") (by decide) (dr_var 0)))))
abbrev S_is_value : Stmt := top 8
abbrev N_is_value : List Str := ["thing", "one"]
theorem sc_is_value : FnScope N_is_value ["thing"] (defScope S_is_value) := ⟨rfl, rfl, rfl, by decide +kernel, rfl, by decide +kernel, by decide +kernel⟩
theorem ok_is_value (G : Glob K mg cls) (c_is_whole : CalG P w K mg base 1 "is_whole" ["thing"] (spD K cls false 1 T_is_whole)) (F : FnP K "is_value" S_is_value f fd) : FnG P w K mg base 2 f fd ["thing"] (spD K cls false 1 T_is_value) := by
  refine fnD F sc_is_value rfl B_is_value imp_is_value fun cdv A outer s H E hr hgd => ⟨_, (pss_cons (ps_if (PW.pt (pw_or (pt_cmpR op_isD (pv 0) pe_non (by first | exact nomark _ | rfl)) (pw_or1 (pt_val (pe_cg c_is_whole hr (by decide) hgd rfl passL (pa_cons (pv 0) pa_nil)))))) (pss_one (ps_ret pe_bl)) pss_nil) (pss_one (ps_ret (pe_and (pe_callB (k_isi (K := K) rfl) rfl G.f_isinstance bt_isi (pa_cons (pv 0) (pa_cons (pe_bltn (v := .ty "tuple") rfl G.f_tuple bt_tuple rfl) pa_nil))) (pe_one (pe_cmpR (k_eq (K := K) rfl hr) (pe_lc (own := [("one", 1)]) (g := (gName 1)) rfl sc_is_value.nd (pi_seqK (K := K) rfl (pv 0)) (blkOk_by (N := N_is_value) (sc := defScope S_is_value) (own := [("one", 1)]) (by decide +kernel)) (fun _ _ _ _ _ => (pg_name (i := 1) sc_is_value.nd rfl (by first | exact Or.inl rfl | exact Or.inr rfl))) (fun _ _ _ _ _ => (pts_one (pt_not (pt_val (pe_cg c_is_whole hr (by decide) hgd rfl passL (pa_cons (pv 1) pa_nil)))))) (fun _ _ _ _ _ => (pv 1))) (pe_lst pa_nil) (by first | exact nomark _ | rfl))))))), fun Fr kx hx => ?_⟩
  exact (drs_seq (drs_if (drt_or (drt_test (dr_op cm_is.op (dr_var 0) dr_non)) (drt_B (dr_call XOk.none (dra_cons (dr_var 0) dra_nil)))) (drs_ret dr_bl) drs_next) (drs_ret (dr_andV (dr_isi (T := "tuple") (by decide) (dr_var 0)) (dr_op cm_eq.op (dr_lc (dri_seq (dr_var 0)) drg_name (blk_name (by decide)) (fun F => (drt_not (drt_B (dr_call XOk.none (dra_cons (dr_var 1) dra_nil))))) (fun F => (dr_var 1))) (dr_lst dra_nil)))))
abbrev S_is_course : Stmt := top 9
abbrev N_is_course : List Str := ["thing", "value"]
theorem sc_is_course : FnScope N_is_course ["thing"] (defScope S_is_course) := ⟨rfl, rfl, rfl, by decide +kernel, rfl, by decide +kernel, by decide +kernel⟩
theorem ok_is_course (G : Glob K mg cls) (c_is_value : CalG P w K mg base 2 "is_value" ["thing"] (spD K cls false 1 T_is_value)) (F : FnP K "is_course" S_is_course f fd) : FnG P w K mg base 3 f fd ["thing"] (spD K cls false 1 T_is_course) := by
  refine fnD F sc_is_course rfl B_is_course imp_is_course fun cdv A outer s H E hr hgd => ⟨_, (pss_cons (ps_if (PW.pt (pw_or (pt_not (pt_val (pe_callB (k_isi (K := K) rfl) rfl G.f_isinstance bt_isi (pa_cons (pv 0) (pa_cons (pe_bltn (v := .ty "list") rfl G.f_list bt_list rfl) pa_nil))))) (pw_or1 (pt_not (pt_chain op_le op_le pe_int (pe_callB (k_len (K := K) rfl) rfl G.f_len bt_len (pa_cons (pv 0) pa_nil)) (pe_gk rfl G.i_MOST_VALUES)))))) (pss_one (ps_ret pe_bl)) pss_nil) (pss_one (ps_ret (pe_cmpR (k_eq (K := K) rfl hr) (pe_lc (own := [("value", 1)]) (g := (gName 1)) rfl sc_is_course.nd (pi_seqK (K := K) rfl (pv 0)) (blkOk_by (N := N_is_course) (sc := defScope S_is_course) (own := [("value", 1)]) (by decide +kernel)) (fun _ _ _ _ _ => (pg_name (i := 1) sc_is_course.nd rfl (by first | exact Or.inl rfl | exact Or.inr rfl))) (fun _ _ _ _ _ => (pts_one (pt_not (pt_val (pe_cg c_is_value hr (by decide) hgd rfl passL (pa_cons (pv 1) pa_nil)))))) (fun _ _ _ _ _ => (pv 1))) (pe_lst pa_nil) (by first | exact nomark _ | rfl))))), fun Fr kx hx => ?_⟩
  exact (drs_seq (drs_if (drt_or (drt_not (drt_B (dr_isi (T := "list") (by decide) (dr_var 0)))) (drt_not (drt_test (dr_chain cm_le cm_le dr_int (dr_cb ca_len (dra_cons (dr_var 0) dra_nil)) dr_int)))) (drs_ret dr_bl) drs_next) (drs_ret (dr_op cm_eq.op (dr_lc (dri_seq (dr_var 0)) drg_name (blk_name (by decide)) (fun F => (drt_not (drt_B (dr_call XOk.none (dra_cons (dr_var 1) dra_nil))))) (fun F => (dr_var 1))) (dr_lst dra_nil))))
abbrev S_need_number : Stmt := top 10
abbrev N_need_number : List Str := ["thing", "low", "high"]
theorem sc_need_number : FnScope N_need_number ["thing", "low", "high"] (defScope S_need_number) := ⟨rfl, rfl, rfl, by decide +kernel, rfl, by decide +kernel, by decide +kernel⟩
theorem ok_need_number (G : Glob K mg cls) (c_is_whole : CalG P w K mg base 1 "is_whole" ["thing"] (spD K cls false 1 T_is_whole)) (F : FnP K "need_number" S_need_number f fd) : FnG P w K mg base 2 f fd ["thing", "low", "high"] (spD K cls false 3 T_need_number) := by
  refine fnD F sc_need_number rfl B_need_number imp_need_number fun cdv A outer s H E hr hgd => ⟨_, (pss_one (ps_if (PW.pt (pw_or (pt_not (pt_val (pe_cg c_is_whole hr (by decide) hgd rfl passL (pa_cons (pv 0) pa_nil)))) (pw_or1 (pt_not (pt_chain op_le op_le (pv 1) (pv 0) (pv 2)))))) (pss_one (ps_raise rfl (takes_of rfl rfl rfl rfl) (pmk_own PySem.F.excBase_ValueError G.x_NoAsk.q G.x_NoAsk.g G.x_NoAsk.k (raises_own G.x_NoAsk.s G.x_NoAsk.t) rfl))) pss_nil)), fun Fr kx hx => ?_⟩
  exact (drs_if (drt_or (drt_not (drt_B (dr_call XOk.none (dra_cons (dr_var 0) dra_nil)))) (drt_not (drt_test (dr_chain cm_le cm_le (dr_var 1) (dr_var 0) (dr_var 2))))) (drs_raise (c := "NoAsk") hx) drs_next)
abbrev S_need_course : Stmt := top 11
abbrev N_need_course : List Str := ["course"]
theorem sc_need_course : FnScope N_need_course ["course"] (defScope S_need_course) := ⟨rfl, rfl, rfl, by decide +kernel, rfl, by decide +kernel, by decide +kernel⟩
theorem ok_need_course (G : Glob K mg cls) (c_is_course : CalG P w K mg base 3 "is_course" ["thing"] (spD K cls false 1 T_is_course)) (F : FnP K "need_course" S_need_course f fd) : FnG P w K mg base 4 f fd ["course"] (spD K cls false 1 T_need_course) := by
  refine fnD F sc_need_course rfl B_need_course imp_need_course fun cdv A outer s H E hr hgd => ⟨_, (pss_one (ps_if (pt_not (pt_val (pe_cg c_is_course hr (by decide) hgd rfl passL (pa_cons (pv 0) pa_nil)))) (pss_one (ps_raise rfl (takes_of rfl rfl rfl rfl) (pmk_own PySem.F.excBase_ValueError G.x_NoAsk.q G.x_NoAsk.g G.x_NoAsk.k (raises_own G.x_NoAsk.s G.x_NoAsk.t) rfl))) pss_nil)), fun Fr kx hx => ?_⟩
  exact (drs_if (drt_not (drt_B (dr_call XOk.none (dra_cons (dr_var 0) dra_nil)))) (drs_raise (c := "NoAsk") hx) drs_next)
abbrev S_need_courses : Stmt := top 12
abbrev N_need_courses : List Str := ["courses", "course"]
theorem sc_need_courses : FnScope N_need_courses ["courses"] (defScope S_need_courses) := ⟨rfl, rfl, rfl, by decide +kernel, rfl, by decide +kernel, by decide +kernel⟩
theorem ok_need_courses (G : Glob K mg cls) (c_need_course : CalG P w K mg base 4 "need_course" ["course"] (spD K cls false 1 T_need_course)) (F : FnP K "need_courses" S_need_courses f fd) : FnG P w K mg base 5 f fd ["courses"] (spD K cls false 1 T_need_courses) := by
  refine fnD F sc_need_courses rfl B_need_courses imp_need_courses fun cdv A outer s H E hr hgd => ⟨_, (pss_cons (ps_if (PW.pt (pw_or (pt_not (pt_val (pe_callB (k_isi (K := K) rfl) rfl G.f_isinstance bt_isi (pa_cons (pv 0) (pa_cons (pe_bltn (v := .ty "list") rfl G.f_list bt_list rfl) pa_nil))))) (pw_or1 (pt_not (pt_chain op_le op_le pe_int (pe_callB (k_len (K := K) rfl) rfl G.f_len bt_len (pa_cons (pv 0) pa_nil)) (pe_gk rfl G.i_MOST_COURSES)))))) (pss_one (ps_raise rfl (takes_of rfl rfl rfl rfl) (pmk_own PySem.F.excBase_ValueError G.x_NoAsk.q G.x_NoAsk.g G.x_NoAsk.k (raises_own G.x_NoAsk.s G.x_NoAsk.t) rfl))) pss_nil) (pss_one (ps_for (passes_of rfl) rfl (pi_seqK (K := K) rfl (pv 0)) (pg_name (i := 1) sc_need_courses.nd rfl (by first | exact Or.inl rfl | exact Or.inr rfl)) (pss_cons (ps_expr (pe_cg c_need_course hr (by decide) hgd rfl passL (pa_cons (pv 1) pa_nil))) (pss_one (ps_if (pt_cmpR (k_ne (K := K) rfl hr) (pe_callB (k_len (K := K) rfl) rfl G.f_len bt_len (pa_cons (pv 1) pa_nil)) (pe_callB (k_len (K := K) rfl) rfl G.f_len bt_len (pa_cons (pe_ix (k_ix (K := K) rfl) (pv 0) pe_int (fun _ _ => rfl)) pa_nil)) (by first | exact nomark _ | rfl)) (pss_one (ps_raise rfl (takes_of rfl rfl rfl rfl) (pmk_own PySem.F.excBase_ValueError G.x_NoAsk.q G.x_NoAsk.g G.x_NoAsk.k (raises_own G.x_NoAsk.s G.x_NoAsk.t) rfl))) pss_nil)))))), fun Fr kx hx => ?_⟩
  exact (drs_seq (drs_if (drt_or (drt_not (drt_B (dr_isi (T := "list") (by decide) (dr_var 0)))) (drt_not (drt_test (dr_chain cm_le cm_le dr_int (dr_cb ca_len (dra_cons (dr_var 0) dra_nil)) dr_int)))) (drs_raise (c := "NoAsk") hx) drs_next) (drs_for (dri_seq (dr_var 0)) drg_name (drs_seq (drs_drop (dr_call XOk.none (dra_cons (dr_var 1) dra_nil))) (drs_if (drt_test (dr_op cm_ne.op (dr_cb ca_len (dra_cons (dr_var 1) dra_nil)) (dr_cb ca_len (dra_cons (dr_op od_ix (dr_var 0) dr_int) dra_nil)))) (drs_raise (c := "NoAsk") hx) drs_next))))
abbrev S_unlike : Stmt := top 13
abbrev N_unlike : List Str := ["values", "found", "value"]
theorem sc_unlike : FnScope N_unlike ["values"] (defScope S_unlike) := ⟨rfl, rfl, rfl, by decide +kernel, rfl, by decide +kernel, by decide +kernel⟩
theorem ok_unlike (G : Glob K mg cls)  (F : FnP K "unlike" S_unlike f fd) : FnG P w K mg base 1 f fd ["values"] (spD K cls false 1 T_unlike) := by
  refine fnD F sc_unlike rfl B_unlike imp_unlike fun cdv A outer s H E hr hgd => ⟨_, (pss_cons (ps_set (i := 1) sc_unlike.nd rfl (by first | exact Or.inl rfl | exact Or.inr rfl) (pe_lst pa_nil)) (pss_cons (ps_for (passes_of rfl) rfl (pi_seqK (K := K) rfl (pv 0)) (pg_name (i := 2) sc_unlike.nd rfl (by first | exact Or.inl rfl | exact Or.inr rfl)) (pss_one (ps_if (pt_cmpR (k_notIn (K := K) rfl hr) (pv 2) (pv 1) (by first | exact nomark _ | rfl)) (pss_one (ps_expr (pe_bmK (K := K) rfl PySem.F.plainAttrs_list PySem.F.slot_list_append PySem.F.type_list_append mt_append (pv 1) (pa_cons (pv 2) pa_nil)))) pss_nil))) (pss_one (ps_ret (pv 1))))), fun Fr kx hx => ?_⟩
  exact (drs_seq (drs_set (i := 1) (dr_lst dra_nil)) (drs_seq (drs_for (dri_seq (dr_var 0)) drg_name (drs_if (drt_test (dr_op cm_notIn.op (dr_var 2) (dr_var 1))) (drs_append (i := 1) (dr_var 2)) drs_next)) (drs_ret (dr_var 1))))
abbrev S_window : Stmt := top 14
abbrev N_window : List Str := ["course", "delay", "at"]
theorem sc_window : FnScope N_window ["course", "delay", "at"] (defScope S_window) := ⟨rfl, rfl, rfl, by decide +kernel, rfl, by decide +kernel, by decide +kernel⟩
theorem ok_window (G : Glob K mg cls)  (F : FnP K "window" S_window f fd) : FnG P w K mg base 1 f fd ["course", "delay", "at"] (spD K cls false 3 T_window) := by
  refine fnD F sc_window rfl B_window imp_window fun cdv A outer s H E hr hgd => ⟨_, (pss_one (ps_ret (pe_slice (k_sl (K := K) rfl) (pv 0) (po_some (pe_callB (k_max (K := K) rfl rfl) rfl G.f_max bt_max (pa_cons pe_int (pa_cons (pe_op op_sub (pv 2) (pv 1)) pa_nil)))) (po_some (pe_op (k_add (K := K) rfl) (pv 2) pe_int))))), fun Fr kx hx => ?_⟩
  exact (drs_ret (dr_sl (dr_var 0) (dro_some (dr_cb ca_max (dra_cons dr_int (dra_cons (dr_op od_sub (dr_var 2) (dr_var 1)) dra_nil)))) (dro_some (dr_op od_add (dr_var 2) dr_int))))
abbrev S_rounds_of : Stmt := top 15
abbrev N_rounds_of : List Str := ["courses", "delay", "begins", "commons", "at", "_", "windows", "left", "common", "there", "course", "value"]
theorem sc_rounds_of : FnScope N_rounds_of ["courses", "delay"] (defScope S_rounds_of) := ⟨rfl, rfl, rfl, by decide +kernel, rfl, by decide +kernel, by decide +kernel⟩
theorem ok_rounds_of (G : Glob K mg cls) (c_unlike : CalG P w K mg base 1 "unlike" ["values"] (spD K cls false 1 T_unlike)) (c_window : CalG P w K mg base 1 "window" ["course", "delay", "at"] (spD K cls false 3 T_window)) (F : FnP K "rounds_of" S_rounds_of f fd) : FnG P w K mg base 2 f fd ["courses", "delay"] (spD K cls false 2 T_rounds_of) := by
  refine fnD F sc_rounds_of rfl B_rounds_of imp_rounds_of fun cdv A outer s H E hr hgd => ⟨_, (pss_cons (ps_par (i := 2) (j := 3) rfl sc_rounds_of.nd rfl rfl (by decide) rfl rfl (pa_cons (pe_lst pa_nil) (pa_cons (pe_lst pa_nil) pa_nil)) rfl) (pss_cons (ps_for (passes_of rfl) rfl (pi_enumK (K := K) rfl rfl G.f_enumerate (pa_cons (pe_ix (k_ix (K := K) rfl) (pv 0) pe_int (fun _ _ => rfl)) pa_nil)) (pg_tupK (K := K) rfl rfl (pgs_cons (pg_name (i := 4) sc_rounds_of.nd rfl (by first | exact Or.inl rfl | exact Or.inr rfl)) (pgs_cons (pg_name (i := 5) sc_rounds_of.nd rfl (by first | exact Or.inl rfl | exact Or.inr rfl)) pgs_nil))) (pss_cons (ps_setLc (i := 6) (own := [("course", 10)]) (g := (gName 10)) rfl sc_rounds_of.nd rfl rfl (sw_true rfl rfl rfl (by decide +kernel)) (pi_seqK (K := K) rfl (pv 0)) (blkOk_by (N := N_rounds_of) (sc := defScope S_rounds_of) (own := [("course", 10)]) (by decide +kernel)) (fun _ _ _ _ _ => (pg_name (i := 10) sc_rounds_of.nd rfl (by first | exact Or.inl rfl | exact Or.inr rfl))) (fun _ _ _ _ _ => pts_nil) (fun _ _ _ _ _ => (pe_cg c_window hr (by decide) hgd rfl passL (pa_cons (pv 10) (pa_cons (pv 1) (pa_cons (pv 4) pa_nil)))))) (pss_cons (ps_set (i := 7) sc_rounds_of.nd rfl (by first | exact Or.inl rfl | exact Or.inr rfl) (pe_lst pa_nil)) (pss_cons (ps_if (pt_cmpR (k_ne (K := K) rfl hr) (pv 2) (pe_lst pa_nil) (by first | exact nomark _ | rfl)) (pss_one (ps_for (passes_of rfl) rfl (pi_zipK (K := K) rfl rfl G.f_zip (pa_cons (pe_ix (k_ix (K := K) rfl) (pv 3) (pe_un un_neg pe_int) (fun _ _ => rfl)) (pa_cons (pv 6) pa_nil))) (pg_tupK (K := K) rfl rfl (pgs_cons (pg_name (i := 8) sc_rounds_of.nd rfl (by first | exact Or.inl rfl | exact Or.inr rfl)) (pgs_cons (pg_name (i := 9) sc_rounds_of.nd rfl (by first | exact Or.inl rfl | exact Or.inr rfl)) pgs_nil))) (pss_one (ps_expr (pe_bmK (K := K) rfl PySem.F.plainAttrs_list PySem.F.slot_list_append PySem.F.type_list_append mt_append (pv 7) (pa_cons (pe_lc (own := [("value", 11)]) (g := (gName 11)) rfl sc_rounds_of.nd (pi_seqK (K := K) rfl (pv 8)) (blkOk_by (N := N_rounds_of) (sc := defScope S_rounds_of) (own := [("value", 11)]) (by decide +kernel)) (fun _ _ _ _ _ => (pg_name (i := 11) sc_rounds_of.nd rfl (by first | exact Or.inl rfl | exact Or.inr rfl))) (fun _ _ _ _ _ => (pts_one (pt_cmpR (k_in (K := K) rfl hr) (pv 11) (pv 9) (by first | exact nomark _ | rfl)))) (fun _ _ _ _ _ => (pv 11))) pa_nil)))))) pss_nil) (pss_one (ps_if (PW.pt (pw_or (pt_cmpR (k_eq (K := K) rfl hr) (pv 2) (pe_lst pa_nil) (by first | exact nomark _ | rfl)) (pw_or1 (pt_cmpR (k_in (K := K) rfl hr) (pe_lst pa_nil) (pv 7) (by first | exact nomark _ | rfl))))) (pss_cons (ps_expr (pe_bmK (K := K) rfl PySem.F.plainAttrs_list PySem.F.slot_list_append PySem.F.type_list_append mt_append (pv 2) (pa_cons (pv 4) pa_nil))) (pss_one (ps_expr (pe_bmK (K := K) rfl PySem.F.plainAttrs_list PySem.F.slot_list_append PySem.F.type_list_append mt_append (pv 3) (pa_cons (pe_lc (own := [("there", 9)]) (g := (gName 9)) rfl sc_rounds_of.nd (pi_seqK (K := K) rfl (pv 6)) (blkOk_by (N := N_rounds_of) (sc := defScope S_rounds_of) (own := [("there", 9)]) (by decide +kernel)) (fun _ _ _ _ _ => (pg_name (i := 9) sc_rounds_of.nd rfl (by first | exact Or.inl rfl | exact Or.inr rfl))) (fun _ _ _ _ _ => pts_nil) (fun _ _ _ _ _ => (pe_cg c_unlike hr (by decide) hgd rfl passL (pa_cons (pv 9) pa_nil)))) pa_nil))))) (pss_one (ps_asg (pv 7) (pg_sub (pv 3) (pe_un un_neg pe_int) set_list))))))))) (pss_one (ps_ret (pe_tup (pa_cons (pv 2) (pa_cons (pv 3) pa_nil))))))), fun Fr kx hx => ?_⟩
  exact (drs_seq (drs_par (i := 2) (j := 3) (dra_cons (dr_lst dra_nil) (dra_cons (dr_lst dra_nil) dra_nil))) (drs_seq (drs_for (dri_enum (dra_cons (dr_op od_ix (dr_var 0) dr_int) dra_nil)) (drg_tup (drgs_cons drg_name (drgs_cons drg_name drgs_nil))) (drs_seq (drs_set (i := 6) (dr_lc (dri_seq (dr_var 0)) drg_name (blk_name (by decide)) (fun F => drt_yes) (fun F => (dr_call XOk.none (dra_cons (dr_var 10) (dra_cons (dr_var 1) (dra_cons (dr_var 4) dra_nil))))))) (drs_seq (drs_set (i := 7) (dr_lst dra_nil)) (drs_seq (drs_if (drt_test (dr_op cm_ne.op (dr_var 2) (dr_lst dra_nil))) (drs_for (dri_zip (dra_cons (dr_op od_ix (dr_var 3) (dr_un ud_neg dr_int)) (dra_cons (dr_var 6) dra_nil))) (drg_tup (drgs_cons drg_name (drgs_cons drg_name drgs_nil))) (drs_append (i := 7) (dr_lc (dri_seq (dr_var 8)) drg_name (blk_name (by decide)) (fun F => (drt_test (dr_op cm_in.op (dr_var 11) (dr_var 9)))) (fun F => (dr_var 11))))) drs_next) (drs_if (drt_or (drt_test (dr_op cm_eq.op (dr_var 2) (dr_lst dra_nil))) (drt_test (dr_op cm_in.op (dr_lst dra_nil) (dr_var 7)))) (drs_seq (drs_append (i := 2) (dr_var 4)) (drs_append (i := 3) (dr_lc (dri_seq (dr_var 6)) drg_name (blk_name (by decide)) (fun F => drt_yes) (fun F => (dr_call XOk.none (dra_cons (dr_var 9) dra_nil)))))) (drs_setIx (i := 3) (dr_var 7) (dr_un ud_neg dr_int))))))) (drs_ret (dr_tup (dra_cons (dr_var 2) (dra_cons (dr_var 3) dra_nil))))))
abbrev S_fewest_together : Stmt := top 16
abbrev N_fewest_together : List Str := ["courses", "delay"]
theorem sc_fewest_together : FnScope N_fewest_together ["courses", "delay"] (defScope S_fewest_together) := ⟨rfl, rfl, rfl, by decide +kernel, rfl, by decide +kernel, by decide +kernel⟩
theorem ok_fewest_together (G : Glob K mg cls) (c_need_number : CalG P w K mg base 2 "need_number" ["thing", "low", "high"] (spD K cls false 3 T_need_number)) (c_need_courses : CalG P w K mg base 5 "need_courses" ["courses"] (spD K cls false 1 T_need_courses)) (c_rounds_of : CalG P w K mg base 2 "rounds_of" ["courses", "delay"] (spD K cls false 2 T_rounds_of)) (F : FnP K "fewest_together" S_fewest_together f fd) : FnG P w K mg base 6 f fd ["courses", "delay"] (spD K cls false 2 T_fewest_together) := by
  refine fnD F sc_fewest_together rfl B_fewest_together imp_fewest_together fun cdv A outer s H E hr hgd => ⟨_, (pss_cons (ps_expr (pe_cg c_need_courses hr (by decide) hgd rfl passL (pa_cons (pv 0) pa_nil))) (pss_cons (ps_expr (pe_cg c_need_number hr (by decide) hgd rfl passL (pa_cons (pv 1) (pa_cons pe_int (pa_cons (pe_gk rfl G.i_MOST_DELAY) pa_nil))))) (pss_one (ps_ret (pe_op op_sub (pe_callB (k_len (K := K) rfl) rfl G.f_len bt_len (pa_cons (pe_ix (k_ix (K := K) rfl) (pe_cg c_rounds_of hr (by decide) hgd rfl passL (pa_cons (pv 0) (pa_cons (pv 1) pa_nil))) pe_int (fun _ _ => rfl)) pa_nil)) pe_int))))), fun Fr kx hx => ?_⟩
  exact (drs_seq (drs_drop (dr_call XOk.none (dra_cons (dr_var 0) dra_nil))) (drs_seq (drs_drop (dr_call XOk.none (dra_cons (dr_var 1) (dra_cons dr_int (dra_cons dr_int dra_nil))))) (drs_ret (dr_op od_sub (dr_cb ca_len (dra_cons (dr_op od_ix (dr_call XOk.none (dra_cons (dr_var 0) (dra_cons (dr_var 1) dra_nil))) dr_int) dra_nil)) dr_int))))
abbrev S_fewest_changes : Stmt := top 17
abbrev N_fewest_changes : List Str := ["course", "delay"]
theorem sc_fewest_changes : FnScope N_fewest_changes ["course", "delay"] (defScope S_fewest_changes) := ⟨rfl, rfl, rfl, by decide +kernel, rfl, by decide +kernel, by decide +kernel⟩
theorem ok_fewest_changes (G : Glob K mg cls) (c_fewest_together : CalG P w K mg base 6 "fewest_together" ["courses", "delay"] (spD K cls false 2 T_fewest_together)) (F : FnP K "fewest_changes" S_fewest_changes f fd) : FnG P w K mg base 7 f fd ["course", "delay"] (spD K cls false 2 T_fewest_changes) := by
  refine fnD F sc_fewest_changes rfl B_fewest_changes imp_fewest_changes fun cdv A outer s H E hr hgd => ⟨_, (pss_one (ps_ret (pe_cg c_fewest_together hr (by decide) hgd rfl passL (pa_cons (pe_lst (pa_cons (pv 0) pa_nil)) (pa_cons (pv 1) pa_nil))))), fun Fr kx hx => ?_⟩
  exact (drs_ret (dr_call XOk.none (dra_cons (dr_lst (dra_cons (dr_var 0) dra_nil)) (dra_cons (dr_var 1) dra_nil))))
abbrev S_stair : Stmt := top 18
abbrev N_stair : List Str := ["course", "found", "delay", "_", "fewest"]
theorem sc_stair : FnScope N_stair ["course"] (defScope S_stair) := ⟨rfl, rfl, rfl, by decide +kernel, rfl, by decide +kernel, by decide +kernel⟩
theorem ok_stair (G : Glob K mg cls) (c_need_course : CalG P w K mg base 4 "need_course" ["course"] (spD K cls false 1 T_need_course)) (c_fewest_changes : CalG P w K mg base 7 "fewest_changes" ["course", "delay"] (spD K cls false 2 T_fewest_changes)) (F : FnP K "stair" S_stair f fd) : FnG P w K mg base 8 f fd ["course"] (spD K cls false 1 T_stair) := by
  refine fnD F sc_stair rfl B_stair imp_stair fun cdv A outer s H E hr hgd => ⟨_, (pss_cons (ps_expr (pe_cg c_need_course hr (by decide) hgd rfl passL (pa_cons (pv 0) pa_nil))) (pss_cons (ps_set (i := 1) sc_stair.nd rfl (by first | exact Or.inl rfl | exact Or.inr rfl) (pe_lst pa_nil)) (pss_cons (ps_for (passes_of rfl) rfl (pi_enumK (K := K) rfl rfl G.f_enumerate (pa_cons (pv 0) pa_nil)) (pg_tupK (K := K) rfl rfl (pgs_cons (pg_name (i := 2) sc_stair.nd rfl (by first | exact Or.inl rfl | exact Or.inr rfl)) (pgs_cons (pg_name (i := 3) sc_stair.nd rfl (by first | exact Or.inl rfl | exact Or.inr rfl)) pgs_nil))) (pss_cons (ps_set (i := 4) sc_stair.nd rfl (by first | exact Or.inl rfl | exact Or.inr rfl) (pe_cg c_fewest_changes hr (by decide) hgd rfl passL (pa_cons (pv 0) (pa_cons (pv 2) pa_nil)))) (pss_one (ps_if (PW.pt (pw_or (pt_cmpR (k_eq (K := K) rfl hr) (pv 1) (pe_lst pa_nil) (by first | exact nomark _ | rfl)) (pw_or1 (pt_cmpR op_lt (pv 4) (pe_ix (k_ix (K := K) rfl) (pe_ix (k_ix (K := K) rfl) (pv 1) (pe_un un_neg pe_int) (fun _ _ => rfl)) pe_int (fun _ _ => rfl)) (by first | exact nomark _ | rfl))))) (pss_one (ps_expr (pe_bmK (K := K) rfl PySem.F.plainAttrs_list PySem.F.slot_list_append PySem.F.type_list_append mt_append (pv 1) (pa_cons (pe_tup (pa_cons (pv 2) (pa_cons (pv 4) pa_nil))) pa_nil)))) pss_nil)))) (pss_one (ps_ret (pv 1)))))), fun Fr kx hx => ?_⟩
  exact (drs_seq (drs_drop (dr_call XOk.none (dra_cons (dr_var 0) dra_nil))) (drs_seq (drs_set (i := 1) (dr_lst dra_nil)) (drs_seq (drs_for (dri_enum (dra_cons (dr_var 0) dra_nil)) (drg_tup (drgs_cons drg_name (drgs_cons drg_name drgs_nil))) (drs_seq (drs_set (i := 4) (dr_call XOk.none (dra_cons (dr_var 0) (dra_cons (dr_var 2) dra_nil)))) (drs_if (drt_or (drt_test (dr_op cm_eq.op (dr_var 1) (dr_lst dra_nil))) (drt_test (dr_op cm_lt.op (dr_var 4) (dr_op od_ix (dr_op od_ix (dr_var 1) (dr_un ud_neg dr_int)) dr_int)))) (drs_append (i := 1) (dr_tup (dra_cons (dr_var 2) (dra_cons (dr_var 4) dra_nil)))) drs_next))) (drs_ret (dr_var 1)))))
abbrev S_least_delay : Stmt := top 19
abbrev N_least_delay : List Str := ["course", "changes", "delay", "fewest"]
theorem sc_least_delay : FnScope N_least_delay ["course", "changes"] (defScope S_least_delay) := ⟨rfl, rfl, rfl, by decide +kernel, rfl, by decide +kernel, by decide +kernel⟩
theorem ok_least_delay (G : Glob K mg cls) (c_need_number : CalG P w K mg base 2 "need_number" ["thing", "low", "high"] (spD K cls false 3 T_need_number)) (c_need_course : CalG P w K mg base 4 "need_course" ["course"] (spD K cls false 1 T_need_course)) (c_stair : CalG P w K mg base 8 "stair" ["course"] (spD K cls false 1 T_stair)) (F : FnP K "least_delay" S_least_delay f fd) : FnG P w K mg base 9 f fd ["course", "changes"] (spD K cls false 2 T_least_delay) := by
  refine fnD F sc_least_delay rfl B_least_delay imp_least_delay fun cdv A outer s H E hr hgd => ⟨_, (pss_cons (ps_expr (pe_cg c_need_course hr (by decide) hgd rfl passL (pa_cons (pv 0) pa_nil))) (pss_cons (ps_expr (pe_cg c_need_number hr (by decide) hgd rfl passL (pa_cons (pv 1) (pa_cons pe_int (pa_cons (pe_gk rfl G.i_MOST_DELAY) pa_nil))))) (pss_one (ps_ret (pe_ix (k_ix (K := K) rfl) (pe_lc (own := [("delay", 2), ("fewest", 3)]) (g := (gTup K 2 (gCons (gName 2) (gCons (gName 3) gNil)))) rfl sc_least_delay.nd (pi_seqK (K := K) rfl (pe_cg c_stair hr (by decide) hgd rfl passL (pa_cons (pv 0) pa_nil))) (blkOk_by (N := N_least_delay) (sc := defScope S_least_delay) (own := [("delay", 2), ("fewest", 3)]) (by decide +kernel)) (fun _ _ _ _ _ => (pg_tupK (K := K) rfl rfl (pgs_cons (pg_name (i := 2) sc_least_delay.nd rfl (by first | exact Or.inl rfl | exact Or.inr rfl)) (pgs_cons (pg_name (i := 3) sc_least_delay.nd rfl (by first | exact Or.inl rfl | exact Or.inr rfl)) pgs_nil)))) (fun _ _ _ _ _ => (pts_one (pt_cmpR op_le (pv 3) (pv 1) (by first | exact nomark _ | rfl)))) (fun _ _ _ _ _ => (pv 2))) pe_int (fun _ _ => rfl)))))), fun Fr kx hx => ?_⟩
  exact (drs_seq (drs_drop (dr_call XOk.none (dra_cons (dr_var 0) dra_nil))) (drs_seq (drs_drop (dr_call XOk.none (dra_cons (dr_var 1) (dra_cons dr_int (dra_cons dr_int dra_nil))))) (drs_ret (dr_op od_ix (dr_lc (dri_seq (dr_call XOk.none (dra_cons (dr_var 0) dra_nil))) (drg_tup (drgs_cons drg_name (drgs_cons drg_name drgs_nil))) (blk_tup (blkS_name (by decide) (blkS_name (by decide) blkS_nil))) (fun F => (drt_test (dr_op cm_le.op (dr_var 3) (dr_var 1)))) (fun F => (dr_var 2))) dr_int))))
abbrev S__law_begun : Stmt := top 21
abbrev N__law_begun : List Str := ["script", "great", "cell"]
theorem sc__law_begun : FnScope N__law_begun ["script"] (defScope S__law_begun) := ⟨rfl, rfl, rfl, by decide +kernel, rfl, by decide +kernel, by decide +kernel⟩
theorem ok__law_begun (G : Glob K mg cls) (F : FnP K "_law_begun" S__law_begun f fd) : FnG P w K mg base 1 f fd ["script"] (spBegun K) := by
  refine fnG_of F sc__law_begun (fun vs H Q E h => by obtain ⟨a, ns, rfl, _⟩ := h; rfl) fun cdv A outer s H vs Q E hr hgd h => ⟨_, (pss_cons (ps_setLc (i := 1) (own := [("cell", 2)]) (g := (gName 2)) rfl sc__law_begun.nd rfl rfl (sw_true rfl rfl rfl (by decide +kernel)) (pi_seqK (K := K) rfl (pv 0)) (blkOk_by (N := N__law_begun) (sc := defScope S__law_begun) (own := [("cell", 2)]) (by decide +kernel)) (fun _ _ _ _ _ => (pg_name (i := 2) sc__law_begun.nd rfl (by first | exact Or.inl rfl | exact Or.inr rfl))) (fun _ _ _ _ _ => (pts_one (pt_cmpR op_ge (pe_callB call_absD rfl G.f_abs bt_abs (pa_cons (pv 2) pa_nil)) (pe_op op_pow pe_int pe_int) (by first | exact nomark _ | rfl)))) (fun _ _ _ _ _ => (pe_op op_sub (pe_callB call_absD rfl G.f_abs bt_abs (pa_cons (pv 2) pa_nil)) (pe_op op_pow pe_int pe_int)))) (pss_one (ps_ret (pe_disp (pps_cons pe_str (pv 1) (pps_cons pe_str (pe_lc (own := [("cell", 2)]) (g := (gName 2)) rfl sc__law_begun.nd (pi_seqK (K := K) rfl (pv 0)) (blkOk_by (N := N__law_begun) (sc := defScope S__law_begun) (own := [("cell", 2)]) (by decide +kernel)) (fun _ _ _ _ _ => (pg_name (i := 2) sc__law_begun.nd rfl (by first | exact Or.inl rfl | exact Or.inr rfl))) (fun _ _ _ _ _ => pts_nil) (fun _ _ _ _ _ => (pe_callB call_absD rfl G.f_abs bt_abs (pa_cons (pv 2) pa_nil)))) (pps_cons pe_str pe_int (pps_cons pe_str pe_int pps_nil)))) rfl rfl (by simp) (by decide))))), begun_ok rfl vs H Q E h⟩
abbrev S__law_mixed : Stmt := top 22
abbrev N__law_mixed : List Str := ["state", "turn", "found", "prime", "blend", "cell"]
theorem sc__law_mixed : FnScope N__law_mixed ["state"] (defScope S__law_mixed) := ⟨rfl, rfl, rfl, by decide +kernel, rfl, by decide +kernel, by decide +kernel⟩
theorem ok__law_mixed (G : Glob K mg cls)  (F : FnP K "_law_mixed" S__law_mixed f fd) : FnG P w K mg base 1 f fd ["state"] (spD K cls true 0 T__law_mixed) := by
  refine fnD F sc__law_mixed rfl B__law_mixed imp__law_mixed fun cdv A outer s H E hr hgd => ⟨_, (pss_cons (ps_par (i := 1) (j := 2) rfl sc__law_mixed.nd rfl rfl (by decide) rfl rfl (pa_cons (pe_op (k_add (K := K) rfl) (pe_dget (hu_of hr) (pv 0) pe_str (fun _ _ => rfl)) pe_int) (pa_cons pe_int pa_nil)) rfl) (pss_cons (ps_dput (hu_of hr) (pv 0) pe_str (pv 1) rfl) (pss_cons (ps_for (passes_of rfl) rfl (pi_seqK (K := K) rfl (pe_lst (pa_cons pe_int (pa_cons pe_int (pa_cons pe_int (pa_cons pe_int pa_nil)))))) (pg_name (i := 3) sc__law_mixed.nd rfl (by first | exact Or.inl rfl | exact Or.inr rfl)) (pss_cons (ps_set (i := 4) sc__law_mixed.nd rfl (by first | exact Or.inl rfl | exact Or.inr rfl) (pe_op (k_add (K := K) rfl) (pe_op op_mulD pe_int (pv 1)) (pe_op op_fdiv (pv 3) pe_int))) (pss_cons (ps_for (passes_of rfl) rfl (pi_seqK (K := K) rfl (pe_dget (hu_of hr) (pv 0) pe_str (fun _ _ => rfl))) (pg_name (i := 5) sc__law_mixed.nd rfl (by first | exact Or.inl rfl | exact Or.inr rfl)) (pss_one (ps_set (i := 4) sc__law_mixed.nd rfl (by first | exact Or.inl rfl | exact Or.inr rfl) (pe_op op_mod (pe_callTy call_intD rfl G.f_int bt_int (pa_cons (pe_op (k_add (K := K) rfl) (pe_op (k_add (K := K) rfl) (pe_op op_mulD (pv 4) pe_int) (pv 5)) (pv 1)) pa_nil)) (pv 3))))) (pss_one (ps_set (i := 2) sc__law_mixed.nd rfl (by first | exact Or.inl rfl | exact Or.inr rfl) (pe_op (k_add (K := K) rfl) (pe_op op_mulD (pv 2) pe_int) (pe_op op_mod (pe_callTy call_intD rfl G.f_int bt_int (pa_cons (pe_op op_pow (pv 4) pe_int) pa_nil)) (pv 3)))))))) (pss_one (ps_ret (pv 2)))))), fun Fr kx hx => ?_⟩
  exact (drs_seq (drs_par (i := 1) (j := 2) (dra_cons (dr_op od_add dr_stTurn dr_int) (dra_cons dr_int dra_nil))) (drs_seq (drs_stTurn (dr_var 1)) (drs_seq (drs_for (dri_seq (dr_lst (dra_cons dr_int (dra_cons dr_int (dra_cons dr_int (dra_cons dr_int dra_nil)))))) drg_name (drs_seq (drs_set (i := 4) (dr_op od_add (dr_op od_mul dr_int (dr_var 1)) (dr_op od_div (dr_var 3) dr_int))) (drs_seq (drs_for dri_stCells drg_name (drs_set (i := 4) (dr_op od_mod (dr_cb ca_int (dra_cons (dr_op od_add (dr_op od_add (dr_op od_mul (dr_var 4) dr_int) (dr_var 5)) (dr_var 1)) dra_nil)) (dr_var 3)))) (drs_set (i := 2) (dr_op od_add (dr_op od_mul (dr_var 2) dr_int) (dr_op od_mod (dr_cb ca_int (dra_cons (dr_op od_pow (dr_var 4) dr_int) dra_nil)) (dr_var 3))))))) (drs_ret (dr_var 2)))))
abbrev S__law_draw : Stmt := top 23
abbrev N__law_draw : List Str := ["state", "room", "found"]
theorem sc__law_draw : FnScope N__law_draw ["state", "room"] (defScope S__law_draw) := ⟨rfl, rfl, rfl, by decide +kernel, rfl, by decide +kernel, by decide +kernel⟩
theorem ok__law_draw (G : Glob K mg cls) (c__law_mixed : CalG P w K mg base 1 "_law_mixed" ["state"] (spD K cls true 0 T__law_mixed)) (F : FnP K "_law_draw" S__law_draw f fd) : FnG P w K mg base 2 f fd ["state", "room"] (spD K cls true 1 T__law_draw) := by
  refine fnD F sc__law_draw rfl B__law_draw imp__law_draw fun cdv A outer s H E hr hgd => ⟨_, (pss_cons (ps_if (pt_cmpR (k_eq (K := K) rfl hr) (pe_dget (hu_of hr) (pv 0) pe_str (fun _ _ => rfl)) pe_int (by first | exact nomark _ | rfl)) (pss_one (ps_dput (hu_of hr) (pv 0) pe_str (pe_ifExp (pt_cmpR (k_ne (K := K) rfl hr) (pe_dget (hu_of hr) (pv 0) pe_str (fun _ _ => rfl)) (pe_lst pa_nil) (nomark _)) (pe_bmK (K := K) rfl PySem.F.plainAttrs_list PySem.F.slot_list_pop PySem.F.type_list_pop mt_popAt (pe_dget (hu_of hr) (pv 0) pe_str (fun _ _ => rfl)) (pa_cons pe_int pa_nil)) (pe_cg c__law_mixed hr (by decide) hgd rfl passL (pa_cons (pv 0) pa_nil))) rfl)) pss_nil) (pss_cons (ps_set (i := 2) sc__law_draw.nd rfl (by first | exact Or.inl rfl | exact Or.inr rfl) (pe_op op_mod (pe_callTy call_intD rfl G.f_int bt_int (pa_cons (pe_dget (hu_of hr) (pv 0) pe_str (fun _ _ => rfl)) pa_nil)) (pv 1))) (pss_cons (ps_dput (hu_of hr) (pv 0) pe_str (pe_op op_fdiv (pe_dget (hu_of hr) (pv 0) pe_str (fun _ _ => rfl)) (pv 1)) rfl) (pss_one (ps_ret (pv 2)))))), fun Fr kx hx => ?_⟩
  exact (drs_seq (drs_if (drt_test (dr_op cm_eq.op dr_stRest dr_int)) (drs_stRest (dr_stPop (dr_callS XOk.none dra_nil))) drs_next) (drs_seq (drs_set (i := 2) (dr_op od_mod (dr_cb ca_int (dra_cons dr_stRest dra_nil)) (dr_var 1))) (drs_seq (drs_stRest (dr_op od_div dr_stRest (dr_var 1))) (drs_ret (dr_var 2)))))
abbrev S__law_pick : Stmt := top 24
abbrev N__law_pick : List Str := ["state", "some"]
theorem sc__law_pick : FnScope N__law_pick ["state", "some"] (defScope S__law_pick) := ⟨rfl, rfl, rfl, by decide +kernel, rfl, by decide +kernel, by decide +kernel⟩
theorem ok__law_pick (G : Glob K mg cls) (c__law_draw : CalG P w K mg base 2 "_law_draw" ["state", "room"] (spD K cls true 1 T__law_draw)) (F : FnP K "_law_pick" S__law_pick f fd) : FnG P w K mg base 3 f fd ["state", "some"] (spD K cls true 1 T__law_pick) := by
  refine fnD F sc__law_pick rfl B__law_pick imp__law_pick fun cdv A outer s H E hr hgd => ⟨_, (pss_one (ps_ret (pe_ix (k_ix (K := K) rfl) (pv 1) (pe_cg c__law_draw hr (by decide) hgd rfl passL (pa_cons (pv 0) (pa_cons (pe_callB (k_len (K := K) rfl) rfl G.f_len bt_len (pa_cons (pv 1) pa_nil)) pa_nil))) (fun _ _ => rfl)))), fun Fr kx hx => ?_⟩
  exact (drs_ret (dr_op od_ix (dr_var 1) (dr_callS XOk.none (dra_cons (dr_cb ca_len (dra_cons (dr_var 1) dra_nil)) dra_nil))))
abbrev S__law_plain : Stmt := top 25
abbrev N__law_plain : List Str := ["value", "one"]
theorem sc__law_plain : FnScope N__law_plain ["value"] (defScope S__law_plain) := ⟨rfl, rfl, rfl, by decide +kernel, rfl, by decide +kernel, by decide +kernel⟩
theorem okS__law_plain (G : Glob K mg cls) {j : Nat} {Tp T' : DFn} (c__law_plain : CalG P w K mg base j "_law_plain" ["value"] (spD K cls false 1 Tp)) (imp : ∀ B ds k kx, ds.length = 1 → T' B ds k kx → den false 2 (B__law_plain Tp) B ds k kx) (F : FnP K "_law_plain" S__law_plain f fd) : FnG P w K mg base (j + 1) f fd ["value"] (spD K cls false 1 T') := by
  refine fnD F sc__law_plain rfl (B__law_plain Tp) imp fun cdv A outer s H E hr hgd => ⟨_, (pss_cons (ps_if (pt_val (pe_callB (k_isiT (K := K) rfl) rfl G.f_isinstance bt_isi (pa_cons (pv 0) (pa_cons (pe_tup (pa_cons (pe_bltn (v := .ty "list") rfl G.f_list bt_list rfl) (pa_cons (pe_bltn (v := .ty "tuple") rfl G.f_tuple bt_tuple rfl) pa_nil))) pa_nil)))) (pss_one (ps_ret (pe_cmpR (k_eq (K := K) rfl hr) (pe_lc (own := [("one", 1)]) (g := (gName 1)) rfl sc__law_plain.nd (pi_seqK (K := K) rfl (pv 0)) (blkOk_by (N := N__law_plain) (sc := defScope S__law_plain) (own := [("one", 1)]) (by decide +kernel)) (fun _ _ _ _ _ => (pg_name (i := 1) sc__law_plain.nd rfl (by first | exact Or.inl rfl | exact Or.inr rfl))) (fun _ _ _ _ _ => (pts_one (pt_not (pt_val (pe_cg c__law_plain hr (Nat.le_refl _) hgd rfl passL (pa_cons (pv 1) pa_nil)))))) (fun _ _ _ _ _ => pe_int)) (pe_lst pa_nil) (by first | exact nomark _ | rfl)))) pss_nil) (pss_cons (ps_if (pt_val (pe_callB (k_isi (K := K) rfl) rfl G.f_isinstance bt_isi (pa_cons (pv 0) (pa_cons (pe_bltn (v := .ty "dict") rfl G.f_dict bt_dict rfl) pa_nil)))) pss_never pss_nil) (pss_one (ps_ret (pe_or (pe_cmpR op_isD (pv 0) pe_non (by first | exact nomark _ | rfl)) (pe_one (pe_callB (k_isiT (K := K) rfl) rfl G.f_isinstance bt_isi (pa_cons (pv 0) (pa_cons (pe_tup (pa_cons (pe_bltn (v := .ty "int") rfl G.f_int bt_int rfl) (pa_cons (pe_bltn (v := .ty "str") rfl G.f_str bt_str rfl) pa_nil))) pa_nil))))))))), fun Fr kx hx => ?_⟩
  exact (drs_seq (drs_if (drt_B (dr_isi2 (T := "list") (U := "tuple") (by decide) (by decide) (dr_var 0))) (drs_ret (dr_op cm_eq.op (dr_lc (dri_seq (dr_var 0)) drg_name (blk_name (by decide)) (fun F => (drt_not (drt_B (dr_call XOk.none (dra_cons (dr_var 1) dra_nil))))) (fun F => dr_int)) (dr_lst dra_nil))) drs_next) (drs_seq (drs_if (drt_B (dr_isi (T := "dict") (by decide) (dr_var 0))) drs_never drs_next) (drs_ret (dr_orV (dr_op cm_is.op (dr_var 0) dr_non) (dr_isi2 (T := "int") (U := "str") (by decide) (by decide) (dr_var 0))))))
theorem ok__law_plain (G : Glob K mg cls) (g : mg "_law_plain" = some (.ref f)) (kp : PySem.W.keepIn K (.ref f) = true) (b : Binds K fd ["value"] []) (F : FnP K "_law_plain" S__law_plain f fd) : ∀ n : Nat, FnG P w K mg base n f fd ["value"] (spD K cls false 1 (TP n))
  | 0 => ⟨fun vs H Q E h => spD_len h, fun A outer s H args us vs Q E hg hr he hb hv h => by obtain ⟨_, _, _, _, _, _, _, _, _, _, _, z, _⟩ := h; exact z.elim⟩
  | n + 1 => okS__law_plain G (calG (ok__law_plain G g kp b F n) g kp b) (imp__law_plain n) F
abbrev S__law_is : Stmt := top 26
abbrev N__law_is : List Str := ["found", "due"]
theorem sc__law_is : FnScope N__law_is ["found", "due"] (defScope S__law_is) := ⟨rfl, rfl, rfl, by decide +kernel, rfl, by decide +kernel, by decide +kernel⟩
theorem ok__law_is (G : Glob K mg cls) (c__law_plain : CalG P w K mg base 8 "_law_plain" ["value"] (spD K cls false 1 T__law_plain)) (F : FnP K "_law_is" S__law_is f fd) : FnG P w K mg base 9 f fd ["found", "due"] (spD K cls false 2 T__law_is) := by
  refine fnD F sc__law_is rfl B__law_is imp__law_is fun cdv A outer s H E hr hgd => ⟨_, (pss_one (ps_ret (pe_and (pe_cg c__law_plain hr (by decide) hgd rfl passL (pa_cons (pv 0) pa_nil)) (pe_and (pe_cmpR (k_eq (K := K) rfl hr) (pv 0) (pv 1) (by first | exact nomark _ | rfl)) (pe_and (pe_cmpR (k_eq (K := K) rfl hr) (pv 1) (pv 0) (by first | exact nomark _ | rfl)) (pe_one (pe_cmpR (k_eq (K := K) rfl hr) (pe_callB (k_repr (K := K) rfl hgd hr) rfl G.f_repr bt_repr (pa_cons (pv 0) pa_nil)) (pe_callB (k_repr (K := K) rfl hgd hr) rfl G.f_repr bt_repr (pa_cons (pv 1) pa_nil)) (by first | exact nomark _ | rfl)))))))), fun Fr kx hx => ?_⟩
  exact (drs_ret (dr_andV (dr_call XOk.none (dra_cons (dr_var 0) dra_nil)) (dr_andV (dr_op cm_eq.op (dr_var 0) (dr_var 1)) (dr_andV (dr_op cm_eq.op (dr_var 1) (dr_var 0)) (dr_op cm_eq.op (dr_cb ca_repr (dra_cons (dr_var 0) dra_nil)) (dr_cb ca_repr (dra_cons (dr_var 1) dra_nil)))))))
abbrev S__law_some_course : Stmt := top 27
abbrev N__law_some_course : List Str := ["state", "most", "pool", "many", "stay", "found", "at", "stays"]
theorem sc__law_some_course : FnScope N__law_some_course ["state", "most"] (defScope S__law_some_course) := ⟨rfl, rfl, rfl, by decide +kernel, rfl, by decide +kernel, by decide +kernel⟩
theorem ok__law_some_course (G : Glob K mg cls) (c__law_draw : CalG P w K mg base 2 "_law_draw" ["state", "room"] (spD K cls true 1 T__law_draw)) (c__law_pick : CalG P w K mg base 3 "_law_pick" ["state", "some"] (spD K cls true 1 T__law_pick)) (F : FnP K "_law_some_course" S__law_some_course f fd) : FnG P w K mg base 4 f fd ["state", "most"] (spD K cls true 1 T__law_some_course) := by
  refine fnD F sc__law_some_course rfl B__law_some_course imp__law_some_course fun cdv A outer s H E hr hgd => ⟨_, (pss_cons (ps_set (i := 2) sc__law_some_course.nd rfl (by first | exact Or.inl rfl | exact Or.inr rfl) (pe_cg c__law_pick hr (by decide) hgd rfl passL (pa_cons (pv 0) (pa_cons (pe_lst (pa_cons (pe_lst (pa_cons pe_int (pa_cons pe_int pa_nil))) (pa_cons (pe_lst (pa_cons pe_int (pa_cons pe_int (pa_cons pe_int pa_nil)))) (pa_cons (pe_lst (pa_cons pe_non (pa_cons (pe_tup (pa_cons pe_int (pa_cons pe_int pa_nil))) (pa_cons pe_int (pa_cons (pe_tup (pa_cons pe_int pa_nil)) (pa_cons (pe_tup pa_nil) pa_nil)))))) (pa_cons (pe_listRg rfl rfl G.f_list (prg_1 rfl G.f_range pe_int)) (pa_cons (pe_lst (pa_cons pe_non (pa_cons pe_int pa_nil))) (pa_cons (pe_lst (pa_cons (pe_un un_neg pe_int) (pa_cons (pe_op op_pow pe_int pe_int) (pa_cons pe_int (pa_cons (pe_tup (pa_cons pe_int (pa_cons (pe_un un_neg pe_int) pa_nil))) pa_nil))))) (pa_cons (pe_listRg rfl rfl G.f_list (prg_1 rfl G.f_range pe_int)) (pa_cons (pe_lst (pa_cons pe_int pa_nil)) pa_nil))))))))) pa_nil)))) (pss_cons (ps_par3 (i := 3) (j := 4) (l := 5) rfl sc__law_some_course.nd rfl rfl rfl (by decide) (by decide) (by decide) rfl rfl rfl (pa_cons (pe_op (k_add (K := K) rfl) pe_int (pe_cg c__law_draw hr (by decide) hgd rfl passL (pa_cons (pv 0) (pa_cons (pv 1) pa_nil)))) (pa_cons (pe_cg c__law_draw hr (by decide) hgd rfl passL (pa_cons (pv 0) (pa_cons pe_int pa_nil))) (pa_cons (pe_lst pa_nil) pa_nil))) rfl) (pss_cons (ps_for (passes_of rfl) rfl (pi_range1 rfl G.f_range (pa_cons (pv 3) pa_nil)) (pg_name (i := 6) sc__law_some_course.nd rfl (by first | exact Or.inl rfl | exact Or.inr rfl)) (pss_cons (ps_set (i := 7) sc__law_some_course.nd rfl (by first | exact Or.inl rfl | exact Or.inr rfl) (pe_and (pe_cmpR (k_ne (K := K) rfl hr) (pv 5) (pe_lst pa_nil) (by first | exact nomark _ | rfl)) (pe_one (pe_cmpR op_lt (pe_cg c__law_draw hr (by decide) hgd rfl passL (pa_cons (pv 0) (pa_cons pe_int pa_nil))) (pv 4) (by first | exact nomark _ | rfl))))) (pss_one (ps_expr (pe_bmK (K := K) rfl PySem.F.plainAttrs_list PySem.F.slot_list_append PySem.F.type_list_append mt_append (pv 5) (pa_cons (pe_ifExp (pt_val (pv 7)) (pe_ix (k_ix (K := K) rfl) (pv 5) (pe_un un_neg pe_int) (fun _ _ => rfl)) (pe_cg c__law_pick hr (by decide) hgd rfl passL (pa_cons (pv 0) (pa_cons (pv 2) pa_nil)))) pa_nil)))))) (pss_one (ps_ret (pv 5)))))), fun Fr kx hx => ?_⟩
  exact (drs_seq (drs_set (i := 2) (dr_callS XOk.none (dra_cons (dr_lst (dra_cons (dr_lst (dra_cons dr_int (dra_cons dr_int dra_nil))) (dra_cons (dr_lst (dra_cons dr_int (dra_cons dr_int (dra_cons dr_int dra_nil)))) (dra_cons (dr_lst (dra_cons dr_non (dra_cons (dr_tup (dra_cons dr_int (dra_cons dr_int dra_nil))) (dra_cons dr_int (dra_cons (dr_tup (dra_cons dr_int dra_nil)) (dra_cons (dr_tup dra_nil) dra_nil)))))) (dra_cons (dr_listRg dr_int) (dra_cons (dr_lst (dra_cons dr_non (dra_cons dr_int dra_nil))) (dra_cons (dr_lst (dra_cons (dr_un ud_neg dr_int) (dra_cons (dr_op od_pow dr_int dr_int) (dra_cons dr_int (dra_cons (dr_tup (dra_cons dr_int (dra_cons (dr_un ud_neg dr_int) dra_nil))) dra_nil))))) (dra_cons (dr_listRg dr_int) (dra_cons (dr_lst (dra_cons dr_int dra_nil)) dra_nil))))))))) dra_nil))) (drs_seq (drs_par3 (i := 3) (j := 4) (l := 5) (dra_cons (dr_op od_add dr_int (dr_callS XOk.none (dra_cons (dr_var 1) dra_nil))) (dra_cons (dr_callS XOk.none (dra_cons dr_int dra_nil)) (dra_cons (dr_lst dra_nil) dra_nil)))) (drs_seq (drs_for (dri_rng1 (dra_cons (dr_var 3) dra_nil)) drg_name (drs_seq (drs_set (i := 7) (dr_andV (dr_op cm_ne.op (dr_var 5) (dr_lst dra_nil)) (dr_op cm_lt.op (dr_callS XOk.none (dra_cons dr_int dra_nil)) (dr_var 4)))) (drs_append (i := 5) (dr_if (drt_B (dr_var 7)) (dr_op od_ix (dr_var 5) (dr_un ud_neg dr_int)) (dr_callS XOk.none (dra_cons (dr_var 2) dra_nil)))))) (drs_ret (dr_var 5)))))
abbrev S__law_window : Stmt := top 28
abbrev N__law_window : List Str := ["course", "delay", "at", "place"]
theorem sc__law_window : FnScope N__law_window ["course", "delay", "at"] (defScope S__law_window) := ⟨rfl, rfl, rfl, by decide +kernel, rfl, by decide +kernel, by decide +kernel⟩
theorem ok__law_window (G : Glob K mg cls)  (F : FnP K "_law_window" S__law_window f fd) : FnG P w K mg base 1 f fd ["course", "delay", "at"] (spD K cls false 3 T__law_window) := by
  refine fnD F sc__law_window rfl B__law_window imp__law_window fun cdv A outer s H E hr hgd => ⟨_, (pss_one (ps_ret (pe_lc (own := [("place", 3)]) (g := (gName 3)) rfl sc__law_window.nd (pi_range1 rfl G.f_range (pa_cons (pe_callB (k_len (K := K) rfl) rfl G.f_len bt_len (pa_cons (pv 0) pa_nil)) pa_nil)) (blkOk_by (N := N__law_window) (sc := defScope S__law_window) (own := [("place", 3)]) (by decide +kernel)) (fun _ _ _ _ _ => (pg_name (i := 3) sc__law_window.nd rfl (by first | exact Or.inl rfl | exact Or.inr rfl))) (fun _ _ _ _ _ => (pts_one (pt_chain op_le op_le (pe_op op_sub (pv 2) (pv 1)) (pv 3) (pv 2)))) (fun _ _ _ _ _ => (pe_ix (k_ix (K := K) rfl) (pv 0) (pv 3) (fun _ _ => rfl)))))), fun Fr kx hx => ?_⟩
  exact (drs_ret (dr_lc (dri_rng1 (dra_cons (dr_cb ca_len (dra_cons (dr_var 0) dra_nil)) dra_nil)) drg_name (blk_name (by decide)) (fun F => (drt_test (dr_chain cm_le cm_le (dr_op od_sub (dr_var 2) (dr_var 1)) (dr_var 3) (dr_var 2)))) (fun F => (dr_op od_ix (dr_var 0) (dr_var 3)))))
abbrev S__law_fewest : Stmt := top 29
abbrev N__law_fewest : List Str := ["course", "delay", "best", "at", "far", "later", "value"]
theorem sc__law_fewest : FnScope N__law_fewest ["course", "delay"] (defScope S__law_fewest) := ⟨rfl, rfl, rfl, by decide +kernel, rfl, by decide +kernel, by decide +kernel⟩
theorem ok__law_fewest (G : Glob K mg cls) (c__law_window : CalG P w K mg base 1 "_law_window" ["course", "delay", "at"] (spD K cls false 3 T__law_window)) (F : FnP K "_law_fewest" S__law_fewest f fd) : FnG P w K mg base 2 f fd ["course", "delay"] (spD K cls false 2 T__law_fewest) := by
  refine fnD F sc__law_fewest rfl B__law_fewest imp__law_fewest fun cdv A outer s H E hr hgd => ⟨_, (pss_cons (ps_set (i := 2) sc__law_fewest.nd rfl (by first | exact Or.inl rfl | exact Or.inr rfl) (pe_mone hr (pe_ix (k_ix (K := K) rfl) (pv 0) pe_int (fun _ _ => rfl)) pe_int)) (pss_cons (ps_for (passes_of rfl) rfl (pi_range2 rfl G.f_range (pa_cons pe_int (pa_cons (pe_callB (k_len (K := K) rfl) rfl G.f_len bt_len (pa_cons (pv 0) pa_nil)) pa_nil))) (pg_name (i := 3) sc__law_fewest.nd rfl (by first | exact Or.inl rfl | exact Or.inr rfl)) (pss_cons (ps_par (i := 4) (j := 5) rfl sc__law_fewest.nd rfl rfl (by decide) rfl rfl (pa_cons (pe_op (k_add (K := K) rfl) (pe_callB (k_min (K := K) rfl rfl) rfl G.f_min bt_min (pa_cons (pe_callTy (call_mlist rfl) rfl G.f_list bt_list (pa_cons (pe_mvals (pv 2)) pa_nil)) pa_nil)) pe_int) (pa_cons pe_mnew pa_nil)) rfl) (pss_cons (ps_for (passes_of rfl) rfl (pi_seqK (K := K) rfl (pe_cg c__law_window hr (by decide) hgd rfl passL (pa_cons (pv 0) (pa_cons (pv 1) (pa_cons (pv 3) pa_nil))))) (pg_name (i := 6) sc__law_fewest.nd rfl (by first | exact Or.inl rfl | exact Or.inr rfl)) (pss_one (ps_mput hr (pv 5) (pv 6) (pe_callB (k_min (K := K) rfl rfl) rfl G.f_min bt_min (pa_cons (pe_mm PySem.F.slot_dict_get PySem.F.type_dict_get (mt_mget hr) (pv 2) (pa_cons (pv 6) (pa_cons (pv 4) pa_nil))) (pa_cons (pv 4) pa_nil))) rfl))) (pss_one (ps_set (i := 2) sc__law_fewest.nd rfl (by first | exact Or.inl rfl | exact Or.inr rfl) (pv 5)))))) (pss_one (ps_ret (pe_callB (k_min (K := K) rfl rfl) rfl G.f_min bt_min (pa_cons (pe_callTy (call_mlist rfl) rfl G.f_list bt_list (pa_cons (pe_mvals (pv 2)) pa_nil)) pa_nil)))))), fun Fr kx hx => ?_⟩
  exact (drs_seq (drs_set (i := 2) (dr_mixOne (dr_op od_ix (dr_var 0) dr_int) dr_int)) (drs_seq (drs_for (dri_rng2 (dra_cons dr_int (dra_cons (dr_cb ca_len (dra_cons (dr_var 0) dra_nil)) dra_nil))) drg_name (drs_seq (drs_par (i := 4) (j := 5) (dra_cons (dr_op od_add (dr_cb ca_min (dra_cons dr_mixVals dra_nil)) dr_int) (dra_cons dr_mixNew dra_nil))) (drs_seq (drs_for (dri_seq (dr_call XOk.none (dra_cons (dr_var 0) (dra_cons (dr_var 1) (dra_cons (dr_var 3) dra_nil))))) drg_name (drs_mixPut (i := 5) (dr_cb ca_min (dra_cons (dr_mixGetD (dra_cons (dr_var 6) (dra_cons (dr_var 4) dra_nil))) (dra_cons (dr_var 4) dra_nil))) (dr_var 6))) (drs_move (i := 2) (j := 5))))) (drs_ret (dr_cb ca_min (dra_cons dr_mixVals dra_nil)))))
abbrev S__law_stair_right : Stmt := top 30
abbrev N__law_stair_right : List Str := ["course", "fewest", "due", "many", "first", "delay"]
theorem sc__law_stair_right : FnScope N__law_stair_right ["course"] (defScope S__law_stair_right) := ⟨rfl, rfl, rfl, by decide +kernel, rfl, by decide +kernel, by decide +kernel⟩
theorem ok__law_stair_right (G : Glob K mg cls) (c_fewest_changes : CalG P w K mg base 7 "fewest_changes" ["course", "delay"] (spD K cls false 2 T_fewest_changes)) (c_stair : CalG P w K mg base 8 "stair" ["course"] (spD K cls false 1 T_stair)) (c_least_delay : CalG P w K mg base 9 "least_delay" ["course", "changes"] (spD K cls false 2 T_least_delay)) (c__law_is : CalG P w K mg base 9 "_law_is" ["found", "due"] (spD K cls false 2 T__law_is)) (c__law_fewest : CalG P w K mg base 2 "_law_fewest" ["course", "delay"] (spD K cls false 2 T__law_fewest)) (F : FnP K "_law_stair_right" S__law_stair_right f fd) : FnG P w K mg base 10 f fd ["course"] (spD K cls false 1 T__law_stair_right) := by
  refine fnD F sc__law_stair_right rfl B__law_stair_right imp__law_stair_right fun cdv A outer s H E hr hgd => ⟨_, (pss_cons (ps_set (i := 1) sc__law_stair_right.nd rfl (by first | exact Or.inl rfl | exact Or.inr rfl) (pe_lc (own := [("delay", 5)]) (g := (gName 5)) rfl sc__law_stair_right.nd (pi_range1 rfl G.f_range (pa_cons (pe_callB (k_len (K := K) rfl) rfl G.f_len bt_len (pa_cons (pv 0) pa_nil)) pa_nil)) (blkOk_by (N := N__law_stair_right) (sc := defScope S__law_stair_right) (own := [("delay", 5)]) (by decide +kernel)) (fun _ _ _ _ _ => (pg_name (i := 5) sc__law_stair_right.nd rfl (by first | exact Or.inl rfl | exact Or.inr rfl))) (fun _ _ _ _ _ => pts_nil) (fun _ _ _ _ _ => (pe_cg c__law_fewest hr (by decide) hgd rfl passL (pa_cons (pv 0) (pa_cons (pv 5) pa_nil)))))) (pss_cons (ps_setLc (i := 2) (own := [("delay", 5), ("many", 3)]) (g := (gTup K 2 (gCons (gName 5) (gCons (gName 3) gNil)))) rfl sc__law_stair_right.nd rfl rfl (sw_true rfl rfl rfl (by decide +kernel)) (pi_enumK (K := K) rfl rfl G.f_enumerate (pa_cons (pv 1) pa_nil)) (blkOk_by (N := N__law_stair_right) (sc := defScope S__law_stair_right) (own := [("delay", 5), ("many", 3)]) (by decide +kernel)) (fun _ _ _ _ _ => (pg_tupK (K := K) rfl rfl (pgs_cons (pg_name (i := 5) sc__law_stair_right.nd rfl (by first | exact Or.inl rfl | exact Or.inr rfl)) (pgs_cons (pg_name (i := 3) sc__law_stair_right.nd rfl (by first | exact Or.inl rfl | exact Or.inr rfl)) pgs_nil)))) (fun _ _ _ _ _ => (pts_one (PW.pt (pw_or (pt_cmpR (k_eq (K := K) rfl hr) (pv 5) pe_int (by first | exact nomark _ | rfl)) (pw_or1 (pt_cmpR op_lt (pv 3) (pe_callB (k_min (K := K) rfl rfl) rfl G.f_min bt_min (pa_cons (pe_slice (k_sl (K := K) rfl) (pv 1) po_none (po_some (pv 5))) pa_nil)) (by first | exact nomark _ | rfl))))))) (fun _ _ _ _ _ => (pe_tup (pa_cons (pv 5) (pa_cons (pv 3) pa_nil))))) (pss_cons (ps_if (PW.pt (pw_or (pt_not (pt_val (pe_cg c__law_is hr (by decide) hgd rfl passL (pa_cons (pe_cg c_stair hr (by decide) hgd rfl passL (pa_cons (pv 0) pa_nil)) (pa_cons (pv 2) pa_nil))))) (pw_or1 (pt_cmpR (k_ne (K := K) rfl hr) (pe_ix (k_ix (K := K) rfl) (pe_ix (k_ix (K := K) rfl) (pv 2) (pe_un un_neg pe_int) (fun _ _ => rfl)) pe_int (fun _ _ => rfl)) pe_int (by first | exact nomark _ | rfl))))) (pss_one (ps_ret pe_bl)) pss_nil) (pss_cons (ps_for (passes_of rfl) rfl (pi_seqK (K := K) rfl (pe_op (k_add (K := K) rfl) (pe_listRg rfl rfl G.f_list (prg_1 rfl G.f_range (pe_op (k_add (K := K) rfl) (pe_ix (k_ix (K := K) rfl) (pv 1) pe_int (fun _ _ => rfl)) pe_int))) (pe_lst (pa_cons pe_int (pa_cons pe_int pa_nil))))) (pg_name (i := 3) sc__law_stair_right.nd rfl (by first | exact Or.inl rfl | exact Or.inr rfl)) (pss_cons (ps_set (i := 4) sc__law_stair_right.nd rfl (by first | exact Or.inl rfl | exact Or.inr rfl) (pe_ix (k_ix (K := K) rfl) (pe_lc (own := [("delay", 5)]) (g := (gName 5)) rfl sc__law_stair_right.nd (pi_range1 rfl G.f_range (pa_cons (pe_callB (k_len (K := K) rfl) rfl G.f_len bt_len (pa_cons (pv 0) pa_nil)) pa_nil)) (blkOk_by (N := N__law_stair_right) (sc := defScope S__law_stair_right) (own := [("delay", 5)]) (by decide +kernel)) (fun _ _ _ _ _ => (pg_name (i := 5) sc__law_stair_right.nd rfl (by first | exact Or.inl rfl | exact Or.inr rfl))) (fun _ _ _ _ _ => (pts_one (pt_cmpR op_le (pe_ix (k_ix (K := K) rfl) (pv 1) (pv 5) (fun _ _ => rfl)) (pv 3) (by first | exact nomark _ | rfl)))) (fun _ _ _ _ _ => (pv 5))) pe_int (fun _ _ => rfl))) (pss_one (ps_if (pt_not (pt_val (pe_cg c__law_is hr (by decide) hgd rfl passL (pa_cons (pe_cg c_least_delay hr (by decide) hgd rfl passL (pa_cons (pv 0) (pa_cons (pv 3) pa_nil))) (pa_cons (pv 4) pa_nil))))) (pss_one (ps_ret pe_bl)) pss_nil)))) (pss_one (ps_ret (pe_cmpR (k_eq (K := K) rfl hr) (pe_lc (own := [("delay", 5)]) (g := (gName 5)) rfl sc__law_stair_right.nd (pi_range1 rfl G.f_range (pa_cons (pe_callB (k_len (K := K) rfl) rfl G.f_len bt_len (pa_cons (pv 0) pa_nil)) pa_nil)) (blkOk_by (N := N__law_stair_right) (sc := defScope S__law_stair_right) (own := [("delay", 5)]) (by decide +kernel)) (fun _ _ _ _ _ => (pg_name (i := 5) sc__law_stair_right.nd rfl (by first | exact Or.inl rfl | exact Or.inr rfl))) (fun _ _ _ _ _ => (pts_one (pt_cmpR (k_ne (K := K) rfl hr) (pe_cg c_fewest_changes hr (by decide) hgd rfl passL (pa_cons (pv 0) (pa_cons (pv 5) pa_nil))) (pe_ix (k_ix (K := K) rfl) (pv 1) (pv 5) (fun _ _ => rfl)) (by first | exact nomark _ | rfl)))) (fun _ _ _ _ _ => pe_int)) (pe_lst pa_nil) (by first | exact nomark _ | rfl)))))))), fun Fr kx hx => ?_⟩
  exact (drs_seq (drs_set (i := 1) (dr_lc (dri_rng1 (dra_cons (dr_cb ca_len (dra_cons (dr_var 0) dra_nil)) dra_nil)) drg_name (blk_name (by decide)) (fun F => drt_yes) (fun F => (dr_call XOk.none (dra_cons (dr_var 0) (dra_cons (dr_var 5) dra_nil)))))) (drs_seq (drs_set (i := 2) (dr_lc (dri_enum (dra_cons (dr_var 1) dra_nil)) (drg_tup (drgs_cons drg_name (drgs_cons drg_name drgs_nil))) (blk_tup (blkS_name (by decide) (blkS_name (by decide) blkS_nil))) (fun F => (drt_or (drt_test (dr_op cm_eq.op (dr_var 5) dr_int)) (drt_test (dr_op cm_lt.op (dr_var 3) (dr_cb ca_min (dra_cons (dr_sl (dr_var 1) dro_none (dro_some (dr_var 5))) dra_nil)))))) (fun F => (dr_tup (dra_cons (dr_var 5) (dra_cons (dr_var 3) dra_nil)))))) (drs_seq (drs_if (drt_or (drt_not (drt_B (dr_call XOk.none (dra_cons (dr_call XOk.none (dra_cons (dr_var 0) dra_nil)) (dra_cons (dr_var 2) dra_nil))))) (drt_test (dr_op cm_ne.op (dr_op od_ix (dr_op od_ix (dr_var 2) (dr_un ud_neg dr_int)) dr_int) dr_int))) (drs_ret dr_bl) drs_next) (drs_seq (drs_for (dri_seq (dr_op od_add (dr_listRg (dr_op od_add (dr_op od_ix (dr_var 1) dr_int) dr_int)) (dr_lst (dra_cons dr_int (dra_cons dr_int dra_nil))))) drg_name (drs_seq (drs_set (i := 4) (dr_op od_ix (dr_lc (dri_rng1 (dra_cons (dr_cb ca_len (dra_cons (dr_var 0) dra_nil)) dra_nil)) drg_name (blk_name (by decide)) (fun F => (drt_test (dr_op cm_le.op (dr_op od_ix (dr_var 1) (dr_var 5)) (dr_var 3)))) (fun F => (dr_var 5))) dr_int)) (drs_if (drt_not (drt_B (dr_call XOk.none (dra_cons (dr_call XOk.none (dra_cons (dr_var 0) (dra_cons (dr_var 3) dra_nil))) (dra_cons (dr_var 4) dra_nil))))) (drs_ret dr_bl) drs_next))) (drs_ret (dr_op cm_eq.op (dr_lc (dri_rng1 (dra_cons (dr_cb ca_len (dra_cons (dr_var 0) dra_nil)) dra_nil)) drg_name (blk_name (by decide)) (fun F => (drt_test (dr_op cm_ne.op (dr_call XOk.none (dra_cons (dr_var 0) (dra_cons (dr_var 5) dra_nil))) (dr_op od_ix (dr_var 1) (dr_var 5))))) (fun F => dr_int)) (dr_lst dra_nil)))))))
abbrev S_law : Stmt := top 31
abbrev N_law : List Str := ["script", "state", "turn", "apart", "at"]
theorem sc_law : FnScope N_law ["script"] (defScope S_law) := ⟨rfl, rfl, rfl, by decide +kernel, rfl, by decide +kernel, by decide +kernel⟩
theorem ok_law (G : Glob K mg cls) (c__law_begun : CalG P w K mg base 1 "_law_begun" ["script"] (spBegun K)) (c__law_draw : CalG P w K mg base 2 "_law_draw" ["state", "room"] (spD K cls true 1 T__law_draw)) (c__law_pick : CalG P w K mg base 3 "_law_pick" ["state", "some"] (spD K cls true 1 T__law_pick)) (c__law_some_course : CalG P w K mg base 4 "_law_some_course" ["state", "most"] (spD K cls true 1 T__law_some_course)) (c__law_stair_right : CalG P w K mg base 10 "_law_stair_right" ["course"] (spD K cls false 1 T__law_stair_right)) (F : FnP K "law" S_law f fd) : FnG P w K mg base 11 f fd ["script"] (spLaw K) := by
  refine fnG_of F sc_law (fun vs H Q E h => by obtain ⟨a, ns, rfl, _⟩ := h; rfl) fun cdv A outer s H vs Q E hr hgd h => ⟨_, pss_cons (ps_set (i := 1) sc_law.nd rfl (by first | exact Or.inl rfl | exact Or.inr rfl) (pe_cg c__law_begun hr (by decide) hgd rfl passL (pa_cons (pv 0) pa_nil))) (pss_cons (ps_for (passes_of rfl) rfl (pi_range1 rfl G.f_range (pa_cons (pe_op (k_add (K := K) rfl) pe_int (pe_callB (k_min (K := K) rfl rfl) rfl G.f_min bt_min (pa_cons (pe_callB (k_len (K := K) rfl) rfl G.f_len bt_len (pa_cons (pv 0) pa_nil)) (pa_cons pe_int pa_nil)))) pa_nil)) (pg_name (i := 2) sc_law.nd rfl (by first | exact Or.inl rfl | exact Or.inr rfl)) (pss_one (ps_if (pt_not (pt_val (pe_cg c__law_stair_right hr (by decide) hgd rfl passL (pa_cons (pe_cg c__law_some_course hr (by decide) hgd rfl passL (pa_cons (pv 1) (pa_cons (pe_cg c__law_pick hr (by decide) hgd rfl passL (pa_cons (pv 1) (pa_cons (pe_lst (pa_cons pe_int (pa_cons pe_int (pa_cons pe_int pa_nil)))) pa_nil))) pa_nil))) pa_nil)))) (pss_one (ps_ret pe_bl)) pss_nil))) (pss_cons (ps_setLc (i := 3) (own := [("at", 4)]) (g := (gName 4)) rfl sc_law.nd rfl rfl (sw_true rfl rfl rfl (by decide +kernel)) (pi_range1 rfl G.f_range (pa_cons (pe_op (k_add (K := K) rfl) pe_int (pe_cg c__law_draw hr (by decide) hgd rfl passL (pa_cons (pv 1) (pa_cons pe_int pa_nil)))) pa_nil)) (blkOk_by (N := N_law) (sc := defScope S_law) (own := [("at", 4)]) (by decide +kernel)) (fun _ _ _ _ _ => (pg_name (i := 4) sc_law.nd rfl (by first | exact Or.inl rfl | exact Or.inr rfl))) (fun _ _ _ _ _ => pts_nil) (fun _ _ _ _ _ => (pe_op (k_add (K := K) rfl) (pe_cg c__law_draw hr (by decide) hgd rfl passL (pa_cons (pv 1) (pa_cons pe_int pa_nil))) (pe_op op_mulD pe_int (pv 4))))) (pss_one (ps_ret (pe_and (pe_cg c__law_stair_right hr (by decide) hgd rfl passL (pa_cons (pv 3) pa_nil)) (pe_and (pe_cg c__law_stair_right hr (by decide) hgd rfl passL (pa_cons (pe_op (k_add (K := K) rfl) (pv 3) (pe_revK (K := K) rfl (pe_slice (k_sl (K := K) rfl) (pv 3) po_none (po_some (pe_un un_neg pe_int))))) pa_nil)) (pe_one (pe_cg c__law_stair_right hr (by decide) hgd rfl passL (pa_cons (pe_slice (k_sl (K := K) rfl) (pe_op op_mulD (pe_slice (k_sl (K := K) rfl) (pv 3) po_none (po_some pe_int)) pe_int) po_none (po_some pe_int)) pa_nil))))))))), law_ok (N := N_law) (E := E0) (U := B_law fun _ => False) (by decide) (fun Fr => ?_) law_true vs H Q E h⟩
  exact (drs_seq (drs_for (dri_rng1 (dra_cons (dr_op od_add dr_int (dr_cb ca_min (dra_cons dr_lenScr (dra_cons dr_int dra_nil)))) dra_nil)) drg_name (drs_if (drt_not (drt_B (dr_call XOk.none (dra_cons (dr_callS XOk.none (dra_cons (dr_callS XOk.none (dra_cons (dr_lst (dra_cons dr_int (dra_cons dr_int (dra_cons dr_int dra_nil)))) dra_nil)) dra_nil)) dra_nil)))) (drs_ret dr_bl) drs_next)) (drs_seq (drs_set (i := 3) (dr_lc (dri_rng1 (dra_cons (dr_op od_add dr_int (dr_callS XOk.none (dra_cons dr_int dra_nil))) dra_nil)) drg_name (blk_name (by decide)) (fun F => drt_yes) (fun F => (dr_op od_add (dr_callS XOk.none (dra_cons dr_int dra_nil)) (dr_op od_mul dr_int (dr_var 4)))))) (drs_ret (dr_andV (dr_call XOk.none (dra_cons (dr_var 3) dra_nil)) (dr_andV (dr_call XOk.none (dra_cons (dr_op od_add (dr_var 3) (dr_rev (dr_sl (dr_var 3) dro_none (dro_some (dr_un ud_neg dr_int))))) dra_nil)) (dr_call XOk.none (dra_cons (dr_sl (dr_op od_mul (dr_sl (dr_var 3) dro_none (dro_some dr_int)) dr_int) dro_none (dro_some dr_int)) dra_nil)))))))
end
/-! ### the head -/
def d_is_whole : He.DefD := ⟨("is_whole", none), "is_whole", "is_whole", defArgs S_is_whole, defBody S_is_whole, defScope S_is_whole, [], []⟩
def d_is_value : He.DefD := ⟨("is_value", none), "is_value", "is_value", defArgs S_is_value, defBody S_is_value, defScope S_is_value, [], []⟩
def d_is_course : He.DefD := ⟨("is_course", none), "is_course", "is_course", defArgs S_is_course, defBody S_is_course, defScope S_is_course, [], []⟩
def d_need_number : He.DefD := ⟨("need_number", none), "need_number", "need_number", defArgs S_need_number, defBody S_need_number, defScope S_need_number, [], []⟩
def d_need_course : He.DefD := ⟨("need_course", none), "need_course", "need_course", defArgs S_need_course, defBody S_need_course, defScope S_need_course, [], []⟩
def d_need_courses : He.DefD := ⟨("need_courses", none), "need_courses", "need_courses", defArgs S_need_courses, defBody S_need_courses, defScope S_need_courses, [], []⟩
def d_unlike : He.DefD := ⟨("unlike", none), "unlike", "unlike", defArgs S_unlike, defBody S_unlike, defScope S_unlike, [], []⟩
def d_window : He.DefD := ⟨("window", none), "window", "window", defArgs S_window, defBody S_window, defScope S_window, [], []⟩
def d_rounds_of : He.DefD := ⟨("rounds_of", none), "rounds_of", "rounds_of", defArgs S_rounds_of, defBody S_rounds_of, defScope S_rounds_of, [], []⟩
def d_fewest_together : He.DefD := ⟨("fewest_together", none), "fewest_together", "fewest_together", defArgs S_fewest_together, defBody S_fewest_together, defScope S_fewest_together, [], []⟩
def d_fewest_changes : He.DefD := ⟨("fewest_changes", none), "fewest_changes", "fewest_changes", defArgs S_fewest_changes, defBody S_fewest_changes, defScope S_fewest_changes, [], []⟩
def d_stair : He.DefD := ⟨("stair", none), "stair", "stair", defArgs S_stair, defBody S_stair, defScope S_stair, [], []⟩
def d_least_delay : He.DefD := ⟨("least_delay", none), "least_delay", "least_delay", defArgs S_least_delay, defBody S_least_delay, defScope S_least_delay, [], []⟩
def d__law_begun : He.DefD := ⟨("_law_begun", none), "_law_begun", "_law_begun", defArgs S__law_begun, defBody S__law_begun, defScope S__law_begun, [], []⟩
def d__law_mixed : He.DefD := ⟨("_law_mixed", none), "_law_mixed", "_law_mixed", defArgs S__law_mixed, defBody S__law_mixed, defScope S__law_mixed, [], []⟩
def d__law_draw : He.DefD := ⟨("_law_draw", none), "_law_draw", "_law_draw", defArgs S__law_draw, defBody S__law_draw, defScope S__law_draw, [], []⟩
def d__law_pick : He.DefD := ⟨("_law_pick", none), "_law_pick", "_law_pick", defArgs S__law_pick, defBody S__law_pick, defScope S__law_pick, [], []⟩
def d__law_plain : He.DefD := ⟨("_law_plain", none), "_law_plain", "_law_plain", defArgs S__law_plain, defBody S__law_plain, defScope S__law_plain, [], []⟩
def d__law_is : He.DefD := ⟨("_law_is", none), "_law_is", "_law_is", defArgs S__law_is, defBody S__law_is, defScope S__law_is, [], []⟩
def d__law_some_course : He.DefD := ⟨("_law_some_course", none), "_law_some_course", "_law_some_course", defArgs S__law_some_course, defBody S__law_some_course, defScope S__law_some_course, [], []⟩
def d__law_window : He.DefD := ⟨("_law_window", none), "_law_window", "_law_window", defArgs S__law_window, defBody S__law_window, defScope S__law_window, [], []⟩
def d__law_fewest : He.DefD := ⟨("_law_fewest", none), "_law_fewest", "_law_fewest", defArgs S__law_fewest, defBody S__law_fewest, defScope S__law_fewest, [], []⟩
def d__law_stair_right : He.DefD := ⟨("_law_stair_right", none), "_law_stair_right", "_law_stair_right", defArgs S__law_stair_right, defBody S__law_stair_right, defScope S__law_stair_right, [], []⟩
def d_law : He.DefD := ⟨("law", none), "law", "law", defArgs S_law, defBody S_law, defScope S_law, [], []⟩
def fn : List He.DefD := [d_is_whole, d_is_value, d_is_course, d_need_number, d_need_course, d_need_courses, d_unlike, d_window, d_rounds_of, d_fewest_together, d_fewest_changes, d_stair, d_least_delay, d__law_begun, d__law_mixed, d__law_draw, d__law_pick, d__law_plain, d__law_is, d__law_some_course, d__law_window, d__law_fewest, d__law_stair_right, d_law]
def fa : List He.Fa := [.glo "is_whole", .glo "is_value", .glo "is_course", .glo "need_number", .glo "need_course", .glo "need_courses", .glo "unlike", .glo "window", .glo "rounds_of", .glo "fewest_together", .glo "fewest_changes", .glo "stair", .glo "least_delay", .glo "_law_begun", .glo "_law_mixed", .glo "_law_draw", .glo "_law_pick", .glo "_law_plain", .glo "_law_is", .glo "_law_some_course", .glo "_law_window", .glo "_law_fewest", .glo "_law_stair_right", .glo "law", .free "abs", .free "bool", .free "dict", .free "enumerate", .free "int", .free "isinstance", .free "len", .free "list", .free "max", .free "min", .free "range", .free "repr", .free "str", .free "tuple", .free "zip", .int "MOST_COURSES" 6, .int "MOST_DELAY" 200, .int "MOST_VALUES" 120, .exc "NoAsk", .glo "NoAsk"]
abbrev R : PySem.W.OpenRow := PySem.W.OpenLaw.row PySem.Challenge.rw_riverknown_k62_whole_stairs_of_delays
abbrev hk : PySem.W.Hook := He.hookD 4 fa fn
def ob (s : PySem.W.SharedT) : He.AlD := He.obsDG 4 fa fn (HandSHeadRun.getT s)
theorem ob_eq (s : PySem.W.SharedT) : ob s = hk.obs s.abs := He.obsDG_eq (HandSHeadRun.getT_eq s)
theorem run (w : World) : HandSHeadRun.RunEq R (PySem.W.view R.prog [31]) hk ob 4000 ["RiverError", "NoAsk", "MOST_VALUES", "MOST_DELAY", "MOST_COURSES", "is_whole", "is_value", "is_course", "need_number", "need_course", "need_courses", "unlike", "window", "rounds_of", "fewest_together", "fewest_changes", "stair", "least_delay", "_law_begun", "_law_mixed", "_law_draw", "_law_pick", "_law_plain", "_law_is", "_law_some_course", "_law_window", "_law_fewest", "_law_stair_right"] w := by
  intro os
  kernel_rfl
theorem facts {P : Program} {w : World} {K : PySem.W.Frag} {h : Heap} {mg : Str → Option Value} {f : Addr} (X : K.In h) (G : h.Ns mainGlobals mg) (hfa : mg ("law" : Str) = some (.ref f)) (c : He.SaysD fa fn K) :
    ∃ fd : FuncData, (∀ (s : Shared) (v : Value), BindsTo s fd ⟨[v], []⟩ [("script", v)]) ∧ ∀ base : Heap, K.In base → base.Ns mainGlobals mg → FnG P w K mg base 11 f fd ["script"] (spLaw K) := by
  obtain ⟨fd_is_whole, F_is_whole⟩ := c.def_ 0 (d := d_is_whole) rfl
  have g_is_whole := He.glo_ok X G (c.fact 0 (f := .glo "is_whole") rfl)
  obtain ⟨fd_is_value, F_is_value⟩ := c.def_ 1 (d := d_is_value) rfl
  have g_is_value := He.glo_ok X G (c.fact 1 (f := .glo "is_value") rfl)
  obtain ⟨fd_is_course, F_is_course⟩ := c.def_ 2 (d := d_is_course) rfl
  have g_is_course := He.glo_ok X G (c.fact 2 (f := .glo "is_course") rfl)
  obtain ⟨fd_need_number, F_need_number⟩ := c.def_ 3 (d := d_need_number) rfl
  have g_need_number := He.glo_ok X G (c.fact 3 (f := .glo "need_number") rfl)
  obtain ⟨fd_need_course, F_need_course⟩ := c.def_ 4 (d := d_need_course) rfl
  have g_need_course := He.glo_ok X G (c.fact 4 (f := .glo "need_course") rfl)
  obtain ⟨fd_need_courses, F_need_courses⟩ := c.def_ 5 (d := d_need_courses) rfl
  have g_need_courses := He.glo_ok X G (c.fact 5 (f := .glo "need_courses") rfl)
  obtain ⟨fd_unlike, F_unlike⟩ := c.def_ 6 (d := d_unlike) rfl
  have g_unlike := He.glo_ok X G (c.fact 6 (f := .glo "unlike") rfl)
  obtain ⟨fd_window, F_window⟩ := c.def_ 7 (d := d_window) rfl
  have g_window := He.glo_ok X G (c.fact 7 (f := .glo "window") rfl)
  obtain ⟨fd_rounds_of, F_rounds_of⟩ := c.def_ 8 (d := d_rounds_of) rfl
  have g_rounds_of := He.glo_ok X G (c.fact 8 (f := .glo "rounds_of") rfl)
  obtain ⟨fd_fewest_together, F_fewest_together⟩ := c.def_ 9 (d := d_fewest_together) rfl
  have g_fewest_together := He.glo_ok X G (c.fact 9 (f := .glo "fewest_together") rfl)
  obtain ⟨fd_fewest_changes, F_fewest_changes⟩ := c.def_ 10 (d := d_fewest_changes) rfl
  have g_fewest_changes := He.glo_ok X G (c.fact 10 (f := .glo "fewest_changes") rfl)
  obtain ⟨fd_stair, F_stair⟩ := c.def_ 11 (d := d_stair) rfl
  have g_stair := He.glo_ok X G (c.fact 11 (f := .glo "stair") rfl)
  obtain ⟨fd_least_delay, F_least_delay⟩ := c.def_ 12 (d := d_least_delay) rfl
  have g_least_delay := He.glo_ok X G (c.fact 12 (f := .glo "least_delay") rfl)
  obtain ⟨fd__law_begun, F__law_begun⟩ := c.def_ 13 (d := d__law_begun) rfl
  have g__law_begun := He.glo_ok X G (c.fact 13 (f := .glo "_law_begun") rfl)
  obtain ⟨fd__law_mixed, F__law_mixed⟩ := c.def_ 14 (d := d__law_mixed) rfl
  have g__law_mixed := He.glo_ok X G (c.fact 14 (f := .glo "_law_mixed") rfl)
  obtain ⟨fd__law_draw, F__law_draw⟩ := c.def_ 15 (d := d__law_draw) rfl
  have g__law_draw := He.glo_ok X G (c.fact 15 (f := .glo "_law_draw") rfl)
  obtain ⟨fd__law_pick, F__law_pick⟩ := c.def_ 16 (d := d__law_pick) rfl
  have g__law_pick := He.glo_ok X G (c.fact 16 (f := .glo "_law_pick") rfl)
  obtain ⟨fd__law_plain, F__law_plain⟩ := c.def_ 17 (d := d__law_plain) rfl
  have g__law_plain := He.glo_ok X G (c.fact 17 (f := .glo "_law_plain") rfl)
  obtain ⟨fd__law_is, F__law_is⟩ := c.def_ 18 (d := d__law_is) rfl
  have g__law_is := He.glo_ok X G (c.fact 18 (f := .glo "_law_is") rfl)
  obtain ⟨fd__law_some_course, F__law_some_course⟩ := c.def_ 19 (d := d__law_some_course) rfl
  have g__law_some_course := He.glo_ok X G (c.fact 19 (f := .glo "_law_some_course") rfl)
  obtain ⟨fd__law_window, F__law_window⟩ := c.def_ 20 (d := d__law_window) rfl
  have g__law_window := He.glo_ok X G (c.fact 20 (f := .glo "_law_window") rfl)
  obtain ⟨fd__law_fewest, F__law_fewest⟩ := c.def_ 21 (d := d__law_fewest) rfl
  have g__law_fewest := He.glo_ok X G (c.fact 21 (f := .glo "_law_fewest") rfl)
  obtain ⟨fd__law_stair_right, F__law_stair_right⟩ := c.def_ 22 (d := d__law_stair_right) rfl
  have g__law_stair_right := He.glo_ok X G (c.fact 22 (f := .glo "_law_stair_right") rfl)
  obtain ⟨fd, F⟩ := c.def_ 23 (d := d_law) rfl
  have e := hfa.symm.trans (He.glo_ok X G (c.fact 23 (f := .glo "law") rfl))
  cases e
  have GG : Glob K mg (fun x => He.ga K x) := { f_abs := He.free_ok X G (c.fact 24 (f := .free "abs") rfl), f_bool := He.free_ok X G (c.fact 25 (f := .free "bool") rfl), f_dict := He.free_ok X G (c.fact 26 (f := .free "dict") rfl), f_enumerate := He.free_ok X G (c.fact 27 (f := .free "enumerate") rfl), f_int := He.free_ok X G (c.fact 28 (f := .free "int") rfl), f_isinstance := He.free_ok X G (c.fact 29 (f := .free "isinstance") rfl), f_len := He.free_ok X G (c.fact 30 (f := .free "len") rfl), f_list := He.free_ok X G (c.fact 31 (f := .free "list") rfl), f_max := He.free_ok X G (c.fact 32 (f := .free "max") rfl), f_min := He.free_ok X G (c.fact 33 (f := .free "min") rfl), f_range := He.free_ok X G (c.fact 34 (f := .free "range") rfl), f_repr := He.free_ok X G (c.fact 35 (f := .free "repr") rfl), f_str := He.free_ok X G (c.fact 36 (f := .free "str") rfl), f_tuple := He.free_ok X G (c.fact 37 (f := .free "tuple") rfl), f_zip := He.free_ok X G (c.fact 38 (f := .free "zip") rfl), i_MOST_COURSES := (He.int_ok X G (c.fact 39 (f := .int "MOST_COURSES" 6) rfl)).elim fun t e => ⟨_, e, ⟨t, rfl⟩⟩, i_MOST_DELAY := (He.int_ok X G (c.fact 40 (f := .int "MOST_DELAY" 200) rfl)).elim fun t e => ⟨_, e, ⟨t, rfl⟩⟩, i_MOST_VALUES := (He.int_ok X G (c.fact 41 (f := .int "MOST_VALUES" 120) rfl)).elim fun t e => ⟨_, e, ⟨t, rfl⟩⟩, x_NoAsk := let z := He.exc_ok (c.fact 42 (f := .exc "NoAsk") rfl); ⟨z.1, He.glo_ok X G (c.fact 43 (f := .glo "NoAsk") rfl), z.2.1, z.2.2.1, z.2.2.2⟩ }
  have b := FunD.bindsA (ps := ["script"]) F fun _ _ _ _ _ _ us hl => match us, hl with | [_], _ => rfl
  refine ⟨fd, fun s v => b s [v] rfl, fun base _ _ => ?_⟩
  have c_is_whole := calG (P := P) (w := w) (base := base) (ok_is_whole GG  F_is_whole) g_is_whole F_is_whole.kp (FunD.bindsN (ps := ["thing"]) F_is_whole fun _ _ _ _ _ _ us hl => match us, hl with | [_], _ => rfl)
  have c_is_value := calG (P := P) (w := w) (base := base) (ok_is_value GG c_is_whole F_is_value) g_is_value F_is_value.kp (FunD.bindsN (ps := ["thing"]) F_is_value fun _ _ _ _ _ _ us hl => match us, hl with | [_], _ => rfl)
  have c_is_course := calG (P := P) (w := w) (base := base) (ok_is_course GG c_is_value F_is_course) g_is_course F_is_course.kp (FunD.bindsN (ps := ["thing"]) F_is_course fun _ _ _ _ _ _ us hl => match us, hl with | [_], _ => rfl)
  have c_need_number := calG (P := P) (w := w) (base := base) (ok_need_number GG c_is_whole F_need_number) g_need_number F_need_number.kp (FunD.bindsN (ps := ["thing", "low", "high"]) F_need_number fun _ _ _ _ _ _ us hl => match us, hl with | [_, _, _], _ => rfl)
  have c_need_course := calG (P := P) (w := w) (base := base) (ok_need_course GG c_is_course F_need_course) g_need_course F_need_course.kp (FunD.bindsN (ps := ["course"]) F_need_course fun _ _ _ _ _ _ us hl => match us, hl with | [_], _ => rfl)
  have c_need_courses := calG (P := P) (w := w) (base := base) (ok_need_courses GG c_need_course F_need_courses) g_need_courses F_need_courses.kp (FunD.bindsN (ps := ["courses"]) F_need_courses fun _ _ _ _ _ _ us hl => match us, hl with | [_], _ => rfl)
  have c_unlike := calG (P := P) (w := w) (base := base) (ok_unlike GG  F_unlike) g_unlike F_unlike.kp (FunD.bindsN (ps := ["values"]) F_unlike fun _ _ _ _ _ _ us hl => match us, hl with | [_], _ => rfl)
  have c_window := calG (P := P) (w := w) (base := base) (ok_window GG  F_window) g_window F_window.kp (FunD.bindsN (ps := ["course", "delay", "at"]) F_window fun _ _ _ _ _ _ us hl => match us, hl with | [_, _, _], _ => rfl)
  have c_rounds_of := calG (P := P) (w := w) (base := base) (ok_rounds_of GG c_unlike c_window F_rounds_of) g_rounds_of F_rounds_of.kp (FunD.bindsN (ps := ["courses", "delay"]) F_rounds_of fun _ _ _ _ _ _ us hl => match us, hl with | [_, _], _ => rfl)
  have c_fewest_together := calG (P := P) (w := w) (base := base) (ok_fewest_together GG c_need_number c_need_courses c_rounds_of F_fewest_together) g_fewest_together F_fewest_together.kp (FunD.bindsN (ps := ["courses", "delay"]) F_fewest_together fun _ _ _ _ _ _ us hl => match us, hl with | [_, _], _ => rfl)
  have c_fewest_changes := calG (P := P) (w := w) (base := base) (ok_fewest_changes GG c_fewest_together F_fewest_changes) g_fewest_changes F_fewest_changes.kp (FunD.bindsN (ps := ["course", "delay"]) F_fewest_changes fun _ _ _ _ _ _ us hl => match us, hl with | [_, _], _ => rfl)
  have c_stair := calG (P := P) (w := w) (base := base) (ok_stair GG c_need_course c_fewest_changes F_stair) g_stair F_stair.kp (FunD.bindsN (ps := ["course"]) F_stair fun _ _ _ _ _ _ us hl => match us, hl with | [_], _ => rfl)
  have c_least_delay := calG (P := P) (w := w) (base := base) (ok_least_delay GG c_need_number c_need_course c_stair F_least_delay) g_least_delay F_least_delay.kp (FunD.bindsN (ps := ["course", "changes"]) F_least_delay fun _ _ _ _ _ _ us hl => match us, hl with | [_, _], _ => rfl)
  have c__law_begun := calG (P := P) (w := w) (base := base) (ok__law_begun GG F__law_begun) g__law_begun F__law_begun.kp (FunD.bindsN (ps := ["script"]) F__law_begun fun _ _ _ _ _ _ us hl => match us, hl with | [_], _ => rfl)
  have c__law_mixed := calG (P := P) (w := w) (base := base) (ok__law_mixed GG  F__law_mixed) g__law_mixed F__law_mixed.kp (FunD.bindsN (ps := ["state"]) F__law_mixed fun _ _ _ _ _ _ us hl => match us, hl with | [_], _ => rfl)
  have c__law_draw := calG (P := P) (w := w) (base := base) (ok__law_draw GG c__law_mixed F__law_draw) g__law_draw F__law_draw.kp (FunD.bindsN (ps := ["state", "room"]) F__law_draw fun _ _ _ _ _ _ us hl => match us, hl with | [_, _], _ => rfl)
  have c__law_pick := calG (P := P) (w := w) (base := base) (ok__law_pick GG c__law_draw F__law_pick) g__law_pick F__law_pick.kp (FunD.bindsN (ps := ["state", "some"]) F__law_pick fun _ _ _ _ _ _ us hl => match us, hl with | [_, _], _ => rfl)
  have c__law_plain := calG (P := P) (w := w) (base := base) (ok__law_plain GG g__law_plain F__law_plain.kp (FunD.bindsN (ps := ["value"]) F__law_plain fun _ _ _ _ _ _ us hl => match us, hl with | [_], _ => rfl) F__law_plain 8) g__law_plain F__law_plain.kp (FunD.bindsN (ps := ["value"]) F__law_plain fun _ _ _ _ _ _ us hl => match us, hl with | [_], _ => rfl)
  have c__law_is := calG (P := P) (w := w) (base := base) (ok__law_is GG c__law_plain F__law_is) g__law_is F__law_is.kp (FunD.bindsN (ps := ["found", "due"]) F__law_is fun _ _ _ _ _ _ us hl => match us, hl with | [_, _], _ => rfl)
  have c__law_some_course := calG (P := P) (w := w) (base := base) (ok__law_some_course GG c__law_draw c__law_pick F__law_some_course) g__law_some_course F__law_some_course.kp (FunD.bindsN (ps := ["state", "most"]) F__law_some_course fun _ _ _ _ _ _ us hl => match us, hl with | [_, _], _ => rfl)
  have c__law_window := calG (P := P) (w := w) (base := base) (ok__law_window GG  F__law_window) g__law_window F__law_window.kp (FunD.bindsN (ps := ["course", "delay", "at"]) F__law_window fun _ _ _ _ _ _ us hl => match us, hl with | [_, _, _], _ => rfl)
  have c__law_fewest := calG (P := P) (w := w) (base := base) (ok__law_fewest GG c__law_window F__law_fewest) g__law_fewest F__law_fewest.kp (FunD.bindsN (ps := ["course", "delay"]) F__law_fewest fun _ _ _ _ _ _ us hl => match us, hl with | [_, _], _ => rfl)
  have c__law_stair_right := calG (P := P) (w := w) (base := base) (ok__law_stair_right GG c_fewest_changes c_stair c_least_delay c__law_is c__law_fewest F__law_stair_right) g__law_stair_right F__law_stair_right.kp (FunD.bindsN (ps := ["course"]) F__law_stair_right fun _ _ _ _ _ _ us hl => match us, hl with | [_], _ => rfl)
  exact ok_law GG c__law_begun c__law_draw c__law_pick c__law_some_course c__law_stair_right F
theorem holds : PySem.Challenge.rw_riverknown_k62_whole_stairs_of_delays.Holds := by
  w_on; o_law
  refine HandSHeadRun.head_any (r := PySem.W.OpenLaw.row PySem.Challenge.rw_riverknown_k62_whole_stairs_of_delays) (q := PySem.W.view (PySem.W.OpenLaw.row PySem.Challenge.rw_riverknown_k62_whole_stairs_of_delays).prog [31]) (H := hk) (ob := ob) (M := 4000) (loose := ["RiverError", "NoAsk", "MOST_VALUES", "MOST_DELAY", "MOST_COURSES", "is_whole", "is_value", "is_course", "need_number", "need_course", "need_courses", "unlike", "window", "rounds_of", "fewest_together", "fewest_changes", "stair", "least_delay", "_law_begun", "_law_mixed", "_law_draw", "_law_pick", "_law_plain", "_law_is", "_law_some_course", "_law_window", "_law_fewest", "_law_stair_right"]) (d := HandSHeadRun.topDef (PySem.W.OpenLaw.row PySem.Challenge.rw_riverknown_k62_whole_stairs_of_delays).prog 31) (kwd := []) ob_eq
    (by kernel_rfl) (fun s => by kernel_rfl) run (by kernel_rfl) (by kernel_rfl) (by kernel_rfl) (by rfl) (by first | assumption | decide +kernel) (by decide +kernel) ⟨rfl, rfl, rfl, rfl, rfl, by decide +kernel⟩ ?hw ?hc
  case hw => w_witness2
  case hc =>
    refine DL.walkG (l := PySem.Challenge.rw_riverknown_k62_whole_stairs_of_delays) (k := 11) (x := "script") rfl (by kernel_rfl) ⟨rfl, by decide, by decide⟩ ?F
    intro w mg fa h Y G hmg0
    obtain ⟨K, KX, c⟩ := Y
    have hmg : mg ("law" : PySem.Str) = some (.ref fa) := by
      have e : (HandSHeadRun.topDef (PySem.W.OpenLaw.row PySem.Challenge.rw_riverknown_k62_whole_stairs_of_delays).prog 31).name = ("law" : PySem.Str) := by kernel_rfl
      rw [← e]
      exact hmg0
    obtain ⟨fd, hb, hF⟩ := facts (P := (PySem.Challenge.rw_riverknown_k62_whole_stairs_of_delays).prog) (w := w) KX G hmg c
    exact ⟨K, fd, KX, hb, hF⟩
end k62

theorem PySem.Challenge.cw_riverknown_k62_whole_stairs_of_delays_holds : PySem.Challenge.rw_riverknown_k62_whole_stairs_of_delays.Holds := by
  exact k62.holds
