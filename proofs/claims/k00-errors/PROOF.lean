import PyProof.Rows.All
import Wide.All
import OpenK.AllK
import Wide.FinOn
import HandS.ForMost
import HandS.ForExc
import HandS.Lambda
import KE.KeyNested
import KE.KDictKeyed
import HandS.DictComp
import KE.KDictCopyH
import KE.KDictWalk
import HandS.More
import KE.GoesEnum
import HandS.Zip
import HandS.Slots
import HandS.ExcValue
import HandS.NoneIn
import HandS.IsInst
import HandS.Deep
import HandS.TupAny
import HandS.Wide
import HandS.StrMore
import HandS.Style
import HandS.ExcField
import HandS.ExcIs
import HandS.RaiseMore
import KE.KExcLine
import PyProof.Rows.FactsExc_KeyError
import HandS.Defaults
import HandS.MakeKwOnly
import HandS.EndOwn
import HandS.FStr
import KE.KExcIs
import HandS.Property
import OpenK.XHead
import PySem.Challenge.RW_letterrules_k00_errors
set_option Elab.async false
set_option linter.all false
set_option maxRecDepth 100000
set_option autoImplicit false
/-! Dicts whose keys are numbers, texts, None and tuples of such, mixed in one dict: the look-up and the store, at the level of the model. -/
namespace L2.GD
open PySem PySem.Spec PyProof.Rows
abbrev Ent := NestedKey × Value × Value
def entN (w : World) (x : Ent) : DictEntry := ⟨x.1.hash w, x.2.1, x.2.2⟩
def atN (xs : List Ent) (k : NestedKey) : Option (Value × Value) := (xs.find? fun x => decide (x.1 = k)).map (·.2)
def repN (k : NestedKey) (v : Value) (x : Ent) : Ent := if x.1 = k then (x.1, x.2.1, v) else x
def putN (xs : List Ent) (k : NestedKey) (kv v : Value) : List Ent := if (atN xs k).isSome then xs.map (repN k v) else xs ++ [(k, kv, v)]
/-- the keys stand in the heap -/
def KeysN (h : Heap) (xs : List Ent) : Prop := ∀ x ∈ xs, NestedIs h x.1 x.2.1 ∧ x.1.depth ≤ 8
def DictN (w : World) (h : Heap) (d : Addr) (xs : List Ent) : Prop :=
  ∃ o es ep, h.get? d = some o ∧ o.ExactDict ∧ o.data = .dict es ep ∧ es.toList = xs.map (entN w) ∧ (xs.map (·.1)).Nodup
section
variable {w : World} {h h' : Heap} {d : Addr} {xs : List Ent} {k : NestedKey} {p : Value × Value}
theorem DictN.typ {s : Shared} (m : DictN w s.heap d xs) : s.TypeIs (.ref d) "dict" := let ⟨o, _, _, e, c, _⟩ := m; ⟨o, e, c.1⟩
theorem DictN.empty (h : Heap) : DictN w (h.push { cls := .type "dict", data := .dict #[] }) h.objs.size [] := ⟨_, #[], 0, Heap.get?_push_size _ rfl, ⟨rfl, rfl, rfl⟩, rfl, rfl, List.nodup_nil⟩
theorem DictN.stay (m : DictN w h d xs) (e : ∀ o, h.get? d = some o → h'.get? d = some o) : DictN w h' d xs := let ⟨o, es, ep, a, r⟩ := m; ⟨o, es, ep, e _ a, r⟩
theorem atN_get (hn : (xs.map (·.1)).Nodup) : ∀ {i : Nat}, xs[i]? = some (k, p) → atN xs k = some p := by
  induction xs with
  | nil => intro i hx; simp at hx
  | cons x r ih =>
    intro i hx
    rw [List.map_cons, List.nodup_cons] at hn
    unfold atN
    rw [List.find?_cons]
    cases i with
    | zero =>
      have hx : x = (k, p) := by simpa using hx
      subst hx
      simp
    | succ i =>
      have hx : r[i]? = some (k, p) := by simpa using hx
      have hne : ¬ x.1 = k := fun e => hn.1 (by rw [e]; exact List.mem_map.mpr ⟨_, List.mem_of_getElem? hx, rfl⟩)
      rw [decide_eq_false hne]
      exact ih hn.2 hx
theorem atN_none (hno : ∀ (i : Nat) (p : Value × Value), xs[i]? ≠ some (k, p)) : atN xs k = none := by
  unfold atN
  cases hf : xs.find? fun x => decide (x.1 = k) with
  | none => rfl
  | some x =>
    have h1 := List.find?_some hf
    obtain ⟨i, hi⟩ := List.mem_iff_getElem?.mp (List.mem_of_find?_eq_some hf)
    have h2 : x.1 = k := of_decide_eq_true h1
    subst h2
    exact absurd hi (hno i x.2)
theorem ixN_same (hn : (xs.map (·.1)).Nodup) {i j : Nat} {q : Value × Value} (hi : xs[i]? = some (k, p)) (hj : xs[j]? = some (k, q)) : i = j := by
  have a : (xs.map (·.1))[i]? = some k := by rw [List.getElem?_map, hi]; rfl
  have b : (xs.map (·.1))[j]? = some k := by rw [List.getElem?_map, hj]; rfl
  exact (List.getElem?_inj (List.getElem?_eq_some_iff.mp a).1 hn).mp (a.trans b.symm)
theorem repN_keys (v : Value) : (xs.map (repN k v)).map (·.1) = xs.map (·.1) := by
  rw [List.map_map]
  apply List.map_congr_left
  intro x _
  show (repN k v x).1 = x.1
  unfold repN
  split <;> rfl
theorem repN_out (v : Value) (hn : k ∉ xs.map (·.1)) : xs.map (repN k v) = xs := by
  conv => rhs; rw [← List.map_id xs]
  apply List.map_congr_left
  intro x hx
  unfold repN
  rw [if_neg fun e => hn (List.mem_map.mpr ⟨x, hx, e⟩)]; rfl
theorem repN_mod (v : Value) (hn : (xs.map (·.1)).Nodup) : ∀ {j : Nat}, xs[j]? = some (k, p) → (xs.map (entN w)).modify j (fun e => { e with val := v }) = (xs.map (repN k v)).map (entN w) := by
  induction xs with
  | nil => intro j hj; simp at hj
  | cons x r ih =>
    intro j hj
    rw [List.map_cons, List.nodup_cons] at hn
    cases j with
    | zero =>
      have hj : x = (k, p) := by simpa using hj
      subst hj
      rw [List.map_cons, List.map_cons, repN_out v hn.1, List.map_cons, show repN k v (k, p) = (k, p.1, v) from if_pos rfl]
      rfl
    | succ j =>
      have hj : r[j]? = some (k, p) := by simpa using hj
      have hne : ¬ x.1 = k := fun e => hn.1 (by rw [e]; exact List.mem_map.mpr ⟨_, List.mem_of_getElem? hj, rfl⟩)
      rw [List.map_cons, List.map_cons, List.map_cons, show repN k v x = x from if_neg hne, ← ih hn.2 hj]
      rfl
theorem KeysN.stay (m : KeysN h xs) (e : ∀ a o vs n, h.get? a = some o → o.data = .seq vs n → h'.get? a = some o) : KeysN h' xs := fun x hx => ⟨NestedIs.at e _ _ (m x hx).1, (m x hx).2⟩
end
section
variable {prog : Program} {w : World} {A : Around} {E : Value → Shared → Prop} {s : Shared} {d : Addr} {xs : List Ent} {k : NestedKey} {kv : Value}
theorem ent_ix {es : Array DictEntry} (he : es.toList = xs.map (entN w)) (j : Nat) : es[j]? = (xs[j]?).map (entN w) := by rw [← Array.getElem?_toList, he, List.getElem?_map]
theorem ent_sz {es : Array DictEntry} (he : es.toList = xs.map (entN w)) : es.size = xs.length := by rw [← Array.length_toList, he, List.length_map]
theorem ite_wp {α : Type} {c : Prop} [Decidable c] {x y : Sem α} {Q : α → Shared → Prop} (h : c → wpAny (model prog w) A x Q E s) (h' : ¬ c → wpAny (model prog w) A y Q E s) : wpAny (model prog w) A (if c then x else y) Q E s := by
  split
  · exact h ‹_›
  · exact h' ‹_›
/-- asking a stored key -/
theorem askN {x y : NestedKey} {a b : Value} {Q : Bool → Shared → Prop} (hu : A.units + 8 < cLine) (hx : NestedIs s.heap x a) (dx : x.depth ≤ 8) (hy : NestedIs s.heap y b) (h : Q (decide (x = y)) s) : wpAny (model prog w) A (eqBool a b) Q E s :=
  eqAt_key x y A s a b hx hy (by omega) prog w E Q (by rw [← NestedKey.decide_eq]; exact h)
theorem tellN {stored : List Value} {Q : Bool → Shared → Prop} (hk : NestedIs s.heap k kv) (dk : k.depth ≤ 8) (hst : ∀ v ∈ stored, ∃ k', NestedIs s.heap k' v ∧ k'.depth ≤ 8) (h : Q false s) : wpAny (model prog w) A (tableMayTell kv stored) Q E s := by
  unfold tableMayTell
  split
  · exact wpAny_pure h
  · refine wpAny_bind (quiet_key k kv 8 s hk dk A E _ ?_)
    simp only [Bool.not_true, Bool.false_eq_true, if_false]
    refine wpAny_bind ?_
    refine wpAny_forIn_list _ (fun rest r s' => s' = s ∧ r = (none, ()) ∧ ∀ v ∈ rest, ∃ k', NestedIs s.heap k' v ∧ k'.depth ≤ 8) _ ?_ ?_ _ _ ⟨rfl, rfl, hst⟩
    · rintro x rest r s' ⟨rfl, rfl, hr⟩
      obtain ⟨k', hk', dk'⟩ := hr x List.mem_cons_self
      refine wpAny_bind (quiet_key k' x 8 s' hk' dk' A E _ ?_)
      simp only [Bool.not_true, Bool.false_eq_true, if_false]
      exact wpAny_pure ⟨rfl, rfl, fun v hv => hr v (List.mem_cons_of_mem _ hv)⟩
    · rintro r s' ⟨rfl, rfl, _⟩
      exact wpAny_pure h
theorem findN {o : Obj} {es : Array DictEntry} {ep : Nat} {Q : Option Nat → Shared → Prop} (hu : A.units + 8 < cLine) (hk : NestedIs s.heap k kv) (dk : k.depth ≤ 8) (ho : s.heap.get? d = some o) (hd : o.data = .dict es ep)
    (he : es.toList = xs.map (entN w)) (ks : KeysN s.heap xs) (hn : (xs.map (·.1)).Nodup) (hnone : (∀ (j : Nat) (p : Value × Value), xs[j]? ≠ some (k, p)) → Q none s) (hsome : ∀ (j : Nat) (p : Value × Value), xs[j]? = some (k, p) → Q (some j) s) :
    wpAny (model prog w) A (dictFind d kv (k.hash w)) Q E s := by
  have hsz : es.size = xs.length := ent_sz he
  have hat : ∀ (j : Nat) (y : Ent), xs[j]? = some y → es[j]? = some (entN w y) := fun j y hy => by rw [ent_ix he, hy]; rfl
  have hof : ∀ e ∈ es, ∃ (j : Nat) (y : Ent), xs[j]? = some y ∧ es[j]? = some e ∧ e = entN w y := by
    intro e hin
    obtain ⟨j, hj⟩ := List.mem_iff_getElem?.mp (Array.mem_toList_iff.mpr hin)
    rw [Array.getElem?_toList] at hj
    rw [ent_ix he] at hj
    obtain ⟨y, hy, rfl⟩ := Option.map_eq_some_iff.mp hj
    exact ⟨j, y, hy, hat j y hy, rfl⟩
  have hhash : ∀ (j : Nat) (p : Value × Value), xs[j]? = some (k, p) → ((es[j]?.map (·.hash)) == some (k.hash w)) = true := fun j p hj => by rw [hat j _ hj]; simp [entN]
  -- the walk over the places: the first, all by value; the second, any
  have plain : wpAny (model prog w) A (dictWalkPlain d kv (k.hash w) es (placesWithHash es.size (fun i => es[i]?.map (·.hash)) (k.hash w))) Q E s := by
    refine wpAny_bind ?_
    refine wpAny_forIn_list _ (fun rest b s' => s' = s ∧ b = (none, ()) ∧ ∃ i, rest = (List.range' i (es.size - i)).filter (fun i => (es[i]?.map (·.hash)) == some (k.hash w)) ∧ i ≤ es.size ∧ ∀ j p, j < i → xs[j]? ≠ some (k, p)) _ ?_ ?_ _ _
      ⟨rfl, rfl, 0, by rw [placesWithHash, List.range_eq_range', Nat.sub_zero], Nat.zero_le _, fun _ _ z => absurd z (Nat.not_lt_zero _)⟩
    · rintro x rest b s' ⟨rfl, rfl, i, hr, hi, hno⟩
      obtain ⟨hix, hxn, hpx, hskip, hrest⟩ := filter_range'_cons _ _ _ _ _ hr.symm
      have hlt : x < es.size := by omega
      obtain ⟨y, hy⟩ : ∃ y, xs[x]? = some y := ⟨xs[x]'(by omega), List.getElem?_eq_getElem _⟩
      have hno2 : ∀ j p, j < x → xs[j]? ≠ some (k, p) := fun j p hj hx => by
        rcases Nat.lt_or_ge j i with z | z
        · exact hno j p z hx
        · have := hskip j z hj; rw [hhash j p hx] at this; cases this
      have next : ¬ y.1 = k → ∃ i, rest = (List.range' i (es.size - i)).filter (fun i => (es[i]?.map (·.hash)) == some (k.hash w)) ∧ i ≤ es.size ∧ ∀ j p, j < i → xs[j]? ≠ some (k, p) := fun hne => ⟨x + 1, by rw [hrest]; congr 2; omega, hlt, fun j p hj hx => by
        rcases Nat.lt_or_ge j x with z | z
        · exact hno2 j p z hx
        · have : j = x := by omega
          subst this
          rw [hy] at hx
          exact hne (congrArg Prod.fst (Option.some.inj hx))⟩
      have hyk := ks y (List.mem_of_getElem? hy)
      rw [hat x y hy]
      dsimp only
      by_cases hh : ((entN w y).hash == k.hash w) = true
      · rw [if_pos hh]
        refine wpAny_bind (wpAny_dictEpoch ho hd (wpAny_bind (askN hu hyk.1 hyk.2 hk (wpAny_bind (wpAny_dictEpoch ho hd ?_)))))
        show wpAny _ _ (if (ep != ep) = true then _ else _) _ E _
        rw [if_neg (by simp)]
        by_cases hkk : y.1 = k
        · rw [decide_eq_true hkk]
          exact wpAny_bind (wpAny_rule (wpAny_pure (wpAny_pure (hsome x y.2 (by rw [hy, ← hkk])))))
        · rw [decide_eq_false hkk]
          exact wpAny_bind (wpAny_rule (wpAny_pure ⟨rfl, rfl, next hkk⟩))
      · rw [if_neg hh]
        refine wpAny_pure ⟨rfl, rfl, next fun hkk => ?_⟩
        apply hh
        show (y.1.hash w == k.hash w) = true
        rw [hkk]; exact beq_self_eq_true _
    · rintro b s' ⟨rfl, rfl, i, hr, hi, hno⟩
      refine wpAny_pure (hnone fun j p hj => ?_)
      rcases Nat.lt_or_ge j i with z | z
      · exact hno j p z hj
      · have hjl : j < es.size := by rw [hsz]; exact (List.getElem?_eq_some_iff.mp hj).1
        have := List.filter_eq_nil_iff.mp hr.symm j (List.mem_range'_1.mpr ⟨z, by omega⟩)
        exact this (hhash j p hj)
  have hany : ∀ a, kv = .ref a → ¬ (es.any fun e => e.key == kv && e.hash != k.hash w) = true := by
    rintro a rfl
    rw [← Array.any_toList, List.any_eq_true]
    rintro ⟨e, hin, hc⟩
    obtain ⟨j, y, hy, _, rfl⟩ := hof e (Array.mem_toList_iff.mp hin)
    simp only [entN, Bool.and_eq_true, beq_iff_eq, bne_iff_ne, ne_eq] at hc
    obtain ⟨h1, h2⟩ := hc
    have h3 := (ks y (List.mem_of_getElem? hy)).1
    rw [h1] at h3
    exact h2 (by rw [NestedIs.inj _ _ _ h3 hk])
  have hst : ∀ v ∈ (placesWithHash es.size (fun i => es[i]?.map (·.hash)) (k.hash w)).filterMap (fun i => es[i]?.map (·.key)), ∃ k', NestedIs s.heap k' v ∧ k'.depth ≤ 8 := by
    intro v hv
    obtain ⟨i, _, hi⟩ := List.mem_filterMap.mp hv
    obtain ⟨e, h1, rfl⟩ := Option.map_eq_some_iff.mp hi
    obtain ⟨j, y, hy, _, rfl⟩ := hof e (Array.mem_of_getElem? h1)
    exact ⟨y.1, ks y (List.mem_of_getElem? hy)⟩
  have hk0 := hk
  have step : ∀ (hit : Option Nat) (i x : Nat), ((hit = none ∧ ∀ j p, j < i → xs[j]? ≠ some (k, p)) ∨ ∃ j p, hit = some j ∧ j < i ∧ xs[j]? = some (k, p)) →
      (∀ j, i ≤ j → j < x → ((es[j]?.map (·.hash)) == some (k.hash w)) = false) → i ≤ x → (hit = none ∧ ∀ j p, j < x → xs[j]? ≠ some (k, p)) ∨ ∃ j p, hit = some j ∧ j < x ∧ xs[j]? = some (k, p) := by
    rintro hit i x (⟨h0, hno⟩ | ⟨j, p, h1, hji, hj⟩) hsk hix
    · refine .inl ⟨h0, fun j p hjx hj => ?_⟩
      rcases Nat.lt_or_ge j i with z | z
      · exact hno j p z hj
      · have := hsk j z hjx; rw [hhash j p hj] at this; cases this
    · exact .inr ⟨j, p, h1, by omega, hj⟩
  have more : ∀ (hit : Option Nat) (x : Nat) (y : Ent), ((hit = none ∧ ∀ j p, j < x → xs[j]? ≠ some (k, p)) ∨ ∃ j p, hit = some j ∧ j < x ∧ xs[j]? = some (k, p)) → xs[x]? = some y → ¬ y.1 = k →
      (hit = none ∧ ∀ j p, j < x + 1 → xs[j]? ≠ some (k, p)) ∨ ∃ j p, hit = some j ∧ j < x + 1 ∧ xs[j]? = some (k, p) := by
    rintro hit x y (⟨h0, hno⟩ | ⟨j, p, h1, hjx, hj⟩) hy hne
    · refine .inl ⟨h0, fun j p hjx hj => ?_⟩
      rcases Nat.lt_or_ge j x with z | z
      · exact hno j p z hj
      · have : j = x := by omega
        subst this
        rw [hy] at hj
        exact hne (congrArg Prod.fst (Option.some.inj hj))
    · exact .inr ⟨j, p, h1, by omega, hj⟩
  unfold dictFind
  try with_reducible refine wpAny_holding ?_
  refine wpAny_bind (wpAny_dictEntries ho hd ?_)
  dsimp only
  by_cases hall : ((kv :: (placesWithHash es.size (fun i => es[i]?.map (·.hash)) (k.hash w)).filterMap (fun i => es[i]?.map (·.key))).all carriedByValue) = true
  · rw [if_pos hall]
    split
    · rename_i x t
      split
      · have hkx : k = .text x := by cases hk; rfl
        unfold foundByValue
        cases hf : es.findIdx? (fun e => e.key.isStr x) with
        | none =>
          refine wpAny_pure (hnone fun j p hj => ?_)
          have h1 := Array.findIdx?_eq_none_iff.mp hf (entN w (k, p)) (Array.mem_of_getElem? (hat j _ hj))
          have h2 := (ks _ (List.mem_of_getElem? hj)).1
          have h3 : NestedIs s.heap (.text x) p.1 := by rw [← hkx]; exact h2
          have h1 : p.1.isStr x = false := h1
          cases h3' : p.1 with
          | str z u => rw [h3'] at h3 h1; cases h3; simp [Value.isStr] at h1
          | _ => rw [h3'] at h3; cases h3
        | some i =>
          obtain ⟨hlt, hi, _⟩ := Array.findIdx?_eq_some_iff_getElem.mp hf
          obtain ⟨y, hy⟩ : ∃ y, xs[i]? = some y := ⟨xs[i]'(by omega), List.getElem?_eq_getElem _⟩
          have hyk := ks y (List.mem_of_getElem? hy)
          have hei : es[i] = entN w y := by
            have := hat i y hy
            rw [Array.getElem?_eq_getElem hlt] at this
            exact Option.some.inj this
          rw [hei] at hi
          have hi : y.2.1.isStr x = true := hi
          have hyx : y.1 = k := by
            rw [hkx]
            have h3 := hyk.1
            cases hv : y.2.1 with
            | str z u =>
              rw [hv] at h3 hi
              have : z = x := by simpa [Value.isStr] using hi
              subst this
              cases hy1 : y.1 <;> (rw [hy1] at h3; cases h3)
              rfl
            | _ => rw [hv] at hi; simp [Value.isStr] at hi
          simp only [Array.getElem?_eq_getElem hlt, hei]
          refine wpAny_bind (wpAny_dictEpoch ho hd (wpAny_bind (askN (y := k) hu hyk.1 hyk.2 hk (wpAny_bind (wpAny_dictEpoch ho hd ?_)))))
          show wpAny _ _ (if (ep != ep) = true then _ else _) _ E _
          rw [if_neg (by simp), decide_eq_true hyx]
          exact wpAny_bind (wpAny_rule (wpAny_pure (hsome i y.2 (by rw [hy, ← hyx]))))
      · exact plain
    · exact plain
  · rw [if_neg hall]
    have fin : ∀ (i : Nat) (hit : Option Nat), (([] : List Nat) = (List.range' i (es.size - i)).filter (fun i => (es[i]?.map (·.hash)) == some (k.hash w))) → ((hit = none ∧ ∀ j p, j < i → xs[j]? ≠ some (k, p)) ∨ ∃ j p, hit = some j ∧ j < i ∧ xs[j]? = some (k, p)) → Q hit s := by
      intro i hit hr hH
      have hout : ∀ j, i ≤ j → j < es.size → ((es[j]?.map (·.hash)) == some (k.hash w)) = false := by
        intro j h1 h2
        have := List.filter_eq_nil_iff.mp hr.symm j (List.mem_range'_1.mpr ⟨h1, by omega⟩)
        simpa using this
      rcases hH with ⟨rfl, hno⟩ | ⟨j, p, rfl, _, hj⟩
      · refine hnone fun j p hj => ?_
        rcases Nat.lt_or_ge j i with z | z
        · exact hno j p z hj
        · have := hout j z (by rw [hsz]; exact (List.getElem?_eq_some_iff.mp hj).1)
          rw [hhash j p hj] at this; cases this
      · exact hsome j p hj
    have tail : ∀ (x : Nat) (y : Ent) (rest : List Nat) (hit : Option Nat), xs[x]? = some y → x < es.size → rest = (List.range' (x + 1) (es.size - (x + 1))).filter (fun i => (es[i]?.map (·.hash)) == some (k.hash w)) → ¬ y.1 = k →
        ((hit = none ∧ ∀ j p, j < x → xs[j]? ≠ some (k, p)) ∨ ∃ j p, hit = some j ∧ j < x ∧ xs[j]? = some (k, p)) → ∃ i hit', hit = hit' ∧ rest = (List.range' i (es.size - i)).filter (fun i => (es[i]?.map (·.hash)) == some (k.hash w)) ∧ i ≤ es.size ∧
        ((hit' = none ∧ ∀ j p, j < i → xs[j]? ≠ some (k, p)) ∨ ∃ j p, hit' = some j ∧ j < i ∧ xs[j]? = some (k, p)) := fun x y rest hit hy hlt hr hne hH => ⟨x + 1, hit, rfl, hr, hlt, more hit x y hH hy hne⟩
    have form : (∃ x t, kv = .str x t) ∨ (∃ a, kv = .ref a) ∨ kv = .none ∨ (∃ b, kv = .bool b) ∨ ∃ i t, kv = .int i t := by
      cases hk0 with
      | none => exact .inr (.inr (.inl rfl))
      | bool _ => exact .inr (.inr (.inr (.inl ⟨_, rfl⟩)))
      | int i t => exact .inr (.inr (.inr (.inr ⟨_, _, rfl⟩)))
      | text x t => exact .inl ⟨_, _, rfl⟩
      | tup _ _ _ _ => exact .inr (.inl ⟨_, rfl⟩)
    rcases form with ⟨x, t, rfl⟩ | ⟨a, rfl⟩ | rfl | ⟨b, rfl⟩ | ⟨i, t, rfl⟩ <;> dsimp only
    · by_cases hs : (es.all fun e => isExactStrKey e.key) = true
      · exfalso
        apply hall
        rw [List.all_cons, List.all_eq_true.mpr]
        · rfl
        · intro v hv
          obtain ⟨i, _, hi⟩ := List.mem_filterMap.mp hv
          obtain ⟨e, h1, rfl⟩ := Option.map_eq_some_iff.mp hi
          have h2 := Array.all_eq_true'.mp hs e (Array.mem_of_getElem? h1)
          cases hv : e.key <;> (rw [hv] at h2; first | rfl | cases h2)
      rw [if_neg hs]
      refine ite_wp (fun _ => ?_) (fun _ => ?_) <;> (first | refine wpAny_bind (wpAny_pure ?_) | refine wpAny_bind (tellN hk0 dk hst ?_)) <;> (
        rw [if_neg (by simp)]
        refine wpAny_bind ?_
        refine wpAny_forIn_list _ (fun rest b s' => s' = s ∧ ∃ i hit, b = (none, hit) ∧ rest = (List.range' i (es.size - i)).filter (fun i => (es[i]?.map (·.hash)) == some (k.hash w)) ∧ i ≤ es.size ∧
            ((hit = none ∧ ∀ j p, j < i → xs[j]? ≠ some (k, p)) ∨ ∃ j p, hit = some j ∧ j < i ∧ xs[j]? = some (k, p))) _ ?_ ?_ _ _
          ⟨rfl, 0, none, rfl, by rw [placesWithHash, List.range_eq_range', Nat.sub_zero], Nat.zero_le _, .inl ⟨rfl, fun _ _ z => absurd z (Nat.not_lt_zero _)⟩⟩
        · rintro x rest b s' ⟨rfl, i, hit, rfl, hr, hi, hH⟩
          obtain ⟨hix, hxn, hpx, hskip, hrest⟩ := filter_range'_cons _ _ _ _ _ hr.symm
          have hlt : x < es.size := by omega
          have hrest' := hrest.trans (show _ = (List.range' (x + 1) (es.size - (x + 1))).filter (fun i => (es[i]?.map (·.hash)) == some (k.hash w)) from by congr 2; omega)
          obtain ⟨y, hy⟩ : ∃ y, xs[x]? = some y := ⟨xs[x]'(by omega), List.getElem?_eq_getElem _⟩
          have hyk := ks y (List.mem_of_getElem? hy)
          have hH2 := step hit i x hH hskip hix
          rw [hat x y hy]
          dsimp only
          refine ite_wp (fun hh => ?_) (fun hh => ?_)
          · refine wpAny_bind (wpAny_dictEpoch ho hd (wpAny_bind (askN hu hyk.1 hyk.2 hk0 (wpAny_bind (wpAny_dictEpoch ho hd ?_)))))
            show wpAny _ _ (if (ep != ep) = true then _ else _) _ E _
            rw [if_neg (by simp)]
            by_cases hkk : y.1 = k
            · rw [decide_eq_true hkk]
              rcases hH2 with ⟨rfl, _⟩ | ⟨j, p, _, hjx, hj⟩
              · first | rw [if_pos rfl] | skip
                simp only [Option.isSome_none, Bool.false_eq_true, if_false]
                first | refine wpAny_bind (wpAny_pure ?_) | skip
                refine wpAny_bind (wpAny_rule ?_)
                have hxk : xs[x]? = some (k, y.2) := by rw [hy, ← hkk]
                refine ite_wp (fun _ => wpAny_pure (wpAny_pure (hsome x _ hxk))) (fun _ => wpAny_pure ⟨rfl, x + 1, some x, rfl, hrest', hlt, .inr ⟨x, _, rfl, Nat.lt_succ_self x, hxk⟩⟩)
              · exact absurd (ixN_same hn hj (show xs[x]? = some (k, y.2) by rw [hy, ← hkk])) (by omega)
            · rw [decide_eq_false hkk]
              simp only [Bool.false_eq_true, if_false]
              refine wpAny_bind (wpAny_rule ?_)
              first | rw [if_neg (by simp)] | skip
              obtain ⟨i2, hit2, e2, g2⟩ := tail x y _ hit hy hlt hrest' hkk hH2
              first
                | exact wpAny_pure ⟨rfl, i2, hit2, by rw [e2], g2⟩
                | exact wpAny_bind (wpAny_pure (wpAny_pure ⟨rfl, i2, hit2, by rw [e2], g2⟩))
          · have hkk : ¬ y.1 = k := fun e => hh (by show (y.1.hash w == k.hash w) = true; rw [e]; exact beq_self_eq_true _)
            obtain ⟨i2, hit2, e2, g2⟩ := tail x y _ hit hy hlt hrest' hkk hH2
            exact wpAny_pure ⟨rfl, i2, hit2, by rw [e2], g2⟩
        · rintro b s' ⟨rfl, i, hit, rfl, hr, hi, hH⟩
          exact wpAny_pure (fin i hit hr hH))
    · rw [if_neg (hany _ rfl)]
      refine ite_wp (fun _ => ?_) (fun _ => ?_) <;> (first | refine wpAny_bind (wpAny_pure ?_) | refine wpAny_bind (tellN hk0 dk hst ?_)) <;> (
        rw [if_neg (by simp)]
        refine wpAny_bind ?_
        refine wpAny_forIn_list _ (fun rest b s' => s' = s ∧ ∃ i hit, b = (none, hit) ∧ rest = (List.range' i (es.size - i)).filter (fun i => (es[i]?.map (·.hash)) == some (k.hash w)) ∧ i ≤ es.size ∧
            ((hit = none ∧ ∀ j p, j < i → xs[j]? ≠ some (k, p)) ∨ ∃ j p, hit = some j ∧ j < i ∧ xs[j]? = some (k, p))) _ ?_ ?_ _ _
          ⟨rfl, 0, none, rfl, by rw [placesWithHash, List.range_eq_range', Nat.sub_zero], Nat.zero_le _, .inl ⟨rfl, fun _ _ z => absurd z (Nat.not_lt_zero _)⟩⟩
        · rintro x rest b s' ⟨rfl, i, hit, rfl, hr, hi, hH⟩
          obtain ⟨hix, hxn, hpx, hskip, hrest⟩ := filter_range'_cons _ _ _ _ _ hr.symm
          have hlt : x < es.size := by omega
          have hrest' := hrest.trans (show _ = (List.range' (x + 1) (es.size - (x + 1))).filter (fun i => (es[i]?.map (·.hash)) == some (k.hash w)) from by congr 2; omega)
          obtain ⟨y, hy⟩ : ∃ y, xs[x]? = some y := ⟨xs[x]'(by omega), List.getElem?_eq_getElem _⟩
          have hyk := ks y (List.mem_of_getElem? hy)
          have hH2 := step hit i x hH hskip hix
          rw [hat x y hy]
          dsimp only
          refine ite_wp (fun hh => ?_) (fun hh => ?_)
          · refine wpAny_bind (wpAny_dictEpoch ho hd (wpAny_bind (askN hu hyk.1 hyk.2 hk0 (wpAny_bind (wpAny_dictEpoch ho hd ?_)))))
            show wpAny _ _ (if (ep != ep) = true then _ else _) _ E _
            rw [if_neg (by simp)]
            by_cases hkk : y.1 = k
            · rw [decide_eq_true hkk]
              rcases hH2 with ⟨rfl, _⟩ | ⟨j, p, _, hjx, hj⟩
              · first | rw [if_pos rfl] | skip
                simp only [Option.isSome_none, Bool.false_eq_true, if_false]
                first | refine wpAny_bind (wpAny_pure ?_) | skip
                refine wpAny_bind (wpAny_rule ?_)
                have hxk : xs[x]? = some (k, y.2) := by rw [hy, ← hkk]
                refine ite_wp (fun _ => wpAny_pure (wpAny_pure (hsome x _ hxk))) (fun _ => wpAny_pure ⟨rfl, x + 1, some x, rfl, hrest', hlt, .inr ⟨x, _, rfl, Nat.lt_succ_self x, hxk⟩⟩)
              · exact absurd (ixN_same hn hj (show xs[x]? = some (k, y.2) by rw [hy, ← hkk])) (by omega)
            · rw [decide_eq_false hkk]
              simp only [Bool.false_eq_true, if_false]
              refine wpAny_bind (wpAny_rule ?_)
              first | rw [if_neg (by simp)] | skip
              obtain ⟨i2, hit2, e2, g2⟩ := tail x y _ hit hy hlt hrest' hkk hH2
              first
                | exact wpAny_pure ⟨rfl, i2, hit2, by rw [e2], g2⟩
                | exact wpAny_bind (wpAny_pure (wpAny_pure ⟨rfl, i2, hit2, by rw [e2], g2⟩))
          · have hkk : ¬ y.1 = k := fun e => hh (by show (y.1.hash w == k.hash w) = true; rw [e]; exact beq_self_eq_true _)
            obtain ⟨i2, hit2, e2, g2⟩ := tail x y _ hit hy hlt hrest' hkk hH2
            exact wpAny_pure ⟨rfl, i2, hit2, by rw [e2], g2⟩
        · rintro b s' ⟨rfl, i, hit, rfl, hr, hi, hH⟩
          exact wpAny_pure (fin i hit hr hH))
    all_goals refine ite_wp (fun _ => ?_) (fun _ => ?_) <;> (first | refine wpAny_bind (wpAny_pure ?_) | refine wpAny_bind (tellN hk0 dk hst ?_)) <;> (
        rw [if_neg (by simp)]
        refine wpAny_bind ?_
        refine wpAny_forIn_list _ (fun rest b s' => s' = s ∧ ∃ i hit, b = (none, hit) ∧ rest = (List.range' i (es.size - i)).filter (fun i => (es[i]?.map (·.hash)) == some (k.hash w)) ∧ i ≤ es.size ∧
            ((hit = none ∧ ∀ j p, j < i → xs[j]? ≠ some (k, p)) ∨ ∃ j p, hit = some j ∧ j < i ∧ xs[j]? = some (k, p))) _ ?_ ?_ _ _
          ⟨rfl, 0, none, rfl, by rw [placesWithHash, List.range_eq_range', Nat.sub_zero], Nat.zero_le _, .inl ⟨rfl, fun _ _ z => absurd z (Nat.not_lt_zero _)⟩⟩
        · rintro x rest b s' ⟨rfl, i, hit, rfl, hr, hi, hH⟩
          obtain ⟨hix, hxn, hpx, hskip, hrest⟩ := filter_range'_cons _ _ _ _ _ hr.symm
          have hlt : x < es.size := by omega
          have hrest' := hrest.trans (show _ = (List.range' (x + 1) (es.size - (x + 1))).filter (fun i => (es[i]?.map (·.hash)) == some (k.hash w)) from by congr 2; omega)
          obtain ⟨y, hy⟩ : ∃ y, xs[x]? = some y := ⟨xs[x]'(by omega), List.getElem?_eq_getElem _⟩
          have hyk := ks y (List.mem_of_getElem? hy)
          have hH2 := step hit i x hH hskip hix
          rw [hat x y hy]
          dsimp only
          refine ite_wp (fun hh => ?_) (fun hh => ?_)
          · refine wpAny_bind (wpAny_dictEpoch ho hd (wpAny_bind (askN hu hyk.1 hyk.2 hk0 (wpAny_bind (wpAny_dictEpoch ho hd ?_)))))
            show wpAny _ _ (if (ep != ep) = true then _ else _) _ E _
            rw [if_neg (by simp)]
            by_cases hkk : y.1 = k
            · rw [decide_eq_true hkk]
              rcases hH2 with ⟨rfl, _⟩ | ⟨j, p, _, hjx, hj⟩
              · first | rw [if_pos rfl] | skip
                simp only [Option.isSome_none, Bool.false_eq_true, if_false]
                first | refine wpAny_bind (wpAny_pure ?_) | skip
                refine wpAny_bind (wpAny_rule ?_)
                have hxk : xs[x]? = some (k, y.2) := by rw [hy, ← hkk]
                refine ite_wp (fun _ => wpAny_pure (wpAny_pure (hsome x _ hxk))) (fun _ => wpAny_pure ⟨rfl, x + 1, some x, rfl, hrest', hlt, .inr ⟨x, _, rfl, Nat.lt_succ_self x, hxk⟩⟩)
              · exact absurd (ixN_same hn hj (show xs[x]? = some (k, y.2) by rw [hy, ← hkk])) (by omega)
            · rw [decide_eq_false hkk]
              simp only [Bool.false_eq_true, if_false]
              refine wpAny_bind (wpAny_rule ?_)
              first | rw [if_neg (by simp)] | skip
              obtain ⟨i2, hit2, e2, g2⟩ := tail x y _ hit hy hlt hrest' hkk hH2
              first
                | exact wpAny_pure ⟨rfl, i2, hit2, by rw [e2], g2⟩
                | exact wpAny_bind (wpAny_pure (wpAny_pure ⟨rfl, i2, hit2, by rw [e2], g2⟩))
          · have hkk : ¬ y.1 = k := fun e => hh (by show (y.1.hash w == k.hash w) = true; rw [e]; exact beq_self_eq_true _)
            obtain ⟨i2, hit2, e2, g2⟩ := tail x y _ hit hy hlt hrest' hkk hH2
            exact wpAny_pure ⟨rfl, i2, hit2, by rw [e2], g2⟩
        · rintro b s' ⟨rfl, i, hit, rfl, hr, hi, hH⟩
          exact wpAny_pure (fin i hit hr hH))
theorem getN {Q : Option Value → Shared → Prop} (hu : A.units + 8 < cLine) (hk : NestedIs s.heap k kv) (dk : k.depth ≤ 8) (m : DictN w s.heap d xs) (ks : KeysN s.heap xs) (h : Q ((atN xs k).map (·.2)) { s with toks := s.toks + k.draws }) : wpAny (model prog w) A (dictGet d kv) Q E s := by
  obtain ⟨o, es, ep, ho, _, hd, he, hn⟩ := m
  unfold dictGet
  try with_reducible refine wpAny_holding ?_
  refine wpAny_bind (pyHash_key k kv A s _ hk (by omega) (wpAny_bind (findN (s := { s with toks := s.toks + k.draws }) hu hk dk ho hd he ks hn (fun hno => ?_) (fun j p hj => ?_))))
  · rw [atN_none hno] at h
    exact wpAny_pure h
  · rw [atN_get hn hj] at h
    refine wpAny_bind (wpAny_dictEntries (s := { s with toks := s.toks + k.draws }) ho hd ?_)
    rw [ent_ix he, hj]
    exact wpAny_pure h
theorem putN_keys (hn : (xs.map (·.1)).Nodup) (v : Value) : ((putN xs k kv v).map (·.1)).Nodup := by
  unfold putN
  cases ha : atN xs k with
  | some p => rw [if_pos (by rfl), repN_keys]; exact hn
  | none =>
    rw [if_neg (by simp), List.map_append, List.nodup_append]
    refine ⟨hn, by simp, ?_⟩
    intro x hx y hy
    simp only [List.map_cons, List.map_nil, List.mem_singleton] at hy
    subst hy
    rintro rfl
    obtain ⟨e, he, hek⟩ := List.mem_map.mp hx
    unfold atN at ha
    rw [Option.map_eq_none_iff, List.find?_eq_none] at ha
    exact ha e he (decide_eq_true hek)
theorem putN_stand {h : Heap} (ks : KeysN h xs) (hk : NestedIs h k kv) (dk : k.depth ≤ 8) (v : Value) : KeysN h (putN xs k kv v) := by
  unfold putN
  split
  · intro x hx
    obtain ⟨y, hy, rfl⟩ := List.mem_map.mp hx
    unfold repN
    split <;> exact ks y hy
  · intro x hx
    rcases List.mem_append.mp hx with hx | hx
    · exact ks x hx
    · rw [List.mem_singleton.mp hx]; exact ⟨hk, dk⟩
theorem setN {v : Value} {Q : Unit → Shared → Prop} (hu : A.units + 8 < cLine) (hk : NestedIs s.heap k kv) (dk : k.depth ≤ 8) (m : DictN w s.heap d xs) (ks : KeysN s.heap xs) (hsz : xs.length ≤ sizeLine)
    (hQ : ∀ h', DictN w h' d (putN xs k kv v) → Heap.SameBut d s.heap h' → Q () { s with heap := h', toks := s.toks + k.draws }) : wpAny (model prog w) A (dictSet d kv v) Q E s := by
  obtain ⟨o, es, ep, ho, hc, hd, he, hn⟩ := m
  have hnd := putN_keys (kv := kv) (k := k) hn v
  unfold dictSet
  try with_reducible refine wpAny_holding ?_
  refine wpAny_bind (pyHash_key k kv A s _ hk (by omega) ?_)
  unfold dictSetHashed
  try with_reducible refine wpAny_holding ?_
  refine wpAny_bind (findN (s := { s with toks := s.toks + k.draws }) hu hk dk ho hd he ks hn (fun hno => ?_) (fun j p hj => ?_))
  · refine wpAny_bind (wpAny_rule (wpAny_updateDictKeys (hz := by have e := ent_sz he; omega) (s := { s with toks := s.toks + k.draws }) ho hd (hQ _ ⟨_, _, ep + 1, Heap.get?_update_self _ ho (Obj.isFreed_of_dict (Obj.data_mapDictKeys hd _)), hc.mapDictKeys _, Obj.data_mapDictKeys hd _, ?_, hnd⟩ (Heap.SameBut.update ..))))
    unfold putN
    rw [atN_none hno, if_neg (by simp)]
    simp [he, entN]
  · refine wpAny_bind (wpAny_rule (wpAny_bind (wpAny_updateDict (s := { s with toks := s.toks + k.draws }) ho hd (wpAny_point (hQ _ ⟨_, _, ep, Heap.get?_update_self _ ho (Obj.isFreed_of_dict (Obj.data_mapDict hd _)), hc.mapDict _, Obj.data_mapDict hd _, ?_, hnd⟩ (Heap.SameBut.update ..))))))
    unfold putN
    rw [atN_get hn hj, if_pos (by rfl), ← repN_mod v hn hj, ← he]
    obtain ⟨l⟩ := es
    simp
end
end L2.GD

set_option Elab.async false
set_option linter.all false
set_option maxRecDepth 100000
set_option autoImplicit false
/-! Dicts with mixed keys: the operations of the model; the object of the abstract heap. -/
namespace L2.GD
open PySem PySem.Spec PyProof.Rows
section
variable {prog : Program} {w : World} {A : Around} {E : Value → Shared → Prop} {s : Shared} {d : Addr} {xs : List Ent} {k : NestedKey} {kv : Value}
theorem inN {Q : Value → Shared → Prop} (hu : A.units + 9 < cLine) (hk : NestedIs s.heap k kv) (dk : k.depth ≤ 8) (hd : (d == sysModules) = false) (m : DictN w s.heap d xs) (ks : KeysN s.heap xs)
    (h : Q (.bool (atN xs k).isSome) { s with toks := s.toks + k.draws }) : wpAny (model prog w) A (compareOp .In kv (.ref d)) Q E s := by
  have hu2 : A.in1.units + 8 < cLine := by show A.units + 1 + 8 < cLine; omega
  show wpAny _ _ (do return .bool (← contains (.ref d) kv)) Q E s
  refine wpAny_bind ?_
  unfold contains
  try with_reducible refine wpAny_holding ?_
  refine wpAny_bind (wpAny_specialOf m.typ slot_dict_contains.lookup ?_)
  show wpAny _ _ (if (some (Value.builtin "dict.__contains__") == some Value.none) = true then _ else _) _ E s
  rw [if_neg (by rw [beq_builtin_none]; exact Bool.false_ne_true)]
  refine wpAny_bind (wpAny_callSpecialUnlessNone?_slot (name := Str.ofString "__contains__") m.typ slot_dict_contains (wpAny_call_entry slot_dict_contains m.typ entry_dict_contains ?_ (args_dict_contains _ _)))
  show wpAny _ _ (dictGet d kv >>= _) _ _ s
  refine wpAny_bind (getN hu2 hk dk m ks ?_)
  cases hf : atN xs k with
  | some p =>
    rw [hf] at h
    show wpAny _ _ (ret (.bool true)) _ _ _
    exact wpAny_pure ⟨_, rfl, wpAny_truthy_bool (wpAny_pure h)⟩
  | none =>
    rw [hf] at h
    show wpAny _ _ (Builtin.Dict.pendingKey? d kv >>= _) _ _ _
    exact wpAny_bind (wpAny_pendingKey_other hd (wpAny_pure ⟨_, rfl, wpAny_truthy_bool (wpAny_pure h)⟩))
theorem notInN {Q : Value → Shared → Prop} (hu : A.units + 9 < cLine) (hk : NestedIs s.heap k kv) (dk : k.depth ≤ 8) (hd : (d == sysModules) = false) (m : DictN w s.heap d xs) (ks : KeysN s.heap xs)
    (h : Q (.bool (!(atN xs k).isSome)) { s with toks := s.toks + k.draws }) : wpAny (model prog w) A (compareOp .NotIn kv (.ref d)) Q E s := by
  have hu2 : A.in1.units + 8 < cLine := by show A.units + 1 + 8 < cLine; omega
  show wpAny _ _ (do return .bool (!(← contains (.ref d) kv))) Q E s
  refine wpAny_bind ?_
  unfold contains
  try with_reducible refine wpAny_holding ?_
  refine wpAny_bind (wpAny_specialOf m.typ slot_dict_contains.lookup ?_)
  show wpAny _ _ (if (some (Value.builtin "dict.__contains__") == some Value.none) = true then _ else _) _ E s
  rw [if_neg (by rw [beq_builtin_none]; exact Bool.false_ne_true)]
  refine wpAny_bind (wpAny_callSpecialUnlessNone?_slot (name := Str.ofString "__contains__") m.typ slot_dict_contains (wpAny_call_entry slot_dict_contains m.typ entry_dict_contains ?_ (args_dict_contains _ _)))
  show wpAny _ _ (dictGet d kv >>= _) _ _ s
  refine wpAny_bind (getN hu2 hk dk m ks ?_)
  cases hf : atN xs k with
  | some p =>
    rw [hf] at h
    show wpAny _ _ (ret (.bool true)) _ _ _
    exact wpAny_pure ⟨_, rfl, wpAny_truthy_bool (wpAny_pure h)⟩
  | none =>
    rw [hf] at h
    show wpAny _ _ (Builtin.Dict.pendingKey? d kv >>= _) _ _ _
    exact wpAny_bind (wpAny_pendingKey_other hd (wpAny_pure ⟨_, rfl, wpAny_truthy_bool (wpAny_pure h)⟩))
theorem getItemN {p : Value × Value} {Q : Value → Shared → Prop} (hu : A.units + 9 < cLine) (hk : NestedIs s.heap k kv) (dk : k.depth ≤ 8) (m : DictN w s.heap d xs) (ks : KeysN s.heap xs) (hp : atN xs k = some p)
    (h : Q p.2 { s with toks := s.toks + k.draws }) : wpAny (model prog w) A (getItem (.ref d) kv) Q E s := by
  have hu2 : A.in1.units + 8 < cLine := by show A.units + 1 + 8 < cLine; omega
  unfold getItem
  try with_reducible refine wpAny_holding ?_
  refine wpAny_bind (wpAny_sequenceKey m.typ (by decide) ?_)
  refine wpAny_bind (wpAny_callSpecial?_slot (name := Str.ofString "__getitem__") m.typ slot_dict_getitem (wpAny_call_entry slot_dict_getitem m.typ entry_dict_getitem ?_ (args_dict_getitem _ _)))
  show wpAny _ _ (dictGet d kv >>= _) _ _ s
  refine wpAny_bind (getN hu2 hk dk m ks ?_)
  rw [hp]
  exact wpAny_pure ⟨p.2, rfl, wpAny_pure h⟩
theorem setItemN {v : Value} {Q : Unit → Shared → Prop} (hu : A.units + 9 < cLine) (hk : NestedIs s.heap k kv) (dk : k.depth ≤ 8) (m : DictN w s.heap d xs) (ks : KeysN s.heap xs) (hsz : xs.length ≤ sizeLine)
    (hQ : ∀ h', DictN w h' d (putN xs k kv v) → Heap.SameBut d s.heap h' → Q () { s with heap := h', toks := s.toks + k.draws }) : wpAny (model prog w) A (setItem (.ref d) kv v) Q E s := by
  have hu2 : A.in1.units + 8 < cLine := by show A.units + 1 + 8 < cLine; omega
  unfold setItem
  try with_reducible refine wpAny_holding ?_
  refine wpAny_bind (wpAny_sequenceKey m.typ (by decide) ?_)
  refine wpAny_bind (wpAny_callSpecial?_slot (name := Str.ofString "__setitem__") m.typ slot_dict_setitem (wpAny_call_entry slot_dict_setitem m.typ entry_dict_setitem ?_ (args_dict_setitem _ _ _)))
  show wpAny _ _ (Builtin.Dict.notOrdered "__setitem__" ⟨[.ref d, kv, v], []⟩ >>= _) _ _ s
  refine wpAny_bind (wpAny_notOrdered_dict m.typ ?_)
  show wpAny _ _ (dictSet d kv v >>= _) _ _ s
  exact wpAny_bind (setN hu2 hk dk m ks hsz fun h' hm' hs' => wpAny_pure ⟨.none, rfl, wpAny_pure (hQ h' hm' hs')⟩)
theorem getOrN (hd : (d == sysModules) = false) (dflt : Value) :
    MeetsIn prog w (Builtin.«dict.get» ⟨[.ref d, kv, dflt], []⟩) (fun A R s => A.units + 9 < cLine ∧ NestedIs s.heap k kv ∧ k.depth ≤ 8 ∧ DictN w s.heap d xs ∧ KeysN s.heap xs ∧ R (.ok (.ret (((atN xs k).map (·.2)).getD dflt))) { s with toks := s.toks + k.draws }) :=
  .of_wp fun A R s ⟨hu, hk, dk, m, ks, h⟩ => by
    have hu2 : A.in1.units + 8 < cLine := by show A.units + 1 + 8 < cLine; omega
    show wpAny _ _ (dictGet d kv >>= _) _ _ s
    refine wpAny_bind (getN hu2 hk dk m ks ?_)
    cases hf : (atN xs k).map (·.2) with
    | some v => rw [hf] at h; exact wpAny_pure ⟨v, rfl, h⟩
    | none =>
      rw [hf] at h
      show wpAny _ _ (Builtin.Dict.missed d kv >>= _) _ _ _
      exact wpAny_bind (wpAny_missed_other hd (wpAny_pure ⟨dflt, rfl, h⟩))
end
end L2.GD

set_option Elab.async false
set_option linter.all false
set_option maxRecDepth 100000
set_option autoImplicit false
/-! Dicts with mixed keys as objects of the abstract heap, and their operations by values. -/
namespace L2.GD
open PySem PySem.Spec PyProof.Rows
/-- key, the key's value, value -/
abbrev EnV := NestedKey × V × V
abbrev PairE : List EnV → List Ent → Prop := Paired fun p q => p.1 = q.1 ∧ RelV p.2.1 q.2.1 ∧ RelV p.2.2 q.2.2
def GdP (w : World) (a : Addr) (es : List EnV) (h : Heap) : Prop := es.length ≤ sizeLine ∧ (a == sysModules) = false ∧ ∃ xs : List Ent, PairE es xs ∧ DictN w h a xs
/-- the dict, known to its object -/
def gdO (w : World) (a : Addr) (ob : Obj) (es : List EnV) : HO := .ext fun h => h.get? a = some ob ∧ GdP w a es h
/-- a dict that begins -/
abbrev obD : Obj := { cls := .type "dict", data := .dict #[] }
def vAt (es : List EnV) (k : NestedKey) : Option V := (es.find? fun e => decide (e.1 = k)).map (·.2.2)
def vPut (es : List EnV) (k : NestedKey) (kv v : V) : List EnV := if (vAt es k).isSome then es.map (fun e => if e.1 = k then (e.1, e.2.1, v) else e) else es ++ [(k, kv, v)]
mutual
/-- a value is a key -/
inductive KeyV (K : PySem.W.Frag) (H : Hp) : NestedKey → V → Prop
  | non : KeyV K H .none .non
  | bl (b : Bool) : KeyV K H (.num (if b = true then 1 else 0)) (.bl b)
  | int (i : Int) : KeyV K H (.num i) (.int i)
  | str (x : Str) : KeyV K H (.text x) (.str x)
  | tup {ks : List NestedKey} {vs : List V} {a : Addr} (h : SqT K H a vs) (l : KeyVs K H ks vs) : KeyV K H (.tup ks) (.ref a)
inductive KeyVs (K : PySem.W.Frag) (H : Hp) : List NestedKey → List V → Prop
  | nil : KeyVs K H [] []
  | cons {k : NestedKey} {v : V} {ks : List NestedKey} {vs : List V} (h : KeyV K H k v) (t : KeyVs K H ks vs) : KeyVs K H (k :: ks) (v :: vs)
end
/-- the entries' keys -/
def KeysV (K : PySem.W.Frag) (H : Hp) (es : List EnV) : Prop := ∀ e ∈ es, KeyV K H e.1 e.2.1 ∧ e.1.depth ≤ 8
section
variable {X : Cx} {pins : List (Addr × Obj)} {σ : St} {H : Hp} {s : Shared} {a : Addr} {es : List EnV} {xs : List Ent} {k : NestedKey} {y v : V} {u r : Value}
mutual
theorem KeyV.is (I : Inv X pins σ H s) : ∀ {k : NestedKey} {v : V} {u : Value}, KeyV X.K H k v → RelV v u → NestedIs s.heap k u
  | _, _, _, .non, r => by cases r; exact .none
  | _, _, _, .bl b, r => by cases r; exact .bool rfl
  | _, _, _, .int i, r => by obtain ⟨t, rfl⟩ := r; exact .int _ _
  | _, _, _, .str x, r => by obtain ⟨t, rfl⟩ := r; exact .text _ _
  | _, _, _, .tup h l, r => by
    cases r
    obtain ⟨its, rv, ⟨o, h1, h2, n, h3⟩, _⟩ := I.tuple h
    exact .tup h1 h2 h3 (by simpa using KeyVs.is I l rv)
theorem KeyVs.is (I : Inv X pins σ H s) : ∀ {ks : List NestedKey} {vs : List V} {us : List Value}, KeyVs X.K H ks vs → Vals vs us → NestedAll s.heap ks us
  | _, _, _, .nil, r => by cases r; exact .nil
  | _, _, _, .cons h t, r => by
    cases r with
    | cons r1 r2 => exact .cons (KeyV.is I h r1) (KeyVs.is I t r2)
end
theorem PairE.len : ∀ {es : List EnV} {xs : List Ent}, PairE es xs → es.length = xs.length
  | _, _, .nil => rfl
  | _, _, .cons _ t => by rw [List.length_cons, List.length_cons, PairE.len t]
theorem PairE.at' : ∀ {es : List EnV} {xs : List Ent}, PairE es xs → (vAt es k = none ∧ atN xs k = none) ∨ ∃ v p, vAt es k = some v ∧ atN xs k = some p ∧ RelV v p.2
  | _, _, .nil => .inl ⟨rfl, rfl⟩
  | e :: es, x :: xs, .cons ⟨h1, h2, h3⟩ t => by
    unfold vAt atN
    rw [List.find?_cons, List.find?_cons]
    by_cases hk : e.1 = k
    · have hx : x.1 = k := h1 ▸ hk
      simp only [hk, hx, decide_true]
      exact .inr ⟨_, _, rfl, rfl, h3⟩
    · have hx : ¬ x.1 = k := fun z => hk (h1.trans z)
      simp only [hk, hx, decide_false]
      exact PairE.at' t
theorem PairE.some' (p : PairE es xs) : (vAt es k).isSome = (atN xs k).isSome := by
  rcases p.at' (k := k) with ⟨a, b⟩ | ⟨v, p, a, b, _⟩ <;> rw [a, b] <;> rfl
theorem PairE.put {kv : V} {kr : Value} (p : PairE es xs) (hk : RelV kv kr) (hv : RelV v r) : PairE (vPut es k kv v) (putN xs k kr r) := by
  unfold vPut putN
  rw [p.some' (k := k)]
  have rep : ∀ {es : List EnV} {xs : List Ent}, PairE es xs → PairE (es.map (fun e => if e.1 = k then (e.1, e.2.1, v) else e)) (xs.map (repN k r)) := by
    intro es xs p
    induction p with
    | nil => exact .nil
    | @cons e x _ _ h t ih =>
      obtain ⟨h1, h2, h3⟩ := h
      rw [List.map_cons, List.map_cons]
      refine .cons ?_ ih
      unfold repN
      by_cases he : e.1 = k
      · rw [if_pos he, if_pos (h1 ▸ he)]; exact ⟨h1, h2, hv⟩
      · rw [if_neg he, if_neg (fun z => he (h1.trans z))]; exact ⟨h1, h2, h3⟩
  split
  · exact rep p
  · exact Paired.snoc p ⟨rfl, hk, hv⟩
theorem vPut_len (es : List EnV) (k : NestedKey) (kv v : V) : (vPut es k kv v).length ≤ es.length + 1 := by
  unfold vPut
  split
  · rw [List.length_map]; omega
  · rw [List.length_append]; exact Nat.le_refl _
theorem gd_at (I : Inv X pins σ H s) {ob : Obj} (h : Rd H a (gdO X.w a ob es)) : GdP X.w a es s.heap := (h.ok I.hok).1.2
theorem gd_pin (I : Inv X pins σ H s) {ob : Obj} (h : Rd H a (gdO X.w a ob es)) : s.heap.get? a = some ob := (h.ok I.hok).1.1
theorem KeysV.is (I : Inv X pins σ H s) (ks : KeysV X.K H es) : ∀ {xs : List Ent}, PairE es xs → KeysN s.heap xs := by
  intro xs p
  induction p with
  | nil => intro x hx; cases hx
  | cons h t ih =>
    intro x hx
    obtain ⟨h1, h2, h3⟩ := h
    rcases List.mem_cons.mp hx with rfl | hx
    · obtain ⟨g1, g2⟩ := ks _ List.mem_cons_self
      rw [h1] at g1 g2
      exact ⟨KeyV.is I g1 h2, g2⟩
    · exact ih (fun e he => ks e (List.mem_cons_of_mem _ he)) x hx
theorem gd_ok {P : Program} {w : World} {H' : Hp} {h' : Heap} (hz : es.length ≤ sizeLine) (hd : (a == sysModules) = false) (p : PairE es xs) (m : DictN w h' a xs) {ob : Obj} (e : h'.get? a = some ob) : ObjOk P w H' h' a (gdO w a ob es) := by
  refine ⟨⟨e, hz, hd, xs, p, m⟩, ⟨ob, e⟩, ?_⟩
  rintro h1 h2 ⟨e, g1, g2, xs, p, m⟩ st
  exact ⟨st _ e, g1, g2, xs, p, m.stay st⟩
/-- d[y] -/
def rGIx (K : PySem.W.Frag) (w : World) : R2 := fun x y H Q => ∃ a ob es k v, x = .ref a ∧ Rd H a (gdO w a ob es) ∧ KeysV K H es ∧ KeyV K H k y ∧ k.depth ≤ 8 ∧ vAt es k = some v ∧ Q v H
theorem ix_gd (hu : X.A.units + 10 < cLine) : IxR X (rGIx X.K X.w) := by
  intro value slice pins s σ H x y v u Q I rx ry h hs
  obtain ⟨a, ob, es, k, v', rfl, hd, ks, hk, dk, hv, q⟩ := h
  cases rx
  obtain ⟨hz, ha, xs, p, m⟩ := gd_at I hd
  rcases p.at' (k := k) with ⟨b, _⟩ | ⟨v2, p2, b, c, d⟩
  · rw [hv] at b; cases b
  · rw [hv] at b; cases b
    exact tail_any m.typ slot_dict_getitem.lookup (getItemN (by omega) (hk.is I ry) dk m (ks.is I p) c ⟨v', H, I.tok _, d, q⟩) hs
def rGIn (K : PySem.W.Frag) (w : World) : R2 := fun x y H Q => ∃ a ob es k, y = .ref a ∧ Rd H a (gdO w a ob es) ∧ KeysV K H es ∧ KeyV K H k x ∧ k.depth ≤ 8 ∧ Q (.bl (vAt es k).isSome) H
def rGNotIn (K : PySem.W.Frag) (w : World) : R2 := fun x y H Q => ∃ a ob es k, y = .ref a ∧ Rd H a (gdO w a ob es) ∧ KeysV K H es ∧ KeyV K H k x ∧ k.depth ≤ 8 ∧ Q (.bl (!(vAt es k).isSome)) H
theorem op_gin (hu : X.A.units + 10 < cLine) : OpR X (compareOp .In) (rGIn X.K X.w) := by
  intro pins s σ H x y v u Q I rx ry h
  obtain ⟨a, ob, es, k, rfl, hd, ks, hk, dk, q⟩ := h
  cases ry
  obtain ⟨hz, ha, xs, p, m⟩ := gd_at I hd
  refine inN (by omega) (hk.is I rx) dk ha m (ks.is I p) ?_
  rw [← p.some']
  exact ⟨.bl _, H, I.tok _, rfl, q⟩
theorem op_gnotin (hu : X.A.units + 10 < cLine) : OpR X (compareOp .NotIn) (rGNotIn X.K X.w) := by
  intro pins s σ H x y v u Q I rx ry h
  obtain ⟨a, ob, es, k, rfl, hd, ks, hk, dk, q⟩ := h
  cases ry
  obtain ⟨hz, ha, xs, p, m⟩ := gd_at I hd
  refine notInN (by omega) (hk.is I rx) dk ha m (ks.is I p) ?_
  rw [← p.some']
  exact ⟨.bl _, H, I.tok _, rfl, q⟩
def rGSet (K : PySem.W.Frag) (w : World) : V → V → V → Hp → (Hp → Prop) → Prop := fun o i v H Q => ∃ a ob es k, o = .ref a ∧ H a = some (gdO w a ob es) ∧ KeysV K H es ∧ KeyV K H k i ∧ k.depth ≤ 8 ∧ es.length < sizeLine ∧ ∀ ob', Q (upd H a (gdO w a ob' (vPut es k i v)))
theorem set_gd (hu : X.A.units + 10 < cLine) : PSet X (rGSet X.K X.w) := by
  intro pins s σ H o i v ov iv u Q I ro ri rv h
  obtain ⟨a, ob, es, k, rfl, hd, ks, hk, dk, hl, q⟩ := h
  cases ro
  obtain ⟨hz, ha, xs, p, m⟩ := gd_at I (.inl hd)
  refine setItemN (by omega) (hk.is I ri) dk m (ks.is I p) (by rw [← p.len]; exact hz) fun h' m' sb => by
    obtain ⟨o, _, _, e, _⟩ := id m'
    refine ⟨_, d_write I (by rw [hd]; trivial) sb ⟨o, e⟩ (gd_ok ?_ ha (p.put ri rv) m' e), q _⟩
    have := vPut_len es k i v
    omega
/-- d[y] = v by a comprehension -/
theorem dictSet_gd {E : Value → Shared → Prop} {Q : Unit → Shared → Prop} {kv : V} {kr : Value} (hu : X.A.units + 10 < cLine) (I : Inv X pins σ H s) {ob : Obj} (hd : H a = some (gdO X.w a ob es)) (ks : KeysV X.K H es) (hk : KeyV X.K H k kv) (dk : k.depth ≤ 8) (hl : es.length < sizeLine)
    (ry : RelV kv kr) (rv : RelV v r) (h : ∀ s' ob', Inv X pins σ (upd H a (gdO X.w a ob' (vPut es k kv v))) s' → Q () s') : wpAny (model X.prog X.w) X.A (dictSet a kr r) Q E s := by
  obtain ⟨hz, ha, xs, p, m⟩ := gd_at I (.inl hd)
  refine setN (by omega) (hk.is I ry) dk m (ks.is I p) (by rw [← p.len]; exact hz) fun h' m' sb => by
    obtain ⟨o, _, _, e, _⟩ := id m'
    refine h _ _ (d_write I (by rw [hd]; trivial) sb ⟨o, e⟩ (gd_ok ?_ ha (p.put ry rv) m' e))
    have := vPut_len es k kv v
    omega
end
end L2.GD

set_option Elab.async false
set_option linter.all false
set_option maxRecDepth 100000
set_option autoImplicit false
/-! Dicts with mixed keys: len, the empty one, comprehensions. -/
namespace L2.GD
open PySem PySem.Spec PyProof.Rows
section
variable {X : Cx}
theorem len_gd : CallR X (.builtin "len") (fun xs H Q => ∃ a ob es, xs = [V.ref a] ∧ Rd H a (gdO X.w a ob es) ∧ Q (.int es.length) H) := by
  intro pins s σ H xs us Q I r h
  obtain ⟨a, ob, es, rfl, ha, q⟩ := h
  obtain ⟨u, rfl, ru⟩ := vals1 r
  cases ru
  obtain ⟨hz, hs, xs, p, o, t, ep, ho, hc, hd, he, hn⟩ := gd_at I ha
  have hsz : t.size = es.length := by rw [ent_sz he, p.len]
  have hl : (es.length : Int) < 2 ^ 63 := by rw [sizeLine_eq] at hz; omega
  exact call_len_slot (n := es.length) (T := "dict") ⟨o, ho, hc.1⟩ F.slot_dict_len (fun Q' hq => call_len_raw (ep := ep) hs ⟨o, ho, hc, hd⟩ (by rw [hsz]; exact hq)) (by omega) (by omega) ⟨.int es.length, H, I.tok _, ⟨_, rfl⟩, q⟩
theorem gd_new {P : Program} {w : World} {H' : Hp} (h : Heap) (hs : sysModules < h.objs.size) : ObjOk P w H' (h.push { cls := .type "dict", data := .dict #[] }) h.objs.size (gdO w h.objs.size obD []) :=
  gd_ok (xs := []) (Nat.zero_le _) (by simpa using Nat.ne_of_gt hs) .nil (DictN.empty h) (Heap.get?_push_size _ rfl)
def tGNew (w : World) : TE := fun _ H Q => ∀ p, H p = none → Q (.ref p) (upd H p (gdO w p obD []))
theorem pe_gnew {pos : Pos} : PE X (.Dict [] [] pos) (tGNew X.w) := ⟨fun pins s σ H Q I h =>
  wpAny_Dict_empty ⟨.ref s.heap.objs.size, _, I.laid (a := s.heap.objs.size) (o := gdO X.w s.heap.objs.size obD []) (t' := s.toks) (fun _ _ q => Heap.get?_push_of_some _ q) (Nat.le_refl _) (gd_new s.heap I.big), rfl, h _ (I.hok.fresh (Nat.le_refl _))⟩⟩
/-- {k: v for target in iter if ..}, mixed keys: D the new dict -/
def tGc (K : PySem.W.Frag) (w : World) (wi : TI) (g : TG) (tt : TT) (tk tv : TE) (vs : List Nat) : TE := fun σ H Q => wi σ H fun J H1 => ∀ D, H1 D = none → ∃ W : Nat → Nat → Hp → Prop, (∃ m, W 0 m (upd H1 D (gdO w D obD []))) ∧ ∀ i m H, W i m H →
  (J.stop i H ∧ Q (.ref D) H) ∨ (J.go i H ∧ ∃ Nx : Hp → Prop, (∀ H', Nx H' → ∃ m', m' < m ∧ W (i + 1) m' H') ∧ ∀ x H', J.yld i H x H' → g x (wipe σ vs) H' fun σ2 H2 => wipe σ2 vs = wipe σ vs ∧ tt σ2 H2 fun b H3 =>
    if b = true then tk σ2 H3 fun y H4 => tv σ2 H4 fun z H5 => ∃ ob es k, H5 D = some (gdO w D ob es) ∧ KeysV K H5 es ∧ KeyV K H5 k y ∧ k.depth ≤ 8 ∧ es.length < sizeLine ∧ ∀ ob', Nx (upd H5 D (gdO w D ob' (vPut es k y z))) else Nx H3)
/-- in a comprehension's block -/
def InB (X : Cx) (scope : Scope) (P : Cx → Prop) : Prop := ∀ (s : Shared) (H : Hp) (C : Addr) (cl : List (Str × Addr)) (fp : List Addr), P (X.blk s H scope (compEnvC scope cl C X.env) fp)
theorem gc_core {pins : List (Addr × Obj)} {s : Shared} {σ : St} {H : Hp} {Q : VK} {kx vx tg iter : Expr} {ifs : List Expr} {scope : Scope} {own : List (Str × Nat)} {pos pos' : Pos} {wi : TI} {g : TG} {tt : TT} {tk tv : TE} {use : Option (Value → Sem Unit)} {Qf : Value → Shared → Prop}
    (hu : X.A.units + 10 < cLine) (hc : X.calm = true) (hN : X.N.Nodup) (I : Inv X pins σ H s) (hi : PI X tg iter wi) (ok : BlkOk X.N X.env.scope scope own) (hg : InB X scope fun Y => PG Y tg g) (ht : InB X scope fun Y => PTs Y ifs tt)
    (hk : InB X scope fun Y => PE Y kx tk) (he : InB X scope fun Y => PE Y vx tv) (hs : ∀ x, foldedSetIterable iter X.env x = pure x) (h : tGc X.K X.w wi g tt tk tv (own.map (·.2)) σ H Q)
    (back : ∀ D C s' m H', Inv X pins σ H' s' → Q (.ref D) H' → s'.heap.Ns C m → FpOk X pins H' C → compPost (model X.prog X.w) X.A X.xe use Qf (.ref D) C (.ok .next) s') :
    wpAny (model X.prog X.w) X.A (comprehension (.DictComp kx vx [⟨tg, iter, ifs, 0⟩] scope pos) scope X.env pos' newDict false (eval iter X.env) use) Qf X.xe s := by
  have free : ∀ y ∈ scope.names, y.2 = .free → ∃ c, X.env.cells.lookup y.1 = some c := fun y hy e => (ok.free y hy e).elim (fun z => I.ok.has _ (.inl z)) fun z => I.ok.has _ (.inr z)
  refine wpAny_comprehension_free (use := use) rfl hs (closure_ok free) ok.kind (fun y hy e => by rw [ok.uniq y hy, e]) (thn (hi.run pins s σ H _ I h) fun _ s1 hx => thn hx fun itv s2 h2 => ?_)
  obtain ⟨it, fp, tn, J, H2, rfl, I2, T, st2, f2, q⟩ := h2
  refine wpAny_newObj_type (newEnv_comp ?_)
  generalize hD : s2.heap.objs.size = D
  obtain ⟨W, ⟨m0, w0⟩, turn⟩ := q D (I2.hok.fresh (Nat.le_of_eq hD))
  generalize hs3 : ({ s2 with heap := s2.heap.push { cls := .type "dict", data := .dict #[] } } : Shared) = s3
  have I3 : Inv X pins σ (upd H2 D (gdO X.w D obD [])) s3 := by
    subst hD hs3
    exact I2.laid (t' := s2.toks) (fun _ _ e => Heap.get?_push_of_some _ e) (Nat.le_refl _) (gd_new s2.heap I2.big)
  have h3 : s3.heap = s2.heap.push { cls := .type "dict", data := .dict #[] } := by rw [← hs3]
  have f3 : ∀ b ∈ fp, FpOk X pins (upd H2 D (gdO X.w D obD [])) b ∧ b < s3.heap.objs.size := fun b hb => by
    obtain ⟨o, e, _⟩ := T.obj _ _ st2 b hb
    have lt : b < s2.heap.objs.size := Heap.lt_size e
    exact ⟨⟨by rw [upd_ne (by rw [← hD]; exact Nat.ne_of_lt lt)]; exact (f2 b hb).1, (f2 b hb).2⟩, by rw [h3, Heap.size_push]; exact Nat.lt_succ_of_lt lt⟩
  have st3 : tn 0 s3.heap := T.keep _ _ _ st2 fun _ _ _ e => by rw [h3]; exact Heap.get?_push_of_some _ e
  have I4 := block_start I3 ok hN f3
  have pg := hg s3 (upd H2 D (gdO X.w D obD [])) s3.heap.objs.size (cellsFrom (s3.heap.objs.size + 1) scope.names (cloFrom X.env.cells scope.names [])) fp
  have pt := ht s3 (upd H2 D (gdO X.w D obD [])) s3.heap.objs.size (cellsFrom (s3.heap.objs.size + 1) scope.names (cloFrom X.env.cells scope.names [])) fp
  have pk := hk s3 (upd H2 D (gdO X.w D obD [])) s3.heap.objs.size (cellsFrom (s3.heap.objs.size + 1) scope.names (cloFrom X.env.cells scope.names [])) fp
  have pv := he s3 (upd H2 D (gdO X.w D obD [])) s3.heap.objs.size (cellsFrom (s3.heap.objs.size + 1) scope.names (cloFrom X.env.cells scope.names [])) fp
  show codeAny _ _ (.compStart (.DictComp kx vx [⟨tg, iter, ifs, 0⟩] scope pos) 0 (.ref it) (.ref D) (compEnvC scope (cellsFrom (s3.heap.objs.size + 1) scope.names (cloFrom X.env.cells scope.names [])) s3.heap.objs.size X.env)) (compPost (model X.prog X.w) X.A X.xe use Qf (.ref D) s3.heap.objs.size) _
  have nfp : ∀ b ∈ fp, (upd H2 D (gdO X.w D obD [])) b = none := fun b hb => (f3 b hb).1.1
  generalize hce : compEnvC scope (cellsFrom (s3.heap.objs.size + 1) scope.names (cloFrom X.env.cells scope.names [])) s3.heap.objs.size X.env = ce at I4 pg pt pk pv ⊢
  have cL : ce.locals = s3.heap.objs.size := by subst hce; rfl
  generalize hH3 : upd H2 D (gdO X.w D obD []) = H3 at I3 I4 pg pt pk pv w0 nfp f3
  generalize hs4 : ({ s3 with heap := pushCells (s3.heap.push { cls := .type "dict", data := .dict #[] }) scope.names } : Shared) = s4 at I4 ⊢
  have st4 : tn 0 s4.heap := T.keep _ _ _ st3 fun _ _ _ e => by subst hs4; exact pushCells_keeps _ _ _ _ (Heap.get?_push_of_some _ e)
  have stat : ∀ {σ' : St} {H' : Hp} {s' : Shared}, Inv (X.blk s3 H3 scope ce fp) [] σ' H' s' → (∀ b ∈ fp, H' b = none) → ∀ b ∈ fp, FpOk (X.blk s3 H3 scope ce fp) [] H' b := fun {_ _ _} I' no b hb =>
    ⟨no b hb, (I'.ok.exf b hb).1, I'.ok.exfs b hb, .inl hb, fun x c e => (I'.ok.exf b hb).2 x c e, fun p hp => absurd (show p ∈ ([] : List (Addr × Obj)) ++ [] from hp) (by simp)⟩
  have loop : codeAny (model X.prog X.w) X.A (.compLoop (.DictComp kx vx [⟨tg, iter, ifs, 0⟩] scope pos) 0 (.ref it) (.ref D) ce) (compPost (model X.prog X.w) X.A X.xe use Qf (.ref D) s3.heap.objs.size) s4 := by
    refine compLoop_anyD (fun n s' => ∃ i H', Inv (X.blk s3 H3 scope ce fp) [] (wipe σ (own.map (·.2))) H' s' ∧ tn i s'.heap ∧ (∀ b ∈ fp, H' b = none) ∧ W i n H') ?_ m0 ⟨0, H3, I4, st4, nfp, w0⟩
    rintro n s5 ⟨i, H5, I5, st5, n5, w5⟩
    rcases turn i n H5 w5 with ⟨stop, qq⟩ | ⟨go, Nx, hNx, step⟩
    · refine thnF (T.done (X.blk s3 H3 scope ce fp) rfl rfl rfl hc i [] s5 _ H5 (fun _ _ => False) I5 (stat I5 n5) st5 stop) fun r s6 ⟨hr, I6⟩ => ?_
      subst hr
      have I7 : Inv X pins σ H5 s6 := I3.call' (ch := fp) I6.os I6.base I6.hok I6.bare fun b hb => let z := (f3 b hb).1; ⟨z.2.2.2.1, z.2.1, z.2.2.2.2.1, z.2.2.2.2.2⟩
      have nC : H5 s3.heap.objs.size = none := cL ▸ (show H5 ce.locals = none from I6.free)
      obtain ⟨m, hn, _⟩ := I6.loc
      exact back D s3.heap.objs.size s6 m H5 I7 qq (cL ▸ (show s6.heap.Ns ce.locals m from hn)) (I3.fpOk (Nat.le_refl _) nC)
    · refine thnF (T.item (X.blk s3 H3 scope ce fp) rfl rfl rfl hc i [] s5 _ H5 (fun _ _ => False) I5 (stat I5 n5) st5 go) fun r s6 ⟨u, hr, h6⟩ => ?_
      subst hr
      refine thnF h6 fun _ s7 ⟨x, H7, I7, r7, y7, st7, n7⟩ => ?_
      have I7' := I7.pinned (stat I7 n7) (T.obj _ _ st7)
      refine thnF (pg.run _ s7 _ H7 x u _ I7' r7 (step x H7 y7)) fun _ s8 ⟨σ8, H8, I8, hw8, q8⟩ => thnF (pt.run _ s8 σ8 H8 _ I8 q8) fun b s9 ⟨H9, I9, q9⟩ => ?_
      have fin : ∀ {s' : Shared} {H' : Hp}, Inv (X.blk s3 H3 scope ce fp) ([] ++ pinsAt fp s7.heap) σ8 H' s' → Nx H' → ∃ m, m < n ∧ ∃ i H', Inv (X.blk s3 H3 scope ce fp) [] (wipe σ (own.map (·.2))) H' s' ∧ tn i s'.heap ∧ (∀ b ∈ fp, H' b = none) ∧ W i m H' := fun {s' H'} I' nx => by
        obtain ⟨m', hm, w'⟩ := hNx H' nx
        have stay : ∀ b ∈ fp, ∀ o, s7.heap.get? b = some o → s'.heap.get? b = some o ∧ H' b = none := fun b hb o e => let z := I'.pin (b, o) (List.mem_append_right _ (List.mem_append_right _ (mem_pinsAt hb e))); ⟨z.1, z.2.1⟩
        refine ⟨m', hm, i + 1, H', (I'.unpinned (pins := [])).weak (by rw [← hw8, wipe_length]) (fun j v e => (wipe_some (hw8 ▸ e)).1), T.keep _ _ _ st7 fun b hb o e => (stay b hb o e).1, fun b hb => ?_, w'⟩
        obtain ⟨o, e, _⟩ := T.obj _ _ st7 b hb
        exact (stay b hb o e).2
      cases b with
      | false =>
        simp only [Bool.false_eq_true, if_false] at q9 ⊢
        exact fin I9 q9
      | true =>
        simp only [if_true] at q9 ⊢
        refine thnF (pk.run _ s9 σ8 H9 _ I9 q9) fun _ s10 ⟨yk, H10, I10, r10, q10⟩ => thnF (pv.run _ s10 σ8 H10 _ I10 q10) fun _ s11 ⟨yv, H11, I11, r11, ob, es, k, e11, ks, kk, dk, hz, nx⟩ => ?_
        exact dictSet_gd (X := X.blk s3 H3 scope ce fp) hu I11 e11 ks kk dk hz r10 r11 fun s12 ob' I12 => fin I12 (nx ob')
  exact codeAny_compStart_dict loop (T.self X.A 0 _ _ _ st4 loop)
theorem pe_gc {kx vx tg iter : Expr} {ifs : List Expr} {scope : Scope} {own : List (Str × Nat)} {pos : Pos} {wi : TI} {g : TG} {tt : TT} {tk tv : TE} (hu : X.A.units + 10 < cLine) (hc : X.calm = true) (hN : X.N.Nodup) (hi : PI X tg iter wi) (ok : BlkOk X.N X.env.scope scope own)
    (hg : InB X scope fun Y => PG Y tg g) (ht : InB X scope fun Y => PTs Y ifs tt) (hk : InB X scope fun Y => PE Y kx tk) (he : InB X scope fun Y => PE Y vx tv) (hs : ∀ x, foldedSetIterable iter X.env x = pure x := by intro _; rfl) :
    PE X (.DictComp kx vx [⟨tg, iter, ifs, 0⟩] scope pos) (tGc X.K X.w wi g tt tk tv (own.map (·.2))) := by
  refine ⟨fun pins s σ H Q I h => ?_⟩
  rw [arm_eval_DictComp]
  refine gc_core hu hc hN I hi ok hg ht hk he hs h fun D C s' m H' I' q hn ⟨f0, f1, f2, f3, f4, f5⟩ => ⟨m, hn, fun h'' sb => ?_⟩
  exact ⟨.ref D, H', I'.turned (t' := s'.toks) (fun b o hb e => (sb.2 b hb).trans e) f0 f1 f3 f4 f5, rfl, q⟩
end
end L2.GD

set_option Elab.async false
set_option linter.all false
set_option maxRecDepth 100000
set_option autoImplicit false
/-! Dicts with mixed keys walked: keys, values, items. -/
namespace L2.GD
open PySem PySem.Spec PyProof.Rows
section
variable {X : Cx} {pins : List (Addr × Obj)} {σ : St} {H : Hp} {s : Shared} {a : Addr} {es : List EnV} {ob : Obj}
theorem gd_raw (I : Inv X pins σ H s) (h : Rd H a (gdO X.w a ob es)) : (a == sysModules) = false ∧ ∃ (t : Array DictEntry) (ep : Nat), ob.data = .dict t ep ∧ ob.ExactDict ∧ s.heap.get? a = some ob ∧ s.heap.DictRaw a t ep ∧ t.size = es.length ∧
    ∀ (i : Nat) (e : EnV), es[i]? = some e → ∃ en, t[i]? = some en ∧ RelV e.2.1 en.key ∧ RelV e.2.2 en.val := by
  obtain ⟨hz, hs, xs, p, o, t, ep, ho, hc, hd, he, hn⟩ := gd_at I h
  have pin := gd_pin I h
  rw [ho] at pin; cases pin
  have hl : t.size = es.length := by rw [ent_sz he, p.len]
  refine ⟨hs, t, ep, hd, hc, ho, ⟨_, ho, hc, hd⟩, hl, fun i e hi => ?_⟩
  obtain ⟨x, hx, h1, h2, h3⟩ := paired_get p hi
  have q : t.toList[i]? = some (entN X.w x) := by rw [he, List.getElem?_map, hx]; rfl
  exact ⟨entN X.w x, by simpa using q, h2, h3⟩
end
/-- the dict stands there -/
def Itg (w : World) (a : Addr) (ob : Obj) (es : List EnV) (f : EnV → V) : It :=
  ⟨fun i H => Rd H a (gdO w a ob es) ∧ i < es.length, fun i H x H' => H' = H ∧ ∃ e, es[i]? = some e ∧ x = f e, fun i H => Rd H a (gdO w a ob es) ∧ es.length ≤ i⟩
/-- its items, each in a new pair -/
def Itgi (w : World) (a : Addr) (ob : Obj) (es : List EnV) : It :=
  ⟨fun i H => Rd H a (gdO w a ob es) ∧ i < es.length, fun i H x H' => ∃ p e, es[i]? = some e ∧ x = .ref p ∧ H p = none ∧ H' = upd H p (.tup [e.2.1, e.2.2]), fun i H => Rd H a (gdO w a ob es) ∧ es.length ≤ i⟩
section
variable {P : Program} {w : World} {K : PySem.W.Frag} {tg : Expr} {a : Addr} {ob : Obj} {es : List EnV} {t : Array DictEntry} {ep : Nat}
theorem raw_ep {o : Obj} {es es' : Array DictEntry} {ep ep' : Nat} (h : o.data = .dict es ep) (h' : o.data = .dict es' ep') : es' = es ∧ ep' = ep := by
  rw [h] at h'
  cases h'
  exact ⟨rfl, rfl⟩
theorem turn_gkeys (it : Addr) (hod : ob.data = .dict t ep) : Turn P w K tg (Itg w a ob es (·.2.1)) [it] it (fun i h => h.IsKeyIter it a i t.size ep) where
  mem := by simp
  obj := fun i h st b hb => by
    obtain rfl : b = it := by simpa using hb
    obtain ⟨oi, e, c, dd⟩ := st
    exact ⟨oi, e, fun v z => by rw [dd] at z; cases z⟩
  keep := fun i h h' st k => st.at fun oi e => k it (by simp) oi e
  item := by
    intro X hP hw hK hc i pins s σ H E I hf st hg
    subst hP hw hK
    obtain ⟨hd, hi⟩ := hg
    obtain ⟨f0, f1, f2, f3, f4, f5⟩ := hf it (by simp)
    obtain ⟨hs, t', ep', hdt, hx, hgd, hraw, hsz, ent⟩ := gd_raw I hd
    obtain ⟨rfl, rfl⟩ := raw_ep hod hdt
    obtain ⟨e, he⟩ : ∃ e, es[i]? = some e := ⟨es[i], List.getElem?_eq_getElem hi⟩
    obtain ⟨en, hen, rk, rv⟩ := ent i e he
    refine next_key_item st hgd hdt rfl hen fun h' st' sb => ?_
    have I1 : Inv X pins σ H { s with heap := h' } := I.turned (t' := s.toks) (fun b ob hb e => (sb.2 b hb).trans e) f0 f1 f3 f4 f5
    obtain ⟨oi, e1, c, dd⟩ := id st'
    exact ⟨en.key, rfl, go_of (s := { s with heap := h' }) e1 c dd (by decide) ⟨e.2.1, H, I1, rk, ⟨rfl, e, he, rfl⟩, st', fun b hb => (hf b hb).1⟩⟩
  done := by
    intro X hP hw hK hc i pins s σ H E I hf st hg
    subst hP hw hK
    obtain ⟨hd, hi⟩ := hg
    obtain ⟨f0, f1, f2, f3, f4, f5⟩ := hf it (by simp)
    obtain ⟨hs, t', ep', hdt, hx, hgd, hraw, hsz, ent⟩ := gd_raw I hd
    obtain ⟨rfl, rfl⟩ := raw_ep hod hdt
    exact next_key_end (I.ok.hd hc) st hgd hdt rfl (by omega) fun h' eb => ⟨rfl, I.turned (t' := s.toks) (fun b ob hb e => eb b ob hb e) f0 f1 f3 f4 f5⟩
  self := fun A i s Q E st h => by
    refine wpAny_pyIter_slot st.typeIs F.slot_dict_keyiterator_iter (wpAny_call_entry F.slot_dict_keyiterator_iter st.typeIs F.entry_dict_keyiterator_iter ?_ (F.args_dict_keyiterator_iter_1 _))
    show wpAny _ _ (ret (.ref it)) _ _ s
    exact wpAny_pure ⟨_, rfl, "dict_keyiterator", _, st.typeIs, F.slot_dict_keyiterator_next.lookup, h⟩
theorem turn_gvals (it : Addr) (hod : ob.data = .dict t ep) : Turn P w K tg (Itg w a ob es (·.2.2)) [it] it (fun i h => h.IsValIter it a i t.size ep) where
  mem := by simp
  obj := fun i h st b hb => by
    obtain rfl : b = it := by simpa using hb
    obtain ⟨oi, e, c, dd⟩ := st
    exact ⟨oi, e, fun v z => by rw [dd] at z; cases z⟩
  keep := fun i h h' st k => st.at fun oi e => k it (by simp) oi e
  item := by
    intro X hP hw hK hc i pins s σ H E I hf st hg
    subst hP hw hK
    obtain ⟨hd, hi⟩ := hg
    obtain ⟨f0, f1, f2, f3, f4, f5⟩ := hf it (by simp)
    obtain ⟨hs, t', ep', hdt, hx, hgd, hraw, hsz, ent⟩ := gd_raw I hd
    obtain ⟨rfl, rfl⟩ := raw_ep hod hdt
    obtain ⟨e, he⟩ : ∃ e, es[i]? = some e := ⟨es[i], List.getElem?_eq_getElem hi⟩
    obtain ⟨en, hen, rk, rv⟩ := ent i e he
    obtain ⟨hlt, hen'⟩ := Array.getElem?_eq_some_iff.mp hen
    refine wpAny_pyNext_values_item_raw st hraw hlt fun h' st' sb => ?_
    have I1 : Inv X pins σ H { s with heap := h' } := I.turned (t' := s.toks) (fun b ob hb e => (sb.2 b hb).trans e) f0 f1 f3 f4 f5
    obtain ⟨oi, e1, c, dd⟩ := id st'
    exact ⟨_, rfl, go_of (s := { s with heap := h' }) e1 c dd (by decide) ⟨e.2.2, H, I1, by rw [hen']; exact rv, ⟨rfl, e, he, rfl⟩, st', fun b hb => (hf b hb).1⟩⟩
  done := by
    intro X hP hw hK hc i pins s σ H E I hf st hg
    subst hP hw hK
    obtain ⟨hd, hi⟩ := hg
    obtain ⟨f0, f1, f2, f3, f4, f5⟩ := hf it (by simp)
    obtain ⟨hs, t', ep', hdt, hx, hgd, hraw, hsz, ent⟩ := gd_raw I hd
    obtain ⟨rfl, rfl⟩ := raw_ep hod hdt
    exact wpAny_pyNext_values_end_raw (I.ok.hd hc) st hraw (by omega) fun h' eb => ⟨rfl, I.turned (t' := s.toks) (fun b ob hb e => eb b ob hb e) f0 f1 f3 f4 f5⟩
  self := fun A i s Q E st h => wpAny_pyIter_valiter st h
theorem turn_gitems {elts : List Expr} {kk : Nat} {tpos : Pos} (it : Addr) (hod : ob.data = .dict t ep) : Turn P w K (.Tuple elts kk tpos) (Itgi w a ob es) [it] it (fun i h => ∃ ok ov, IsItemIter h it a i t.size ep ok ov) where
  mem := by simp
  obj := fun i h st b hb => by
    obtain rfl : b = it := by simpa using hb
    obtain ⟨ok, ov, e⟩ := st
    exact ⟨_, e, fun v z => nomatch z⟩
  keep := fun i h h' st k => let ⟨ok, ov, e⟩ := st; ⟨ok, ov, k it (by simp) _ e⟩
  item := by
    intro X hP hw hK hc i pins s σ H E I hf st hg
    subst hP hw hK
    obtain ⟨hd, hi⟩ := hg
    obtain ⟨hs, t', ep', hdt, hx, hgd, hraw, hsz, ent⟩ := gd_raw I hd
    obtain ⟨rfl, rfl⟩ := raw_ep hod hdt
    obtain ⟨e, he⟩ : ∃ e, es[i]? = some e := ⟨es[i], List.getElem?_eq_getElem hi⟩
    obtain ⟨en, hen, rk, rv⟩ := ent i e he
    obtain ⟨hlt', hen'⟩ := Array.getElem?_eq_some_iff.mp hen
    obtain ⟨ok, ov, hit⟩ := st
    have hlt : it < s.heap.objs.size := Heap.lt_size hit
    refine wpAny_pyNext_items_item_raw hit hraw hlt' fun h' ho hT hz hk => ?_
    refine ⟨_, rfl, wpAny_letOwnedTupleGo_items (s := { s with heap := h' }) ho fun h'' he' sb => ?_⟩
    rw [hen'] at hT
    have hT2 : h''.get? s.heap.objs.size = some { cls := .type "tuple", data := .seq #[en.key, en.val] } := (sb.2 _ (Nat.ne_of_gt hlt)).trans hT
    have new : ObjOk X.prog X.w (upd H s.heap.objs.size (.tup [e.2.1, e.2.2])) h'' s.heap.objs.size (.tup [e.2.1, e.2.2]) :=
      ⟨by show 2 ≤ sizeLine; decide, [en.key, en.val], .cons rk (.cons rv .nil), ⟨_, hT2, rfl, _, rfl⟩⟩
    have I1 : Inv X pins σ (upd H s.heap.objs.size (.tup [e.2.1, e.2.2])) { s with heap := h'' } :=
      I.turnedNew (t' := s.toks) (ch := [it]) (fun b ob hb q => (sb.2 b (by simpa using hb)).trans (hk b ob (by simpa using hb) q)) hf (Nat.le_refl _) new
    refine ⟨.ref s.heap.objs.size, _, I1, rfl, ⟨_, e, he, rfl, I.hok.fresh (Nat.le_refl _), rfl⟩, ⟨_, _, he'⟩, fun b hb => ?_⟩
    obtain rfl : b = it := by simpa using hb
    rw [upd_ne (Nat.ne_of_lt hlt)]
    exact (hf b (by simp)).1
  done := by
    intro X hP hw hK hc i pins s σ H E I hf st hg
    subst hP hw hK
    obtain ⟨hd, hi⟩ := hg
    obtain ⟨f0, f1, f2, f3, f4, f5⟩ := hf it (by simp)
    obtain ⟨hs, t', ep', hdt, hx, hgd, hraw, hsz, ent⟩ := gd_raw I hd
    obtain ⟨rfl, rfl⟩ := raw_ep hod hdt
    obtain ⟨ok, ov, hit⟩ := st
    exact wpAny_pyNext_items_end_raw (I.ok.hd hc) hit hraw (by omega) fun h' eb => ⟨rfl, I.turned (t' := s.toks) (fun b ob hb e => eb b ob hb e) f0 f1 f3 f4 f5⟩
  self := fun A i s Q E st h => let ⟨_, _, e⟩ := st; PySem.W.kcp_self e h
end
section
variable {X : Cx} {tg e : Expr} {td : TE} {apos cpos : Pos} {pins : List (Addr × Obj)} {σ : St} {H : Hp} {s : Shared} {R : It → Hp → Prop} {a : Addr} {ob : Obj} {es : List EnV}
/-- iter(d) -/
theorem piv_gd (I : Inv X pins σ H s) (h : Rd H a (gdO X.w a ob es)) (q : R (Itg X.w a ob es (·.2.1)) H) : wpAny (model X.prog X.w) X.A (pyIter (.ref a)) (PIE X pins σ tg R) X.xe s := by
  obtain ⟨hs, t, ep, hdt, hx, hgd, hraw, hsz, ent⟩ := gd_raw I h
  exact iter_keys hs hgd hx hdt (pi_one (tk := s.toks) I _ (turn_gkeys _ hdt) ⟨_, Heap.get?_push_size _ rfl, rfl, rfl⟩ q)
def iGv (w : World) (td : TE) : TI := fun σ H R => td σ H fun x H1 => ∃ a ob es, x = .ref a ∧ Rd H1 a (gdO w a ob es) ∧ R (Itg w a ob es (·.2.2)) H1
def iGi (w : World) (td : TE) : TI := fun σ H R => td σ H fun x H1 => ∃ a ob es, x = .ref a ∧ Rd H1 a (gdO w a ob es) ∧ R (Itgi w a ob es) H1
theorem pi_gvalues (he : PE X e td) (hbase : attributeBase e "values" X.env (eval e X.env) = eval e X.env := by rfl) (hline : (apos.endLine == cpos.line) = true := by rfl) : PI X tg (.Call (.Attribute e "values" apos) [] [] cpos) (iGv X.w td) := by
  refine ⟨fun pins s σ H R I h => ?_⟩
  refine wpAny_Call_method (T := "dict") (id := "dict.values") hbase rfl hline F.plainAttrs_dict F.slot_dict_values F.type_dict_values (thn (he.run pins s σ H _ I h) fun u s1 ⟨x, H1, I1, rx, a, ob, es, ex, hd, q⟩ => ?_)
  subst ex
  obtain rfl : u = Value.ref a := rx
  obtain ⟨hs, t, ep, hdt, hx, hgd, hraw, hsz, ent⟩ := gd_raw I1 hd
  refine ⟨hraw.typeIs, (fun b e => by cases e; exact ⟨_, hgd, hx.2.1⟩), ?_⟩
  have I2 : Inv X pins σ H1 { s1 with heap := s1.heap.push { cls := .type "dict_values", data := .fields #[.ref a] } } := I1.kept (t' := s1.toks) fun b ob q => Heap.get?_push_of_some _ q
  have fin : wpAny (model X.prog X.w) X.A (pyIter (.ref s1.heap.objs.size)) (PIE X pins σ tg R) X.xe { s1 with heap := s1.heap.push { cls := .type "dict_values", data := .fields #[.ref a] } } :=
    wpAny_pyIter_values_raw (d := a) ⟨_, Heap.get?_push_size _ rfl, rfl, rfl⟩ (hraw.at fun o q => Heap.get?_push_of_some _ q) (pi_one (tk := s1.toks) I2 _ (turn_gvals _ hdt) ⟨_, Heap.get?_push_size _ rfl, rfl, rfl⟩ q)
  show wpAny _ _ (callWith cpos (.builtin "dict.values") [.ref a] [] []) _ X.xe s1
  exact method_meetsIn F.slot_dict_values F.entry_dict_values rfl (PySem.evalArgs_none ⟨rfl, hraw.typeIs, F.args_dict_values_1 _, _, meets_dict_values_raw a hs, ⟨t, ep, hraw⟩, fin⟩)
theorem pi_gitems {elts : List Expr} {kk : Nat} {tpos : Pos} (he : PE X e td) (hbase : attributeBase e "items" X.env (eval e X.env) = eval e X.env := by rfl) (hline : (apos.endLine == cpos.line) = true := by rfl) : PI X (.Tuple elts kk tpos) (.Call (.Attribute e "items" apos) [] [] cpos) (iGi X.w td) := by
  refine ⟨fun pins s σ H R I h => ?_⟩
  refine wpAny_Call_method (T := "dict") (id := "dict.items") hbase rfl hline F.plainAttrs_dict F.slot_dict_items F.type_dict_items (thn (he.run pins s σ H _ I h) fun u s1 ⟨x, H1, I1, rx, a, ob, es, ex, hd, q⟩ => ?_)
  subst ex
  obtain rfl : u = Value.ref a := rx
  obtain ⟨hs, t, ep, hdt, hx, hgd, hraw, hsz, ent⟩ := gd_raw I1 hd
  refine ⟨hraw.typeIs, (fun b e => by cases e; exact ⟨_, hgd, hx.2.1⟩), ?_⟩
  have I2 : Inv X pins σ H1 { s1 with heap := s1.heap.push { cls := .type "dict_items", data := .fields #[.ref a] } } := I1.kept (t' := s1.toks) fun b ob q => Heap.get?_push_of_some _ q
  have fin : wpAny (model X.prog X.w) X.A (pyIter (.ref s1.heap.objs.size)) (PIE X pins σ (.Tuple elts kk tpos) R) X.xe { s1 with heap := s1.heap.push { cls := .type "dict_items", data := .fields #[.ref a] } } :=
    wpAny_pyIter_items_raw (d := a) ⟨_, Heap.get?_push_size _ rfl, rfl, rfl⟩ (hraw.at fun o q => Heap.get?_push_of_some _ q) (pi_one (tk := s1.toks) I2 _ (turn_gitems _ hdt) ⟨.none, .none, Heap.get?_push_size _ rfl⟩ q)
  show wpAny _ _ (callWith cpos (.builtin "dict.items") [.ref a] [] []) _ X.xe s1
  exact method_meetsIn F.slot_dict_items F.entry_dict_items rfl (PySem.evalArgs_none ⟨rfl, hraw.typeIs, F.args_dict_items_1 _, _, meets_dict_items_raw a hs, ⟨t, ep, hraw⟩, fin⟩)
end
end L2.GD

set_option Elab.async false
set_option linter.all false
set_option maxRecDepth 100000
set_option autoImplicit false
/-! A dict with mixed keys that are all texts, seen as a dict of the library: sorted(d). -/
namespace L2.GD
open PySem PySem.Spec PyProof.Rows
def keyN0 : NestedKey → Key
  | .text x => .inr x
  | _ => .inl 0
def textE (p : Str × V) : EnV := (.text p.1, .str p.1, p.2)
def textK (p : Str × V) : Key × V := (.inr p.1, p.2)
def entK (x : Ent) : Key × Value := (keyN0 x.1, x.2.2)
section
variable {P : Program} {w : World}
theorem texts_pairs : ∀ {ks : List (Str × V)} {xs : List Ent}, PairE (ks.map textE) xs → KV (ks.map textK) (xs.map entK) ∧ Pairs (mixKind P w) (xs.map (entN w)) (xs.map entK) ∧ (∀ x ∈ xs, ∃ s t, x.1 = .text s ∧ x.2.1 = .str s t) ∧ xs.map (·.1) = ks.map (fun p => NestedKey.text p.1) ∧ (xs.map entK).map (·.1) = ks.map (fun p => Sum.inr p.1)
  | [], _, .nil => ⟨.nil, .nil, (fun _ h => by cases h), rfl, rfl⟩
  | p :: ks, x :: xs, .cons ⟨h1, h2, h3⟩ t => by
    obtain ⟨g1, g2, g3, g4, g5⟩ := texts_pairs (ks := ks) t
    obtain ⟨k, kr, r⟩ := x
    have h1 : NestedKey.text p.1 = k := h1
    subst h1
    obtain ⟨tk, h2⟩ : ∃ t, kr = Value.str p.1 t := h2
    subst h2
    refine ⟨.cons ⟨rfl, h3⟩ g1, .cons ?_ rfl g2, ?_, ?_, ?_⟩
    · show keyIs (Sum.inr p.1) (.str p.1 tk) = true
      simp [keyIs, Value.isStrOf]
    · intro y hy
      rcases List.mem_cons.mp hy with rfl | hy
      · exact ⟨p.1, tk, rfl, rfl⟩
      · exact g3 y hy
    · rw [List.map_cons, List.map_cons, g4]
    · rw [List.map_cons, List.map_cons, List.map_cons, g5]; rfl
theorem texts_dict {a : Addr} {h : Heap} {ks : List (Str × V)} (g : GdP w a (ks.map textE) h) : ∃ vs, KV (ks.map textK) vs ∧ h.DictOf (mixKind P w) a vs := by
  obtain ⟨_, _, xs, p, o, t, ep, ho, hc, hd, he, hn⟩ := g
  obtain ⟨g1, g2, g3, g4, g5⟩ := texts_pairs (P := P) (w := w) p
  refine ⟨_, g1, o, t, ep, ho, hc, hd, fun e hm => ?_, by rw [he]; exact g2, ?_⟩
  · have hm : e ∈ t.toList := by simpa using hm
    rw [he] at hm
    obtain ⟨x, hx, rfl⟩ := List.mem_map.mp hm
    obtain ⟨s, tk, e1, e2⟩ := g3 x hx
    refine ⟨.inr s, ?_, ?_⟩
    · show keyIs (Sum.inr s) x.2.1 = true
      rw [e2]; simp [keyIs, Value.isStrOf]
    · show x.1.hash w = keyH w (Sum.inr s)
      rw [e1]; rfl
  · rw [g5]
    rw [g4] at hn
    unfold List.Nodup at hn ⊢
    rw [List.pairwise_map] at hn ⊢
    exact hn.imp fun h z => h (by injection z with z; rw [z])
end
section
variable {X : Cx}
theorem call_sortedG (hcalm : X.calm = true) : CallR X (.builtin "sorted") (fun xs H Q => ∃ (a : Addr) (ob : Obj) (kvs : List (Str × V)) (ks : List Str), xs = [.ref a] ∧ Rd H a (gdO X.w a ob (kvs.map textE)) ∧ kvs.map (·.1) = ks ∧ ks.length < 64 ∧
    ∀ ys p, ys.Perm ks → sortedS ys = true → H p = none → Q (.ref p) (upd H p (.lst (ys.map V.str)))) := by
  intro pins s σ H xs us Q I r q
  obtain ⟨a, ob, kvs, ks, ex, hd, hks, h64, q⟩ := q
  subst ex
  obtain ⟨u, eu, rx⟩ := vals1 r
  subst eu
  cases rx
  have g := gd_at I hd
  have lo := g.2.1
  obtain ⟨vs, rel, dd⟩ := texts_dict (P := X.prog) g
  obtain ⟨ep, hat⟩ := dd.dictAt
  have hkeys : vs.map (·.1) = ks.map Sum.inr := rel.keys.symm.trans (by rw [← hks, List.map_map, List.map_map]; rfl)
  have hl : vs.length = ks.length := by
    have e := congrArg List.length hkeys
    rw [List.length_map, List.length_map] at e
    exact e
  have h16 : vs.length ≤ sizeLine := by rw [hl, sizeLine_eq]; omega
  refine Calls.call_function_entry PyProof.Rows.kind_sorted PyProof.Rows.plain_sorted PyProof.Rows.entry_sorted (PyProof.Rows.args_sorted1 _) ?_
  unfold Builtin.«sorted»
  refine wpAny_bind (m := checkCount "sorted" 1 1 _) (wpAny_pure ?_)
  refine wpAny_bind (PySem.W.kdu_collect (A := X.A.in1) (PySem.W.kdl_dict (knd := mixKind X.prog X.w) (kvs := vs) (ep := ep) lo) (I.ok.hd hcalm) hat h16 fun h' tk acc hk hacc => ?_)
  have hal : acc.toList.length = ks.length := by rw [Array.length_toList, hacc.1, hl]
  have hS : StrsAre acc.toList ks := strs_at hal fun j v e => by
    obtain ⟨k, x, e1, e2⟩ := hacc.2 j v (by rw [← Array.getElem?_toList]; exact e)
    have e3 : (vs.map (·.1))[j]? = some k := by rw [List.getElem?_map, e1]; all_goals rfl
    rw [hkeys, List.getElem?_map] at e3
    cases e4 : ks[j]? with
    | none => rw [e4] at e3; cases e3
    | some y =>
      rw [e4] at e3
      have e5 : Sum.inr y = k := Option.some.inj e3
      subst e5
      obtain ⟨t, ev⟩ := Value.isStrOf_shape (x := y) (v := v) e2
      exact ⟨y, t, rfl, ev⟩
  have I1 : Inv X pins σ H { s with heap := h', toks := tk } := I.kept hk
  refine wpAny_bind (wpAny_newList ?_ (by rw [hal, sizeLine_eq]; omega))
  have hoL : (h'.push (seqObj "list" acc.toList.toArray 0)).get? h'.objs.size = some (seqObj "list" acc.toList.toArray 0) := Heap.get?_push_size _ rfl
  show wpAny _ _ _ _ _ { s with heap := h'.push (seqObj "list" acc.toList.toArray 0), toks := tk }
  refine wpAny_bind (wpAny_holding (wpAny_call_entry PyProof.Rows.slot_list_sort ⟨_, hoL, rfl⟩ PyProof.Rows.entry_list_sort
    (list_sort_treeK strKind_oneLt (s := { s with heap := h'.push (seqObj "list" acc.toList.toArray 0), toks := tk }) hoL hS.keysOf (fun v₁ v₂ rest e => keyKind_strs (by rw [← e]; exact hS)) (by rw [hal]; exact h64) fun st' hp hs => ⟨_, rfl, ?_⟩)
    (PyProof.Rows.args_list_sort _)))
  obtain ⟨ys, g1, g2, g3⟩ := sorted_out_str hS hp hs
  obtain ⟨e', he'⟩ := PyProof.Rows.sortedHeap_at (vs := acc.toList) (out := (arrOf st').map (·.2)) hoL
  have hlen : (ys.map V.str).length ≤ sizeLine := by
    rw [List.length_map, g2.length_eq]
    exact Nat.le_trans (Nat.le_of_lt h64) (by decide)
  refine wpAny_pure ⟨_, rfl, .ref h'.objs.size, upd H h'.objs.size (.lst (ys.map V.str)), I1.laid (t' := tk) (fun b u e => ?_) (Nat.le_refl _)
    (show ObjOk X.prog X.w _ _ _ (.lst (ys.map V.str)) from ⟨hlen, ((arrOf st').map (·.2)).toList, e', vals_of_strs g1, by rw [Array.toArray_toList]; exact he'⟩), rfl, q ys _ g2 g3 (I1.hok.fresh (Nat.le_refl _))⟩
  have hb : b < h'.objs.size := Heap.lt_size e
  rw [PyProof.Rows.sortedHeap_old (Nat.ne_of_lt hb) (by rw [size_push']; exact Nat.lt_succ_of_lt hb)]
  exact Heap.get?_push_of_some _ e
end
end L2.GD

set_option Elab.async false
set_option linter.all false
set_option maxRecDepth 100000
set_option autoImplicit false
/-! enumerate of tuples. -/
namespace L2.GE
open PySem PySem.Spec PyProof.Rows
set_option maxHeartbeats 1000000 in
theorem meets_new1 {v : Value} {o : Obj} {H : Heap → Prop} (B : Begins v o H) :
    Meets (Builtin.«enumerate.__new__» ⟨[.type "enumerate", v], []⟩) (fun _ R s => H s.heap ∧
      R (.ok (.ret (.ref (s.heap.push o).objs.size))) { s with heap := (s.heap.push o).push { cls := .type "enumerate", data := .fields #[.none, .bool false, .ref s.heap.objs.size, rawInt 0, .none, .none] } }) :=
  .of_wp fun prog w A R s h => by
    obtain ⟨hp, g, d, tk, os⟩ := s; obtain ⟨h1, h⟩ := h
    have hsub := sub_enumerate
    have q1 : ∀ {A' : Around} {E : Value → Shared → Prop} {Q : Value → Shared → Prop}, Q (.ref hp.objs.size) ⟨hp.push o, g, d, tk, os⟩ → wpAny (model prog w) A' (pyIter v) Q E ⟨hp, g, d, tk, os⟩ :=
      fun q => B.iter prog w _ _ ⟨hp, g, d, tk, os⟩ _ h1 q
    wp_walk using q1
    refine wpAny_stack_any fun st => wpAny_pure ?_
    split
    · rename_i c _ _ _ _ _
      cases (c == Value.type "enumerate")
      · wp_walk using q1
        exact ⟨_, rfl, h⟩
      · wp_walk using q1
        exact ⟨_, rfl, h⟩
    · wp_walk using q1
      exact ⟨_, rfl, h⟩
section
variable {prog : Program} {w : World} {A : Around} {E : Value → Shared → Prop} {s : Shared}
theorem call_enum1 {v : Value} {o : Obj} {H : Heap → Prop} {Q : Value → Shared → Prop} (B : Begins v o H) (h1 : H s.heap)
    (h : ∀ h', IsEnum h' (s.heap.objs.size + 1) s.heap.objs.size 0 .none → h'.get? s.heap.objs.size = some o → h'.objs.size = s.heap.objs.size + 2 →
      (∀ b o, s.heap.get? b = some o → h'.get? b = some o) → Q (.ref (s.heap.objs.size + 1)) { s with heap := h' }) :
    wpAny (model prog w) A (call (.type "enumerate") [v]) Q E s := by
  refine callType_new F.called_enumerate (by decide) (F.typeCall_enumerate_1 _) (F.newCall_enumerate_1 _) (fun obj => F.args_object_init_2 obj _) F.entry_enumerate_new
    (meets_new1 B) ⟨h1, ?_⟩
  have hz : (s.heap.push o).objs.size = s.heap.objs.size + 1 := Heap.size_push ..
  show _ ∧ _
  rw [hz]
  have he : IsEnum ((s.heap.push o).push { cls := .type "enumerate", data := .fields #[.none, .bool false, .ref s.heap.objs.size, rawInt 0, .none, .none] }) (s.heap.objs.size + 1) s.heap.objs.size 0 .none := by
    have := Heap.get?_push_size (s.heap.push o) (o := { cls := .type "enumerate", data := .fields #[.none, .bool false, .ref s.heap.objs.size, rawInt 0, .none, .none] }) rfl
    rw [hz] at this; exact this
  refine ⟨⟨_, he, rfl⟩, h _ he (Heap.get?_push_of_some _ (Heap.get?_push_size _ B.free)) (by rw [Heap.size_push, hz]) fun b o x => Heap.get?_push_of_some _ (Heap.get?_push_of_some _ x)⟩
end
/-- the tuple at a, each item in a new pair -/
def Itet (K : PySem.W.Frag) (a : Addr) : It :=
  ⟨fun i H => ∃ (xs : List V) (x : V), SqT K H a xs ∧ xs[i]? = some x, fun i H v H' => ∃ T x, v = .ref T ∧ H T = none ∧ H' = upd H T (.tup [.int (i : Nat), x]) ∧ ∀ xs, SqT K H a xs → xs[i]? = some x, fun i H => ∃ xs : List V, SqT K H a xs ∧ xs.length ≤ i⟩
theorem turn_enumT {P : Program} {w : World} {K : PySem.W.Frag} {elts : List Expr} {kk : Nat} {tpos : Pos} (a e it : Addr) :
    Turn P w K (.Tuple elts kk tpos) (Itet K a) [e, it] e (fun i h => (∃ old, IsEnum h e it ((i : Nat) : Int) old) ∧ h.IsTupleIter it a i ∧ e ≠ it) where
  mem := by simp
  obj := fun i h st b hb => by
    obtain ⟨⟨old, he⟩, ⟨o, ho, hc, hd⟩, _⟩ := st
    have e' : b = e ∨ b = it := by simpa using hb
    rcases e' with z | z
    · rw [z]; exact ⟨_, he, fun v q => nomatch q⟩
    · rw [z]; exact ⟨o, ho, fun v q => by rw [hd] at q; cases q⟩
  keep := fun i h h' st k => let ⟨⟨old, he⟩, hi, hne⟩ := st; ⟨⟨old, k e (by simp) _ he⟩, hi.at fun o q => k it (by simp) o q, hne⟩
  item := by
    intro X hP hw hK hc i pins s σ H E I hf st hg
    subst hP hw hK
    obtain ⟨⟨old, he⟩, hit, hne⟩ := st
    obtain ⟨xs, x, hq, hx⟩ := hg
    obtain ⟨its, rv, p, hz⟩ := I.tuple hq
    obtain ⟨u, hu, ru⟩ := rv.get hx
    have p' : s.heap.IsTuple a its.toArray := p
    have hel : e < s.heap.objs.size := Heap.lt_size he
    have hil : it < s.heap.objs.size := by obtain ⟨_, q, _⟩ := hit; exact Heap.lt_size q
    have hai : a ≠ it := fun z => by
      subst z
      obtain ⟨o1, q1, c1, _⟩ := hit
      obtain ⟨o2, q2, c2, _⟩ := p'
      rw [q1] at q2; cases q2
      rw [c1] at c2; injection c2 with z; exact absurd z (by decide)
    have hae : a ≠ e := fun z => by
      subst z
      obtain ⟨o2, q2, c2, _⟩ := p'
      have he' := he
      unfold IsEnum at he'
      rw [he'] at q2; cases q2
      injection c2 with z; exact absurd z (by decide)
    refine wpAny_pyNext_enum_itemD (Draws.tuple (A := X.A.in1) (I.ok.hd hc) it a hai its.toArray) he ⟨hit, p'⟩ (by have := List.getElem?_eq_some_iff.mp hu; simpa using this.1) hne (by simp [hne, Ne.symm hae]) fun x' h' tk hx' ho ⟨hit', _⟩ hT hsz hk => ?_
    have ex : x' = u := by
      have hx' : its.toArray[i]? = some x' := hx'
      have : its[i]? = some x' := by simpa using hx'
      rw [hu] at this; exact (Option.some.inj this).symm
    subst ex
    refine ⟨_, rfl, wpAny_letOwnedTupleGo_enum (s := { s with heap := h', toks := tk + 1 }) ho fun h'' he' sb => ?_⟩
    have hT2 : h''.get? s.heap.objs.size = some { cls := .type "tuple", data := .seq #[.int i tk, x'] } := (sb.2 _ (Nat.ne_of_gt hel)).trans hT
    have new : ObjOk X.prog X.w (upd H s.heap.objs.size (.tup [.int (i : Nat), x])) h'' s.heap.objs.size (.tup [.int (i : Nat), x]) :=
      ⟨by show 2 ≤ sizeLine; decide, [.int i tk, x'], .cons ⟨_, rfl⟩ (.cons ru .nil), ⟨_, hT2, rfl, _, rfl⟩⟩
    have I1 : Inv X pins σ (upd H s.heap.objs.size (.tup [.int (i : Nat), x])) { s with heap := h'', toks := tk + 1 } :=
      I.turnedNew (ch := [e, it]) (fun b ob hb q => (sb.2 b (fun z => hb (by simp [z]))).trans (hk b ob (fun z => hb (by simp [z])) (fun z => hb (by simp [z])) q)) hf (Nat.le_refl _) new
    refine ⟨.ref s.heap.objs.size, _, I1, rfl, ⟨_, x, rfl, I.hok.fresh (Nat.le_refl _), rfl, fun ys hy => by rw [I.tuple_inj hy hq]; exact hx⟩, ⟨⟨x', ?_⟩, hit'.at fun o q => (sb.2 it (Ne.symm hne)).trans q, hne⟩, fun b hb => ?_⟩
    · have e1 : ((i + 1 : Nat) : Int) = (i : Int) + 1 := by omega
      rw [e1]; exact he'
    · have hb' : b < s.heap.objs.size := by
        have e' : b = e ∨ b = it := by simpa using hb
        rcases e' with z | z
        · rw [z]; exact hel
        · rw [z]; exact hil
      rw [upd_ne (Nat.ne_of_lt hb')]
      exact (hf b hb).1
  done := by
    intro X hP hw hK hc i pins s σ H E I hf st hg
    subst hP hw hK
    obtain ⟨⟨old, he⟩, hit, hne⟩ := st
    obtain ⟨xs, hq, hx⟩ := hg
    obtain ⟨its, rv, p, hz⟩ := I.tuple hq
    obtain ⟨f0, f1, f2, f3, f4, f5⟩ := hf it (by simp)
    have hl := rv.length
    refine wpAny_pyNext_enum_endD (n := i) (P := fun _ _ => False) (St := fun j h => j = i ∧ h.IsTupleIter it a i ∧ h.IsTuple a its.toArray) (fp := [it, a]) ⟨fun _ _ st => let ⟨o, ho, _⟩ := st.2.1; ⟨o, ho⟩, fun _ _ _ st hk => ⟨st.1, st.2.1.at fun o e => hk it (by simp) o e, st.2.2.at fun o e => hk a (by simp) o e⟩,
      fun j s' Q' E' hj st _ => absurd st.1 (Nat.ne_of_lt hj), fun s' Q' E' st hE => wpAny_nextOf_tuple_end (I.ok.hd hc) st.2.1 st.2.2 (by simp; omega) hE⟩ he ⟨rfl, hit, p⟩ fun h' eb => ⟨rfl, I.turned (t' := s.toks) (fun b o hb q => eb b o hb q) f0 f1 f3 f4 f5⟩
  self := fun A i s Q E st h => let ⟨⟨_, he⟩, _⟩ := st; wpAny_pyIter_enum he h
def iEnumA (K : PySem.W.Frag) (ta : TA) : TI := fun σ H R => ta σ H fun vs H1 => ∃ a xs, vs = [.ref a] ∧ ((SqL K H1 a xs ∧ R (Ite K a) H1) ∨ (SqT K H1 a xs ∧ R (Itet K a) H1))
theorem pi_enumA {X : Cx} {e : Expr} {ta : TA} {p pos tpos : Pos} {elts : List Expr} {kk : Nat} (hg : Gl X "enumerate") (hm : X.mg "enumerate" = none) (ha : PA X [e] ta) (hs : starEach [e] X.env = [(false, eval e X.env)] := by rfl) :
    PI X (.Tuple elts kk tpos) (.Call (.Name "enumerate" p) [e] [] pos) (iEnumA X.K ta) := by
  refine ⟨fun pins s σ H R I h => ?_⟩
  refine Call_ (ld_blt I hg hm boot_enumerate (PyProof.Rows.callWith_type1 (thn (ha.run pos pins s σ H _ I h) fun us s1 ⟨vs, H1, I1, r1, q1⟩ => ?_) hs rfl))
  obtain ⟨a, xs, ex, q1⟩ := q1
  subst ex
  cases r1 with
  | cons r rr =>
    cases rr
    cases r
    have fr : ∀ b ∈ [s1.heap.objs.size + 1, s1.heap.objs.size], FpOk X pins H1 b := fun b hb => by
      have e' : b = s1.heap.objs.size + 1 ∨ b = s1.heap.objs.size := by simpa using hb
      have hle : s1.heap.objs.size ≤ b := by
        rcases e' with z | z
        · rw [z]; exact Nat.le_add_right _ _
        · rw [z]; exact Nat.le_refl _
      exact I1.fpOk hle (I1.hok.fresh hle)
    rcases q1 with ⟨hq, q⟩ | ⟨hq, q⟩
    · obtain ⟨its, rv, p', hz⟩ := I1.list hq
      refine call_enumerate_list p'.isList fun h' he hit hsz hk => wpAny_pyIter_enum he ?_
      have I2 : Inv X pins σ H1 { s1 with heap := h' } := I1.kept (t' := s1.toks) hk
      exact ⟨s1.heap.objs.size + 1, [s1.heap.objs.size + 1, s1.heap.objs.size], _, _, H1, rfl, I2, turn_enum a (s1.heap.objs.size + 1) s1.heap.objs.size, ⟨⟨.none, he⟩, hit, Nat.succ_ne_self _⟩, fr, q⟩
    · obtain ⟨its, rv, p', hz⟩ := I1.tuple hq
      refine call_enum1 (begins_tuple a its.toArray) (show s1.heap.IsTuple a its.toArray from p') fun h' he hit hsz hk => wpAny_pyIter_enum he ?_
      have I2 : Inv X pins σ H1 { s1 with heap := h' } := I1.kept (t' := s1.toks) hk
      exact ⟨s1.heap.objs.size + 1, [s1.heap.objs.size + 1, s1.heap.objs.size], _, _, H1, rfl, I2, turn_enumT a (s1.heap.objs.size + 1) s1.heap.objs.size, ⟨⟨.none, he⟩, ⟨_, hit, rfl, rfl⟩, Nat.succ_ne_self _⟩, fr, q⟩
end L2.GE

set_option Elab.async false
set_option linter.all false
set_option maxRecDepth 100000
set_option autoImplicit false
namespace L2.PV
open PySem PySem.Spec PyProof.Rows

/-! ### pure values -/
inductive D where
  | non | bl (b : Bool) | int (i : Int) | str (s : Str)
  | tup (xs : List D) | lst (xs : List D)
  | dct (kvs : List (Key × D)) | obj (c : Str) (fs : List (Str × D)) | con (v : V)
  | xn (a : Addr) (d : Option Addr) (c : Str) (fs : List (Str × D))
  | gd (kvs : List (D × D)) | sob (c : Str) (fs : List (Option D))
  | er (c : Str) (fs : List (Str × D))
mutual
/-- a value as a key of a dict -/
def keyN : D → Option NestedKey
  | .non => some .none
  | .bl b => some (.num (if b = true then 1 else 0))
  | .int i => some (.num i)
  | .str x => some (.text x)
  | .tup xs => (keyNs xs).map .tup
  | _ => none
def keyNs : List D → Option (List NestedKey)
  | [] => some []
  | d :: ds => (keyN d).bind fun k => (keyNs ds).map (k :: ·)
end
/-- .. not too deep -/
def keyOk (d : D) : Option NestedKey := (keyN d).bind fun k => if k.depth ≤ 8 then some k else none

abbrev MG := Str → Option Value
def WrT (K : PySem.W.Frag) (a : Addr) (xs : List V) : Prop :=
  ∃ (o : Obj) (its : Array Value) (n : Nat), K.lookup a = some o ∧ o.cls = .type "tuple" ∧ o.data = .seq its n ∧ its.size ≤ sizeLine ∧ Vals xs its.toList
def WrL (K : PySem.W.Frag) (a : Addr) (xs : List V) : Prop :=
  ∃ (o : Obj) (its : Array Value) (n : Nat), K.lookup a = some o ∧ o.cls = .type "list" ∧ o.dict = none ∧ o.data = .seq its n ∧ its.size ≤ sizeLine ∧ Vals xs its.toList
def AtT (K : PySem.W.Frag) (F : Hp) (a : Addr) (xs : List V) : Prop := F a = some (.tup xs) ∨ WrT K a xs
def AtL (K : PySem.W.Frag) (F : Hp) (a : Addr) (xs : List V) : Prop := F a = some (.lst xs)

/-- an exception object of the class cls, with its own dict or without one -/
def ErO (cls : Value) (dd : Option Addr) (a : Addr) : HO := .ext fun h => ∃ (oe : Obj) (vs : Array Value), h.get? a = some oe ∧ Zc cls dd oe ∧ oe.data = .fields vs ∧ 4 < vs.size
theorem erO_ok {P : Program} {w : World} {H : Hp} {h : Heap} {a : Addr} {cls : Value} {dd : Option Addr} {oe : Obj} {vs : Array Value} (e : h.get? a = some oe) (z : Zc cls dd oe) (d : oe.data = .fields vs) (h5 : 4 < vs.size) : ObjOk P w H h a (ErO cls dd a) :=
  ⟨⟨oe, vs, e, z, d, h5⟩, ⟨oe, e⟩, fun _ _ ⟨o, v, q, r⟩ k => ⟨o, v, k o q, r⟩⟩

/-- F is held by H -/
def Sub (F H : Hp) : Prop := ∀ a u, F a = some u → Rd H a u
def Le (F G : Hp) : Prop := ∀ a u, F a = some u → G a = some u
theorem Le.refl (F : Hp) : Le F F := fun _ _ h => h
theorem Le.trans {F G I : Hp} (a : Le F G) (b : Le G I) : Le F I := fun x u h => b x u (a x u h)
theorem Le.upd {F : Hp} {a : Addr} {o : HO} (h : F a = none) : Le F (upd F a o) := fun b u e => by rw [upd_ne (ne_of_none e h)]; exact e

theorem AtT.seq {K : PySem.W.Frag} {F H : Hp} {a : Addr} {xs : List V} (s : Sub F H) (h : AtT K F a xs) : SqT K H a xs := by
  rcases h with h | h
  · exact .inl (s _ _ h)
  · exact .inr h
theorem AtL.seq {K : PySem.W.Frag} {F H : Hp} {a : Addr} {xs : List V} (s : Sub F H) (h : AtL K F a xs) : SqL K H a xs := .inl (s _ _ h)
theorem AtL.rd {K : PySem.W.Frag} {F H : Hp} {a : Addr} {xs : List V} (s : Sub F H) (h : AtL K F a xs) : Rd H a (.lst xs) := s _ _ h
theorem AtT.mono {K : PySem.W.Frag} {F G : Hp} {a : Addr} {xs : List V} (s : Le F G) (h : AtT K F a xs) : AtT K G a xs := h.imp (s _ _) id
theorem AtL.mono {K : PySem.W.Frag} {F G : Hp} {a : Addr} {xs : List V} (s : Le F G) (h : AtL K F a xs) : AtL K G a xs := s _ _ h

mutual
inductive Den (K : PySem.W.Frag) (mg : MG) (w : World) (F : Hp) : D → V → Prop
  | non : Den K mg w F .non .non
  | bl (b : Bool) : Den K mg w F (.bl b) (.bl b)
  | int (i : Int) : Den K mg w F (.int i) (.int i)
  | str (s : Str) : Den K mg w F (.str s) (.str s)
  | tup {xs : List D} {vs : List V} {a : Addr} (h : AtT K F a vs) (l : DenL K mg w F xs vs) : Den K mg w F (.tup xs) (.ref a)
  | lst {xs : List D} {vs : List V} {a : Addr} (h : AtL K F a vs) (l : DenL K mg w F xs vs) : Den K mg w F (.lst xs) (.ref a)
  | dct {xs : List (Key × D)} {vs : List (Key × V)} {a : Addr} (h : F a = some (.dK vs)) (l : DenK K mg w F xs vs) : Den K mg w F (.dct xs) (.ref a)
  | obj {c : Str} {C dx a : Addr} {fs : List (Str × D)} {gs : List (Str × V)} (m : mg c = some (.ref C)) (h : F a = some (.ins C dx gs)) (l : DenF K mg w F fs gs) : Den K mg w F (.obj c fs) (.ref a)
  | con (v : V) : Den K mg w F (.con v) v
  | xn0 (a : Addr) (c : Str) : Den K mg w F (.xn a none c []) (.ref a)
  | xn1 {a p : Addr} {c : Str} {fs : List (Str × D)} {gs : List (Str × V)} (h : F p = some (.xd gs)) (l : DenF K mg w F fs gs) : Den K mg w F (.xn a (some p) c fs) (.ref a)
  | gd {kvs : List (D × D)} {ob : Obj} {es : List GD.EnV} {a : Addr} (h : F a = some (GD.gdO w a ob es)) (l : DenG K mg w F kvs es) : Den K mg w F (.gd kvs) (.ref a)
  | sob {c : Str} {C dx a : Addr} {fs : List (Option D)} {vs : List (Option V)} (m : mg c = some (.ref C)) (h : F a = some (SlX.SlO a C dx vs)) (h2 : F dx = some (.xd [])) (l : DenO K mg w F fs vs) : Den K mg w F (.sob c fs) (.ref a)
  | er0 {c : Str} {C a : Addr} (m : mg c = some (.ref C)) (h : F a = some (ExO (.ref C) a)) : Den K mg w F (.er c []) (.ref a)
  | er1 {c : Str} {C a p : Addr} {fs : List (Str × D)} {gs : List (Str × V)} (m : mg c = some (.ref C)) (h : F a = some (ErO (.ref C) (some p) a)) (h2 : F p = some (.xd gs)) (l : DenF K mg w F fs gs) : Den K mg w F (.er c fs) (.ref a)
inductive DenG (K : PySem.W.Frag) (mg : MG) (w : World) (F : Hp) : List (D × D) → List GD.EnV → Prop
  | nil : DenG K mg w F [] []
  | cons {kd d : D} {k : NestedKey} {kv v : V} {ds : List (D × D)} {es : List GD.EnV} (hn : keyOk kd = some k) (hk : Den K mg w F kd kv) (h : Den K mg w F d v) (t : DenG K mg w F ds es) : DenG K mg w F ((kd, d) :: ds) ((k, kv, v) :: es)
/-- the slots of an instance, some of them not filled yet -/
inductive DenO (K : PySem.W.Frag) (mg : MG) (w : World) (F : Hp) : List (Option D) → List (Option V) → Prop
  | nil : DenO K mg w F [] []
  | none {ds : List (Option D)} {vs : List (Option V)} (t : DenO K mg w F ds vs) : DenO K mg w F (none :: ds) (none :: vs)
  | some {d : D} {v : V} {ds : List (Option D)} {vs : List (Option V)} (h : Den K mg w F d v) (t : DenO K mg w F ds vs) : DenO K mg w F (some d :: ds) (some v :: vs)
inductive DenL (K : PySem.W.Frag) (mg : MG) (w : World) (F : Hp) : List D → List V → Prop
  | nil : DenL K mg w F [] []
  | cons {d : D} {v : V} {ds : List D} {vs : List V} (h : Den K mg w F d v) (t : DenL K mg w F ds vs) : DenL K mg w F (d :: ds) (v :: vs)
inductive DenK (K : PySem.W.Frag) (mg : MG) (w : World) (F : Hp) : List (Key × D) → List (Key × V) → Prop
  | nil : DenK K mg w F [] []
  | cons {k : Key} {d : D} {v : V} {ds : List (Key × D)} {vs : List (Key × V)} (h : Den K mg w F d v) (t : DenK K mg w F ds vs) : DenK K mg w F ((k, d) :: ds) ((k, v) :: vs)
inductive DenF (K : PySem.W.Frag) (mg : MG) (w : World) (F : Hp) : List (Str × D) → List (Str × V) → Prop
  | nil : DenF K mg w F [] []
  | cons {k : Str} {d : D} {v : V} {ds : List (Str × D)} {vs : List (Str × V)} (h : Den K mg w F d v) (t : DenF K mg w F ds vs) : DenF K mg w F ((k, d) :: ds) ((k, v) :: vs)
end

section
variable {K : PySem.W.Frag} {mg : MG} {w : World} {F G : Hp}
mutual
theorem Den.mono (s : Le F G) : ∀ {d : D} {v : V}, Den K mg w F d v → Den K mg w G d v
  | _, _, .non => .non
  | _, _, .bl b => .bl b
  | _, _, .int i => .int i
  | _, _, .str x => .str x
  | _, _, .tup h l => .tup (h.mono s) (DenL.mono s l)
  | _, _, .lst h l => .lst (h.mono s) (DenL.mono s l)
  | _, _, .dct h l => .dct (s _ _ h) (DenK.mono s l)
  | _, _, .obj m h l => .obj m (s _ _ h) (DenF.mono s l)
  | _, _, .con v => .con v
  | _, _, .xn0 a c => .xn0 a c
  | _, _, .xn1 h l => .xn1 (s _ _ h) (DenF.mono s l)
  | _, _, .gd h l => .gd (s _ _ h) (DenG.mono s l)
  | _, _, .sob m h h2 l => .sob m (s _ _ h) (s _ _ h2) (DenO.mono s l)
  | _, _, .er0 m h => .er0 m (s _ _ h)
  | _, _, .er1 m h h2 l => .er1 m (s _ _ h) (s _ _ h2) (DenF.mono s l)
theorem DenG.mono (s : Le F G) : ∀ {d : List (D × D)} {v : List GD.EnV}, DenG K mg w F d v → DenG K mg w G d v
  | _, _, .nil => .nil
  | _, _, .cons n k h t => .cons n (Den.mono s k) (Den.mono s h) (DenG.mono s t)
theorem DenO.mono (s : Le F G) : ∀ {d : List (Option D)} {v : List (Option V)}, DenO K mg w F d v → DenO K mg w G d v
  | _, _, .nil => .nil
  | _, _, .none t => .none (DenO.mono s t)
  | _, _, .some h t => .some (Den.mono s h) (DenO.mono s t)
theorem DenL.mono (s : Le F G) : ∀ {d : List D} {v : List V}, DenL K mg w F d v → DenL K mg w G d v
  | _, _, .nil => .nil
  | _, _, .cons h t => .cons (Den.mono s h) (DenL.mono s t)
theorem DenK.mono (s : Le F G) : ∀ {d : List (Key × D)} {v : List (Key × V)}, DenK K mg w F d v → DenK K mg w G d v
  | _, _, .nil => .nil
  | _, _, .cons h t => .cons (Den.mono s h) (DenK.mono s t)
theorem DenF.mono (s : Le F G) : ∀ {d : List (Str × D)} {v : List (Str × V)}, DenF K mg w F d v → DenF K mg w G d v
  | _, _, .nil => .nil
  | _, _, .cons h t => .cons (Den.mono s h) (DenF.mono s t)
end
theorem DenL.length : ∀ {ds : List D} {vs : List V}, DenL K mg w F ds vs → ds.length = vs.length
  | _, _, .nil => rfl
  | _, _, .cons _ t => by rw [List.length_cons, List.length_cons, t.length]
theorem DenL.get : ∀ {ds : List D} {vs : List V} {i : Nat} {d : D}, DenL K mg w F ds vs → ds[i]? = some d → ∃ v, vs[i]? = some v ∧ Den K mg w F d v
  | _, _, _, _, .nil, e => by simp at e
  | _, _, 0, _, .cons h _, e => by simp at e; subst e; exact ⟨_, rfl, h⟩
  | _, _, i + 1, d, .cons _ t, e => by
    obtain ⟨v, h1, h2⟩ := t.get (i := i) (d := d) (by simpa using e)
    exact ⟨v, by simpa using h1, h2⟩
theorem DenL.get' : ∀ {ds : List D} {vs : List V} {i : Nat} {v : V}, DenL K mg w F ds vs → vs[i]? = some v → ∃ d, ds[i]? = some d ∧ Den K mg w F d v
  | _, _, _, _, .nil, e => by simp at e
  | _, _, 0, _, .cons h _, e => by simp at e; subst e; exact ⟨_, rfl, h⟩
  | _, _, i + 1, d, .cons _ t, e => by
    obtain ⟨v, h1, h2⟩ := t.get' (i := i) (v := d) (by simpa using e)
    exact ⟨v, by simpa using h1, h2⟩
theorem DenL.append : ∀ {ds es : List D} {vs ws : List V}, DenL K mg w F ds vs → DenL K mg w F es ws → DenL K mg w F (ds ++ es) (vs ++ ws)
  | _, _, _, _, .nil, s => s
  | _, _, _, _, .cons h t, s => .cons h (t.append s)
theorem DenL.set : ∀ {ds : List D} {vs : List V} {d : D} {v : V} (i : Nat), DenL K mg w F ds vs → Den K mg w F d v → DenL K mg w F (ds.set i d) (vs.set i v)
  | _, _, _, _, _, .nil, _ => .nil
  | _, _, _, _, 0, .cons _ t, s => .cons s t
  | _, _, _, _, i + 1, .cons h t, s => .cons h (t.set i s)
theorem DenL.take : ∀ {ds : List D} {vs : List V} (i : Nat), DenL K mg w F ds vs → DenL K mg w F (ds.take i) (vs.take i)
  | _, _, 0, _ => .nil
  | _, _, _ + 1, .nil => .nil
  | _, _, i + 1, .cons h t => .cons h (t.take i)
theorem DenL.drop : ∀ {ds : List D} {vs : List V} (i : Nat), DenL K mg w F ds vs → DenL K mg w F (ds.drop i) (vs.drop i)
  | _, _, 0, h => h
  | _, _, _ + 1, .nil => .nil
  | _, _, i + 1, .cons h t => t.drop i
theorem DenL.eraseIdx : ∀ {ds : List D} {vs : List V} (i : Nat), DenL K mg w F ds vs → DenL K mg w F (ds.eraseIdx i) (vs.eraseIdx i)
  | _, _, _, .nil => .nil
  | _, _, 0, .cons _ t => t
  | _, _, i + 1, .cons h t => .cons h (t.eraseIdx i)
theorem DenL.reverse {ds : List D} {vs : List V} (h : DenL K mg w F ds vs) : DenL K mg w F ds.reverse vs.reverse := by
  induction ds generalizing vs with
  | nil => cases h; exact .nil
  | cons d ds ih =>
    cases h with
    | cons h t =>
      rw [List.reverse_cons, List.reverse_cons]
      exact (ih t).append (.cons h .nil)
theorem DenL.dropLast {ds : List D} {vs : List V} (h : DenL K mg w F ds vs) : DenL K mg w F ds.dropLast vs.dropLast := by
  rw [List.dropLast_eq_take, List.dropLast_eq_take, h.length]; exact h.take _
theorem DenL.ofMap {α : Type} {f : α → D} {g : α → V} (h : ∀ a, Den K mg w F (f a) (g a)) : ∀ xs : List α, DenL K mg w F (xs.map f) (xs.map g)
  | [] => .nil
  | x :: xs => .cons (h x) (DenL.ofMap h xs)
theorem DenK.length : ∀ {ds : List (Key × D)} {vs : List (Key × V)}, DenK K mg w F ds vs → ds.length = vs.length
  | _, _, .nil => rfl
  | _, _, .cons _ t => by rw [List.length_cons, List.length_cons, t.length]
end

/-! ### slots -/
inductive Sl where | un | val (d : D) | own (d : D) | io (d : D)
abbrev En := List Sl
def Sl.hot : Sl → Bool | .own _ => true | .io _ => true | _ => false

/-- the entry: the heap, what was frozen then, the addresses that are handed in to be changed -/
abbrev Tb := List (Addr × Str)
structure Bs (T : Tb) where
  H0 : Hp
  F0 : Hp
  io : Nat → Option Addr
/-- a table of code objects -/
def isTbl : HO → Bool | .tbl _ => true | _ => false
/-- a code object -/
def isExt (o : HO) : Prop := ∃ c q, o = LamX.CodeO c q
/-- a heap all of whose objects are one -/
def heapOf (n : Nat) (o : Obj) : Heap := ⟨Array.replicate n o, {}⟩
theorem heapOf_get {n a : Nat} {o p : Obj} (h : (heapOf n o).get? a = some p) : p = o := by
  unfold heapOf Heap.get? at h
  cases q : (Array.replicate n o)[a]? with
  | none => simp only [q] at h; cases h
  | some r =>
    have hr : r = o := by
      have := Array.mem_of_getElem? q
      exact (Array.mem_replicate.mp this).2
    subst hr
    simp only [q] at h
    split at h
    · cases h
    · exact (Option.some.inj h).symm
theorem heapOf_at {n a : Nat} {o : Obj} (h : a < n) (hf : o.isFreed = false) : (heapOf n o).get? a = some o := by
  unfold heapOf Heap.get?
  have q : (Array.replicate n o)[a]? = some o := by simp [h]
  simp only [q]
  split
  · rename_i z; cases z; cases hf
  · rfl
theorem code_no {φ : Heap → Prop} {a : Addr} (h : ∀ h, φ h → ∃ o, h.get? a = some o ∧ ∀ vs, o.data ≠ .fields vs) : ¬ isExt (.ext φ) := by
  rintro ⟨c, q, e⟩
  unfold LamX.CodeO at e
  injection e with e
  let ob : Obj := { cls := .none, data := .fields #[.none, .str q 0] }
  have hp : φ (heapOf (c + 1) ob) := by
    rw [e]
    exact ⟨ob, _, 0, heapOf_at (Nat.lt_succ_self c) rfl, rfl, rfl⟩
  obtain ⟨o, h1, h2⟩ := h _ hp
  rw [heapOf_get h1] at h2
  exact h2 _ rfl
theorem gd_no {w : World} {a : Addr} {ob : Obj} {es : List GD.EnV} : ¬ isExt (GD.gdO w a ob es) := code_no (a := a) fun h ⟨_, _, _, xs, _, o, t, ep, h1, _, h3, _⟩ => ⟨o, h1, fun vs z => by rw [h3] at z; cases z⟩
theorem tabS_keep {H H' : Hp} {P : Addr} {q : Str} (t : LamX.TabS H P q) (e : ∀ b o, H b = some o → isTbl o = true ∨ isExt o → H' b = some o) : LamX.TabS H' P q := by
  obtain ⟨ps, h1, h2, h3⟩ := t
  refine ⟨ps, e _ _ h1 (.inl rfl), h2, fun pos cv hc => ?_⟩
  obtain ⟨c, e1, e2⟩ := h3 pos cv hc
  exact ⟨c, e1, e _ _ e2 (.inr ⟨_, _, rfl⟩)⟩
theorem tabs_keep {H H' : Hp} {T : List (Addr × Str)} (t : LamX.Tabs T H) (e : ∀ b o, H b = some o → isTbl o = true ∨ isExt o → H' b = some o) : LamX.Tabs T H' := fun p hp => tabS_keep (t p hp) e

section
variable (K : PySem.W.Frag) (mg : MG) (w : World)
def Cont (F H : Hp) (a : Addr) : D → Prop
  | .lst ds => ∃ vs, H a = some (.lst vs) ∧ DenL K mg w F ds vs
  | .dct kvs => ∃ ws, H a = some (.dK ws) ∧ DenK K mg w F kvs ws
  | .obj c fs => ∃ C dx gs, mg c = some (.ref C) ∧ H a = some (.ins C dx gs) ∧ DenF K mg w F fs gs
  | .gd kvs => ∃ ob es, H a = some (GD.gdO w a ob es) ∧ DenG K mg w F kvs es
  | _ => False
def SlOk {T : Tb} (B : Bs T) (F H : Hp) (i : Nat) (v : Option (Option V)) : Sl → Prop
  | .un => True
  | .val d => ∃ x, v = some (some x) ∧ Den K mg w F d x
  | .own d => ∃ a, v = some (some (.ref a)) ∧ F a = none ∧ B.H0 a = none ∧ Cont K mg w F H a d
  | .io d => ∃ a, v = some (some (.ref a)) ∧ F a = none ∧ B.io i = some a ∧ Cont K mg w F H a d
structure Rel {T : Tb} (B : Bs T) (F : Hp) (e : En) (σ : St) (H : Hp) : Prop where
  sub : Sub F H
  old : ∀ a o, B.H0 a = some o → isTbl o = false → (∀ i, B.io i ≠ some a) → H a = some o
  oldT : ∀ a o, B.H0 a = some o → isTbl o = true → a ∈ T.map (·.1)
  tabs : LamX.Tabs T H
  low : Le B.F0 F
  fr : ∀ a u, F a = some u → B.F0 a = some u ∨ B.H0 a = none
  len : e.length = σ.length
  at' : ∀ (i : Nat) (s : Sl), e[i]? = some s → SlOk K mg w B F H i σ[i]? s
  ios : ∀ i a, B.io i = some a → ∃ d, e[i]? = some (.io d)
  apart : ∀ (i j : Nat) (a : Addr) (s t : Sl), e[i]? = some s → e[j]? = some t → s.hot = true → t.hot = true → σ[i]? = some (some (.ref a)) → σ[j]? = some (some (.ref a)) → i = j
  noT : ∀ a u, F a = some u → isTbl u = false
end

section
variable {K : PySem.W.Frag} {mg : MG} {w : World} {T : Tb} {B : Bs T} {F H : Hp} {e : En} {σ : St} {p a : Addr} {o : HO} {i : Nat} {d : D}
theorem Cont.tracked' (h : Cont K mg w F H a d) : ∃ o, H a = some o ∧ isTbl o = false ∧ ¬ isExt o := by
  cases d <;> first | exact h.elim | (obtain ⟨_, _, e, _⟩ := h; exact ⟨_, e, rfl, gd_no⟩) | (obtain ⟨_, e, _⟩ := h; exact ⟨_, e, rfl, fun ⟨_, _, z⟩ => by cases z⟩) | (obtain ⟨_, _, _, _, e, _⟩ := h; exact ⟨_, e, rfl, fun ⟨_, _, z⟩ => by cases z⟩)
theorem Cont.tracked (h : Cont K mg w F H a d) : ∃ o, H a = some o := let ⟨o, e, _⟩ := h.tracked'; ⟨o, e⟩
theorem Cont.mono {G : Hp} (s : Le F G) (h : Cont K mg w F H a d) : Cont K mg w G H a d := by
  cases d <;> first | exact h.elim | (obtain ⟨x, e, l⟩ := h; exact ⟨x, e, l.mono s⟩) | (obtain ⟨x, y, e, l⟩ := h; exact ⟨x, y, e, l.mono s⟩) | (obtain ⟨x, y, z, m, e, l⟩ := h; exact ⟨x, y, z, m, e, l.mono s⟩)
theorem Cont.heap {H' : Hp} (s : H' a = H a) (h : Cont K mg w F H a d) : Cont K mg w F H' a d := by
  cases d <;> first | exact h.elim | (obtain ⟨x, e, l⟩ := h; exact ⟨x, s.trans e, l⟩) | (obtain ⟨x, y, e, l⟩ := h; exact ⟨x, y, s.trans e, l⟩) | (obtain ⟨x, y, z, m, e, l⟩ := h; exact ⟨x, y, z, m, s.trans e, l⟩)
theorem Sub.free (s : Sub F H) (h : H p = none) : F p = none := by
  cases q : F p with
  | none => rfl
  | some u =>
    rcases s _ _ q with z | ⟨_, z⟩ <;> (rw [h] at z; cases z)
theorem Rel.hot (R : Rel K mg w B F e σ H) {s : Sl} (h : e[i]? = some s) (t : s.hot = true) : ∃ a o, σ[i]? = some (some (.ref a)) ∧ F a = none ∧ H a = some o ∧ (B.H0 a = none ∨ B.io i = some a) ∧ isTbl o = false ∧ ¬ isExt o := by
  have z := R.at' i s h
  cases s with
  | un => cases t
  | val d => cases t
  | own d =>
    obtain ⟨a, e1, e2, e3, c⟩ := z
    obtain ⟨o, e4, e5, e6⟩ := c.tracked'
    exact ⟨a, o, e1, e2, e4, .inl e3, e5, e6⟩
  | io d =>
    obtain ⟨a, e1, e2, e3, c⟩ := z
    obtain ⟨o, e4, e5, e6⟩ := c.tracked'
    exact ⟨a, o, e1, e2, e4, .inr e3, e5, e6⟩
theorem tab_at {T : Tb} {H : Hp} (t : LamX.Tabs T H) (h : p ∈ T.map (·.1)) : ∃ ps, H p = some (.tbl ps) := by
  obtain ⟨x, h1, h2⟩ := List.mem_map.mp h
  obtain ⟨ps, h3, _⟩ := t x h1
  exact ⟨ps, by rw [← h2]; exact h3⟩
theorem Rel.tbl0 (R : Rel K mg w B F e σ H) (h : B.H0 p = some o) (t : isTbl o = true) : ∃ ps, H p = some (.tbl ps) := tab_at R.tabs (R.oldT p o h t)
/-- what a callee is told of the heap: all but the tables that nobody knows -/
def kn (T : Tb) (H : Hp) : Hp := fun a => match H a with
  | some o => if isTbl o = true ∧ ¬ a ∈ T.map (·.1) then none else some o
  | none => none
theorem kn_of {T : Tb} {H : Hp} (h : H a = some o) (t : isTbl o = false) : kn T H a = some o := by
  unfold kn
  rw [h]
  show (if isTbl o = true ∧ ¬ a ∈ T.map (·.1) then none else some o) = some o
  rw [if_neg (fun z => by rw [t] at z; cases z.1)]
theorem kn_tb {T : Tb} {H : Hp} (h : a ∈ T.map (·.1)) : kn T H a = H a := by
  unfold kn
  cases q : H a with
  | none => rfl
  | some o =>
    show (if isTbl o = true ∧ ¬ a ∈ T.map (·.1) then none else some o) = some o
    rw [if_neg fun z => z.2 h]
theorem kn_sub {T : Tb} {H : Hp} (h : kn T H a = some o) : H a = some o ∧ (isTbl o = true → a ∈ T.map (·.1)) := by
  unfold kn at h
  cases q : H a with
  | none => rw [q] at h; cases h
  | some u =>
    rw [q] at h
    have h : (if isTbl u = true ∧ ¬ a ∈ T.map (·.1) then none else some u) = some o := h
    split at h
    · cases h
    · rename_i n
      cases h
      exact ⟨rfl, fun t => Decidable.byContradiction fun z => n ⟨t, z⟩⟩
theorem kn_none {T : Tb} {H : Hp} (h : H a = none) : kn T H a = none := by
  cases q : kn T H a with
  | none => rfl
  | some o => rw [(kn_sub q).1] at h; cases h
theorem Rel.none0 (R : Rel K mg w B F e σ H) (h : H p = none) : B.H0 p = none := by
  cases q : B.H0 p with
  | none => rfl
  | some u =>
    by_cases hi : ∃ i, B.io i = some p
    · obtain ⟨i, hi⟩ := hi
      obtain ⟨d, hd⟩ := R.ios i p hi
      obtain ⟨a, _, _, e3, c⟩ := R.at' i _ hd
      rw [hi] at e3; cases e3
      obtain ⟨o, e4⟩ := c.tracked
      rw [h] at e4; cases e4
    · cases ht : isTbl u with
      | true =>
        obtain ⟨ps, z⟩ := R.tbl0 q ht
        rw [h] at z; cases z
      | false =>
        have z := R.old p u q ht fun i hi' => hi ⟨i, hi'⟩
        rw [h] at z; cases z
theorem Rel.none0k (R : Rel K mg w B F e σ H) (h : kn T H p = none) : B.H0 p = none := by
  cases q : B.H0 p with
  | none => rfl
  | some u =>
    exfalso
    cases ht : isTbl u with
    | true =>
      obtain ⟨ps, z⟩ := R.tbl0 q ht
      rw [kn_tb (R.oldT p u q ht), z] at h; cases h
    | false =>
      by_cases hi : ∃ i, B.io i = some p
      · obtain ⟨i, hi⟩ := hi
        obtain ⟨d, hd⟩ := R.ios i p hi
        obtain ⟨a, _, _, e3, c⟩ := R.at' i _ hd
        rw [hi] at e3; cases e3
        obtain ⟨o, e4, e5, _⟩ := c.tracked'
        rw [kn_of e4 e5] at h; cases h
      · rw [kn_of (R.old p u q ht fun i hi' => hi ⟨i, hi'⟩) ht] at h; cases h
theorem Sub.upd (s : Sub F H) (h : F p = none) : Sub F (upd H p o) := fun b u q => by
  have hb := ne_of_none q h
  rcases s _ _ q with z | ⟨w, z⟩
  · exact .inl (by rw [upd_ne hb]; exact z)
  · exact .inr ⟨w, by rw [upd_ne hb]; exact z⟩
theorem Sub.updF (s : Sub F H) (h : F p = none) : Sub (L2.upd F p o) (L2.upd H p o) := fun b u q => by
  by_cases hb : b = p
  · subst hb; rw [upd_same] at q; cases q; exact .inl upd_same
  · rw [upd_ne hb] at q
    exact s.upd h b u q
/-- the heap grows by an object that nobody knows -/
theorem Rel.grow (R : Rel K mg w B F e σ H) (h : H p = none) : Rel K mg w B F e σ (upd H p o) := by
  have hF := R.sub.free h
  have hk : ∀ b u, H b = some u → upd H p o b = some u := fun b u z => by rw [upd_ne (ne_of_none z h)]; exact z
  refine ⟨R.sub.upd hF, fun a u q t n => hk _ _ (R.old a u q t n), R.oldT, R.tabs.ext hk, R.low, R.fr, R.len, fun i s hs => ?_, R.ios, R.apart, R.noT⟩
  · have z := R.at' i s hs
    cases s with
    | un => trivial
    | val d => exact z
    | own d =>
      obtain ⟨a, e1, e2, e3, c⟩ := z
      obtain ⟨o', e4⟩ := c.tracked
      exact ⟨a, e1, e2, e3, c.heap (upd_ne (ne_of_none e4 h))⟩
    | io d =>
      obtain ⟨a, e1, e2, e3, c⟩ := z
      obtain ⟨o', e4⟩ := c.tracked
      exact ⟨a, e1, e2, e3, c.heap (upd_ne (ne_of_none e4 h))⟩
/-- what nobody owns is frozen -/
theorem Rel.freezeAt (R : Rel K mg w B F e σ H) (hH : H p = some o) (hF : F p = none) (h0 : B.H0 p = none) (hn : ∀ (i : Nat) (s : Sl), e[i]? = some s → s.hot = true → σ[i]? ≠ some (some (.ref p))) (ht : isTbl o = false) : Rel K mg w B (upd F p o) e σ H := by
  refine ⟨fun b u q => ?_, R.old, R.oldT, R.tabs, R.low.trans (.upd hF), fun a u q => ?_, R.len, fun i s hs => ?_, R.ios, R.apart, fun a u q => ?_⟩
  · by_cases hb : b = p
    · subst hb; rw [upd_same] at q; cases q; exact .inl hH
    · rw [upd_ne hb] at q; exact R.sub b u q
  · by_cases hb : a = p
    · subst hb; exact .inr h0
    · rw [upd_ne hb] at q; exact R.fr a u q
  · have z := R.at' i s hs
    cases s with
    | un => trivial
    | val d => obtain ⟨x, e1, e2⟩ := z; exact ⟨x, e1, e2.mono (.upd hF)⟩
    | own d =>
      obtain ⟨a, e1, e2, e3, c⟩ := z
      have ha : a ≠ p := fun q => hn i _ hs rfl (q ▸ e1)
      exact ⟨a, e1, by rw [upd_ne ha]; exact e2, e3, c.mono (.upd hF)⟩
    | io d =>
      obtain ⟨a, e1, e2, e3, c⟩ := z
      have ha : a ≠ p := fun q => hn i _ hs rfl (q ▸ e1)
      exact ⟨a, e1, by rw [upd_ne ha]; exact e2, e3, c.mono (.upd hF)⟩
  · by_cases hb : a = p
    · subst hb; rw [upd_same] at q; cases q; exact ht
    · rw [upd_ne hb] at q; exact R.noT a u q
theorem Rel.new (R : Rel K mg w B F e σ H) (h : H p = none) (ht : isTbl o = false) : Rel K mg w B (upd F p o) e σ (upd H p o) :=
  (R.grow h).freezeAt upd_same (R.sub.free h) (R.none0 h) (fun i s hs ht q => by
    obtain ⟨a, u, e1, _, e3, _⟩ := R.hot hs ht
    rw [e1] at q; cases q
    rw [h] at e3; cases e3) ht
end
end L2.PV

set_option Elab.async false
set_option linter.all false
set_option maxRecDepth 100000
set_option autoImplicit false
namespace L2.PV
open PySem PySem.Spec PyProof.Rows

/-! ### more of Rel: stores -/
section
variable {K : PySem.W.Frag} {mg : MG} {w : World} {T : Tb} {B : Bs T} {F H : Hp} {e : En} {σ : St} {p a : Addr} {o : HO} {i : Nat} {d : D} {v : V}
def Sl.isIo : Sl → Bool | .io _ => true | _ => false
/-- a slot gets another meaning at another value -/
theorem Rel.setSl {t s0 : Sl} {y : Option V} (R : Rel K mg w B F e σ H) (h : e[i]? = some s0) (hio : s0.isIo = false) (hok : SlOk K mg w B F H i (some y) t) (ht : t.isIo = false)
    (hap : t.hot = true → ∀ b, y = some (.ref b) → ∀ (j : Nat) (s : Sl), e[j]? = some s → s.hot = true → σ[j]? = some (some (.ref b)) → j = i) : Rel K mg w B F (e.set i t) (σ.set i y) H := by
  have hi : i < e.length := (List.getElem?_eq_some_iff.mp h).1
  have hi' : i < σ.length := by rw [← R.len]; exact hi
  refine ⟨R.sub, R.old, R.oldT, R.tabs, R.low, R.fr, by rw [List.length_set, List.length_set]; exact R.len, fun j s hs => ?_, fun j b hb => ?_, fun j k b s u h1 h2 h3 h4 h5 h6 => ?_, R.noT⟩
  · by_cases hj : i = j
    · subst hj
      rw [List.getElem?_set_self hi] at hs
      cases hs
      rw [List.getElem?_set_self hi']
      exact hok
    · rw [List.getElem?_set_ne hj] at hs ⊢
      exact R.at' j s hs
  · obtain ⟨d, hd⟩ := R.ios j b hb
    by_cases hj : i = j
    · subst hj
      rw [h] at hd; cases hd; cases hio
    · exact ⟨d, by rw [List.getElem?_set_ne hj]; exact hd⟩
  · by_cases hj : i = j
    · by_cases hk : i = k
      · exact hj.symm.trans hk
      · subst hj
        rw [List.getElem?_set_self hi] at h1; cases h1
        rw [List.getElem?_set_self hi'] at h5; cases h5
        rw [List.getElem?_set_ne hk] at h2 h6
        exact (hap h3 _ rfl k _ h2 h4 h6).symm
    · rw [List.getElem?_set_ne hj] at h1 h5
      by_cases hk : i = k
      · subst hk
        rw [List.getElem?_set_self hi] at h2; cases h2
        rw [List.getElem?_set_self hi'] at h6; cases h6
        exact hap h4 _ rfl j _ h1 h3 h5
      · rw [List.getElem?_set_ne hk] at h2 h6
        exact R.apart j k b s u h1 h2 h3 h4 h5 h6
theorem Rel.setVal {s0 : Sl} (R : Rel K mg w B F e σ H) (h : e[i]? = some s0) (hio : s0.isIo = false) (hd : Den K mg w F d v) : Rel K mg w B F (e.set i (.val d)) (σ.set i (some v)) H :=
  R.setSl h hio ⟨v, rfl, hd⟩ rfl fun q => by cases q
theorem Rel.setOwn {s0 : Sl} (R : Rel K mg w B F e σ H) (h : e[i]? = some s0) (hio : s0.isIo = false) (hF : F a = none) (h0 : B.H0 a = none) (hc : Cont K mg w F H a d)
    (hn : ∀ (j : Nat) (s : Sl), e[j]? = some s → s.hot = true → σ[j]? = some (some (.ref a)) → j = i) : Rel K mg w B F (e.set i (.own d)) (σ.set i (some (.ref a))) H :=
  R.setSl h hio ⟨a, rfl, hF, h0, hc⟩ rfl fun _ b hb => by cases hb; exact hn
/-- forget what a slot means -/
theorem Rel.drop {s0 : Sl} (R : Rel K mg w B F e σ H) (h : e[i]? = some s0) (hio : s0.isIo = false) : Rel K mg w B F (e.set i .un) σ H := by
  have hi : i < e.length := (List.getElem?_eq_some_iff.mp h).1
  have hi' : i < σ.length := by rw [← R.len]; exact hi
  have z := R.setSl (t := .un) (y := σ[i]) h hio trivial rfl fun q => by cases q
  rwa [List.set_getElem_self] at z
theorem Rel.setUn {s0 : Sl} {y : Option V} (R : Rel K mg w B F e σ H) (h : e[i]? = some s0) (hio : s0.isIo = false) : Rel K mg w B F (e.set i .un) (σ.set i y) H :=
  R.setSl h hio trivial rfl fun q => by cases q
/-- the content of a hot slot is changed -/
theorem Rel.write {s t : Sl} {d' : D} (R : Rel K mg w B F e σ H) (h : e[i]? = some s) (hst : (s = .own d ∧ t = .own d') ∨ (s = .io d ∧ t = .io d')) (ha : σ[i]? = some (some (.ref a))) (hc : Cont K mg w F (upd H a o) a d') :
    Rel K mg w B F (e.set i t) σ (upd H a o) := by
  have hi : i < e.length := (List.getElem?_eq_some_iff.mp h).1
  have hs : s.hot = true := by rcases hst with ⟨rfl, _⟩ | ⟨rfl, _⟩ <;> rfl
  have hth : t.hot = true := by rcases hst with ⟨_, rfl⟩ | ⟨_, rfl⟩ <;> rfl
  obtain ⟨a', o', e1, e2, e3, e4, e5, e6⟩ := R.hot h hs
  rw [ha] at e1; cases e1
  have hk : ∀ b u, H b = some u → isTbl u = true ∨ isExt u → upd H a o b = some u := fun b u z t => by
    have : b ≠ a := by
      rintro rfl
      rw [e3] at z; cases z
      rcases t with t | t
      · rw [e5] at t; cases t
      · exact e6 t
    rw [upd_ne this]; exact z
  refine ⟨R.sub.upd e2, fun b u q t n => ?_, R.oldT, tabs_keep R.tabs hk, R.low, R.fr, by rw [List.length_set]; exact R.len, fun j s' hs' => ?_, fun j b hb => ?_, fun j k b s1 s2 h1 h2 h3 h4 h5 h6 => ?_, R.noT⟩
  · have hb : b ≠ a := by
      rintro rfl
      rcases e4 with z | z
      · rw [z] at q; cases q
      · exact n i z
    rw [upd_ne hb]; exact R.old b u q t n
  · by_cases hj : i = j
    · subst hj
      rw [List.getElem?_set_self hi] at hs'; cases hs'
      have z := R.at' i s h
      rcases hst with ⟨rfl, rfl⟩ | ⟨rfl, rfl⟩
      · obtain ⟨b, f1, f2, f3, _⟩ := z
        rw [ha] at f1; cases f1
        exact ⟨a, ha, f2, f3, hc⟩
      · obtain ⟨b, f1, f2, f3, _⟩ := z
        rw [ha] at f1; cases f1
        exact ⟨a, ha, f2, f3, hc⟩
    · rw [List.getElem?_set_ne hj] at hs'
      have z := R.at' j s' hs'
      cases s' with
      | un => trivial
      | val d => exact z
      | own d =>
        obtain ⟨b, f1, f2, f3, c⟩ := z
        have hb : b ≠ a := by rintro rfl; exact hj (R.apart i j b s _ h hs' hs rfl ha f1)
        exact ⟨b, f1, f2, f3, c.heap (upd_ne hb)⟩
      | io d =>
        obtain ⟨b, f1, f2, f3, c⟩ := z
        have hb : b ≠ a := by rintro rfl; exact hj (R.apart i j b s _ h hs' hs rfl ha f1)
        exact ⟨b, f1, f2, f3, c.heap (upd_ne hb)⟩
  · obtain ⟨d1, hd⟩ := R.ios j b hb
    by_cases hj : i = j
    · subst hj
      rw [h] at hd; cases hd
      rcases hst with ⟨z, _⟩ | ⟨_, rfl⟩
      · cases z
      · exact ⟨d', by rw [List.getElem?_set_self hi]⟩
    · exact ⟨d1, by rw [List.getElem?_set_ne hj]; exact hd⟩
  · have pick : ∀ (j : Nat) (s1 : Sl), (e.set i t)[j]? = some s1 → s1.hot = true → ∃ s2, e[j]? = some s2 ∧ s2.hot = true := fun j s1 q1 q2 => by
      by_cases hj : i = j
      · subst hj; exact ⟨s, h, hs⟩
      · rw [List.getElem?_set_ne hj] at q1; exact ⟨s1, q1, q2⟩
    obtain ⟨s1', g1, g2⟩ := pick j s1 h1 h3
    obtain ⟨s2', g3, g4⟩ := pick k s2 h2 h4
    exact R.apart j k b s1' s2' g1 g3 g2 g4 h5 h6
/-- the content of an own slot as a value from now on -/
theorem Cont.den {c : D} (hc : Cont K mg w F H a c) (hF : F a = none) : ∃ o, H a = some o ∧ Den K mg w (upd F a o) c (.ref a) ∧ isTbl o = false := by
  cases c <;> first
    | exact hc.elim
    | (obtain ⟨vs, e1, l⟩ := hc; exact ⟨_, e1, .lst upd_same (l.mono (.upd hF)), rfl⟩)
    | (obtain ⟨vs, e1, l⟩ := hc; exact ⟨_, e1, .dct upd_same (l.mono (.upd hF)), rfl⟩)
    | (obtain ⟨ob, vs, e1, l⟩ := hc; exact ⟨_, e1, .gd upd_same (l.mono (.upd hF)), rfl⟩)
    | (obtain ⟨C, dx, gs, m, e1, l⟩ := hc; exact ⟨_, e1, .obj m upd_same (l.mono (.upd hF)), rfl⟩)
theorem Rel.freeze (R : Rel K mg w B F e σ H) (h : e[i]? = some (.own d)) : ∃ F', Le F F' ∧ Rel K mg w B F' (e.set i (.val d)) σ H := by
  obtain ⟨a, e1, e2, e3, c⟩ := R.at' i _ h
  obtain ⟨o, e4, hd, htb⟩ := Cont.den c e2
  have hi : i < e.length := (List.getElem?_eq_some_iff.mp h).1
  have hi' : i < σ.length := by rw [← R.len]; exact hi
  have R1 := R.drop h rfl
  have R2 : Rel K mg w B (upd F a o) (e.set i .un) σ H := R1.freezeAt e4 e2 e3 (fun j s hs ht q => by
    by_cases hj : i = j
    · subst hj
      rw [List.getElem?_set_self hi] at hs; cases hs; cases ht
    · rw [List.getElem?_set_ne hj] at hs
      exact hj (R.apart i j a _ _ h hs rfl ht e1 q)) htb
  have R3 := R2.setVal (i := i) (s0 := .un) (by rw [List.getElem?_set_self hi]) rfl hd
  refine ⟨L2.upd F a o, .upd e2, ?_⟩
  rw [List.set_set] at R3
  have : σ.set i (some (.ref a)) = σ := by
    have : σ[i] = some (.ref a) := by
      have z := List.getElem?_eq_getElem hi'
      rw [z] at e1; exact Option.some.inj e1
    rw [← this, List.set_getElem_self]
  rwa [this] at R3
end

/-! ### results -/
inductive ExC where | own (c : Str) | blt (c : String)
structure Ex where
  cls : ExC
  fs : Option (List (Str × D)) := none
inductive Res (α : Type) where | ok (a : α) (e : En) | exc (x : Ex) (e : En) | bad
def Res.bind {α β : Type} (r : Res α) (k : α → En → Res β) : Res β := match r with
  | .ok a e => k a e
  | .exc x e => .exc x e
  | .bad => .bad
def lift {α : Type} (o : Option α) (e : En) : Res α := match o with
  | some d => .ok d e
  | none => .bad
def DenX (K : PySem.W.Frag) (mg : MG) (w : World) (F : Hp) (x : Ex) (c : Value) (dd : Option Addr) : Prop :=
  (match x.cls with
    | .own n => mg n = some c
    | .blt n => c = .type n) ∧
  match x.fs with
    | none => dd = none
    | some fs => ∃ d gs, dd = some d ∧ F d = some (.xd gs) ∧ DenF K mg w F fs gs
section
variable (K : PySem.W.Frag) (mg : MG) (w : World) (W : WX) {T : Tb} (B : Bs T) (σ : St)
def Post {α β : Type} (R : Hp → α → β → Prop) (F : Hp) (r : Res α) (Q : β → Hp → Prop) : Prop := match r with
  | .ok a e => ∀ F' b H', Le F F' → Rel K mg w B F' e σ H' → R F' a b → Q b H'
  | .exc x e => ∀ F' c dd H', Le F F' → Rel K mg w B F' e σ H' → DenX K mg w F' x c dd → W c dd σ H'
  | .bad => False
end
section
variable {K : PySem.W.Frag} {mg : MG} {w : World} {W : WX} {T : Tb} {B : Bs T} {σ : St} {α β γ δ : Type} {R : Hp → α → β → Prop} {R' : Hp → γ → δ → Prop} {F G H : Hp} {r : Res α} {Q : β → Hp → Prop} {e : En}
theorem Post.le (h : Post K mg w W B σ R F r Q) (s : Le F G) : Post K mg w W B σ R G r Q := by
  cases r with
  | ok a e => exact fun F' b H' l => h F' b H' (s.trans l)
  | exc x e => exact fun F' c dd H' l => h F' c dd H' (s.trans l)
  | bad => exact h
theorem Post.step {k : α → En → Res γ} {KK : β → Hp → Prop} {Q' : δ → Hp → Prop} (h : Post K mg w W B σ R' F (r.bind k) Q')
    (f : ∀ F1 e1 a b H1, Le F F1 → Rel K mg w B F1 e1 σ H1 → R F1 a b → Post K mg w W B σ R' F1 (k a e1) Q' → KK b H1) : Post K mg w W B σ R F r KK := by
  cases r with
  | ok a e => exact fun F' b H' l R1 hR => f F' e a b H' l R1 hR (Post.le h l)
  | exc x e => exact h
  | bad => exact h
theorem Post.lift {o : Option α} (h : Post K mg w W B σ R F (lift o e) Q) : ∃ a, o = some a ∧ Post K mg w W B σ R F (.ok a e) Q := by
  cases o with
  | none => exact h.elim
  | some a => exact ⟨a, rfl, h⟩
/-- the end: a value in hand -/
theorem Post.ret {a : α} {b : β} (h : Post K mg w W B σ R F (.ok a e) Q) (hR : Rel K mg w B F e σ H) (hd : R F a b) : Q b H := h F b H (Le.refl F) hR hd
/-- .. behind a new frozen object -/
theorem Post.new {a : α} {o : HO} (h : Post K mg w W B σ R F (.ok a e) fun b H => Q b H) (hR : Rel K mg w B F e σ H) (q : β) (p : Addr) (hp : H p = none) (hd : Le F (upd F p o) → R (upd F p o) a q) (ht : isTbl o = false := by rfl) : Q q (upd H p o) :=
  h _ q _ (.upd (hR.sub.free hp)) (hR.new hp ht) (hd (.upd (hR.sub.free hp)))
end

/-! ### readings -/
section
variable (K : PySem.W.Frag) (mg : MG) (w : World) (T : Tb) (W : WX)
def tE (g : En → Res D) : TE := fun σ H Q => ∃ (B : Bs T) (F : Hp) (e : En), Rel K mg w B F e σ H ∧ Post K mg w W B σ (Den K mg w) F (g e) Q
def tB (g : En → Res Bool) : TT := fun σ H Q => ∃ (B : Bs T) (F : Hp) (e : En), Rel K mg w B F e σ H ∧ Post K mg w W B σ (fun _ a b => b = a) F (g e) Q
/-- what is handed over: values, or the i-th slot's own object -/
inductive Ar where | v (d : D) | s (i : Nat)
def ArOk (σ : St) (F : Hp) : Ar → V → Prop
  | .v d, x => Den K mg w F d x
  | .s i, x => σ[i]? = some (some x)
def ArsOk (σ : St) (F : Hp) : List Ar → List V → Prop
  | [], [] => True
  | a :: as, v :: vs => ArOk K mg w σ F a v ∧ ArsOk σ F as vs
  | _, _ => False
def tA (g : En → Res (List Ar)) : TA := fun σ H Q => ∃ (B : Bs T) (F : Hp) (e : En), Rel K mg w B F e σ H ∧ Post K mg w W B σ (ArsOk K mg w σ) F (g e) Q
end
theorem ArOk.mono {K : PySem.W.Frag} {mg : MG} {w : World} {σ : St} {F G : Hp} (s : Le F G) {a : Ar} {v : V} (h : ArOk K mg w σ F a v) : ArOk K mg w σ G a v := by
  cases a with
  | v d => exact Den.mono s h
  | s i => exact h
theorem ArsOk.mono {K : PySem.W.Frag} {mg : MG} {w : World} {σ : St} {F G : Hp} (s : Le F G) : ∀ {as : List Ar} {vs : List V}, ArsOk K mg w σ F as vs → ArsOk K mg w σ G as vs
  | [], [], _ => trivial
  | a :: as, v :: vs, ⟨h, t⟩ => ⟨ArOk.mono s h, ArsOk.mono s t⟩
  | [], _ :: _, h => h.elim
  | _ :: _, [], h => h.elim
theorem ArsOk.den {K : PySem.W.Frag} {mg : MG} {w : World} {σ : St} {F : Hp} : ∀ {ds : List D} {vs : List V}, ArsOk K mg w σ F (ds.map .v) vs → DenL K mg w F ds vs
  | [], [], _ => .nil
  | d :: ds, v :: vs, ⟨h, t⟩ => .cons h (ArsOk.den t)
  | [], _ :: _, h => h.elim
  | _ :: _, [], h => h.elim

/-! ### names, constants, operators -/
def varG (i : Nat) : En → Res D := fun e => match e[i]? with
  | some (.val d) => .ok d e
  | _ => .bad
def constG (d : D) : En → Res D := fun e => .ok d e
def op2G (f : D → D → Option D) (ga gb : En → Res D) : En → Res D := fun e => (ga e).bind fun a e1 => (gb e1).bind fun b e2 => lift (f a b) e2
def op1G (f : D → Option D) (ga : En → Res D) : En → Res D := fun e => (ga e).bind fun a e1 => lift (f a) e1
/-- an operator's rule by pure values -/
def OpD (K : PySem.W.Frag) (mg : MG) (w : World) (r : V → V → Hp → VK → Prop) (f : D → D → Option D) : Prop :=
  ∀ (T : Tb) (W : WX) (B : Bs T) (F : Hp) (e : En) (σ : St) (H : Hp) (a b : D) (x y : V) (Q : VK) (c : D), Rel K mg w B F e σ H → Den K mg w F a x → Den K mg w F b y → f a b = some c → Post K mg w W B σ (Den K mg w) F (.ok c e) Q → r x y H Q
def UnD (K : PySem.W.Frag) (mg : MG) (w : World) (r : V → Hp → VK → Prop) (f : D → Option D) : Prop :=
  ∀ (T : Tb) (W : WX) (B : Bs T) (F : Hp) (e : En) (σ : St) (H : Hp) (a : D) (x : V) (Q : VK) (c : D), Rel K mg w B F e σ H → Den K mg w F a x → f a = some c → Post K mg w W B σ (Den K mg w) F (.ok c e) Q → r x H Q
section
variable {X : Cx} {T : Tb} {W : WX} {a b c : Expr} {ga gb gc : En → Res D} {pos : Pos}
theorem conv {e : Expr} {t t' : TE} (h : PE X e t) (k : ∀ σ H Q, t' σ H Q → t σ H Q) : PE X e t' := ⟨fun pins s σ H Q I q => h.run pins s σ H Q I (k σ H Q q)⟩
theorem convT {e : Expr} {t t' : TT} (h : PT X e t) (k : ∀ σ H Q, t' σ H Q → t σ H Q) : PT X e t' := ⟨fun pins s σ H Q I q => h.run pins s σ H Q I (k σ H Q q)⟩
theorem convA {e : List Expr} {t t' : TA} (h : PA X e t) (k : ∀ σ H Q, t' σ H Q → t σ H Q) : PA X e t' := ⟨fun po pins s σ H Q I q => h.run po pins s σ H Q I (k σ H Q q)⟩
theorem convS {st : Stmt} {t t' : TS} (h : PS X st t) (k : ∀ D σ H, t' D σ H → t D σ H) : PS X st t' := ⟨fun pins s σ H D I q => h.run pins s σ H D I (k D σ H q)⟩
theorem ev {x : Str} (i : Nat) (hN : X.N[i]? = some x := by rfl) (hv : Vis X.env.scope x := by first | exact Or.inl rfl | exact Or.inr (Or.inl rfl) | exact Or.inr (Or.inr rfl)) (hd : (x == ("__debug__" : Str)) = false := by decide)
    (hcd : (x == ("__classdict__" : Str)) = false := by decide) : PE X (.Name x pos) (tE X.K X.mg X.w T W (varG i)) := conv (pv i hN hv hd hcd) fun σ H Q ⟨B, F, e, R, h⟩ => by
  unfold varG at h
  split at h
  · rename_i d hd
    obtain ⟨v, hv, hD⟩ := R.at' i _ hd
    exact ⟨v, hv, h.ret R hD⟩
  · exact h.elim
theorem ecst {d : D} {v : V} {x : Expr} (h : PE X x (tC v)) (hd : ∀ F, Den X.K X.mg X.w F d v) : PE X x (tE X.K X.mg X.w T W (constG d)) := conv h fun σ H Q ⟨B, F, e, R, h⟩ => h.ret R (hd F)
theorem eint {i j} : PE X (.Constant (.int i) j pos) (tE X.K X.mg X.w T W (constG (.int i))) := ecst pe_int fun _ => .int i
theorem ebl {i j} : PE X (.Constant (.bool i) j pos) (tE X.K X.mg X.w T W (constG (.bl i))) := ecst pe_bl fun _ => .bl i
theorem enon {j} : PE X (.Constant .none j pos) (tE X.K X.mg X.w T W (constG .non)) := ecst pe_non fun _ => .non
theorem estr {x j} : PE X (.Constant (.str x) j pos) (tE X.K X.mg X.w T W (constG (.str x))) := ecst pe_str fun _ => .str x
theorem eop {op : Operator} {r : V → V → Hp → VK → Prop} {f : D → D → Option D} (ho : OpR X (binaryOp op) r) (hr : OpD X.K X.mg X.w r f) (ha : PE X a (tE X.K X.mg X.w T W ga)) (hb : PE X b (tE X.K X.mg X.w T W gb)) :
    PE X (.BinOp a op b pos) (tE X.K X.mg X.w T W (op2G f ga gb)) := conv (pe_op ho ha hb) fun σ H Q ⟨B, F, e, R, h⟩ =>
  ⟨B, F, e, R, h.step fun F1 e1 d x H1 l1 R1 D1 h1 => ⟨B, F1, e1, R1, h1.step fun F2 e2 d2 y H2 l2 R2 D2 h2 => by
    obtain ⟨c, hc, h3⟩ := h2.lift
    exact hr T W B F2 e2 σ H2 d d2 x y Q c R2 (D1.mono l2) D2 hc h3⟩⟩
theorem eun {op : UnaryOp} {r : V → Hp → VK → Prop} {f : D → Option D} (ho : UnR X (unaryOp op) r) (hr : UnD X.K X.mg X.w r f) (ha : PE X a (tE X.K X.mg X.w T W ga)) :
    PE X (.UnaryOp op a pos) (tE X.K X.mg X.w T W (op1G f ga)) := conv (pe_un ho ha) fun σ H Q ⟨B, F, e, R, h⟩ =>
  ⟨B, F, e, R, h.step fun F1 e1 d x H1 l1 R1 D1 h1 => by
    obtain ⟨c, hc, h3⟩ := h1.lift
    exact hr T W B F1 e1 σ H1 d x Q c R1 D1 hc h3⟩
theorem ecmp {op : CmpOp} {r : V → V → Hp → VK → Prop} {f : D → D → Option D} (ho : OpR X (compareOp op) r) (hr : OpD X.K X.mg X.w r f) (ha : PE X a (tE X.K X.mg X.w T W ga)) (hb : PE X b (tE X.K X.mg X.w T W gb)) (hm : behindInMarks op b = false) :
    PE X (.Compare a [op] [b] pos) (tE X.K X.mg X.w T W (op2G f ga gb)) := conv (pe_cmpR ho ha hb hm) fun σ H Q ⟨B, F, e, R, h⟩ =>
  ⟨B, F, e, R, h.step fun F1 e1 d x H1 l1 R1 D1 h1 => ⟨B, F1, e1, R1, h1.step fun F2 e2 d2 y H2 l2 R2 D2 h2 => by
    obtain ⟨c, hc, h3⟩ := h2.lift
    exact hr T W B F2 e2 σ H2 d d2 x y Q c R2 (D1.mono l2) D2 hc h3⟩⟩
/-! ### tests -/
def truth : D → Option Bool
  | .non => some false
  | .bl b => some b
  | .int i => some (i != 0)
  | .str s => if s.length ≤ sizeLine then some (s.length != 0) else none
  | .lst xs => some (!xs.isEmpty)
  | .tup xs => some (!xs.isEmpty)
  | _ => none
def boolG (g : En → Res D) : En → Res Bool := fun e => (g e).bind fun a e1 => lift (match a with | .bl b => some b | _ => none) e1
def truthG (g : En → Res D) : En → Res Bool := fun e => (g e).bind fun a e1 => lift (truth a) e1
def notB (g : En → Res Bool) : En → Res Bool := fun e => (g e).bind fun a e1 => .ok (!a) e1
def andB (g h : En → Res Bool) : En → Res Bool := fun e => (g e).bind fun a e1 => if a = true then h e1 else .ok false e1
def orB (g h : En → Res Bool) : En → Res Bool := fun e => (g e).bind fun a e1 => if a = true then .ok true e1 else h e1
def ifG {α : Type} (c : En → Res Bool) (g h : En → Res α) : En → Res α := fun e => (c e).bind fun b e1 => if b = true then g e1 else h e1
/-- a test's truth as a value -/
def ofB (g : En → Res Bool) : En → Res D := fun e => (g e).bind fun b e1 => .ok (.bl b) e1
variable {hA hB : En → Res Bool} {rest : List Expr}
theorem tval (h : PE X a (tE X.K X.mg X.w T W ga)) (he : ∀ whole, isTrue a X.env whole = (do let v ← whole; standAt a.pos; holding [v] (truthy v)) := by intro _; rfl) : PT X a (tB X.K X.mg X.w T W (boolG ga)) := convT (pt_val h he) fun σ H Q ⟨B, F, e, R, h⟩ =>
  ⟨B, F, e, R, h.step fun F1 e1 d x H1 l1 R1 D1 h1 => by
    obtain ⟨c, hc, h3⟩ := h1.lift
    cases d <;> cases hc
    cases D1
    exact ⟨_, rfl, h3.ret R1 rfl⟩⟩
theorem tcmp {op : CmpOp} {r : V → V → Hp → VK → Prop} {f : D → D → Option D} (ho : OpR X (compareOp op) r) (hr : OpD X.K X.mg X.w r f) (ha : PE X a (tE X.K X.mg X.w T W ga)) (hb : PE X b (tE X.K X.mg X.w T W gb)) (hm : behindInMarks op b = false) :
    PT X (.Compare a [op] [b] pos) (tB X.K X.mg X.w T W (boolG (op2G f ga gb))) := convT (pt_cmpR ho ha hb hm) fun σ H Q ⟨B, F, e, R, h⟩ =>
  ⟨B, F, e, R, by
    unfold boolG op2G at h
    have h' : Post X.K X.mg X.w W B σ (fun _ a b => b = a) F ((ga e).bind fun a e1 => ((gb e1).bind fun b e2 => lift (f a b) e2).bind fun a e1 => lift (match a with | .bl b => some b | _ => none) e1) Q := by
      cases hg : ga e <;> (rw [hg] at h; exact h)
    refine h'.step fun F1 e1 d x H1 l1 R1 D1 h1 => ⟨B, F1, e1, R1, ?_⟩
    have h1' : Post X.K X.mg X.w W B σ (fun _ a b => b = a) F1 ((gb e1).bind fun b e2 => (lift (f d b) e2).bind fun a e1 => lift (match a with | .bl b => some b | _ => none) e1) Q := by
      cases hg : gb e1 <;> (rw [hg] at h1; exact h1)
    refine h1'.step fun F2 e2 d2 y H2 l2 R2 D2 h2 => ?_
    cases hf : f d d2 with
    | none => rw [hf] at h2; exact h2.elim
    | some c =>
      rw [hf] at h2
      obtain ⟨k, hk, h3⟩ := Post.lift (e := e2) h2
      cases c <;> cases hk
      exact hr T W B F2 e2 σ H2 d d2 x y _ _ R2 (D1.mono l2) D2 hf fun F' b H' l R' Db => by
        cases Db
        exact ⟨_, rfl, h3 F' _ H' l R' rfl⟩⟩
theorem tnot (h : PT X a (tB X.K X.mg X.w T W hA)) : PT X (.UnaryOp .Not a pos) (tB X.K X.mg X.w T W (notB hA)) := convT (pt_not h) fun σ H Q ⟨B, F, e, R, h⟩ =>
  ⟨B, F, e, R, h.step fun F1 e1 d x H1 l1 R1 D1 h1 => by subst D1; exact h1.ret R1 rfl⟩
end
section
variable {X : Cx} {T : Tb} {W : WX} {a b c : Expr} {ga gb gc : En → Res D} {hA hB : En → Res Bool} {pos : Pos} {rest : List Expr}
theorem convW {e : Expr} {t t' : TT} (h : PW X e t) (k : ∀ σ H Q, t' σ H Q → t σ H Q) : PW X e t' := ⟨fun wh pins s σ H Q I q => h.run wh pins s σ H Q I (k σ H Q q)⟩
theorem tand1 (h : PT X a (tB X.K X.mg X.w T W hA)) : PW X (.BoolOp .And [a] pos) (tB X.K X.mg X.w T W hA) := pw_and1 h
theorem tor1 (h : PT X a (tB X.K X.mg X.w T W hA)) : PW X (.BoolOp .Or [a] pos) (tB X.K X.mg X.w T W hA) := pw_or1 h
theorem tand (h : PT X a (tB X.K X.mg X.w T W hA)) (k : PW X (.BoolOp .And (b :: rest) pos) (tB X.K X.mg X.w T W hB)) : PW X (.BoolOp .And (a :: b :: rest) pos) (tB X.K X.mg X.w T W (andB hA hB)) := convW (pw_and h k) fun σ H Q ⟨B, F, e, R, h⟩ =>
  ⟨B, F, e, R, h.step fun F1 e1 d x H1 l1 R1 D1 h1 => by
    subst D1
    cases x with
    | true => exact ⟨B, F1, e1, R1, h1⟩
    | false => exact h1.ret R1 rfl⟩
theorem tor (h : PT X a (tB X.K X.mg X.w T W hA)) (k : PW X (.BoolOp .Or (b :: rest) pos) (tB X.K X.mg X.w T W hB)) : PW X (.BoolOp .Or (a :: b :: rest) pos) (tB X.K X.mg X.w T W (orB hA hB)) := convW (pw_or h k) fun σ H Q ⟨B, F, e, R, h⟩ =>
  ⟨B, F, e, R, h.step fun F1 e1 d x H1 l1 R1 D1 h1 => by
    subst D1
    cases x with
    | false => exact ⟨B, F1, e1, R1, h1⟩
    | true => exact h1.ret R1 rfl⟩
/-- .. as values: bools all but perhaps the last -/
def andG (g h : En → Res D) : En → Res D := fun e => (g e).bind fun a e1 => match a with | .bl true => h e1 | .bl false => .ok (.bl false) e1 | _ => .bad
def orG (g h : En → Res D) : En → Res D := fun e => (g e).bind fun a e1 => match a with | .bl false => h e1 | .bl true => .ok (.bl true) e1 | _ => .bad
def notG (g : En → Res D) : En → Res D := fun e => (g e).bind fun a e1 => match a with | .bl b => .ok (.bl (!b)) e1 | _ => .bad
theorem eone {op} (h : PE X a (tE X.K X.mg X.w T W ga)) : PE X (.BoolOp op [a] pos) (tE X.K X.mg X.w T W ga) := pe_one h
theorem eand (h : PE X a (tE X.K X.mg X.w T W ga)) (k : PE X (.BoolOp .And (b :: rest) pos) (tE X.K X.mg X.w T W gb)) : PE X (.BoolOp .And (a :: b :: rest) pos) (tE X.K X.mg X.w T W (andG ga gb)) := conv (pe_and h k) fun σ H Q ⟨B, F, e, R, h⟩ =>
  ⟨B, F, e, R, h.step fun F1 e1 d x H1 l1 R1 D1 h1 => by
    cases d <;> first | exact h1.elim | skip
    cases D1
    rename_i k
    cases k with
    | true => exact ⟨_, rfl, ⟨B, F1, e1, R1, h1⟩⟩
    | false => exact ⟨_, rfl, h1.ret R1 (.bl _)⟩⟩
theorem eor (h : PE X a (tE X.K X.mg X.w T W ga)) (k : PE X (.BoolOp .Or (b :: rest) pos) (tE X.K X.mg X.w T W gb)) : PE X (.BoolOp .Or (a :: b :: rest) pos) (tE X.K X.mg X.w T W (orG ga gb)) := conv (pe_or h k) fun σ H Q ⟨B, F, e, R, h⟩ =>
  ⟨B, F, e, R, h.step fun F1 e1 d x H1 l1 R1 D1 h1 => by
    cases d <;> first | exact h1.elim | skip
    cases D1
    rename_i k
    cases k with
    | false => exact ⟨_, rfl, ⟨B, F1, e1, R1, h1⟩⟩
    | true => exact ⟨_, rfl, h1.ret R1 (.bl _)⟩⟩
theorem enot (h : PE X a (tE X.K X.mg X.w T W ga)) : PE X (.UnaryOp .Not a pos) (tE X.K X.mg X.w T W (notG ga)) := conv (pe_not h) fun σ H Q ⟨B, F, e, R, h⟩ =>
  ⟨B, F, e, R, h.step fun F1 e1 d x H1 l1 R1 D1 h1 => by
    cases d <;> first | exact h1.elim | skip
    cases D1
    exact ⟨_, rfl, h1.ret R1 (.bl _)⟩⟩
theorem eif (hc : PT X c (tB X.K X.mg X.w T W hA)) (ha : PE X a (tE X.K X.mg X.w T W ga)) (hb : PE X b (tE X.K X.mg X.w T W gb)) : PE X (.IfExp c a b pos) (tE X.K X.mg X.w T W (ifG hA ga gb)) := conv (pe_ifExp hc ha hb) fun σ H Q ⟨B, F, e, R, h⟩ =>
  ⟨B, F, e, R, h.step fun F1 e1 d x H1 l1 R1 D1 h1 => by
    subst D1
    cases x with
    | true => exact ⟨B, F1, e1, R1, h1⟩
    | false => exact ⟨B, F1, e1, R1, h1⟩⟩
/-! ### argument lists -/
def nilA : En → Res (List Ar) := fun e => .ok [] e
def consA (g : En → Res D) (k : En → Res (List Ar)) : En → Res (List Ar) := fun e => (g e).bind fun d e1 => (k e1).bind fun ds e2 => .ok (.v d :: ds) e2
def slotA (i : Nat) (k : En → Res (List Ar)) : En → Res (List Ar) := fun e => match e[i]? with
  | some s => if s.hot then (k e).bind fun ds e2 => .ok (.s i :: ds) e2 else .bad
  | none => .bad
variable {es : List Expr} {k : En → Res (List Ar)} {e : Expr}
theorem anil : PA X [] (tA X.K X.mg X.w T W nilA) := convA pa_nil fun σ H Q ⟨B, F, e, R, h⟩ => h.ret R trivial
theorem acons (ha : PE X e (tE X.K X.mg X.w T W ga)) (hr : PA X es (tA X.K X.mg X.w T W k)) (hs : starEach (e :: es) X.env = (false, eval e X.env) :: starEach es X.env := by rfl) : PA X (e :: es) (tA X.K X.mg X.w T W (consA ga k)) := convA (pa_cons ha hr hs) fun σ H Q ⟨B, F, e, R, h⟩ =>
  ⟨B, F, e, R, h.step fun F1 e1 d x H1 l1 R1 D1 h1 => ⟨B, F1, e1, R1, h1.step fun F2 e2 ds xs H2 l2 R2 D2 h2 => h2.ret R2 ⟨D1.mono l2, D2⟩⟩⟩
theorem aslot {x : Str} (i : Nat) (hr : PA X es (tA X.K X.mg X.w T W k)) (hN : X.N[i]? = some x := by rfl) (hv : Vis X.env.scope x := by first | exact Or.inl rfl | exact Or.inr (Or.inl rfl) | exact Or.inr (Or.inr rfl)) (hd : (x == ("__debug__" : Str)) = false := by decide)
    (hcd : (x == ("__classdict__" : Str)) = false := by decide) (hs : starEach (.Name x pos :: es) X.env = (false, eval (.Name x pos) X.env) :: starEach es X.env := by rfl) : PA X (.Name x pos :: es) (tA X.K X.mg X.w T W (slotA i k)) := convA (pa_cons (pv i hN hv hd hcd) hr hs) fun σ H Q ⟨B, F, e, R, h⟩ => by
  unfold slotA at h
  split at h
  · rename_i s hs
    by_cases ht : s.hot = true
    · rw [if_pos ht] at h
      obtain ⟨a, o, e1, _⟩ := R.hot hs ht
      exact ⟨_, e1, B, F, e, R, h.step fun F2 e2 ds xs H2 l2 R2 D2 h2 => h2.ret R2 ⟨e1, D2⟩⟩
    · rw [if_neg ht] at h
      exact h.elim
  · exact h.elim
end
end L2.PV

set_option Elab.async false
set_option linter.all false
set_option maxRecDepth 100000
set_option autoImplicit false
/-! Defs that are called where no repr is under way: the promise of the hand layer's FnOk, with that one fact more. -/
namespace L2.PV
open PySem PySem.Spec PyProof.Rows LamX
structure FnG (P : Program) (w : World) (K : PySem.W.Frag) (mg : MG) (base : Heap) (CX : CXT) (k : Nat) (f : Addr) (fd : FuncData) (ps : List Str) (sp : Sp) : Prop where
  len : ∀ vs H Q E, sp vs H Q E → vs.length = ps.length
  run : ∀ (A : Around) (outer : List Env) (s : Shared) (H : Hp) (args : Args) (us : List Value) (vs : List V) (Q : VK) (E : XK), A.guards = some [] → Room k A → Env0 P w K mg base A outer s H → BindsTo s fd args (ps.zip us) → Vals vs us → sp vs H Q E →
    codeAny (model P w) A (.call (.ref f) args) (CR CX outer P w H s Q E) s
/-- one call of a def by its body, at one place -/
theorem run_at {CX : CXT} {P : Program} {w : World} {K : PySem.W.Frag} {mg : MG} {base : Heap} {k : Nat} {f : Addr} {name qual : Str} {params : Arguments} {body : List Stmt} {scope : Scope} {dV kV doc pm cdv ct oc : Value} {an od : Option Addr} {osl : Array (Option Value)} {N ps : List Str}
    {A : Around} {outer : List Env} {s : Shared} {H : Hp} {args : Args} {us : List Value} {vs : List V} {Q : VK} {E : XK}
    (lk : K.lookup f = some ⟨oc, od, .func (PySem.W.fnOf name qual params body scope dV kV doc pm an cdv ct), osl⟩) (hcd : PySem.W.codeIn K cdv qual = true) (S : FnScope N ps scope) (hr : Room (k + 1) A) (e0 : Env0 P w K mg base A outer s H)
    (hb : BindsTo s (PySem.W.fnOf name qual params body scope dV kV doc pm an cdv ct) args (ps.zip us)) (r : Vals vs us) (hl : vs.length = ps.length)
    (hbody : Room k (A.deeper (envOfC qual scope s.heap.objs.size f cdv)) → ∃ t, PSs (cxOf CX P w K mg base N qual scope f cdv A outer s H E) body t ∧ t { nx := fun _ H' => Q .non H', rt := Q } (L2.start N vs) H) :
    codeAny (model P w) A (.call (.ref f) args) (CR CX outer P w H s Q E) s := by
  have grown := fun (b : Addr) (o : Obj) e => (e0.bs b o e).1
  have KX : K.In s.heap := e0.mod.kin.keeps grown
  have kinds : ∀ y ∈ ps.zip us, scope.names.lookup y.1 = some .local ∨ (scope.names.lookup y.1 = some .cell ∧ ((cellsFrom (s.heap.objs.size + 1) scope.names []).lookup y.1).isSome = true) := by
    rintro ⟨n, v⟩ hy
    exact (S.par n (List.of_mem_zip hy).1).imp id fun q => ⟨q, PySem.W.cellsFrom_some _ _ _ (.inl q)⟩
  refine codeAny_call_function hr.depth (KX _ _ lk) rfl S.co S.gen rfl (PySem.W.codeRec_of KX hcd) (hb _ _ _ _ (wpAny_newFunctionEnv_cells S.kind kinds ?_))
  rintro env rfl s1 x
  refine ⟨(e0.mod.nolimit.keeps grown).keeps x.toInCall.keep, codeAny_func ?_⟩
  obtain ⟨t, ht, hq⟩ := hbody (hr.deeper _)
  refine wpAny_mono (ht.run [] s1 (L2.start N vs) H _ (inv_start S hr.hd e0 hl r x) hq) (fun fl s' hs => ?_) fun e s' hs => hs
  cases fl with
  | ret u => obtain ⟨v, σ', H', J, rv, q⟩ := hs; exact ⟨v, H', J.os, J.bare, J.base, J.hok, rv, q⟩
  | next => obtain ⟨σ', H', J, q⟩ := hs; exact ⟨.non, H', J.os, J.bare, J.base, J.hok, rfl, q⟩
  | brk => obtain ⟨_, _, _, q⟩ := hs; exact q.elim
  | cont => obtain ⟨_, _, _, q⟩ := hs; exact q.elim
theorem fnG_of {CX : CXT} {P : Program} {w : World} {K : PySem.W.Frag} {mg : MG} {base : Heap} {k : Nat} {f : Addr} {name qual : Str} {params : Arguments} {body : List Stmt} {scope : Scope} {dV kV doc pm cdv ct oc : Value} {an od : Option Addr} {osl : Array (Option Value)} {N ps : List Str} {sp : Sp}
    (lk : K.lookup f = some ⟨oc, od, .func (PySem.W.fnOf name qual params body scope dV kV doc pm an cdv ct), osl⟩) (hcd : PySem.W.codeIn K cdv qual = true) (S : FnScope N ps scope) (len : ∀ vs H Q E, sp vs H Q E → vs.length = ps.length)
    (hbody : ∀ (A : Around) (outer : List Env) (s : Shared) (H : Hp) (vs : List V) (Q : VK) (E : XK), A.guards = some [] → Room k (A.deeper (envOfC qual scope s.heap.objs.size f cdv)) → sp vs H Q E →
      ∃ t, PSs (cxOf CX P w K mg base N qual scope f cdv A outer s H E) body t ∧ t { nx := fun _ H' => Q .non H', rt := Q } (L2.start N vs) H) :
    FnG P w K mg base CX (k + 1) f (PySem.W.fnOf name qual params body scope dV kV doc pm an cdv ct) ps sp :=
  ⟨len, fun A outer s H args us vs Q E g hr e0 hb r h => run_at lk hcd S hr e0 hb r (len _ _ _ _ h) fun hr' => hbody A outer s H vs Q E g hr' h⟩
section
variable {X : Cx} {CX : CXT} {k : Nat} {f : Addr} {fd : FuncData} {ps : List Str} {sp : Sp} {E : L2.St → XK} {x : Str} {p pos : Pos} {e : Expr} {es : List Expr} {t : TA}
theorem FnG.call (F : FnG X.prog X.w X.K X.mg X.base CX k f fd ps sp) (g : X.A.guards = some []) (hr : Room k X.A) (hb : L2.Binds X.K fd ps []) {pins : List (Addr × Obj)} {σ : L2.St} {H : Hp} {s : Shared} {Q : VK} {us : List Value} {vs : List V} (hx : PassesAt CX X σ (E σ))
    (I : Inv X pins σ H s) (r : Vals vs us) (h : sp vs H Q (E σ)) : wpAny (model X.prog X.w) X.A (call (.ref f) us) (EP X pins σ Q) X.xe s := by
  have b := hb s us I.kIn (by rw [List.append_nil, ← r.length]; exact F.len _ _ _ _ h)
  rw [List.append_nil] at b
  refine wpAny_call (codeAny_mono (F.run X.A X.stack s H ⟨us, []⟩ us vs Q (E σ) g hr I.env0 b r h) fun r s' hq => ?_)
  match r, hq with
  | .error e, hq => exact hx pins H s e s' I hq
  | .ok (.ret u), hq => exact I.after hq
  | .ok .next, hq => exact hq.elim
  | .ok .brk, hq => exact hq.elim
  | .ok .cont, hq => exact hq.elim
theorem pe_callG (F : FnG X.prog X.w X.K X.mg X.base CX k f fd ps sp) (g : X.A.guards = some []) (hr : Room k X.A) (hg : Gl X x) (hm : X.mg x = some (.ref f)) (hk : PySem.W.keepIn X.K (.ref f) = true) (hb : L2.Binds X.K fd ps []) (hx : ∀ σ, PassesAt CX X σ (E σ))
    (ha : PA X (e :: es) t) (hdb : (x == ("__debug__" : Str)) = false := by decide) (he : starEach (e :: es) X.env = (false, eval e X.env) :: starEach es X.env := by rfl) (hpl : (backTo pos (starEach es X.env)).any (·.1) = false := by rfl) :
    PE X (.Call (.Name x p) (e :: es) [] pos) (tCallS sp E t) := ⟨fun pins s σ H Q I h =>
  wpAny_Call_Name_kw (ld_glob I hg hm (PySem.W.callWith_K (h₀ := X.base) I.ok.mod.kin hk (thn (ha.run pos pins s σ H _ I h) fun us s1 ⟨vs, H1, I1, r, q⟩ => ⟨I1.kIn, F.call g hr hb (hx σ) I1 r q⟩) he hpl) hdb)⟩
end
/-! ### lambdas there -/
section
variable {X : Cx} {pins : List (Addr × Obj)} {σ : L2.St} {H : Hp} {s : Shared}
theorem act_at {CXg : CXT} {Eg : XK} {Ng : List Str} {qg : Str} {sg : Scope} {g f c' : Addr} {cdg pm ctv : Value} {params : Arguments} {body : Expr} {scope : Scope} {k i : Nat} {a : Str} {pn : List (Addr × Obj)} {xe : Value → Shared → Prop} {W : WX} {E : XK} {tb : TE} {p1 p2 : Pos}
    (I : Inv X pins σ H s) (L : LamS X.env.scope scope) (hf : s.heap.get? f = some (PySem.W.kla_obj "<lambda>" (X.env.qual ++ "<lambda>") params body scope (cloFrom X.env.cells scope.names []) pm c' ctv)) (hfn : H f = none) (hfr : f ∉ frs X.stack)
    (hbind : bindArgs (PySem.W.kla_fn "<lambda>" (X.env.qual ++ "<lambda>") params body scope (cloFrom X.env.cells scope.names []) pm (.ref c') ctv) ⟨[], []⟩ = pure [])
    (tk : Takes ((cxOf CXg X.prog X.w X.K X.mg X.base Ng qg sg g cdg X.A X.stack s H Eg).tr pn xe) W) (hW : ∀ cls d σ' H', E cls d H' → W cls d σ' H') (hr : Room (k + 1) (X.A.deeper (envOfC qg sg s.heap.objs.size g cdg)))
    (hbody : ∀ (outer : List Env) (s1 : Shared) (H1 : Hp), Room k ((X.A.deeper (envOfC qg sg s.heap.objs.size g cdg)).deeper (lamEnv X scope s1.heap.objs.size f c')) → PE (lamCx X (X.A.deeper (envOfC qg sg s.heap.objs.size g cdg)) outer s1 H1 E scope f c') body tb)
    (hN : Ng[i]? = some a) (hv : Vis sg a) (hd : (a == ("__debug__" : Str)) = false) (hcd : (a == ("__classdict__" : Str)) = false) :
    PE ((cxOf CXg X.prog X.w X.K X.mg X.base Ng qg sg g cdg X.A X.stack s H Eg).tr pn xe) (.Call (.Name a p1) [] [] p2)
      (fun σZ HZ Q => σZ[i]? = some (some (.ref f)) ∧ HZ c' = some (CodeO c' (X.env.qual ++ "<lambda>")) ∧ tb σ HZ Q) := by
  refine ⟨fun pinsZ sZ σZ HZ Q IZ ⟨hs, hc, ht⟩ => wpAny_Call_Name_kw (thn ((pe_var (pos := p1) (i := i) hN hv hd hcd).run pinsZ sZ σZ HZ (fun v H1 => v = .ref f ∧ H1 = HZ) IZ ⟨.ref f, hs, rfl, rfl⟩) ?_)⟩
  rintro u s1 ⟨v, H1, I1, r1, rfl, rfl⟩
  obtain rfl : u = Value.ref f := r1
  have here := I1.base.keep f _ hf hfn hfr (fun z => nomatch (show f ∈ ([] : List Addr) from z))
  obtain ⟨⟨oc, vs, t, hoc, hdc, hvc⟩, _, _⟩ := I1.hok c' _ hc
  have hx : Passes (L2.CX X.prog X.w) ((cxOf CXg X.prog X.w X.K X.mg X.base Ng qg sg g cdg X.A X.stack s H Eg).tr pn xe) E := passes_call tk hW
  have ran : codeAny (model X.prog X.w) (X.A.deeper (envOfC qg sg s.heap.objs.size g cdg)) (.call (.ref f) ⟨[], []⟩) (CR (L2.CX X.prog X.w) (envOfC qg sg s.heap.objs.size g cdg :: X.stack) X.prog X.w H1 s1 Q E) s1 := by
    refine PySem.W.kla_callFunE hr.depth here rfl L.co L.gen rfl ⟨c', oc, vs, t, rfl, hoc, hdc, hvc⟩ ?_
    rw [hbind]
    refine wpAny_pure (wpAny_newFunctionEnv (fun y hy => (L.own y hy).2) (fun y hy => absurd hy (by simp)) (fun h₁ hns hsb => ⟨I1.nolimit.fresh _ hsb, ?_⟩) L.kind)
    show codeAny _ _ (.expr body (lamEnv X scope s1.heap.objs.size f c')) _ _
    have J : Inv (lamCx X (X.A.deeper (envOfC qg sg s.heap.objs.size g cdg)) (envOfC qg sg s.heap.objs.size g cdg :: X.stack) s1 H1 E scope f c') [] σ H1 { s1 with heap := h₁, toks := s1.toks + ([] : List (Str × Value)).length } :=
      lam_start2 I L I1.env0 hr.hd I1.base hns fun b o e => hsb.extBut b o (Nat.ne_of_lt (Heap.lt_size e)) (Heap.get?_push_of_some _ e)
    exact PySem.W.kla_codeExpr (wpAny_mono ((hbody _ s1 H1 (hr.deeper _)).run [] _ _ H1 Q J ht) (fun v s' ⟨w', H', J', rv, q⟩ => ⟨w', H', J'.os, J'.bare, J'.base, J'.hok, rv, q⟩) fun e s' hq => hq)
  refine PySem.W.callWith_F0 ⟨_, _, _, _, here⟩ (wpAny_call (codeAny_mono ran fun r s' hq => ?_))
  match r, hq with
  | .error e, hq => exact hx pinsZ σZ H1 s1 e s' I1 hq
  | .ok (.ret u), hq => exact I1.after hq
  | .ok .next, hq => exact hq.elim
  | .ok .brk, hq => exact hq.elim
  | .ok .cont, hq => exact hq.elim
end
section
variable {X : Cx}
/-- x(lambda: body), x's def calling what it gets -/
theorem pe_lamG {T : List (Addr × Str)} {TT : (XK → Hp → VK → Prop) → Hp → VK → Prop} {x a : Str} {g c P : Addr} {k : Nat} {pg : Arguments} {bg : List Stmt} {sg : Scope} {dV kV doc pm cdv ct oc : Value} {an od : Option Addr} {osl : Array (Option Value)} {Ng : List Str}
    {params : Arguments} {body : Expr} {scope : Scope} {t : XK → TE} {p lpos pos : Pos} (gd : X.A.guards = some []) (hg : Gl X x) (hm : X.mg x = some (.ref g)) (hk : PySem.W.keepIn X.K (.ref g) = true)
    (lk : X.K.lookup g = some ⟨oc, od, .func (PySem.W.fnOf x x pg bg sg dV kV doc pm an cdv ct), osl⟩) (hcg : PySem.W.codeIn X.K cdv x = true) (hb : L2.Binds X.K (PySem.W.fnOf x x pg bg sg dV kV doc pm an cdv ct) [a] []) (Sg : FnScope Ng [a] sg) (hNg : Ng[0]? = some a) (hva : Vis sg a)
    (hG : GivesTo X Ng x sg g cdv bg a (X.env.qual ++ "<lambda>") TT)
    (TB : TabB X.base X.mg c P) (hcode : X.env.code = .ref c) (hmT : (P, X.env.qual ++ "<lambda>") ∈ T) (hu : ∀ p ∈ T, p.1 = P → p.2 = X.env.qual ++ "<lambda>") (hr : Room (k + 2) X.A) (L : LamS X.env.scope scope) (hdef : defaultsOf params X.env = ([], []))
    (hbind : ∀ (q : Str) (cl : List (Str × Addr)) (pm cv ctv : Value), bindArgs (PySem.W.kla_fn "<lambda>" q params body scope cl pm cv ctv) ⟨[], []⟩ = pure [])
    (hbody : ∀ (A : Around) (outer : List Env) (s : Shared) (H : Hp) (E : XK) (f c' : Addr), A.guards = some [] → Room k (A.deeper (lamEnv X scope s.heap.objs.size f c')) → PE (lamCx X A outer s H E scope f c') body (t E))
    (hdb : (x == ("__debug__" : Str)) = false) (hd : (a == ("__debug__" : Str)) = false) (hcd : (a == ("__classdict__" : Str)) = false) :
    PE X (.Call (.Name x p) [.Lambda params body scope lpos] [] pos) (tLam T TT t) := by
  refine ⟨fun pins s σ H Q I ⟨hT, h⟩ => wpAny_Call_Name_kw (ld_glob I hg hm (PySem.W.callWith_K (h₀ := X.base) I.ok.mod.kin hk ?_ (by rfl) (by rfl)) hdb)⟩
  show wpAny _ _ (spliced ((false, eval (.Lambda params body scope lpos) X.env) :: backTo pos (starEach [] X.env))) _ _ s
  refine Calls.spliced_cons (lam_make2 I TB hcode hmT hu hT hdef (L.has I.ok) fun f c' pm' ctv H1 s' I1 eN T1 hf hfn hfr hco => Calls.spliced_nil ⟨I1.kIn, ?_⟩)
  refine wpAny_call (codeAny_mono (run_at (E := C8.E0) (Q := Q) (CX := C8.CX0) (N := Ng) (ps := [a]) (us := [.ref f]) (vs := [.ref f]) lk hcg Sg hr I1.env0 (hb s' [.ref f] I1.kIn rfl) (.cons rfl .nil) rfl fun hr' => ?_) fun r s2 hq => ?_)
  · obtain ⟨t', ht', hq'⟩ := hG f c' s' H1 Q (fun E H' Q' => t E σ H' Q') (fun W pn xe E p1 p2 tk hW => act_at (i := 0) I1 L hf hfn hfr (hbind _ _ _ _ _) tk hW hr' (fun outer s1 H2 hr2 => hbody _ outer s1 H2 E f c' gd hr2) hNg hva hd hcd) hco (h H1 eN T1)
    exact ⟨t', ht'.nox, hq'⟩
  · match r, hq with
    | .error e, hq => exact (show False from hq).elim
    | .ok (.ret u), hq => exact I1.after hq
    | .ok .next, hq => exact hq.elim
    | .ok .brk, hq => exact hq.elim
    | .ok .cont, hq => exact hq.elim
end
end L2.PV

set_option Elab.async false
set_option linter.all false
set_option maxRecDepth 100000
set_option autoImplicit false
namespace L2.PV
open PySem PySem.Spec PyProof.Rows

/-- where a term stands -/
structure Cc (X : Cx) (W : WX) (k : Nat) : Prop where
  calm : X.calm = true
  tk : Takes X W
  po : PassesOwn (model X.prog X.w) X.A X.env X.xe
  room : Room k X.A
  nd : X.N.Nodup
  gd : X.A.guards = some []

/-! ### a new object of one's own -/
section
variable (K : PySem.W.Frag) (mg : MG) (w : World) (W : WX) {T : Tb} (B : Bs T) (σ : St)
def PostN (F : Hp) (r : Res D) (Q : VK) : Prop := match r with
  | .ok c e => ∀ F' a H', Le F F' → Rel K mg w B F' e σ H' → F' a = none → B.H0 a = none → Cont K mg w F' H' a c → (∀ (j : Nat) (s : Sl), e[j]? = some s → s.hot = true → σ[j]? ≠ some (some (.ref a))) → Q (.ref a) H'
  | .exc x e => ∀ F' c dd H', Le F F' → Rel K mg w B F' e σ H' → DenX K mg w F' x c dd → W c dd σ H'
  | .bad => False
end
section
variable (K : PySem.W.Frag) (mg : MG) (w : World) (T : Tb) (W : WX)
def tN (g : En → Res D) : TE := fun σ H Q => ∃ (B : Bs T) (F : Hp) (e : En), Rel K mg w B F e σ H ∧ PostN K mg w W B σ F (g e) Q
end
section
variable {K : PySem.W.Frag} {mg : MG} {w : World} {W : WX} {T : Tb} {B : Bs T} {σ : St} {F G H : Hp} {r : Res D} {Q : VK} {e : En}
theorem PostN.le (h : PostN K mg w W B σ F r Q) (s : Le F G) : PostN K mg w W B σ G r Q := by
  cases r with
  | ok a e => exact fun F' b H' l => h F' b H' (s.trans l)
  | exc x e => exact fun F' c dd H' l => h F' c dd H' (s.trans l)
  | bad => exact h
theorem Post.toN (h : Post K mg w W B σ (Den K mg w) F r Q) : PostN K mg w W B σ F r Q := by
  cases r with
  | ok a e =>
    intro F' b H' l R n n0 c hn
    obtain ⟨o, e4, hd, ht⟩ := Cont.den c n
    exact h _ _ _ (l.trans (.upd n)) (R.freezeAt e4 n n0 hn ht) hd
  | exc x e => exact h
  | bad => exact h
theorem PostN.step {α β : Type} {R : Hp → α → β → Prop} {r : Res α} {k : α → En → Res D} {KK : β → Hp → Prop} {Q' : VK} (h : PostN K mg w W B σ F (r.bind k) Q')
    (f : ∀ F1 e1 a b H1, Le F F1 → Rel K mg w B F1 e1 σ H1 → R F1 a b → PostN K mg w W B σ F1 (k a e1) Q' → KK b H1) : Post K mg w W B σ R F r KK := by
  cases r with
  | ok a e => exact fun F' b H' l R1 hR => f F' e a b H' l R1 hR (PostN.le h l)
  | exc x e => exact h
  | bad => exact h
theorem PostN.lift {o : Option D} (h : PostN K mg w W B σ F (lift o e) Q) : ∃ a, o = some a ∧ PostN K mg w W B σ F (.ok a e) Q := by
  cases o with
  | none => exact h.elim
  | some a => exact ⟨a, rfl, h⟩
/-- the end: a list newly laid -/
theorem PostN.new {c : D} {o : HO} (h : PostN K mg w W B σ F (.ok c e) Q) (hR : Rel K mg w B F e σ H) (p : Addr) (hp : H p = none) (hc : Cont K mg w F (upd H p o) p c) : Q (.ref p) (upd H p o) :=
  h F p _ (Le.refl F) (hR.grow hp) (hR.sub.free hp) (hR.none0 hp) hc fun j s h1 h2 h3 => by
    obtain ⟨a, u, e1, _, e3, _⟩ := hR.hot h1 h2
    rw [e1] at h3; cases h3
    rw [hp] at e3; cases e3
theorem PostN.newL {ds : List D} {vs : List V} (h : PostN K mg w W B σ F (.ok (.lst ds) e) Q) (hR : Rel K mg w B F e σ H) (hd : DenL K mg w F ds vs) : ∀ p, H p = none → Q (.ref p) (upd H p (.lst vs)) :=
  fun p hp => h.new hR p hp ⟨vs, upd_same, hd⟩
theorem Post.newT {ds : List D} {vs : List V} (h : Post K mg w W B σ (Den K mg w) F (.ok (.tup ds) e) Q) (hR : Rel K mg w B F e σ H) (hd : DenL K mg w F ds vs) : ∀ p, H p = none → Q (.ref p) (upd H p (.tup vs)) :=
  fun p hp => h.new hR (.ref p) p hp fun l => .tup (.inl upd_same) (hd.mono l)
end
section
variable {X : Cx} {T : Tb} {W : WX} {a b c : Expr} {g ga gb gc : En → Res D} {hA hB : En → Res Bool} {pos : Pos} {es rest : List Expr} {k : En → Res (List Ar)} {n : Nat}
theorem nE {x : Expr} (h : PE X x (tN X.K X.mg X.w T W g)) : PE X x (tE X.K X.mg X.w T W g) := conv h fun σ H Q ⟨B, F, e, R, h⟩ => ⟨B, F, e, R, h.toN⟩
def valsOf : List Ar → Option (List D)
  | [] => some []
  | .v d :: r => (valsOf r).map (d :: ·)
  | .s _ :: _ => none
theorem valsOf_den {K : PySem.W.Frag} {mg : MG} {w : World} {σ : St} {F : Hp} : ∀ {as : List Ar} {ds : List D} {vs : List V}, valsOf as = some ds → ArsOk K mg w σ F as vs → DenL K mg w F ds vs
  | [], _, [], h, _ => by cases h; exact .nil
  | .v d :: r, _, v :: vs, h, ⟨h1, h2⟩ => by
    unfold valsOf at h
    cases q : valsOf r with
    | none => rw [q] at h; cases h
    | some ds => rw [q] at h; cases h; exact .cons h1 (valsOf_den q h2)
  | .s _ :: _, _, _, h, _ => by cases h
  | [], _, _ :: _, _, h => h.elim
  | .v _ :: _, _, [], _, h => h.elim
def lstG (k : En → Res (List Ar)) : En → Res D := fun e => (k e).bind fun as e1 => lift ((valsOf as).bind fun ds => if ds.length ≤ sizeLine then some (.lst ds) else none) e1
def tupG (k : En → Res (List Ar)) : En → Res D := fun e => (k e).bind fun as e1 => lift ((valsOf as).bind fun ds => if ds.length ≤ sizeLine then some (.tup ds) else none) e1
theorem nlst (h : PA X es (tA X.K X.mg X.w T W k)) : PE X (.List es pos) (tN X.K X.mg X.w T W (lstG k)) := conv (pe_lst h) fun σ H Q ⟨B, F, e, R, h⟩ =>
  ⟨B, F, e, R, h.step fun F1 e1 as vs H1 l1 R1 D1 h1 => by
    obtain ⟨c, hc, h2⟩ := h1.lift
    cases q : valsOf as with
    | none => rw [q] at hc; cases hc
    | some ds =>
      rw [q] at hc
      have hd := valsOf_den q D1
      simp only [Option.bind_some] at hc
      split at hc
      · rename_i hl
        cases hc
        exact ⟨by rw [← hd.length]; exact hl, h2.newL R1 hd⟩
      · cases hc⟩
theorem elst (h : PA X es (tA X.K X.mg X.w T W k)) : PE X (.List es pos) (tE X.K X.mg X.w T W (lstG k)) := nE (nlst h)
theorem etup {x1} (h : PA X es (tA X.K X.mg X.w T W k)) : PE X (.Tuple es x1 pos) (tE X.K X.mg X.w T W (tupG k)) := conv (pe_tup h) fun σ H Q ⟨B, F, e, R, h⟩ =>
  ⟨B, F, e, R, h.step fun F1 e1 as vs H1 l1 R1 D1 h1 => by
    obtain ⟨c, hc, h2⟩ := h1.lift
    cases q : valsOf as with
    | none => rw [q] at hc; cases hc
    | some ds =>
      rw [q] at hc
      have hd := valsOf_den q D1
      simp only [Option.bind_some] at hc
      split at hc
      · rename_i hl
        cases hc
        exact ⟨by rw [← hd.length]; exact hl, h2.newT R1 hd⟩
      · cases hc⟩

/-! ### built-in functions -/
/-- a built-in's rule by pure values -/
def CaD (K : PySem.W.Frag) (mg : MG) (w : World) (r : List V → Hp → VK → Prop) (f : List D → Option D) : Prop :=
  ∀ (T : Tb) (W : WX) (B : Bs T) (F : Hp) (e : En) (σ : St) (H : Hp) (as : List D) (xs : List V) (Q : VK) (c : D), Rel K mg w B F e σ H → DenL K mg w F as xs → f as = some c → Post K mg w W B σ (Den K mg w) F (.ok c e) Q → r xs H Q
def CaN (K : PySem.W.Frag) (mg : MG) (w : World) (r : List V → Hp → VK → Prop) (f : List D → Option D) : Prop :=
  ∀ (T : Tb) (W : WX) (B : Bs T) (F : Hp) (e : En) (σ : St) (H : Hp) (as : List D) (xs : List V) (Q : VK) (c : D), Rel K mg w B F e σ H → DenL K mg w F as xs → f as = some c → PostN K mg w W B σ F (.ok c e) Q → r xs H Q
def bltG (f : List D → Option D) (k : En → Res (List Ar)) : En → Res D := fun e => (k e).bind fun as e1 => lift ((valsOf as).bind f) e1
end
theorem bind_some' {α β : Type} {o : Option α} {f : α → Option β} {c : β} (h : o.bind f = some c) : ∃ a, o = some a ∧ f a = some c := by
  cases o with
  | none => cases h
  | some a => exact ⟨a, rfl, h⟩
section
variable {X : Cx} {T : Tb} {W : WX} {e : Expr} {es : List Expr} {k : En → Res (List Ar)} {r : List V → Hp → VK → Prop} {f : List D → Option D} {id Ty : String} {x : Str} {p pos : Pos}
theorem convCB {x : Expr} (h : PE X x (tCB r (tA X.K X.mg X.w T W k))) (hr : CaD X.K X.mg X.w r f) : PE X x (tE X.K X.mg X.w T W (bltG f k)) := conv h fun σ H Q ⟨B, F, e, R, h⟩ =>
  ⟨B, F, e, R, h.step fun F1 e1 as vs H1 l1 R1 D1 h1 => by
    obtain ⟨c, hc, h2⟩ := h1.lift
    obtain ⟨ds, h3, h4⟩ := bind_some' hc
    exact hr T W B F1 e1 σ H1 ds vs Q c R1 (valsOf_den h3 D1) h4 h2⟩
theorem convCN {x : Expr} (h : PE X x (tCB r (tA X.K X.mg X.w T W k))) (hr : CaN X.K X.mg X.w r f) : PE X x (tN X.K X.mg X.w T W (bltG f k)) := conv h fun σ H Q ⟨B, F, e, R, h⟩ =>
  ⟨B, F, e, R, h.step fun F1 e1 as vs H1 l1 R1 D1 h1 => by
    obtain ⟨c, hc, h2⟩ := h1.lift
    obtain ⟨ds, h3, h4⟩ := bind_some' hc
    exact hr T W B F1 e1 σ H1 ds vs Q c R1 (valsOf_den h3 D1) h4 h2⟩
theorem ecallB (hc : CallR X (.builtin id) r) (hr : CaD X.K X.mg X.w r f) (hg : Gl X x) (hm : X.mg x = none) (ha : PA X (e :: es) (tA X.K X.mg X.w T W k)) (hv : bootBuiltins x = some (.builtin id) := by decide +kernel) (hn : x ≠ "__name__" := by decide) (hdb : (x == ("__debug__" : Str)) = false := by decide)
    (he : starEach (e :: es) X.env = (false, eval e X.env) :: starEach es X.env := by rfl) (hpl : (backTo pos (starEach es X.env)).any (·.1) = false := by rfl) : PE X (.Call (.Name x p) (e :: es) [] pos) (tE X.K X.mg X.w T W (bltG f k)) :=
  convCB (pe_callB hc hg hm hv ha hn hdb he hpl) hr
theorem ecallTy (hc : CallR X (.type Ty) r) (hr : CaD X.K X.mg X.w r f) (hg : Gl X x) (hm : X.mg x = none) (ha : PA X (e :: es) (tA X.K X.mg X.w T W k)) (hv : bootBuiltins x = some (.type Ty) := by decide +kernel) (hn : x ≠ "__name__" := by decide) (hdb : (x == ("__debug__" : Str)) = false := by decide)
    (he : starEach (e :: es) X.env = (false, eval e X.env) :: starEach es X.env := by rfl) (hpl : (backTo pos (starEach es X.env)).any (·.1) = false := by rfl) : PE X (.Call (.Name x p) (e :: es) [] pos) (tE X.K X.mg X.w T W (bltG f k)) :=
  convCB (pe_callTy hc hg hm hv ha hn hdb he hpl) hr
theorem ncallB (hc : CallR X (.builtin id) r) (hr : CaN X.K X.mg X.w r f) (hg : Gl X x) (hm : X.mg x = none) (ha : PA X (e :: es) (tA X.K X.mg X.w T W k)) (hv : bootBuiltins x = some (.builtin id) := by decide +kernel) (hn : x ≠ "__name__" := by decide) (hdb : (x == ("__debug__" : Str)) = false := by decide)
    (he : starEach (e :: es) X.env = (false, eval e X.env) :: starEach es X.env := by rfl) (hpl : (backTo pos (starEach es X.env)).any (·.1) = false := by rfl) : PE X (.Call (.Name x p) (e :: es) [] pos) (tN X.K X.mg X.w T W (bltG f k)) :=
  convCN (pe_callB hc hg hm hv ha hn hdb he hpl) hr
theorem ncallTy (hc : CallR X (.type Ty) r) (hr : CaN X.K X.mg X.w r f) (hg : Gl X x) (hm : X.mg x = none) (ha : PA X (e :: es) (tA X.K X.mg X.w T W k)) (hv : bootBuiltins x = some (.type Ty) := by decide +kernel) (hn : x ≠ "__name__" := by decide) (hdb : (x == ("__debug__" : Str)) = false := by decide)
    (he : starEach (e :: es) X.env = (false, eval e X.env) :: starEach es X.env := by rfl) (hpl : (backTo pos (starEach es X.env)).any (·.1) = false := by rfl) : PE X (.Call (.Name x p) (e :: es) [] pos) (tN X.K X.mg X.w T W (bltG f k)) :=
  convCN (pe_callTy hc hg hm hv ha hn hdb he hpl) hr
end

/-! ### methods of values -/
def MeD (K : PySem.W.Frag) (mg : MG) (w : World) (Ty : String) (r : V → List V → Hp → VK → Prop) (f : D → List D → Option D) : Prop :=
  ∀ (T : Tb) (W : WX) (B : Bs T) (F : Hp) (e : En) (σ : St) (H : Hp) (d : D) (x : V) (as : List D) (xs : List V) (Q : VK) (c : D), Rel K mg w B F e σ H → Den K mg w F d x → DenL K mg w F as xs → f d as = some c → Post K mg w W B σ (Den K mg w) F (.ok c e) Q → r x xs H Q
def MeN (K : PySem.W.Frag) (mg : MG) (w : World) (Ty : String) (r : V → List V → Hp → VK → Prop) (f : D → List D → Option D) : Prop :=
  ∀ (T : Tb) (W : WX) (B : Bs T) (F : Hp) (e : En) (σ : St) (H : Hp) (d : D) (x : V) (as : List D) (xs : List V) (Q : VK) (c : D), Rel K mg w B F e σ H → Den K mg w F d x → DenL K mg w F as xs → f d as = some c → PostN K mg w W B σ F (.ok c e) Q → r x xs H Q
/-- a value is of a built-in type -/
def tyD (Ty : String) : D → Bool
  | .str _ => Ty == "str"
  | .int _ => Ty == "int"
  | .lst _ => Ty == "list"
  | .dct _ => Ty == "dict"
  | _ => false
theorem tyD_ok {K : PySem.W.Frag} {mg : MG} {w : World} {F H : Hp} {Ty : String} {d : D} {x : V} (s : Sub F H) (h : Den K mg w F d x) (t : tyD Ty d = true) (nl : ∀ kvs, d ≠ .dct kvs) : tyV K Ty x H := by
  cases h with
  | str z => exact beq_iff_eq.mp t
  | int z => exact beq_iff_eq.mp t
  | lst h l => exact .inl ⟨beq_iff_eq.mp t, _, h.seq s⟩
  | dct h l => exact absurd rfl (nl _)
  | _ => cases t
def metG (Ty : String) (f : D → List D → Option D) (g : En → Res D) (k : En → Res (List Ar)) : En → Res D := fun e => (g e).bind fun d e1 => match d with
  | .dct _ => .bad
  | d => if tyD Ty d = true then (k e1).bind fun as e2 => lift ((valsOf as).bind (f d)) e2 else .bad
end L2.PV

set_option Elab.async false
set_option linter.all false
set_option maxRecDepth 100000
set_option autoImplicit false
namespace L2.PV
open PySem PySem.Spec PyProof.Rows

section
variable {X : Cx} {T : Tb} {W : WX} {o e : Expr} {es : List Expr} {g : En → Res D} {k : En → Res (List Ar)} {r : V → List V → Hp → VK → Prop} {f : D → List D → Option D} {id Ty : String} {name : Str} {apos cpos : Pos}
theorem emet (pa : PlainAttrs Ty) (slot : Slot Ty name id) (hty : typeOf (.builtin id) = pure (.type "method_descriptor")) (hm : MtR X id r) (hr : MeD X.K X.mg X.w Ty r f) (ho : PE X o (tE X.K X.mg X.w T W g)) (ha : PA X (e :: es) (tA X.K X.mg X.w T W k))
    (hbase : attributeBase o name X.env (eval o X.env) = eval o X.env := by rfl)
    (hfew : ((backTo cpos (starEach (e :: es) X.env)).all (fun x => !x.1) && (backToKw cpos (keywordEach [] X.env)).all (fun x => x.1.isSome)
      && decide ((e :: es).length + ([] : List Keyword).length + (if ([] : List Keyword).isEmpty then 0 else 1) < 30)) = true := by rfl)
    (hline : (apos.endLine == cpos.line) = true := by rfl) (hs : starEach (e :: es) X.env = (false, eval e X.env) :: starEach es X.env := by rfl) (hplain : (backTo cpos (starEach es X.env)).any (·.1) = false := by rfl) :
    PE X (.Call (.Attribute o name apos) (e :: es) [] cpos) (tE X.K X.mg X.w T W (metG Ty f g k)) := conv (pe_bm pa slot hty hm ho ha hbase hfew hline hs hplain) fun σ H Q ⟨B, F, e, R, h⟩ =>
  ⟨B, F, e, R, h.step fun F1 e1 d x H1 l1 R1 D1 h1 => by
    split at h1
    · exact h1.elim
    · rename_i nd
      by_cases ht : tyD Ty d = true
      · rw [if_pos ht] at h1
        refine ⟨tyD_ok R1.sub D1 ht fun kvs => nd kvs, B, F1, e1, R1, h1.step fun F2 e2 as vs H2 l2 R2 D2 h2 => ?_⟩
        obtain ⟨c, hc, h3⟩ := h2.lift
        obtain ⟨ds, h4, h5⟩ := bind_some' hc
        exact hr T W B F2 e2 σ H2 d x ds vs Q c R2 (D1.mono l2) (valsOf_den h4 D2) h5 h3
      · rw [if_neg ht] at h1
        exact h1.elim⟩
theorem nmet (pa : PlainAttrs Ty) (slot : Slot Ty name id) (hty : typeOf (.builtin id) = pure (.type "method_descriptor")) (hm : MtR X id r) (hr : MeN X.K X.mg X.w Ty r f) (ho : PE X o (tE X.K X.mg X.w T W g)) (ha : PA X (e :: es) (tA X.K X.mg X.w T W k))
    (hbase : attributeBase o name X.env (eval o X.env) = eval o X.env := by rfl)
    (hfew : ((backTo cpos (starEach (e :: es) X.env)).all (fun x => !x.1) && (backToKw cpos (keywordEach [] X.env)).all (fun x => x.1.isSome)
      && decide ((e :: es).length + ([] : List Keyword).length + (if ([] : List Keyword).isEmpty then 0 else 1) < 30)) = true := by rfl)
    (hline : (apos.endLine == cpos.line) = true := by rfl) (hs : starEach (e :: es) X.env = (false, eval e X.env) :: starEach es X.env := by rfl) (hplain : (backTo cpos (starEach es X.env)).any (·.1) = false := by rfl) :
    PE X (.Call (.Attribute o name apos) (e :: es) [] cpos) (tN X.K X.mg X.w T W (metG Ty f g k)) := conv (pe_bm pa slot hty hm ho ha hbase hfew hline hs hplain) fun σ H Q ⟨B, F, e, R, h⟩ =>
  ⟨B, F, e, R, h.step fun F1 e1 d x H1 l1 R1 D1 h1 => by
    split at h1
    · exact h1.elim
    · rename_i nd
      by_cases ht : tyD Ty d = true
      · rw [if_pos ht] at h1
        refine ⟨tyD_ok R1.sub D1 ht fun kvs => nd kvs, B, F1, e1, R1, h1.step fun F2 e2 as vs H2 l2 R2 D2 h2 => ?_⟩
        obtain ⟨c, hc, h3⟩ := h2.lift
        obtain ⟨ds, h4, h5⟩ := bind_some' hc
        exact hr T W B F2 e2 σ H2 d x ds vs Q c R2 (D1.mono l2) (valsOf_den h4 D2) h5 h3
      · rw [if_neg ht] at h1
        exact h1.elim⟩
def metG0 (Ty : String) (f : D → List D → Option D) (g : En → Res D) : En → Res D := fun e => (g e).bind fun d e1 => match d with
  | .dct _ => .bad
  | d => if tyD Ty d = true then lift (f d []) e1 else .bad
theorem emet0 (pa : PlainAttrs Ty) (slot : Slot Ty name id) (hty : typeOf (.builtin id) = pure (.type "method_descriptor")) (hm : MtR X id r) (hr : MeD X.K X.mg X.w Ty r f) (ho : PE X o (tE X.K X.mg X.w T W g))
    (hbase : attributeBase o name X.env (eval o X.env) = eval o X.env := by rfl) (hline : (apos.endLine == cpos.line) = true := by rfl) :
    PE X (.Call (.Attribute o name apos) [] [] cpos) (tE X.K X.mg X.w T W (metG0 Ty f g)) := conv (pe_bm0 pa slot hty hm ho hbase hline) fun σ H Q ⟨B, F, e, R, h⟩ =>
  ⟨B, F, e, R, h.step fun F1 e1 d x H1 l1 R1 D1 h1 => by
    split at h1
    · exact h1.elim
    · rename_i nd
      by_cases ht : tyD Ty d = true
      · rw [if_pos ht] at h1
        obtain ⟨c, hc, h3⟩ := h1.lift
        exact ⟨tyD_ok R1.sub D1 ht fun kvs => nd kvs, hr T W B F1 e1 σ H1 d x [] [] Q c R1 D1 .nil hc h3⟩
      · rw [if_neg ht] at h1
        exact h1.elim⟩
end

/-! ### methods that change the object of a slot -/
/-- x.m(..) by contents: the new content, the value -/
def MuD (K : PySem.W.Frag) (mg : MG) (w : World) (r : V → List V → Hp → VK → Prop) (f : D → List D → Option (D × D)) : Prop :=
  ∀ (F H : Hp) (a : Addr) (c : D) (as : List D) (xs : List V) (Q : VK) (c' v : D), Sub F H → Cont K mg w F H a c → DenL K mg w F as xs → f c as = some (c', v) →
    (∀ o x, Cont K mg w F (upd H a o) a c' → Den K mg w F v x → Q x (upd H a o)) → r (.ref a) xs H Q
def isLst : D → Bool | .lst _ => true | _ => false
def Sl.put : Sl → D → Sl
  | .own _, d => .own d
  | .io _, d => .io d
  | s, _ => s
def Sl.cont : Sl → Option D
  | .own d => some d
  | .io d => some d
  | _ => none
/-- a change of the i-th slot's object -/
def mutS (i : Nat) (f : D → Option (D × D)) : En → Res D := fun e => match e[i]? with
  | some s => match s.cont with
    | some c => match f c with
      | some (c', v) => .ok v (e.set i (s.put c'))
      | none => .bad
    | none => .bad
  | none => .bad
def mutG (i : Nat) (f : D → List D → Option (D × D)) (k : En → Res (List Ar)) : En → Res D := fun e => (k e).bind fun as e1 => match valsOf as with
  | some ds => mutS i (fun c => f c ds) e1
  | none => .bad
theorem hot_cont {s : Sl} {c : D} (h : s.cont = some c) : (s = .own c ∨ s = .io c) ∧ s.hot = true := by
  cases s <;> cases h
  · exact ⟨.inl rfl, rfl⟩
  · exact ⟨.inr rfl, rfl⟩
section
variable {K : PySem.W.Frag} {mg : MG} {w : World} {W : WX} {T : Tb} {B : Bs T} {σ : St} {F H : Hp} {e : En} {Q : VK} {i : Nat}
theorem Rel.cont {s : Sl} {c : D} (R : Rel K mg w B F e σ H) (h : e[i]? = some s) (hc : s.cont = some c) : ∃ a, σ[i]? = some (some (.ref a)) ∧ F a = none ∧ Cont K mg w F H a c := by
  have z := R.at' i s h
  cases s <;> cases hc
  · obtain ⟨a, e1, e2, _, c⟩ := z; exact ⟨a, e1, e2, c⟩
  · obtain ⟨a, e1, e2, _, c⟩ := z; exact ⟨a, e1, e2, c⟩
theorem Rel.put {s : Sl} {c c' : D} {a : Addr} {o : HO} (R : Rel K mg w B F e σ H) (h : e[i]? = some s) (hc : s.cont = some c) (ha : σ[i]? = some (some (.ref a))) (hk : Cont K mg w F (upd H a o) a c') : Rel K mg w B F (e.set i (s.put c')) σ (upd H a o) := by
  cases s <;> cases hc
  · exact R.write (d := c) (d' := c') h (.inl ⟨rfl, rfl⟩) ha hk
  · exact R.write (d := c) (d' := c') h (.inr ⟨rfl, rfl⟩) ha hk
theorem mut_ok {r : V → List V → Hp → VK → Prop} {f : D → List D → Option (D × D)} {as : List D} {xs : List V} {x : V} (hr : MuD K mg w r f) (R : Rel K mg w B F e σ H) (hx : σ[i]? = some (some x)) (hl : DenL K mg w F as xs)
    (h : Post K mg w W B σ (Den K mg w) F (mutS i (fun c => f c as) e) Q) : r x xs H Q := by
  unfold mutS at h
  cases hs : e[i]? with
  | none => rw [hs] at h; exact h.elim
  | some s =>
    rw [hs] at h
    cases hc : s.cont with
    | none => simp only [hc] at h; exact h.elim
    | some c =>
      simp only [hc] at h
      obtain ⟨a, e1, e2, ck⟩ := R.cont hs hc
      rw [hx] at e1; cases e1
      cases hf : f c as with
      | none => rw [hf] at h; exact h.elim
      | some p =>
        obtain ⟨c', v⟩ := p
        rw [hf] at h
        exact hr F H a c as xs Q c' v R.sub ck hl hf fun o y ck' hd => h.ret (R.put hs hc hx ck') hd
end
section
variable {X : Cx} {T : Tb} {W : WX} {e : Expr} {es : List Expr} {k : En → Res (List Ar)} {r : V → List V → Hp → VK → Prop} {f : D → List D → Option (D × D)} {id : String} {name x : Str} {apos cpos p : Pos}
/-- the object in a slot is a list -/
theorem slot_list {T : Tb} {B : Bs T} {F H : Hp} {en : En} {σ : St} {i : Nat} {s : Sl} {ds : List D} (R : Rel X.K X.mg X.w B F en σ H) (h : en[i]? = some s) (hc : s.cont = some (.lst ds)) : ∃ v, σ[i]? = some (some v) ∧ tyV X.K "list" v H := by
  obtain ⟨a, e1, _, vs, e3, _⟩ := R.cont h hc
  exact ⟨_, e1, .inl ⟨rfl, vs, SqL.of e3⟩⟩
/-- x.m(..), x the list in slot i -/
def lmutG (i : Nat) (f : D → List D → Option (D × D)) (k : En → Res (List Ar)) : En → Res D := fun e => match e[i]?.bind Sl.cont with
  | some (.lst _) => mutG i f k e
  | _ => .bad
theorem elmut (i : Nat) (slot : Slot "list" name id) (hty : typeOf (.builtin id) = pure (.type "method_descriptor")) (hm : MtR X id r) (hr : MuD X.K X.mg X.w r f) (ha : PA X (e :: es) (tA X.K X.mg X.w T W k))
    (hN : X.N[i]? = some x := by rfl) (hv : Vis X.env.scope x := by first | exact Or.inl rfl | exact Or.inr (Or.inl rfl) | exact Or.inr (Or.inr rfl)) (hd : (x == ("__debug__" : Str)) = false := by decide) (hcd : (x == ("__classdict__" : Str)) = false := by decide)
    (hbase : attributeBase (.Name x p) name X.env (eval (.Name x p) X.env) = eval (.Name x p) X.env := by rfl)
    (hfew : ((backTo cpos (starEach (e :: es) X.env)).all (fun x => !x.1) && (backToKw cpos (keywordEach [] X.env)).all (fun x => x.1.isSome)
      && decide ((e :: es).length + ([] : List Keyword).length + (if ([] : List Keyword).isEmpty then 0 else 1) < 30)) = true := by rfl)
    (hline : (apos.endLine == cpos.line) = true := by rfl) (hs : starEach (e :: es) X.env = (false, eval e X.env) :: starEach es X.env := by rfl) (hplain : (backTo cpos (starEach es X.env)).any (·.1) = false := by rfl) :
    PE X (.Call (.Attribute (.Name x p) name apos) (e :: es) [] cpos) (tE X.K X.mg X.w T W (lmutG i f k)) := conv (pe_bm PySem.F.plainAttrs_list slot hty hm (pv i hN hv hd hcd) ha hbase hfew hline hs hplain) fun σ H Q ⟨B, F, en, R, h⟩ => by
  unfold lmutG at h
  split at h
  · rename_i hc
    obtain ⟨s, hs, hc⟩ := bind_some' hc
    obtain ⟨v, hv, ht⟩ := slot_list R hs hc
    refine ⟨v, hv, ht, B, F, en, R, ?_⟩
    unfold mutG at h
    refine h.step fun F1 e1 as vs H1 l1 R1 D1 h1 => ?_
    split at h1
    · rename_i ds hds
      exact mut_ok hr R1 hv (valsOf_den hds D1) h1
    · exact h1.elim
  · exact h.elim
def lmutG0 (i : Nat) (f : D → List D → Option (D × D)) : En → Res D := fun e => match e[i]?.bind Sl.cont with
  | some (.lst _) => mutS i (fun c => f c []) e
  | _ => .bad
theorem elmut0 (i : Nat) (slot : Slot "list" name id) (hty : typeOf (.builtin id) = pure (.type "method_descriptor")) (hm : MtR X id r) (hr : MuD X.K X.mg X.w r f)
    (hN : X.N[i]? = some x := by rfl) (hv : Vis X.env.scope x := by first | exact Or.inl rfl | exact Or.inr (Or.inl rfl) | exact Or.inr (Or.inr rfl)) (hd : (x == ("__debug__" : Str)) = false := by decide) (hcd : (x == ("__classdict__" : Str)) = false := by decide)
    (hbase : attributeBase (.Name x p) name X.env (eval (.Name x p) X.env) = eval (.Name x p) X.env := by rfl) (hline : (apos.endLine == cpos.line) = true := by rfl) :
    PE X (.Call (.Attribute (.Name x p) name apos) [] [] cpos) (tE X.K X.mg X.w T W (lmutG0 i f)) := conv (pe_bm0 PySem.F.plainAttrs_list slot hty hm (pv i hN hv hd hcd) hbase hline) fun σ H Q ⟨B, F, en, R, h⟩ => by
  unfold lmutG0 at h
  split at h
  · rename_i hc
    obtain ⟨s, hs, hc⟩ := bind_some' hc
    obtain ⟨v, hv, ht⟩ := slot_list R hs hc
    exact ⟨v, hv, ht, mut_ok hr R hv .nil h⟩
  · exact h.elim
end

/-! ### calls of own defs -/
section
variable (K : PySem.W.Frag) (mg : MG) (w : World) (T : Tb)
/-- what a def promises: by pure values, and the objects that are handed in to be changed -/
def spV (n : Nat) (f : En → Res D) : Sp := fun vs H Q E => vs.length = n ∧ ∃ (B : Bs T) (F : Hp) (args : En), B.H0 = kn T H ∧ B.F0 = F ∧ Rel K mg w B F args (vs.map some) H ∧ (∀ s ∈ args, (∃ d, s = .val d) ∨ ∃ d, s = .io d) ∧
  Post K mg w (fun c dd _ H => E c dd H) B (vs.map some) (Den K mg w) F (f args) Q
end
def slotsOf : List Ar → List Nat
  | [] => []
  | .v _ :: r => slotsOf r
  | .s i :: r => i :: slotsOf r
def mkArgs (e : En) : List Ar → Option En
  | [] => some []
  | .v d :: r => (mkArgs e r).map (.val d :: ·)
  | .s i :: r => ((e[i]?).bind Sl.cont).bind fun c => (mkArgs e r).map (.io c :: ·)
/-- the objects come back -/
def wb : List Ar → En → En → En
  | .s i :: as, .io d :: r, e => wb as r (match e[i]? with | some s => e.set i (s.put d) | none => e)
  | .v _ :: as, _ :: r, e => wb as r e
  | _, _, e => e
def callG (f : En → Res D) (k : En → Res (List Ar)) : En → Res D := fun e => (k e).bind fun as e1 => if (slotsOf as).Nodup then match mkArgs e1 as with
    | some args => match f args with
      | .ok d r => .ok d (wb as r e1)
      | .exc x r => .exc x (wb as r e1)
      | .bad => .bad
    | none => .bad
  else .bad
end L2.PV

set_option Elab.async false
set_option linter.all false
set_option maxRecDepth 100000
set_option autoImplicit false
namespace L2.PV
open PySem PySem.Spec PyProof.Rows

/-! ### a call's frame -/
def ioOf (σ : St) (as : List Ar) (j : Nat) : Option Addr := match as[j]? with
  | some (.s i) => match σ[i]? with
    | some (some (.ref a)) => some a
    | _ => none
  | _ => none
theorem ioOf_some {σ : St} {as : List Ar} {j : Nat} {a : Addr} (h : ioOf σ as j = some a) : ∃ i, as[j]? = some (.s i) ∧ σ[i]? = some (some (.ref a)) := by
  unfold ioOf at h
  split at h
  · rename_i i hi
    split at h
    · rename_i b hb; cases h; exact ⟨i, hi, hb⟩
    · cases h
  · cases h
theorem ioOf_of {σ : St} {as : List Ar} {j i : Nat} {a : Addr} (h : as[j]? = some (.s i)) (h' : σ[i]? = some (some (.ref a))) : ioOf σ as j = some a := by
  unfold ioOf
  rw [h]
  simp only [h']
theorem slots_mem : ∀ {as : List Ar} {j i : Nat}, as[j]? = some (.s i) → i ∈ slotsOf as
  | [], _, _, h => by simp at h
  | .v _ :: r, 0, _, h => by simp at h
  | .v _ :: r, j + 1, i, h => by unfold slotsOf; exact slots_mem (as := r) (j := j) (by simpa using h)
  | .s k :: r, 0, i, h => by simp at h; subst h; exact List.mem_cons_self
  | .s k :: r, j + 1, i, h => List.mem_cons_of_mem _ (slots_mem (as := r) (j := j) (by simpa using h))
theorem slots_inj : ∀ {as : List Ar} {j k i : Nat}, (slotsOf as).Nodup → as[j]? = some (.s i) → as[k]? = some (.s i) → j = k
  | [], _, _, _, _, h, _ => by simp at h
  | .v _ :: r, 0, _, _, _, h, _ => by simp at h
  | .v _ :: r, _ + 1, 0, _, _, _, h => by simp at h
  | .v _ :: r, j + 1, k + 1, i, nd, h1, h2 => by
    have := slots_inj (as := r) (j := j) (k := k) nd (by simpa using h1) (by simpa using h2)
    omega
  | .s l :: r, 0, 0, i, _, _, _ => rfl
  | .s l :: r, 0, k + 1, i, nd, h1, h2 => by
    simp at h1; subst h1
    exact absurd (slots_mem (as := r) (j := k) (by simpa using h2)) (List.nodup_cons.mp nd).1
  | .s l :: r, j + 1, 0, i, nd, h1, h2 => by
    simp at h2; subst h2
    exact absurd (slots_mem (as := r) (j := j) (by simpa using h1)) (List.nodup_cons.mp nd).1
  | .s l :: r, j + 1, k + 1, i, nd, h1, h2 => by
    have := slots_inj (as := r) (j := j) (k := k) (List.nodup_cons.mp nd).2 (by simpa using h1) (by simpa using h2)
    omega
section
variable {K : PySem.W.Frag} {mg : MG} {w : World} {T : Tb} {B : Bs T} {F F' H H' : Hp} {e : En} {σ : St}
theorem args_get : ∀ {as : List Ar} {vs : List V} {j : Nat}, ArsOk K mg w σ F as vs → (∀ a, as[j]? = some a → ∃ v, vs[j]? = some v ∧ ArOk K mg w σ F a v) ∧ as.length = vs.length
  | [], [], _, _ => ⟨fun _ h => by simp at h, rfl⟩
  | a :: as, v :: vs, 0, ⟨h, t⟩ => ⟨fun _ q => by simp at q; subst q; exact ⟨v, rfl, h⟩, by rw [List.length_cons, List.length_cons, (args_get (j := 0) t).2]⟩
  | a :: as, v :: vs, j + 1, ⟨h, t⟩ => ⟨fun _ q => by
      obtain ⟨w, e1, e2⟩ := (args_get (j := j) t).1 _ (by simpa using q)
      exact ⟨w, by simpa using e1, e2⟩, by rw [List.length_cons, List.length_cons, (args_get (j := 0) t).2]⟩
  | [], _ :: _, _, h => h.elim
  | _ :: _, [], _, h => h.elim
theorem mk_get : ∀ {as : List Ar} {args : En} {j : Nat}, mkArgs e as = some args → args.length = as.length ∧ ∀ s, args[j]? = some s → (∃ d, as[j]? = some (.v d) ∧ s = .val d) ∨ ∃ i c s', as[j]? = some (.s i) ∧ e[i]? = some s' ∧ s'.cont = some c ∧ s = .io c
  | [], _, _, h => by cases h; exact ⟨rfl, fun _ q => by simp at q⟩
  | .v d :: r, args, j, h => by
    unfold mkArgs at h
    cases q : mkArgs e r with
    | none => rw [q] at h; cases h
    | some l =>
      rw [q] at h; cases h
      refine ⟨by rw [List.length_cons, List.length_cons, (mk_get (j := 0) q).1], ?_⟩
      cases j with
      | zero => intro s hs; simp at hs; exact .inl ⟨d, rfl, hs.symm⟩
      | succ j => intro s hs; simpa using (mk_get (j := j) q).2 s (by simpa using hs)
  | .s i :: r, args, j, h => by
    unfold mkArgs at h
    obtain ⟨c, h1, h⟩ := bind_some' h
    obtain ⟨s', h2, h3⟩ := bind_some' h1
    cases q : mkArgs e r with
    | none => rw [q] at h; cases h
    | some l =>
      rw [q] at h; cases h
      refine ⟨by rw [List.length_cons, List.length_cons, (mk_get (j := 0) q).1], ?_⟩
      cases j with
      | zero => intro s hs; simp at hs; exact .inr ⟨i, c, s', rfl, h2, h3, hs.symm⟩
      | succ j => intro s hs; simpa using (mk_get (j := j) q).2 s (by simpa using hs)
theorem mk_kinds {as : List Ar} {args : En} (h : mkArgs e as = some args) : ∀ s ∈ args, (∃ d, s = .val d) ∨ ∃ d, s = .io d := fun s hs => by
  obtain ⟨j, hj⟩ := List.getElem?_of_mem hs
  rcases (mk_get (j := j) h).2 s hj with ⟨d, _, e⟩ | ⟨i, c, s', _, _, _, e⟩
  · exact .inl ⟨d, e⟩
  · exact .inr ⟨c, e⟩
theorem Rel.args {as : List Ar} {args : En} {vs : List V} (R : Rel K mg w B F e σ H) (A : ArsOk K mg w σ F as vs) (nd : (slotsOf as).Nodup) (m : mkArgs e as = some args) :
    Rel K mg w (⟨kn T H, F, ioOf σ as⟩ : Bs T) F args (vs.map some) H := by
  have slot : ∀ {j : Nat} {s : Sl}, args[j]? = some s → s.hot = true → ∃ i c s' a, as[j]? = some (.s i) ∧ e[i]? = some s' ∧ s'.cont = some c ∧ s = .io c ∧ vs[j]? = some (.ref a) ∧ σ[i]? = some (some (.ref a)) ∧ F a = none ∧ Cont K mg w F H a c := by
    intro j s hs ht
    rcases (mk_get (j := j) m).2 s hs with ⟨d, h1, h2⟩ | ⟨i, c, s', h1, h2, h3, h4⟩
    · subst h2; cases ht
    · obtain ⟨v, g1, g2⟩ := (args_get (j := j) A).1 _ h1
      obtain ⟨a, k1, k2, k3⟩ := R.cont h2 h3
      have g2 : σ[i]? = some (some v) := g2
      rw [k1] at g2; cases g2
      exact ⟨i, c, s', a, h1, h2, h3, h4, g1, k1, k2, k3⟩
  refine ⟨R.sub, fun _ _ h _ _ => (kn_sub h).1, fun a o h t => (kn_sub h).2 t, R.tabs, Le.refl F, fun _ _ h => .inl h, by rw [List.length_map, (mk_get (j := 0) m).1, (args_get (j := 0) A).2], fun j s hs => ?_, fun j a ha => ?_, fun j k a s t h1 h2 h3 h4 h5 h6 => ?_, R.noT⟩
  · rcases (mk_get (j := j) m).2 s hs with ⟨d, h1, h2⟩ | ⟨i, c, s', h1, h2, h3, h4⟩
    · subst h2
      obtain ⟨v, g1, g2⟩ := (args_get (j := j) A).1 _ h1
      exact ⟨v, by rw [List.getElem?_map, g1]; rfl, g2⟩
    · obtain ⟨i', c', s'', a, _, _, _, e4, e5, e6, e7, e8⟩ := slot hs (by rw [h4]; rfl)
      subst h4
      cases e4
      exact ⟨a, by rw [List.getElem?_map, e5]; rfl, e7, ioOf_of (by assumption) e6, e8⟩
  · obtain ⟨i, h1, h2⟩ := ioOf_some ha
    have hj : j < args.length := by rw [(mk_get (j := 0) m).1]; exact (List.getElem?_eq_some_iff.mp h1).1
    rcases (mk_get (j := j) m).2 _ (List.getElem?_eq_getElem hj) with ⟨d, g1, _⟩ | ⟨i', c, s', _, _, _, g4⟩
    · rw [h1] at g1; cases g1
    · exact ⟨c, by rw [List.getElem?_eq_getElem hj, g4]⟩
  · obtain ⟨i1, c1, s1, a1, e1, e2, e3, _, e5, e6, _, _⟩ := slot h1 h3
    obtain ⟨i2, c2, s2, a2, f1, f2, f3, _, f5, f6, _, _⟩ := slot h2 h4
    rw [List.getElem?_map, e5] at h5
    rw [List.getElem?_map, f5] at h6
    cases h5; cases h6
    have hi : i1 = i2 := R.apart i1 i2 _ s1 s2 e2 f2 (hot_cont e3).2 (hot_cont f3).2 e6 f6
    subst hi
    exact slots_inj nd e1 f1
/-- what the slots are behind a call -/
theorem wb_len : ∀ {as : List Ar} {r e : En}, (wb as r e).length = e.length
  | .s i :: as, .io d :: r, e => by
    unfold wb
    rw [wb_len]
    split
    · rw [List.length_set]
    · rfl
  | .v _ :: as, _ :: r, e => by unfold wb; exact wb_len
  | [], _, e => by unfold wb; rfl
  | .v _ :: _, [], e => by unfold wb; rfl
  | .s _ :: _, [], e => by unfold wb; rfl
  | .s _ :: _, .un :: _, e => by unfold wb; rfl
  | .s _ :: _, .val _ :: _, e => by unfold wb; rfl
  | .s _ :: _, .own _ :: _, e => by unfold wb; rfl
theorem wb_other : ∀ {as : List Ar} {r e : En} {i : Nat}, i ∉ slotsOf as → (wb as r e)[i]? = e[i]?
  | .s j :: as, .io d :: r, e, i, h => by
    unfold wb
    have hij : j ≠ i := fun q => h (q ▸ List.mem_cons_self)
    rw [wb_other (fun q => h (List.mem_cons_of_mem _ q))]
    split
    · rw [List.getElem?_set_ne hij]
    · rfl
  | .v _ :: as, _ :: r, e, i, h => by unfold wb; exact wb_other h
  | [], _, e, _, _ => by unfold wb; rfl
  | .v _ :: _, [], e, _, _ => by unfold wb; rfl
  | .s _ :: _, [], e, _, _ => by unfold wb; rfl
  | .s _ :: _, .un :: _, e, _, _ => by unfold wb; rfl
  | .s _ :: _, .val _ :: _, e, _, _ => by unfold wb; rfl
  | .s _ :: _, .own _ :: _, e, _, _ => by unfold wb; rfl
theorem wb_at : ∀ {as : List Ar} {r e : En} {i j : Nat} {d : D} {s : Sl}, (slotsOf as).Nodup → (∀ (k l : Nat), as[k]? = some (.s l) → ∃ c, r[k]? = some (.io c)) → as.length = r.length → as[j]? = some (.s i) → r[j]? = some (.io d) → e[i]? = some s → (wb as r e)[i]? = some (s.put d)
  | [], _, _, _, _, _, _, _, _, _, h, _, _ => by simp at h
  | _ :: _, [], _, _, _, _, _, _, _, hl, _, _, _ => by simp at hl
  | .v _ :: as, _ :: r, e, i, 0, d, s, _, _, _, h, _, _ => by simp at h
  | .v _ :: as, x :: r, e, i, j + 1, d, s, nd, hk, hl, h1, h2, h3 => by
    unfold wb
    exact wb_at (j := j) nd (fun k l q => by simpa using hk (k + 1) l (by simpa using q)) (by simpa using hl) (by simpa using h1) (by simpa using h2) h3
  | .s l :: as, x :: r, e, i, j, d, s, nd, hk, hl, h1, h2, h3 => by
    obtain ⟨c, hc⟩ := hk 0 l rfl
    simp at hc
    subst hc
    unfold wb
    cases j with
    | zero =>
      simp at h1 h2
      subst h1 h2
      rw [wb_other (List.nodup_cons.mp nd).1]
      simp only [h3]
      rw [List.getElem?_set_self (List.getElem?_eq_some_iff.mp h3).1]
    | succ j =>
      have hm : i ∈ slotsOf as := slots_mem (j := j) (by simpa using h1)
      have hli : l ≠ i := fun q => (List.nodup_cons.mp nd).1 (q ▸ hm)
      refine wb_at (j := j) (List.nodup_cons.mp nd).2 (fun k l q => by simpa using hk (k + 1) l (by simpa using q)) (by simpa using hl) (by simpa using h1) (by simpa using h2) ?_
      split
      · rw [List.getElem?_set_ne hli]; exact h3
      · exact h3
theorem slots_ix {i : Nat} : ∀ {as : List Ar}, i ∈ slotsOf as → ∃ j : Nat, as[j]? = some (Ar.s i)
  | [], h => by cases h
  | .v _ :: as, h => let ⟨j, hj⟩ := slots_ix (as := as) h; ⟨j + 1, by simpa using hj⟩
  | .s k :: as, h => by
    rcases List.mem_cons.mp h with q | q
    · exact ⟨0, by rw [q]; rfl⟩
    · obtain ⟨j, hj⟩ := slots_ix (as := as) q; exact ⟨j + 1, by simpa using hj⟩
theorem Rel.back {as : List Ar} {args r : En} {vs : List V} (R : Rel K mg w B F e σ H) (A : ArsOk K mg w σ F as vs) (nd : (slotsOf as).Nodup) (m : mkArgs e as = some args) (le : Le F F')
    (C : Rel K mg w (⟨kn T H, F, ioOf σ as⟩ : Bs T) F' r (vs.map some) H') : Rel K mg w B F' (wb as r e) σ H' := by
  have hlen : as.length = r.length := by
    have := C.len
    rw [List.length_map, ← (args_get (j := 0) A).2] at this
    exact this.symm
  have hio : ∀ (k l : Nat), as[k]? = some (.s l) → ∃ c, r[k]? = some (.io c) := fun k l hk => by
    have hj : k < args.length := by rw [(mk_get (j := 0) m).1]; exact (List.getElem?_eq_some_iff.mp hk).1
    rcases (mk_get (j := k) m).2 _ (List.getElem?_eq_getElem hj) with ⟨d, g1, _⟩ | ⟨i', c, s', g1, g2, g3, _⟩
    · rw [hk] at g1; cases g1
    · rw [hk] at g1; cases g1
      obtain ⟨a, k1, _, _⟩ := R.cont g2 g3
      exact C.ios k a (ioOf_of hk k1)
  -- every slot, behind the call
  have slot : ∀ {i : Nat} {t : Sl}, (wb as r e)[i]? = some t → (e[i]? = some t ∧ (t.hot = true → ∀ a, σ[i]? = some (some (.ref a)) → H' a = H a ∧ F' a = none)) ∨
      ∃ s d, e[i]? = some s ∧ s.hot = true ∧ t = s.put d ∧ ∀ a, σ[i]? = some (some (.ref a)) → F' a = none ∧ Cont K mg w F' H' a d := by
    intro i t ht
    by_cases hm : i ∈ slotsOf as
    · right
      obtain ⟨j, hj⟩ : ∃ j : Nat, as[j]? = some (Ar.s i) := by
        have : ∀ {as : List Ar}, i ∈ slotsOf as → ∃ j : Nat, as[j]? = some (Ar.s i) := by
          intro as
          induction as with
          | nil => intro h; cases h
          | cons a as ih =>
            cases a with
            | v d => intro h; obtain ⟨j, hj⟩ := ih h; exact ⟨j + 1, by simpa using hj⟩
            | s k =>
              intro h
              rcases List.mem_cons.mp h with q | q
              · exact ⟨0, by rw [q]; rfl⟩
              · obtain ⟨j, hj⟩ := ih q; exact ⟨j + 1, by simpa using hj⟩
        exact this hm
      obtain ⟨d, hd⟩ := hio j i hj
      have hj' : j < args.length := by rw [(mk_get (j := 0) m).1]; exact (List.getElem?_eq_some_iff.mp hj).1
      rcases (mk_get (j := j) m).2 _ (List.getElem?_eq_getElem hj') with ⟨_, g1, _⟩ | ⟨i', c, s', g1, g2, g3, _⟩
      · rw [hj] at g1; cases g1
      · rw [hj] at g1; cases g1
        rw [wb_at nd hio hlen hj hd g2] at ht
        refine ⟨s', d, g2, (hot_cont g3).2, (Option.some.inj ht).symm, fun a ha => ?_⟩
        obtain ⟨a', q1, q2, q3, q4⟩ := C.at' j _ hd
        have : ioOf σ as j = some a := ioOf_of hj ha
        have q3 : ioOf σ as j = some a' := q3
        rw [this] at q3; cases q3
        exact ⟨q2, q4⟩
    · left
      rw [wb_other hm] at ht
      refine ⟨ht, fun hh a ha => ?_⟩
      obtain ⟨a', o, e1, e2, e3, e4, e5, e6⟩ := R.hot ht hh
      rw [ha] at e1; cases e1
      refine ⟨(C.old a o (kn_of e3 e5) e5 fun j q => ?_).trans e3.symm, ?_⟩
      · obtain ⟨i', h1, h2⟩ := ioOf_some q
        have hj' : j < args.length := by rw [(mk_get (j := 0) m).1]; exact (List.getElem?_eq_some_iff.mp h1).1
        rcases (mk_get (j := j) m).2 _ (List.getElem?_eq_getElem hj') with ⟨_, g1, _⟩ | ⟨i'', c, s', g1, g2, g3, _⟩
        · rw [h1] at g1; cases g1
        · rw [h1] at g1; cases g1
          have := R.apart i i' a t s' ht g2 hh (hot_cont g3).2 ha h2
          subst this
          exact hm (slots_mem h1)
      · cases q : F' a with
        | none => rfl
        | some u =>
          rcases C.fr a u q with z | z
          · have z : F a = some u := z
            rw [e2] at z; cases z
          · have z : kn T H a = none := z
            rw [kn_of e3 e5] at z; cases z
  refine ⟨C.sub, fun a o h0 ht hn => ?_, R.oldT, C.tabs, R.low.trans le, fun a u hu => ?_, by rw [wb_len]; exact R.len, fun i t ht => ?_, fun i a ha => ?_, fun i j a s t h1 h2 h3 h4 h5 h6 => ?_, C.noT⟩
  · refine C.old a o (kn_of (R.old a o h0 ht hn) ht) ht fun j q => ?_
    obtain ⟨i, h1, h2⟩ := ioOf_some q
    have hj' : j < args.length := by rw [(mk_get (j := 0) m).1]; exact (List.getElem?_eq_some_iff.mp h1).1
    rcases (mk_get (j := j) m).2 _ (List.getElem?_eq_getElem hj') with ⟨_, g1, _⟩ | ⟨i'', c, s', g1, g2, g3, _⟩
    · rw [h1] at g1; cases g1
    · rw [h1] at g1; cases g1
      obtain ⟨a', o', e1, _, _, e4, _⟩ := R.hot g2 (hot_cont g3).2
      rw [h2] at e1; cases e1
      rcases e4 with z | z
      · rw [z] at h0; cases h0
      · exact hn i z
  · rcases C.fr a u hu with z | z
    · exact R.fr a u z
    · exact .inr (R.none0k z)
  · rcases slot ht with ⟨h1, h2⟩ | ⟨s, d, h1, h2, h3, h4⟩
    · have z := R.at' i t h1
      cases t with
      | un => trivial
      | val d => obtain ⟨x, e1, e2⟩ := z; exact ⟨x, e1, e2.mono le⟩
      | own d =>
        obtain ⟨a, e1, e2, e3, c⟩ := z
        obtain ⟨q1, q2⟩ := h2 rfl a e1
        exact ⟨a, e1, q2, e3, (c.mono le).heap q1⟩
      | io d =>
        obtain ⟨a, e1, e2, e3, c⟩ := z
        obtain ⟨q1, q2⟩ := h2 rfl a e1
        exact ⟨a, e1, q2, e3, (c.mono le).heap q1⟩
    · have z := R.at' i s h1
      cases s with
      | un => cases h2
      | val d => cases h2
      | own d' =>
        obtain ⟨a, e1, e2, e3, c⟩ := z
        obtain ⟨q1, q2⟩ := h4 a e1
        subst h3
        exact ⟨a, e1, q1, e3, q2⟩
      | io d' =>
        obtain ⟨a, e1, e2, e3, c⟩ := z
        obtain ⟨q1, q2⟩ := h4 a e1
        subst h3
        exact ⟨a, e1, q1, e3, q2⟩
  · obtain ⟨d, hd⟩ := R.ios i a ha
    have hi : i < (wb as r e).length := by rw [wb_len]; exact (List.getElem?_eq_some_iff.mp hd).1
    rcases slot (List.getElem?_eq_getElem hi) with ⟨h1, _⟩ | ⟨s, d', h1, _, h3, _⟩
    · rw [hd] at h1; exact ⟨d, by rw [List.getElem?_eq_getElem hi, ← Option.some.inj h1]⟩
    · rw [hd] at h1; cases h1
      exact ⟨d', by rw [List.getElem?_eq_getElem hi, h3]; rfl⟩
  · have pick : ∀ {i : Nat} {t : Sl}, (wb as r e)[i]? = some t → t.hot = true → ∃ s, e[i]? = some s ∧ s.hot = true := fun {i t} q1 q2 => by
      rcases slot q1 with ⟨g1, _⟩ | ⟨s, _, g1, g2, _, _⟩
      · exact ⟨t, g1, q2⟩
      · exact ⟨s, g1, g2⟩
    obtain ⟨s1, g1, g2⟩ := pick h1 h3
    obtain ⟨s2, g3, g4⟩ := pick h2 h4
    exact R.apart i j a s1 s2 g1 g3 g2 g4 h5 h6
end
section
variable {X : Cx} {T : Tb} {W : WX} {k j n : Nat} {fa : Addr} {fd : FuncData} {ps : List Str} {f : En → Res D} {x : Str} {p pos : Pos} {e : Expr} {es : List Expr} {g : En → Res (List Ar)}
theorem call_post {T : Tb} {B : Bs T} {F H : Hp} {en : En} {σ : St} {as : List Ar} {vs : List V} {args : En} {Q : VK} (hn : vs.length = n) (R : Rel X.K X.mg X.w B F en σ H) (A : ArsOk X.K X.mg X.w σ F as vs) (nd : (slotsOf as).Nodup) (m : mkArgs en as = some args)
    (h : Post X.K X.mg X.w W B σ (Den X.K X.mg X.w) F (match f args with | .ok d r => .ok d (wb as r en) | .exc x r => .exc x (wb as r en) | .bad => .bad) Q) : spV X.K X.mg X.w T n f vs H Q (WE W σ) := by
  refine ⟨hn, (⟨kn T H, F, ioOf σ as⟩ : Bs T), F, args, rfl, rfl, R.args A nd m, mk_kinds m, ?_⟩
  cases q : f args with
  | ok d r =>
    rw [q] at h
    exact fun F' v H' le R' hd => h F' v H' le (R.back A nd m le R') hd
  | exc x r =>
    rw [q] at h
    exact fun F' c dd H' le R' hd => h F' c dd H' le (R.back A nd m le R') hd
  | bad => rw [q] at h; exact h
theorem ecall (c : Cc X W k) (Fn : FnG X.prog X.w X.K X.mg X.base (L2.CX X.prog X.w) j fa fd ps (spV X.K X.mg X.w T n f)) (hj : j ≤ k) (hg : Gl X x) (hm : X.mg x = some (.ref fa)) (hk : PySem.W.keepIn X.K (.ref fa) = true) (hb : Binds X.K fd ps [])
    (ha : PA X (e :: es) (tA X.K X.mg X.w T W g)) (hn : (e :: es).length = n := by rfl) (hdb : (x == ("__debug__" : Str)) = false := by decide) (he : starEach (e :: es) X.env = (false, eval e X.env) :: starEach es X.env := by rfl) (hpl : (backTo pos (starEach es X.env)).any (·.1) = false := by rfl)
    (hl : ∀ as en en', g en = .ok as en' → as.length = n) :
    PE X (.Call (.Name x p) (e :: es) [] pos) (tE X.K X.mg X.w T W (callG f g)) := conv (pe_callG (E := WE W) Fn c.gd (c.room.mono hj) hg hm hk hb (passAt c.tk) ha hdb he hpl) fun σ H Q ⟨B, F, e, R, h⟩ =>
  ⟨B, F, e, R, by
    unfold callG at h
    cases hq : g e with
    | bad => rw [hq] at h; exact h
    | exc x e' => rw [hq] at h; exact h
    | ok as e' =>
      rw [hq] at h
      intro F1 vs H1 l1 R1 A1
      have h1 := Post.le h l1
      simp only [Res.bind] at h1
      split at h1
      · rename_i nd
        split at h1
        · rename_i args hm
          exact call_post (by rw [← (args_get (j := 0) A1).2]; exact hl as e e' hq) R1 A1 nd hm h1
        · exact h1.elim
      · exact h1.elim⟩
theorem nilA_len {as : List Ar} {en en' : En} (h : nilA en = .ok as en') : as.length = 0 := by cases h; rfl
theorem consA_len {m : Nat} {ge : En → Res D} {g : En → Res (List Ar)} (hl : ∀ as en en', g en = .ok as en' → as.length = m) : ∀ as en en', consA ge g en = .ok as en' → as.length = m + 1 := fun as en en' h => by
  unfold consA at h
  cases q : ge en with
  | ok d e1 =>
    rw [q] at h
    simp only [Res.bind] at h
    cases q2 : g e1 with
    | ok ds e2 => rw [q2] at h; simp only [Res.bind] at h; cases h; rw [List.length_cons, hl _ _ _ q2]
    | exc => rw [q2] at h; cases h
    | bad => rw [q2] at h; cases h
  | exc => rw [q] at h; cases h
  | bad => rw [q] at h; cases h
theorem slotA_len {m i : Nat} {g : En → Res (List Ar)} (hl : ∀ as en en', g en = .ok as en' → as.length = m) : ∀ as en en', slotA i g en = .ok as en' → as.length = m + 1 := fun as en en' h => by
  unfold slotA at h
  split at h
  · split at h
    · cases q2 : g en with
      | ok ds e2 => rw [q2] at h; simp only [Res.bind] at h; cases h; rw [List.length_cons, hl _ _ _ q2]
      | exc => rw [q2] at h; cases h
      | bad => rw [q2] at h; cases h
    · cases h
  · cases h
end
end L2.PV

set_option Elab.async false
set_option linter.all false
set_option maxRecDepth 100000
set_option autoImplicit false
namespace L2.PV
open PySem PySem.Spec PyProof.Rows

/-! ### statements -/
inductive Out where | nx (e : En) | ret (d : D) (e : En) | brk (e : En) | cnt (e : En) | exc (x : Ex) (e : En) | bad
section
variable (K : PySem.W.Frag) (mg : MG) (w : World) (W : WX) {T : Tb} (B : Bs T)
def PostS (F : Hp) (r : Out) (N : Ends) : Prop := match r with
  | .nx e => ∀ F' σ' H', Le F F' → Rel K mg w B F' e σ' H' → N.nx σ' H'
  | .brk e => ∀ F' σ' H', Le F F' → Rel K mg w B F' e σ' H' → N.bk σ' H'
  | .cnt e => ∀ F' σ' H', Le F F' → Rel K mg w B F' e σ' H' → N.ct σ' H'
  | .ret d e => ∀ F' v σ' H', Le F F' → Rel K mg w B F' e σ' H' → Den K mg w F' d v → N.rt v H'
  | .exc x e => ∀ F' c dd σ' H', Le F F' → Rel K mg w B F' e σ' H' → DenX K mg w F' x c dd → W c dd σ' H'
  | .bad => False
end
section
variable (K : PySem.W.Frag) (mg : MG) (w : World) (T : Tb) (W : WX)
def tS (g : En → Out) : TS := fun N σ H => ∃ (B : Bs T) (F : Hp) (e : En), Rel K mg w B F e σ H ∧ PostS K mg w W B F (g e) N
end
/-- a result, then a statement -/
def Res.thn {α : Type} (r : Res α) (k : α → En → Out) : Out := match r with
  | .ok a e => k a e
  | .exc x e => .exc x e
  | .bad => .bad
section
variable {K : PySem.W.Frag} {mg : MG} {w : World} {W : WX} {T : Tb} {B : Bs T} {σ : St} {F G H : Hp} {N : Ends} {e : En} {r : Out} {α β : Type}
theorem PostS.le (h : PostS K mg w W B F r N) (s : Le F G) : PostS K mg w W B G r N := by
  cases r with
  | nx e => exact fun F' σ' H' l => h F' σ' H' (s.trans l)
  | brk e => exact fun F' σ' H' l => h F' σ' H' (s.trans l)
  | cnt e => exact fun F' σ' H' l => h F' σ' H' (s.trans l)
  | ret d e => exact fun F' v σ' H' l => h F' v σ' H' (s.trans l)
  | exc x e => exact fun F' c dd σ' H' l => h F' c dd σ' H' (s.trans l)
  | bad => exact h
theorem PostS.step {R : Hp → α → β → Prop} {r : Res α} {k : α → En → Out} {KK : β → Hp → Prop} (h : PostS K mg w W B F (r.thn k) N)
    (f : ∀ F1 e1 a b H1, Le F F1 → Rel K mg w B F1 e1 σ H1 → R F1 a b → PostS K mg w W B F1 (k a e1) N → KK b H1) : Post K mg w W B σ R F r KK := by
  cases r with
  | ok a e => exact fun F' b H' l R1 hR => f F' e a b H' l R1 hR (PostS.le h l)
  | exc x e => exact fun F' c dd H' l R1 hx => h F' c dd σ H' l R1 hx
  | bad => exact h
theorem PostS.stepN {r : Res D} {k : D → En → Out} {KK : VK} (h : PostS K mg w W B F (r.thn k) N)
    (f : ∀ F1 e1 c a H1, Le F F1 → Rel K mg w B F1 e1 σ H1 → F1 a = none → B.H0 a = none → Cont K mg w F1 H1 a c → (∀ (j : Nat) (s : Sl), e1[j]? = some s → s.hot = true → σ[j]? ≠ some (some (.ref a))) → PostS K mg w W B F1 (k c e1) N → KK (.ref a) H1) : PostN K mg w W B σ F r KK := by
  cases r with
  | ok c e => exact fun F' a H' l R1 n n0 ck hn => f F' e c a H' l R1 n n0 ck hn (PostS.le h l)
  | exc x e => exact fun F' c dd H' l R1 hx => h F' c dd σ H' l R1 hx
  | bad => exact h
end
def seqS (g h : En → Out) : En → Out := fun e => match g e with
  | .nx e1 => h e1
  | r => r
def nopS : En → Out := .nx
def exprS (g : En → Res D) : En → Out := fun e => (g e).thn fun _ e1 => .nx e1
def retS (g : En → Res D) : En → Out := fun e => (g e).thn fun d e1 => .ret d e1
def retNS : En → Out := fun e => .ret .non e
def brkS : En → Out := .brk
def cntS : En → Out := .cnt
def badS : En → Out := fun _ => .bad
def ifS (c : En → Res Bool) (g h : En → Out) : En → Out := fun e => (c e).thn fun b e1 => if b = true then g e1 else h e1
/-- name i is given a value -/
def putV (i : Nat) (d : D) (e : En) : Option En := match e[i]? with
  | some s => if s.isIo then none else some (e.set i (.val d))
  | none => none
def putO (i : Nat) (d : D) (e : En) : Option En := match e[i]? with
  | some s => if s.isIo then none else some (e.set i (.own d))
  | none => none
def nxO (o : Option En) : Out := match o with
  | some e => .nx e
  | none => .bad
def setS (i : Nat) (g : En → Res D) : En → Out := fun e => (g e).thn fun d e1 => nxO (putV i d e1)
def ownS (i : Nat) (g : En → Res D) : En → Out := fun e => (g e).thn fun d e1 => nxO (putO i d e1)
/-- from here on the object of slot i is a plain value -/
def frzS (i : Nat) (g : En → Out) : En → Out := fun e => match e[i]? with
  | some (.own d) => g (e.set i (.val d))
  | _ => g e
section
variable {X : Cx} {T : Tb} {W : WX} {st : Stmt} {rest : List Stmt} {g h : En → Out} {ge : En → Res D} {e : Expr} {pos : Pos} {c : En → Res Bool}
theorem convSs {st : List Stmt} {t t' : TS} (h : PSs X st t) (k : ∀ D σ H, t' D σ H → t D σ H) : PSs X st t' := ⟨fun pins s σ H D I q => h.run pins s σ H D I (k D σ H q)⟩
theorem snil : PSs X [] (tS X.K X.mg X.w T W nopS) := convSs pss_nil fun N σ H ⟨B, F, e, R, q⟩ => q F σ H (Le.refl F) R
theorem scons (h1 : PS X st (tS X.K X.mg X.w T W g)) (h2 : PSs X rest (tS X.K X.mg X.w T W h)) : PSs X (st :: rest) (tS X.K X.mg X.w T W (seqS g h)) := convSs (pss_cons h1 h2) fun N σ H ⟨B, F, e, R, q⟩ =>
  ⟨B, F, e, R, by
    unfold seqS at q
    cases hg : g e with
    | nx e1 => rw [hg] at q; exact fun F' σ' H' l R' => ⟨B, F', e1, R', q.le l⟩
    | ret d e1 => rw [hg] at q; exact q
    | brk e1 => rw [hg] at q; exact q
    | cnt e1 => rw [hg] at q; exact q
    | exc x e1 => rw [hg] at q; exact q
    | bad => rw [hg] at q; exact q⟩
theorem sone (h1 : PS X st (tS X.K X.mg X.w T W g)) : PSs X [st] (tS X.K X.mg X.w T W g) := pss_one h1
theorem sfrz {st : List Stmt} (i : Nat) (h1 : PSs X st (tS X.K X.mg X.w T W g)) : PSs X st (tS X.K X.mg X.w T W (frzS i g)) := convSs h1 fun N σ H ⟨B, F, e, R, q⟩ => by
  unfold frzS at q
  split at q
  · rename_i d hd
    obtain ⟨F', l, R'⟩ := R.freeze hd
    exact ⟨B, F', _, R', q.le l⟩
  · exact ⟨B, F, e, R, q⟩
theorem sfrz1 (i : Nat) (h1 : PS X st (tS X.K X.mg X.w T W g)) : PS X st (tS X.K X.mg X.w T W (frzS i g)) := convS h1 fun N σ H ⟨B, F, e, R, q⟩ => by
  unfold frzS at q
  split at q
  · rename_i d hd
    obtain ⟨F', l, R'⟩ := R.freeze hd
    exact ⟨B, F', _, R', q.le l⟩
  · exact ⟨B, F, e, R, q⟩
theorem spass : PS X (.Pass pos) (tS X.K X.mg X.w T W nopS) := convS ps_pass fun N σ H ⟨B, F, e, R, q⟩ => q F σ H (Le.refl F) R
theorem sbrk : PS X (.Break pos) (tS X.K X.mg X.w T W brkS) := convS ps_break fun N σ H ⟨B, F, e, R, q⟩ => q F σ H (Le.refl F) R
theorem scnt : PS X (.Continue pos) (tS X.K X.mg X.w T W cntS) := convS ps_continue fun N σ H ⟨B, F, e, R, q⟩ => q F σ H (Le.refl F) R
theorem sdoc {x j pos pos'} : PS X (.Expr (.Constant (.str x) j pos) pos') (tS X.K X.mg X.w T W nopS) := convS ps_doc fun N σ H ⟨B, F, e, R, q⟩ => q F σ H (Le.refl F) R
theorem snever : PS X st (tS X.K X.mg X.w T W badS) := convS ps_never fun N σ H ⟨B, F, e, R, q⟩ => q.elim
theorem ssnever {st : List Stmt} : PSs X st (tS X.K X.mg X.w T W badS) := convSs pss_never fun N σ H ⟨B, F, e, R, q⟩ => q.elim
theorem sexpr (he : PE X e (tE X.K X.mg X.w T W ge)) (hs : swapsWith e none pos.line X.env = pure false := by rfl) : PS X (.Expr e pos) (tS X.K X.mg X.w T W (exprS ge)) := convS (ps_expr he hs) fun N σ H ⟨B, F, e, R, q⟩ =>
  ⟨B, F, e, R, PostS.step (R := Den X.K X.mg X.w) q fun F1 e1 a b H1 l R1 D1 q1 => q1 F1 σ H1 (Le.refl F1) R1⟩
theorem sret (he : PE X e (tE X.K X.mg X.w T W ge)) : PS X (.Return (some e) pos) (tS X.K X.mg X.w T W (retS ge)) := convS (ps_ret he) fun N σ H ⟨B, F, e, R, q⟩ =>
  ⟨B, F, e, R, PostS.step (R := Den X.K X.mg X.w) q fun F1 e1 a b H1 l R1 D1 q1 => q1 F1 b σ H1 (Le.refl F1) R1 D1⟩
theorem sretN : PS X (.Return none pos) (tS X.K X.mg X.w T W retNS) := convS ps_retN fun N σ H ⟨B, F, e, R, q⟩ => q F .non σ H (Le.refl F) R .non
theorem sif {ce : Expr} {a b : List Stmt} (hc : PT X ce (tB X.K X.mg X.w T W c)) (ha : PSs X a (tS X.K X.mg X.w T W g)) (hb : PSs X b (tS X.K X.mg X.w T W h)) : PS X (.If ce a b pos) (tS X.K X.mg X.w T W (ifS c g h)) := convS (ps_if hc ha hb) fun N σ H ⟨B, F, e, R, q⟩ =>
  ⟨B, F, e, R, PostS.step (R := fun _ a b => b = a) q fun F1 e1 a b H1 l R1 D1 q1 => by
    subst D1
    cases b with
    | true => exact ⟨B, F1, e1, R1, q1⟩
    | false => exact ⟨B, F1, e1, R1, q1⟩⟩
theorem putV_ok {K : PySem.W.Frag} {mg : MG} {w : World} {T : Tb} {B : Bs T} {F H : Hp} {en en' : En} {σ : St} {i : Nat} {d : D} {v : V} (R : Rel K mg w B F en σ H) (hd : Den K mg w F d v) (h : putV i d en = some en') : Rel K mg w B F en' (σ.set i (some v)) H := by
  unfold putV at h
  cases hs : en[i]? with
  | none => rw [hs] at h; cases h
  | some s =>
    rw [hs] at h
    cases ht : s.isIo with
    | true => simp only [ht] at h; cases h
    | false => simp only [ht] at h; cases h; exact R.setVal hs ht hd
theorem putO_ok {K : PySem.W.Frag} {mg : MG} {w : World} {T : Tb} {B : Bs T} {F H : Hp} {en en' : En} {σ : St} {i : Nat} {d : D} {a : Addr} (R : Rel K mg w B F en σ H) (n : F a = none) (n0 : B.H0 a = none) (ck : Cont K mg w F H a d)
    (hn : ∀ (j : Nat) (s : Sl), en[j]? = some s → s.hot = true → σ[j]? ≠ some (some (.ref a))) (h : putO i d en = some en') : Rel K mg w B F en' (σ.set i (some (.ref a))) H := by
  unfold putO at h
  cases hs : en[i]? with
  | none => rw [hs] at h; cases h
  | some s =>
    rw [hs] at h
    cases ht : s.isIo with
    | true => simp only [ht] at h; cases h
    | false => simp only [ht] at h; cases h; exact R.setOwn hs ht n n0 ck fun j s' h1 h2 h3 => absurd h3 (hn j s' h1 h2)
theorem sset {x : Str} {pos' : Pos} (i : Nat) (he : PE X e (tE X.K X.mg X.w T W ge)) (hN : X.N.Nodup) (hi : X.N[i]? = some x := by rfl) (hx : Loc X.env.scope x := by first | exact .inl rfl | exact .inr rfl) (hs : swapsWith e (some (.Name x pos')) pos.line X.env = pure false := by rfl)
    (hf : X.fn x = true ∨ X.env.scope.names.lookup x = some .local := by first | exact .inl rfl | exact .inr rfl) : PS X (.Assign [.Name x pos'] e pos) (tS X.K X.mg X.w T W (setS i ge)) := convS (ps_set hN hi hx he hs hf) fun N σ H ⟨B, F, e, R, q⟩ =>
  ⟨B, F, e, R, PostS.step (R := Den X.K X.mg X.w) q fun F1 e1 a b H1 l R1 D1 q1 => by
    cases hp : putV i a e1 with
    | none => rw [hp] at q1; exact q1.elim
    | some e2 => rw [hp] at q1; exact q1 F1 _ H1 (Le.refl F1) (putV_ok R1 D1 hp)⟩
theorem sown {x : Str} {pos' : Pos} (i : Nat) (he : PE X e (tN X.K X.mg X.w T W ge)) (hN : X.N.Nodup) (hi : X.N[i]? = some x := by rfl) (hx : Loc X.env.scope x := by first | exact .inl rfl | exact .inr rfl) (hs : swapsWith e (some (.Name x pos')) pos.line X.env = pure false := by rfl)
    (hf : X.fn x = true ∨ X.env.scope.names.lookup x = some .local := by first | exact .inl rfl | exact .inr rfl) : PS X (.Assign [.Name x pos'] e pos) (tS X.K X.mg X.w T W (ownS i ge)) := convS (ps_set hN hi hx he hs hf) fun N σ H ⟨B, F, e, R, q⟩ =>
  ⟨B, F, e, R, PostS.stepN q fun F1 e1 c a H1 l R1 n n0 ck hn q1 => by
    cases hp : putO i c e1 with
    | none => rw [hp] at q1; exact q1.elim
    | some e2 => rw [hp] at q1; exact q1 F1 _ H1 (Le.refl F1) (putO_ok R1 n n0 ck hn hp)⟩
end

/-! ### what a for walks -/
/-- the walk J yields the values ds -/
structure Walk (K : PySem.W.Frag) (mg : MG) (w : World) (F : Hp) (J : It) (ds : List D) : Prop where
  go : ∀ (F' H : Hp) (i : Nat) (d : D), Le F F' → Sub F' H → ds[i]? = some d → J.go i H ∧ ∀ x H', J.yld i H x H' → ∃ F'', Le F' F'' ∧ Den K mg w F'' d x ∧ ∀ (T : Tb) (B : Bs T) (e : En) (σ : St), Rel K mg w B F' e σ H → Rel K mg w B F'' e σ H'
  stop : ∀ (F' H : Hp) (i : Nat), Le F F' → Sub F' H → ds.length ≤ i → J.stop i H
def tI (K : PySem.W.Frag) (mg : MG) (w : World) (T : Tb) (W : WX) (g : En → Res (List D)) : TI := fun σ H R => ∃ (B : Bs T) (F : Hp) (e : En), Rel K mg w B F e σ H ∧ Post K mg w W B σ (fun F' ds J => Walk K mg w F' J ds) F (g e) R
/-- what a target does: the slots that it stores, the meaning -/
structure Tg where
  slots : List Nat
  go : D → En → Option En
def tG (K : PySem.W.Frag) (mg : MG) (w : World) (T : Tb) (t : Tg) : TG := fun v σ H Q => ∃ (B : Bs T) (F : Hp) (e : En) (d : D), Rel K mg w B F e σ H ∧ Den K mg w F d v ∧ ∃ e', t.go d e = some e' ∧ ∀ σ', (∀ j, j ∉ t.slots → σ'[j]? = σ[j]?) → σ'.length = σ.length → Rel K mg w B F e' σ' H → Q σ' H
def tgN (i : Nat) : Tg := ⟨[i], putV i⟩
def goTs : List Tg → List D → En → Option En
  | [], [], e => some e
  | t :: ts, d :: ds, e => (t.go d e).bind fun e1 => goTs ts ds e1
  | _, _, _ => none
def tgT (ts : List Tg) : Tg := ⟨(ts.map (·.slots)).flatten, fun d e => match d with | .tup ds => goTs ts ds e | .lst ds => goTs ts ds e | _ => none⟩
def tGs (K : PySem.W.Frag) (mg : MG) (w : World) (T : Tb) (ts : List Tg) : TGs := fun vs σ H Q => ∃ (B : Bs T) (F : Hp) (e : En) (ds : List D), Rel K mg w B F e σ H ∧ DenL K mg w F ds vs ∧ ∃ e', goTs ts ds e = some e' ∧ ∀ σ', (∀ j, j ∉ (ts.map (·.slots)).flatten → σ'[j]? = σ[j]?) → σ'.length = σ.length → Rel K mg w B F e' σ' H → Q σ' H
section
variable {X : Cx} {T : Tb} {W : WX} {pos : Pos} {tg : Expr} {t : Tg} {ts : List Tg} {es : List Expr}
theorem convG {e : Expr} {t t' : TG} (h : PG X e t) (k : ∀ v σ H Q, t' v σ H Q → t v σ H Q) : PG X e t' := ⟨fun pins s σ H v u Q I r q => h.run pins s σ H v u Q I r (k v σ H Q q)⟩
theorem convGs {e : List Expr} {t t' : TGs} (h : PGs X e t) (k : ∀ v σ H Q, t' v σ H Q → t v σ H Q) : PGs X e t' := ⟨fun pins s σ H v u Q I r q => h.run pins s σ H v u Q I r (k v σ H Q q)⟩
theorem gname {x : Str} (i : Nat) (hN : X.N.Nodup) (hi : X.N[i]? = some x := by rfl) (hx : Loc X.env.scope x := by first | exact .inl rfl | exact .inr rfl) (hf : X.fn x = true ∨ X.env.scope.names.lookup x = some .local := by first | exact .inl rfl | exact .inr rfl) :
    PG X (.Name x pos) (tG X.K X.mg X.w T (tgN i)) := convG (pg_name hN hi hx hf) fun v σ H Q ⟨B, F, e, d, R, hd, e', h1, h2⟩ =>
  h2 _ (fun j hj => List.getElem?_set_ne fun q => hj (by rw [← q]; exact List.mem_cons_self)) (List.length_set ..) (putV_ok R hd h1)
theorem gnil : PGs X [] (tGs X.K X.mg X.w T []) := convGs pgs_nil fun v σ H Q ⟨B, F, e, ds, R, hd, e', h1, h2⟩ => by
  cases hd with
  | nil => cases h1; exact ⟨rfl, h2 σ (fun _ _ => rfl) rfl R⟩
  | cons h t => cases h1
theorem gcons (h1 : PG X tg (tG X.K X.mg X.w T t)) (h2 : PGs X es (tGs X.K X.mg X.w T ts)) (hs : (assignEach (tg :: es) X.env).map (·.2) = assign tg X.env :: (assignEach es X.env).map (·.2) := by rfl) : PGs X (tg :: es) (tGs X.K X.mg X.w T (t :: ts)) :=
  convGs (pgs_cons h1 h2 hs) fun v σ H Q ⟨B, F, e, ds, R, hd, e', h1, h2⟩ => by
    cases hd with
    | nil => cases h1
    | cons h t =>
      obtain ⟨e1, h3, h4⟩ := bind_some' h1
      refine ⟨_, _, rfl, B, F, e, _, R, h, e1, h3, fun σ1 k1 l1 R1 => ⟨B, F, e1, _, R1, t, e', h4, fun σ2 k2 l2 R2 => h2 σ2 (fun j hj => ?_) (l2.trans l1) R2⟩⟩
      rw [List.map_cons, List.flatten_cons, List.mem_append, not_or] at hj
      rw [k2 j hj.2, k1 j hj.1]
theorem pg_or {e : Expr} {t t' : TG} (h : PG X e t) (h' : PG X e t') : PG X e (fun v σ H Q => t v σ H Q ∨ t' v σ H Q) := ⟨fun pins s σ H v u Q I r q => q.elim (h.run pins s σ H v u Q I r) (h'.run pins s σ H v u Q I r)⟩
theorem gtup {k : Nat} {n : Nat} (hc : X.calm = true) (h : PGs X es (tGs X.K X.mg X.w T ts)) (hl : ts.length = n := by rfl) (hn : (assignEach es X.env).length = n := by rfl) (hst : (assignEach es X.env).findIdx? (·.1) = none := by rfl) : PG X (.Tuple es k pos) (tG X.K X.mg X.w T (tgT ts)) :=
  convG (pg_or (pg_tup hc h hn hst) (pg_unl hc h hn hst)) fun v σ H Q ⟨B, F, e, d, R, hd, e', h1, h2⟩ => by
    cases hd with
    | lst h l =>
      rename_i ds vs a _
      have h1 : goTs ts ds e = some e' := h1
      have hlen : ∀ {ts : List Tg} {ds : List D} {e : En}, goTs ts ds e = some e' → ds.length = ts.length := by
        intro ts
        induction ts with
        | nil => intro ds e h; cases ds with | nil => rfl | cons _ _ => cases h
        | cons t ts ih => intro ds e h; cases ds with | nil => cases h | cons d ds => obtain ⟨e1, _, h4⟩ := bind_some' h; rw [List.length_cons, List.length_cons, ih h4]
      exact .inr ⟨_, _, rfl, AtL.seq R.sub h, by rw [← l.length, hlen h1, hl], B, F, e, ds, R, l, e', h1, h2⟩
    | tup h l =>
      rename_i ds vs a _
      have h1 : goTs ts ds e = some e' := h1
      have hlen : ∀ {ts : List Tg} {ds : List D} {e : En}, goTs ts ds e = some e' → ds.length = ts.length := by
        intro ts
        induction ts with
        | nil => intro ds e h; cases ds with | nil => rfl | cons _ _ => cases h
        | cons t ts ih => intro ds e h; cases ds with | nil => cases h | cons d ds => obtain ⟨e1, _, h4⟩ := bind_some' h; rw [List.length_cons, List.length_cons, ih h4]
      exact .inl ⟨a, vs, rfl, h.seq R.sub, by rw [← l.length, hlen h1, hl], B, F, e, ds, R, l, e', h1, h2⟩
    | _ => cases h1
end
def forL (t : Tg) (body : En → Out) : List D → En → Out
  | [], e => .nx e
  | d :: ds, e => match t.go d e with
    | none => .bad
    | some e1 => match body e1 with
      | .nx e2 => forL t body ds e2
      | .cnt e2 => forL t body ds e2
      | .brk e2 => .nx e2
      | r => r
def forS (gi : En → Res (List D)) (t : Tg) (body : En → Out) : En → Out := fun e => (gi e).thn fun ds e1 => forL t body ds e1
section
variable {X : Cx} {T : Tb} {W : WX} {pos : Pos} {tg iter : Expr} {body : List Stmt} {gi : En → Res (List D)} {t : Tg} {gb : En → Out} {k : Nat}
theorem sfor (c : Cc X W k) (hi : PI X tg iter (tI X.K X.mg X.w T W gi)) (hg : PG X tg (tG X.K X.mg X.w T t)) (hb : PSs X body (tS X.K X.mg X.w T W gb)) (hs : ∀ x, foldedSetIterable iter X.env x = pure x := by intro _; rfl) :
    PS X (.For tg iter body [] pos) (tS X.K X.mg X.w T W (forS gi t gb)) := convS (ps_for c.po c.calm hi hg hb hs) fun N σ H ⟨B, F, e, R, q⟩ =>
  ⟨B, F, e, R, PostS.step (R := fun F' ds J => Walk X.K X.mg X.w F' J ds) q fun F1 e1 ds J H1 l1 R1 Wk q1 =>
    ⟨fun i m σ H => m = ds.length - i ∧ i ≤ ds.length ∧ ∃ F2 e2, Le F1 F2 ∧ Rel X.K X.mg X.w B F2 e2 σ H ∧ PostS X.K X.mg X.w W B F2 (forL t gb (ds.drop i) e2) N,
      ⟨ds.length, by simp, Nat.zero_le _, F1, e1, Le.refl F1, R1, by simpa using q1⟩, by
      rintro i m σ2 H2 ⟨rfl, hi, F2, e2, l2, R2, q2⟩
      by_cases hlt : i < ds.length
      · right
        obtain ⟨d, hd⟩ : ∃ d, ds[i]? = some d := ⟨ds[i], List.getElem?_eq_getElem hlt⟩
        obtain ⟨g1, g2⟩ := Wk.go F2 H2 i d l2 R2.sub hd
        refine ⟨g1, fun σ H => ∃ F3 e3, Le F1 F3 ∧ Rel X.K X.mg X.w B F3 e3 σ H ∧ PostS X.K X.mg X.w W B F3 (forL t gb (ds.drop (i + 1)) e3) N, fun σ' H' ⟨F3, e3, l3, R3, q3⟩ => ⟨ds.length - (i + 1), by omega, rfl, hlt, F3, e3, l3, R3, q3⟩, fun x H' hy => ?_⟩
        obtain ⟨F3, l3, hD, hR⟩ := g2 x H' hy
        have hdrop : ds.drop i = d :: ds.drop (i + 1) := by
          rw [List.drop_eq_getElem_cons hlt]
          rw [List.getElem?_eq_getElem hlt] at hd
          rw [Option.some.inj hd]
        rw [hdrop] at q2
        unfold forL at q2
        cases hgo : t.go d e2 with
        | none => simp only [hgo] at q2; exact q2.elim
        | some e3 =>
          simp only [hgo] at q2
          refine ⟨B, F3, e2, d, hR T B e2 σ2 R2, hD, e3, hgo, fun σ4 _ _ R4 => ⟨B, F3, e3, R4, ?_⟩⟩
          cases hbd : gb e3 with
          | nx e4 =>
            simp only [hbd] at q2
            exact fun F5 σ5 H5 l5 R5 => ⟨F5, e4, l2.trans (l3.trans l5), R5, PostS.le q2 (l3.trans l5)⟩
          | cnt e4 =>
            simp only [hbd] at q2
            exact fun F5 σ5 H5 l5 R5 => ⟨F5, e4, l2.trans (l3.trans l5), R5, PostS.le q2 (l3.trans l5)⟩
          | brk e4 =>
            simp only [hbd] at q2
            exact fun F5 σ5 H5 l5 R5 => q2 F5 σ5 H5 (l3.trans l5) R5
          | ret d' e4 =>
            simp only [hbd] at q2
            exact fun F5 v5 σ5 H5 l5 R5 => q2 F5 v5 σ5 H5 (l3.trans l5) R5
          | exc x' e4 =>
            simp only [hbd] at q2
            exact fun F5 c5 dd σ5 H5 l5 R5 => q2 F5 c5 dd σ5 H5 (l3.trans l5) R5
          | bad => simp only [hbd] at q2; exact q2
      · left
        have e : i = ds.length := by omega
        subst e
        refine ⟨Wk.stop F2 H2 _ l2 R2.sub (Nat.le_refl _), ?_⟩
        rw [List.drop_length] at q2
        exact q2 F2 σ2 H2 (Le.refl F2) R2⟩⟩
end
/-! ### while, with a bound on its turns -/
def whileL (c : En → Res Bool) (body : En → Out) : Nat → En → Out
  | 0, _ => .bad
  | n + 1, e => (c e).thn fun b e1 => if b = true then (match body e1 with
      | .nx e2 => whileL c body n e2
      | .cnt e2 => whileL c body n e2
      | .brk e2 => .nx e2
      | r => r) else .nx e1
def whileS (n : Nat) (c : En → Res Bool) (body : En → Out) : En → Out := whileL c body n
section
variable {X : Cx} {T : Tb} {W : WX} {pos : Pos} {ce : Expr} {body : List Stmt} {gc : En → Res Bool} {gb : En → Out} {k : Nat}
theorem swhile (n : Nat) (c : Cc X W k) (hc : PT X ce (tB X.K X.mg X.w T W gc)) (hb : PSs X body (tS X.K X.mg X.w T W gb)) : PS X (.While ce body [] pos) (tS X.K X.mg X.w T W (whileS n gc gb)) := convS (ps_while c.po hc hb) fun N σ H ⟨B, F, e, R, q⟩ =>
  ⟨fun m σ H => ∃ F1 e1, Rel X.K X.mg X.w B F1 e1 σ H ∧ PostS X.K X.mg X.w W B F1 (whileL gc gb m e1) N, ⟨n, F, e, R, q⟩, by
    rintro m σ1 H1 ⟨F1, e1, R1, q1⟩
    cases m with
    | zero => exact q1.elim
    | succ m =>
      refine ⟨B, F1, e1, R1, PostS.step (R := fun _ a b => b = a) q1 fun F2 e2 a b H2 l2 R2 D2 q2 => ?_⟩
      subst D2
      cases b with
      | false =>
        rw [if_neg Bool.false_ne_true] at q2 ⊢
        exact q2 F2 σ1 H2 (Le.refl F2) R2
      | true =>
        rw [if_pos rfl] at q2 ⊢
        refine ⟨fun σ H => ∃ F3 e3, Rel X.K X.mg X.w B F3 e3 σ H ∧ PostS X.K X.mg X.w W B F3 (whileL gc gb m e3) N, fun σ' H' w => ⟨m, Nat.lt_succ_self m, w⟩, B, F2, e2, R2, ?_⟩
        cases hbd : gb e2 with
        | nx e4 => rw [hbd] at q2; exact fun F5 σ5 H5 l5 R5 => ⟨F5, e4, R5, PostS.le q2 l5⟩
        | cnt e4 => rw [hbd] at q2; exact fun F5 σ5 H5 l5 R5 => ⟨F5, e4, R5, PostS.le q2 l5⟩
        | brk e4 => rw [hbd] at q2; exact q2
        | ret d' e4 => rw [hbd] at q2; exact q2
        | exc x' e4 => rw [hbd] at q2; exact q2
        | bad => rw [hbd] at q2; exact q2⟩
end

/-! ### a def -/
def outArgs : En → En → En
  | .io d :: as, s :: e => (match s with | .io d' => .io d' | _ => .io d) :: outArgs as e
  | a :: as, _ :: e => a :: outArgs as e
  | as, [] => as
  | [], _ => []
def defV (N : Nat) (body : En → Out) : En → Res D := fun args => match body (args ++ List.replicate (N - args.length) .un) with
  | .ret d e => .ok d (outArgs args e)
  | .nx e => .ok .non (outArgs args e)
  | .exc x e => .exc x (outArgs args e)
  | _ => .bad
theorem outArgs_len : ∀ {as e : En}, (outArgs as e).length = as.length
  | [], [] => rfl
  | [], _ :: _ => rfl
  | a :: as, [] => by cases a <;> rfl
  | .io d :: as, s :: e => by unfold outArgs; rw [List.length_cons, List.length_cons, outArgs_len]
  | .un :: as, s :: e => by unfold outArgs; rw [List.length_cons, List.length_cons, outArgs_len]
  | .val d :: as, s :: e => by unfold outArgs; rw [List.length_cons, List.length_cons, outArgs_len]
  | .own d :: as, s :: e => by unfold outArgs; rw [List.length_cons, List.length_cons, outArgs_len]
theorem outArgs_val : ∀ {as e : En} {i : Nat} {d : D}, as[i]? = some (.val d) → (outArgs as e)[i]? = some (.val d)
  | [], _, _, _, h => by simp at h
  | a :: as, [], i, d, h => by cases a <;> exact h
  | .io _ :: as, s :: e, 0, d, h => by simp at h
  | .un :: as, s :: e, 0, d, h => by simp at h
  | .own _ :: as, s :: e, 0, d, h => by simp at h
  | .val _ :: as, s :: e, 0, d, h => by unfold outArgs; exact h
  | .io _ :: as, s :: e, i + 1, d, h => by unfold outArgs; simpa using outArgs_val (e := e) (by simpa using h)
  | .un :: as, s :: e, i + 1, d, h => by unfold outArgs; simpa using outArgs_val (e := e) (by simpa using h)
  | .own _ :: as, s :: e, i + 1, d, h => by unfold outArgs; simpa using outArgs_val (e := e) (by simpa using h)
  | .val _ :: as, s :: e, i + 1, d, h => by unfold outArgs; simpa using outArgs_val (e := e) (by simpa using h)
theorem outArgs_io : ∀ {as e : En} {i : Nat} {d d' : D}, as[i]? = some (.io d) → e[i]? = some (.io d') → (outArgs as e)[i]? = some (.io d')
  | [], _, _, _, _, h, _ => by simp at h
  | a :: as, [], i, d, _, h, h' => by simp at h'
  | .io _ :: as, s :: e, 0, d, d', h, h' => by simp at h'; subst h'; rfl
  | .un :: as, s :: e, 0, d, _, h, _ => by simp at h
  | .own _ :: as, s :: e, 0, d, _, h, _ => by simp at h
  | .val _ :: as, s :: e, 0, d, _, h, _ => by simp at h
  | .io _ :: as, s :: e, i + 1, d, _, h, h' => by unfold outArgs; simpa using outArgs_io (as := as) (e := e) (by simpa using h) (by simpa using h')
  | .un :: as, s :: e, i + 1, d, _, h, h' => by unfold outArgs; simpa using outArgs_io (as := as) (e := e) (by simpa using h) (by simpa using h')
  | .own _ :: as, s :: e, i + 1, d, _, h, h' => by unfold outArgs; simpa using outArgs_io (as := as) (e := e) (by simpa using h) (by simpa using h')
  | .val _ :: as, s :: e, i + 1, d, _, h, h' => by unfold outArgs; simpa using outArgs_io (as := as) (e := e) (by simpa using h) (by simpa using h')
section
variable {K : PySem.W.Frag} {mg : MG} {w : World} {T : Tb} {B : Bs T} {F F' H H' : Hp} {args e : En} {σ σ' : St} {vs : List V} {n : Nat}
theorem Rel.begin (R : Rel K mg w B F args (vs.map some) H) : Rel K mg w B F (args ++ List.replicate n .un) (vs.map some ++ List.replicate n none) H := by
  have hl : args.length = (vs.map some).length := R.len
  have low : ∀ {i : Nat} {s : Sl}, (args ++ List.replicate n .un)[i]? = some s → (i < args.length ∧ args[i]? = some s ∧ (vs.map some ++ List.replicate n none)[i]? = (vs.map some)[i]?) ∨ s = .un := by
    intro i s h
    by_cases hi : i < args.length
    · rw [List.getElem?_append_left hi] at h
      exact .inl ⟨hi, h, by rw [List.getElem?_append_left (by omega)]⟩
    · rw [List.getElem?_append_right (by omega), List.getElem?_replicate] at h
      split at h
      · cases h; exact .inr rfl
      · cases h
  refine ⟨R.sub, R.old, R.oldT, R.tabs, R.low, R.fr, by rw [List.length_append, List.length_append, hl, List.length_replicate, List.length_replicate], fun i s h => ?_, fun i a h => ?_, fun i j a s t h1 h2 h3 h4 h5 h6 => ?_, R.noT⟩
  · rcases low h with ⟨_, h1, h2⟩ | h1
    · rw [h2]; exact R.at' i s h1
    · subst h1; trivial
  · obtain ⟨d, hd⟩ := R.ios i a h
    exact ⟨d, by rw [List.getElem?_append_left (List.getElem?_eq_some_iff.mp hd).1]; exact hd⟩
  · rcases low h1 with ⟨_, g1, g2⟩ | g1
    · rcases low h2 with ⟨_, k1, k2⟩ | k1
      · rw [g2] at h5; rw [k2] at h6
        exact R.apart i j a s t g1 k1 h3 h4 h5 h6
      · subst k1; cases h4
    · subst g1; cases h3
theorem Rel.finish (R : Rel K mg w B F args (vs.map some) H) (kind : ∀ s ∈ args, (∃ d, s = .val d) ∨ ∃ d, s = .io d) (le : Le F F') (R' : Rel K mg w B F' e σ' H') : Rel K mg w B F' (outArgs args e) (vs.map some) H' := by
  have slot : ∀ {i : Nat} {s : Sl}, (outArgs args e)[i]? = some s → (∃ d, args[i]? = some (.val d) ∧ s = .val d) ∨ ∃ d d', args[i]? = some (.io d) ∧ e[i]? = some (.io d') ∧ s = .io d' := by
    intro i s h
    have hi : i < args.length := by rw [← outArgs_len (e := e)]; exact (List.getElem?_eq_some_iff.mp h).1
    obtain ⟨a, ha⟩ : ∃ a, args[i]? = some a := ⟨_, List.getElem?_eq_getElem hi⟩
    rcases kind a (List.mem_of_getElem? ha) with ⟨d, rfl⟩ | ⟨d, rfl⟩
    · rw [outArgs_val ha] at h; cases h
      exact .inl ⟨d, ha, rfl⟩
    · obtain ⟨b, _, _, e3, _⟩ := R.at' i _ ha
      obtain ⟨d', hd'⟩ := R'.ios i b e3
      rw [outArgs_io ha hd'] at h; cases h
      exact .inr ⟨d, d', ha, hd', rfl⟩
  refine ⟨R'.sub, R'.old, R'.oldT, R'.tabs, R'.low, R'.fr, by rw [outArgs_len]; exact R.len, fun i s h => ?_, fun i a h => ?_, fun i j a s t h1 h2 h3 h4 h5 h6 => ?_, R'.noT⟩
  · rcases slot h with ⟨d, h1, rfl⟩ | ⟨d, d', h1, h2, rfl⟩
    · obtain ⟨x, e1, e2⟩ := R.at' i _ h1
      exact ⟨x, e1, e2.mono le⟩
    · obtain ⟨b, g1, _, g3, _⟩ := R.at' i _ h1
      obtain ⟨b', _, k2, k3, k4⟩ := R'.at' i _ h2
      rw [g3] at k3; cases k3
      exact ⟨b, g1, k2, g3, k4⟩
  · obtain ⟨d, hd⟩ := R.ios i a h
    obtain ⟨d', hd'⟩ := R'.ios i a h
    exact ⟨d', outArgs_io hd hd'⟩
  · have pick : ∀ {i : Nat} {s : Sl}, (outArgs args e)[i]? = some s → s.hot = true → ∃ s', args[i]? = some s' ∧ s'.hot = true := fun {i s} q1 q2 => by
      rcases slot q1 with ⟨d, g1, rfl⟩ | ⟨d, d', g1, _, rfl⟩
      · cases q2
      · exact ⟨_, g1, rfl⟩
    obtain ⟨s', g1, g2⟩ := pick h1 h3
    obtain ⟨t', g3, g4⟩ := pick h2 h4
    exact R.apart i j a s' t' g1 g3 g2 g4 h5 h6
end
section
variable {P : Program} {w : World} {K : PySem.W.Frag} {mg : MG} {T : Tb} {base : Heap}
abbrev dX (P : Program) (w : World) (K : PySem.W.Frag) (mg : MG) (base : Heap) (N : List Str) (qual : Str) (st : Stmt) (f : Addr) (cdv : Value) (A : Around) (outer : List Env) (s : Shared) (H : Hp) (E : XK) : Cx :=
  cxOf (L2.CX P w) P w K mg base N qual (defScope st) f cdv A outer s H E
abbrev dW (E : XK) : WX := fun c dd _ H => E c dd H
theorem okV_core {qual : Str} {st : Stmt} {f : Addr} {N ps : List Str} {n : Nat} {body : En → Out} {cdv : Value} {A : Around} {outer : List Env} {s : Shared} {H : Hp} {vs : List V} {Q : VK} {E : XK}
    (hb : PSs (dX P w K mg base N qual st f cdv A outer s H E) (defBody st) (tS K mg w T (dW E) body)) (h : spV K mg w T n (defV N.length body) vs H Q E) :
    ∃ t, PSs (cxOf (L2.CX P w) P w K mg base N qual (defScope st) f cdv A outer s H E) (defBody st) t ∧ t { nx := fun _ H' => Q .non H', rt := Q } (start N vs) H := by
  refine ⟨_, hb, ?_⟩
  obtain ⟨hv, B, F, args, h0, hF, R, kind, h⟩ := h
  have hl : args.length = vs.length := by rw [R.len, List.length_map]
  have R0 := R.begin (n := N.length - args.length)
  rw [hl] at R0
  refine ⟨B, F, _, R0, ?_⟩
  unfold defV at h
  rw [hl] at h
  cases hbd : body (args ++ List.replicate (N.length - vs.length) .un) with
  | nx e => rw [hbd] at h; exact fun F' σ' H' l R' => h F' .non H' l (R.finish kind l R') .non
  | ret d e => rw [hbd] at h; exact fun F' v σ' H' l R' hd => h F' v H' l (R.finish kind l R') hd
  | exc x e => rw [hbd] at h; exact fun F' c dd σ' H' l R' hd => h F' c dd H' l (R.finish kind l R') hd
  | brk e => rw [hbd] at h; exact h.elim
  | cnt e => rw [hbd] at h; exact h.elim
  | bad => rw [hbd] at h; exact h
theorem okV {x qual : Str} {st : Stmt} {f : Addr} {fd : FuncData} {N ps : List Str} {k n : Nat} {body : En → Out} (Fn : Fun K x qual st f fd) (S : FnScope N ps (defScope st)) (hn : ps.length = n)
    (hb : ∀ (cdv : Value) (A : Around) (outer : List Env) (s : Shared) (H : Hp) (E : XK), Cc (dX P w K mg base N qual st f cdv A outer s H E) (dW E) k →
      PSs (dX P w K mg base N qual st f cdv A outer s H E) (defBody st) (tS K mg w T (dW E) body)) : FnG P w K mg base (L2.CX P w) (k + 1) f fd ps (spV K mg w T n (defV N.length body)) := by
  obtain ⟨oc, od, kV, doc, pm, an, cdv, ct, osl, rfl, lk, hcd⟩ := Fn.ex
  refine fnG_of lk hcd S (fun vs H Q E h => h.1.trans hn.symm) fun A outer s H vs Q E g hr h => ?_
  exact okV_core (ps := ps) (hb cdv A outer s H E ⟨rfl, takes_of rfl rfl rfl rfl, passes_of rfl, hr, S.nd, g⟩) h
/-- a def whose code object is known -/
structure Fc (K : PySem.W.Frag) (mg : MG) (x : Str) (st : Stmt) (c : Addr) : Prop where
  ex : ∃ (fa : Addr) (oc : Value) (od an : Option Addr) (kV doc pm ct : Value) (osl : Array (Option Value)), mg x = some (.ref fa) ∧
    K.lookup fa = some ⟨oc, od, .func (PySem.W.fnOf x x (defArgs st) (defBody st) (defScope st) .none kV doc pm an (.ref c) ct), osl⟩ ∧ PySem.W.codeIn K (.ref c) x = true ∧ PySem.W.keepIn K (.ref fa) = true
end
end L2.PV

set_option Elab.async false
set_option linter.all false
set_option maxRecDepth 100000
set_option autoImplicit false
namespace L2.PV
open PySem PySem.Spec PyProof.Rows

section
variable {X : Cx} {tg : Expr} {pins : List (Addr × Obj)} {σ : St} {H : Hp} {s : Shared} {R : It → Hp → Prop}
theorem piv_list {a : Addr} {xs : List V} (I : Inv X pins σ H s) (hq : SqL X.K H a xs) (q : R (Itl X.K a) H) : wpAny (model X.prog X.w) X.A (pyIter (.ref a)) (PIE X pins σ tg R) X.xe s := by
  obtain ⟨its, rv, p, hz⟩ := I.list hq
  refine wpAny_pyIter_list p.isList ?_
  refine ⟨s.heap.objs.size, [s.heap.objs.size], _, _, H, rfl, I.kept (t' := s.toks) fun b o e => Heap.get?_push_of_some _ e, turn_list a _, ⟨_, Heap.get?_push_size _ rfl, rfl, rfl⟩, fun b hb => ?_, q⟩
  have e : b = s.heap.objs.size := by simpa using hb
  subst e
  exact I.fpOk (Nat.le_refl _) (I.hok.fresh (Nat.le_refl _))
theorem piv_tup {a : Addr} {xs : List V} (I : Inv X pins σ H s) (hq : SqT X.K H a xs) (q : R (Itt X.K a) H) : wpAny (model X.prog X.w) X.A (pyIter (.ref a)) (PIE X pins σ tg R) X.xe s := by
  obtain ⟨its, rv, p, hz⟩ := I.tuple hq
  refine wpAny_pyIter_tuple (show s.heap.IsTuple a its.toArray from p) ?_
  refine ⟨s.heap.objs.size, [s.heap.objs.size], _, _, H, rfl, I.kept (t' := s.toks) fun b o e => Heap.get?_push_of_some _ e, turn_tuple a _, ⟨_, Heap.get?_push_size _ rfl, rfl, rfl⟩, fun b hb => ?_, q⟩
  have e : b = s.heap.objs.size := by simpa using hb
  subst e
  exact I.fpOk (Nat.le_refl _) (I.hok.fresh (Nat.le_refl _))
theorem piv_str {x : Str} {t : Tok} (I : Inv X pins σ H s) (q : R (Its x) H) : wpAny (model X.prog X.w) X.A (pyIter (.str x t)) (PIE X pins σ tg R) X.xe s := by
  cases ha : x.cps.all (· < 128)
  · exact wpAny_pyIter_wide ha (pi_one (tk := s.toks) I _ (turn_str _ x t "str_iterator" (.inr rfl)) ⟨_, Heap.get?_push_size _ rfl, rfl, rfl⟩ q)
  · exact wpAny_pyIter_ascii ha (pi_one (tk := s.toks) I _ (turn_str _ x t "str_ascii_iterator" (.inl rfl)) ⟨_, Heap.get?_push_size _ rfl, rfl, rfl⟩ q)
end
/-- one sign -/
def sgn (c : Nat) : Str := ⟨#[c]⟩
def iterD : D → Option (List D)
  | .lst ds => some ds
  | .tup ds => some ds
  | .str x => some (x.cps.toList.map fun c => .str (sgn c))
  | .gd kvs => some (kvs.map (·.1))
  | _ => none
section
variable {K : PySem.W.Frag} {mg : MG} {w : World} {F H : Hp}
theorem walk_list {a : Addr} {ds : List D} {vs : List V} (h : AtL K F a vs) (l : DenL K mg w F ds vs) : Walk K mg w F (Itl K a) ds where
  go := fun F' H i d le s hd => by
    obtain ⟨v, h1, h2⟩ := l.get hd
    have hq := (h.mono le).seq s
    exact ⟨⟨vs, v, hq, h1⟩, fun x H' ⟨e, y⟩ => by subst e; have := y vs hq; rw [h1] at this; cases this; exact ⟨F', Le.refl F', h2.mono le, fun _ _ _ _ R => R⟩⟩
  stop := fun F' H i le s hi => ⟨vs, (h.mono le).seq s, by rw [← l.length]; exact hi⟩
theorem walk_tup {a : Addr} {ds : List D} {vs : List V} (h : AtT K F a vs) (l : DenL K mg w F ds vs) : Walk K mg w F (Itt K a) ds where
  go := fun F' H i d le s hd => by
    obtain ⟨v, h1, h2⟩ := l.get hd
    have hq := (h.mono le).seq s
    exact ⟨⟨vs, v, hq, h1⟩, fun x H' ⟨e, y⟩ => by subst e; have := y vs hq; rw [h1] at this; cases this; exact ⟨F', Le.refl F', h2.mono le, fun _ _ _ _ R => R⟩⟩
  stop := fun F' H i le s hi => ⟨vs, (h.mono le).seq s, by rw [← l.length]; exact hi⟩
theorem walk_str (x : Str) : Walk K mg w F (Its x) (x.cps.toList.map fun c => .str (sgn c)) where
  go := fun F' H i d le s hd => by
    rw [List.getElem?_map] at hd
    cases q : x.cps.toList[i]? with
    | none => rw [q] at hd; cases hd
    | some c =>
      rw [q] at hd; cases hd
      have hc : x.cps[i]? = some c := by simpa using q
      exact ⟨(Array.getElem?_eq_some_iff.mp hc).1, fun y H' ⟨e, c', h1, h2⟩ => by subst e h2; rw [hc] at h1; cases h1; exact ⟨F', Le.refl F', .str _, fun _ _ _ _ R => R⟩⟩
  stop := fun F' H i le s hi => by
    have : x.cps.size ≤ i := by simpa using hi
    exact this
theorem DenG.get {w : World} : ∀ {kvs : List (D × D)} {es : List GD.EnV}, DenG K mg w F kvs es → ∀ {i : Nat} {kd d : D}, kvs[i]? = some (kd, d) → ∃ e, es[i]? = some e ∧ Den K mg w F kd e.2.1 ∧ Den K mg w F d e.2.2
  | _, _, .nil, i, _, _, h => by simp at h
  | _, _, .cons n k h t, 0, _, _, e => by
    simp only [List.getElem?_cons_zero, Option.some.injEq, Prod.mk.injEq] at e
    obtain ⟨rfl, rfl⟩ := e
    exact ⟨_, rfl, k, h⟩
  | _, _, .cons n k h t, i + 1, _, _, e => by
    simp only [List.getElem?_cons_succ] at e ⊢
    exact t.get e
theorem DenG.size {w : World} : ∀ {ds : List (D × D)} {es : List GD.EnV}, DenG K mg w F ds es → ds.length = es.length
  | _, _, .nil => rfl
  | _, _, .cons _ _ _ t => by rw [List.length_cons, List.length_cons, t.size]
theorem walk_gkeys {a : Addr} {ob : Obj} {kvs : List (D × D)} {es : List GD.EnV} (h : F a = some (GD.gdO w a ob es)) (l : DenG K mg w F kvs es) : Walk K mg w F (GD.Itg w a ob es (·.2.1)) (kvs.map (·.1)) where
  go := fun F' H i d le s hd => by
    rw [List.getElem?_map] at hd
    obtain ⟨kv, h1, rfl⟩ := Option.map_eq_some_iff.mp hd
    obtain ⟨e, h2, h3, h4⟩ := l.get h1
    exact ⟨⟨s _ _ (le _ _ h), (List.getElem?_eq_some_iff.mp h2).1⟩, fun x H' ⟨e1, e', h5, e2⟩ => by subst e1 e2; rw [h2] at h5; cases h5; exact ⟨F', Le.refl F', h3.mono le, fun _ _ _ _ R => R⟩⟩
  stop := fun F' H i le s hi => ⟨s _ _ (le _ _ h), by rw [← l.size]; simpa using hi⟩
theorem walk_gvals {a : Addr} {ob : Obj} {kvs : List (D × D)} {es : List GD.EnV} (h : F a = some (GD.gdO w a ob es)) (l : DenG K mg w F kvs es) : Walk K mg w F (GD.Itg w a ob es (·.2.2)) (kvs.map (·.2)) where
  go := fun F' H i d le s hd => by
    rw [List.getElem?_map] at hd
    obtain ⟨kv, h1, rfl⟩ := Option.map_eq_some_iff.mp hd
    obtain ⟨e, h2, h3, h4⟩ := l.get h1
    exact ⟨⟨s _ _ (le _ _ h), (List.getElem?_eq_some_iff.mp h2).1⟩, fun x H' ⟨e1, e', h5, e2⟩ => by subst e1 e2; rw [h2] at h5; cases h5; exact ⟨F', Le.refl F', h4.mono le, fun _ _ _ _ R => R⟩⟩
  stop := fun F' H i le s hi => ⟨s _ _ (le _ _ h), by rw [← l.size]; simpa using hi⟩
def intsD (lo : Int) (n : Nat) : List D := (List.range n).map fun i => .int (lo + (i : Nat))
theorem walk_range (lo : Int) (n : Nat) : Walk K mg w F (Itr lo n) (intsD lo n) where
  go := fun F' H i d le s hd => by
    unfold intsD at hd
    rw [List.getElem?_map] at hd
    by_cases hi : i < n
    · rw [List.getElem?_range hi] at hd; cases hd
      exact ⟨hi, fun y H' ⟨e, h⟩ => by subst e h; exact ⟨F', Le.refl F', .int _, fun _ _ _ _ R => R⟩⟩
    · rw [List.getElem?_eq_none (by simpa using hi)] at hd; cases hd
  stop := fun F' H i le s hi => by
    have : n ≤ i := by simpa [intsD] using hi
    exact this
end
def iterG (g : En → Res D) : En → Res (List D) := fun e => (g e).bind fun d e1 => lift (iterD d) e1
def small62 (i : Int) : Bool := decide (-(2 ^ 62) ≤ i ∧ i < 2 ^ 62)
def rng1 : List Ar → Option (List D)
  | [.v (.int j)] => if small62 j = true then some (intsD 0 j.toNat) else none
  | _ => none
def rng2 : List Ar → Option (List D)
  | [.v (.int i), .v (.int j)] => if small62 i = true ∧ small62 j = true then some (intsD i (j - i).toNat) else none
  | _ => none
def rangeG (f : List Ar → Option (List D)) (k : En → Res (List Ar)) : En → Res (List D) := fun e => (k e).bind fun as e1 => lift (f as) e1
section
variable {X : Cx} {T : Tb} {W : WX} {tg l a b : Expr} {g : En → Res D} {k : En → Res (List Ar)} {p pos : Pos}
theorem iseq (hl : PE X l (tE X.K X.mg X.w T W g)) : PI X tg l (tI X.K X.mg X.w T W (iterG g)) := by
  refine ⟨fun pins s σ H R I ⟨B, F, e, Rl, h⟩ => ?_⟩
  refine thn (hl.run pins s σ H (fun x H1 => ∃ J : It, R J H1 ∧ ((∃ a xs, x = .ref a ∧ SqL X.K H1 a xs ∧ J = Itl X.K a) ∨ (∃ a xs, x = .ref a ∧ SqT X.K H1 a xs ∧ J = Itt X.K a) ∨ (∃ z, x = .str z ∧ J = Its z) ∨ ∃ a ob es, x = .ref a ∧ Rd H1 a (GD.gdO X.w a ob es) ∧ J = GD.Itg X.w a ob es (·.2.1))) I ⟨B, F, e, Rl, ?_⟩) fun v s1 ⟨x, H1, I1, r1, J, q, h1⟩ => ?_
  · refine h.step fun F1 e1 d x H1 l1 R1 D1 h1 => ?_
    obtain ⟨ds, hd, h2⟩ := h1.lift
    cases D1 with
    | lst hq l => cases hd; exact ⟨_, h2.ret R1 (walk_list hq l), .inl ⟨_, _, rfl, hq.seq R1.sub, rfl⟩⟩
    | tup hq l => cases hd; exact ⟨_, h2.ret R1 (walk_tup hq l), .inr (.inl ⟨_, _, rfl, hq.seq R1.sub, rfl⟩)⟩
    | str z => cases hd; exact ⟨_, h2.ret R1 (walk_str z), .inr (.inr (.inl ⟨_, rfl, rfl⟩))⟩
    | gd hg l => cases hd; exact ⟨_, h2.ret R1 (walk_gkeys hg l), .inr (.inr (.inr ⟨_, _, _, rfl, R1.sub _ _ hg, rfl⟩))⟩
    | _ => cases hd
  · rcases h1 with ⟨a, xs, e1, hq, rfl⟩ | ⟨a, xs, e1, hq, rfl⟩ | ⟨z, e1, rfl⟩ | ⟨a, ob, es, e1, hg, rfl⟩
    · subst e1; cases r1; exact piv_list I1 hq q
    · subst e1; cases r1; exact piv_tup I1 hq q
    · subst e1; obtain ⟨t, rfl⟩ := r1; exact piv_str I1 q
    · subst e1; cases r1; exact GD.piv_gd I1 hg q
theorem convI {t t' : TI} (h : PI X tg l t) (k : ∀ σ H R, t' σ H R → t σ H R) : PI X tg l t' := ⟨fun pins s σ H R I q => h.run pins s σ H R I (k σ H R q)⟩
theorem small62_of {i : Int} (h : small62 i = true) : -(2 ^ 62) ≤ i ∧ i < 2 ^ 62 := of_decide_eq_true h
theorem irange1 (hg : Gl X "range") (hm : X.mg "range" = none) (ha : PA X [a] (tA X.K X.mg X.w T W k)) (hs : starEach [a] X.env = [(false, eval a X.env)] := by rfl) : PI X tg (.Call (.Name "range" p) [a] [] pos) (tI X.K X.mg X.w T W (rangeG rng1 k)) := convI (pi_range1 hg hm ha hs) fun σ H R ⟨B, F, e, Rl, h⟩ =>
  ⟨B, F, e, Rl, h.step fun F1 e1 as vs H1 l1 R1 D1 h1 => by
    obtain ⟨ds, hd, h2⟩ := h1.lift
    unfold rng1 at hd
    split at hd
    · rename_i j
      split at hd
      · rename_i hj
        cases hd
        match vs, D1 with
        | [v], ⟨d1, _⟩ =>
          cases (show Den X.K X.mg X.w F1 (.int j) v from d1)
          exact ⟨j, rfl, (small62_of hj).1, (small62_of hj).2, h2.ret R1 (walk_range 0 j.toNat)⟩
      · cases hd
    · cases hd⟩
theorem irange2 (hg : Gl X "range") (hm : X.mg "range" = none) (ha : PA X [a, b] (tA X.K X.mg X.w T W k)) (hs : starEach [a, b] X.env = [(false, eval a X.env), (false, eval b X.env)] := by rfl) (hs2 : starEach [b] X.env = [(false, eval b X.env)] := by rfl) : PI X tg (.Call (.Name "range" p) [a, b] [] pos) (tI X.K X.mg X.w T W (rangeG rng2 k)) := convI (pi_range2 hg hm ha hs hs2) fun σ H R ⟨B, F, e, Rl, h⟩ =>
  ⟨B, F, e, Rl, h.step fun F1 e1 as vs H1 l1 R1 D1 h1 => by
    obtain ⟨ds, hd, h2⟩ := h1.lift
    unfold rng2 at hd
    split at hd
    · rename_i i j
      split at hd
      · rename_i hj
        cases hd
        match vs, D1 with
        | [v, w], ⟨d1, d2, _⟩ =>
          cases (show Den X.K X.mg X.w F1 (.int i) v from d1)
          cases (show Den X.K X.mg X.w F1 (.int j) w from d2)
          exact ⟨i, j, rfl, ⟨(small62_of hj.1).1, (small62_of hj.1).2, (small62_of hj.2).1, (small62_of hj.2).2⟩, h2.ret R1 (walk_range i (j - i).toNat)⟩
      · cases hd
    · cases hd⟩
end

/-! ### an object that one is making stands among the old ones -/
def Bs.wth {T : Tb} (B : Bs T) (p : Addr) (o : HO) : Bs T := ⟨upd B.H0 p o, B.F0, B.io⟩
section
variable {K : PySem.W.Frag} {mg : MG} {w : World} {T : Tb} {B : Bs T} {F H : Hp} {e : En} {σ : St} {p a : Addr} {o o' : HO} {i : Nat}
/-- nobody of the frame knows p -/
structure Bs.off (B : Bs T) (p : Addr) : Prop where
  h0 : B.H0 p = none
  f0 : B.F0 p = none
  io : ∀ i, B.io i ≠ some p
theorem Rel.offNew (R : Rel K mg w B F e σ H) (h : H p = none) : B.off p where
  h0 := R.none0 h
  f0 := by
    cases q : B.F0 p with
    | none => rfl
    | some u => have := R.low _ _ q; rw [R.sub.free h] at this; cases this
  io := fun i hi => by
    obtain ⟨d, hd⟩ := R.ios i p hi
    obtain ⟨a, _, _, e3, c⟩ := R.at' i _ hd
    rw [hi] at e3; cases e3
    obtain ⟨o, e4⟩ := c.tracked
    rw [h] at e4; cases e4
theorem Rel.base (R : Rel K mg w B F e σ H) (h : H p = none) (ht : isTbl o = false) : Rel K mg w (B.wth p o) F e σ (upd H p o) := by
  have R1 := R.grow (o := o) h
  have off := R.offNew h
  refine ⟨R1.sub, fun a u q t n => ?_, fun a u q t => ?_, R1.tabs, R1.low, fun a u q => ?_, R1.len, fun i s hs => ?_, R1.ios, R1.apart, R1.noT⟩
  · have q : upd B.H0 p o a = some u := q
    by_cases ha : a = p
    · subst ha; rw [upd_same] at q ⊢; exact q
    · rw [upd_ne ha] at q; exact R1.old a u q t n
  · have q : upd B.H0 p o a = some u := q
    by_cases ha : a = p
    · subst ha; rw [upd_same] at q; cases q; rw [ht] at t; cases t
    · rw [upd_ne ha] at q; exact R1.oldT a u q t
  · rcases R.fr a u q with z | z
    · exact .inl z
    · right
      have ha : a ≠ p := ne_of_none q (R.sub.free h)
      show upd B.H0 p o a = none
      rw [upd_ne ha]; exact z
  · have z := R1.at' i s hs
    cases s with
    | un => trivial
    | val d => exact z
    | io d => exact z
    | own d =>
      obtain ⟨a, e1, e2, e3, c⟩ := R.at' i _ hs
      obtain ⟨o1, e4⟩ := c.tracked
      have ha : a ≠ p := ne_of_none e4 h
      refine ⟨a, e1, e2, ?_, c.heap (upd_ne ha)⟩
      show upd B.H0 p o a = none
      rw [upd_ne ha]; exact e3
theorem Rel.atBase (R : Rel K mg w (B.wth p o) F e σ H) (off : B.off p) (ht : isTbl o = false) : H p = some o ∧ F p = none := by
  refine ⟨R.old p o (by show upd B.H0 p o p = some o; rw [upd_same]) ht off.io, ?_⟩
  cases q : F p with
  | none => rfl
  | some u =>
    rcases R.fr p u q with z | z
    · have z : B.F0 p = some u := z
      rw [off.f0] at z; cases z
    · have z : upd B.H0 p o p = none := z
      rw [upd_same] at z; cases z
theorem Rel.offHot (R : Rel K mg w (B.wth p o) F e σ H) (off : B.off p) {s : Sl} (h : e[i]? = some s) (hs : s.hot = true) : σ[i]? ≠ some (some (.ref p)) := fun q => by
  have z := R.at' i s h
  cases s with
  | un => cases hs
  | val d => cases hs
  | own d =>
    obtain ⟨a, e1, e2, e3, c⟩ := z
    rw [q] at e1; cases e1
    have e3 : upd B.H0 p o p = none := e3
    rw [upd_same] at e3; cases e3
  | io d =>
    obtain ⟨a, e1, e2, e3, c⟩ := z
    rw [q] at e1; cases e1
    exact off.io i e3
theorem Rel.rebase (R : Rel K mg w (B.wth p o) F e σ H) (off : B.off p) (ht : isTbl o = false) (hx : ¬ isExt o) (ht' : isTbl o' = false) : Rel K mg w (B.wth p o') F e σ (upd H p o') := by
  obtain ⟨hH, hF⟩ := R.atBase off ht
  have hk : ∀ b u, H b = some u → isTbl u = true ∨ isExt u → upd H p o' b = some u := fun b u z t => by
    have : b ≠ p := by
      rintro rfl
      rw [hH] at z; cases z
      rcases t with t | t
      · rw [ht] at t; cases t
      · exact hx t
    rw [upd_ne this]; exact z
  refine ⟨R.sub.upd hF, fun a u q t n => ?_, fun a u q t => ?_, tabs_keep R.tabs hk, R.low, fun a u q => ?_, R.len, fun i s hs => ?_, R.ios, R.apart, R.noT⟩
  · have q : upd B.H0 p o' a = some u := q
    by_cases ha : a = p
    · subst ha; rw [upd_same] at q ⊢; exact q
    · rw [upd_ne ha] at q ⊢
      exact R.old a u (by show upd B.H0 p o a = some u; rw [upd_ne ha]; exact q) t n
  · have q : upd B.H0 p o' a = some u := q
    by_cases ha : a = p
    · subst ha; rw [upd_same] at q; cases q; rw [ht'] at t; cases t
    · rw [upd_ne ha] at q
      exact R.oldT a u (by show upd B.H0 p o a = some u; rw [upd_ne ha]; exact q) t
  · rcases R.fr a u q with z | z
    · exact .inl z
    · right
      have z : upd B.H0 p o a = none := z
      have ha : a ≠ p := by rintro rfl; rw [upd_same] at z; cases z
      rw [upd_ne ha] at z
      show upd B.H0 p o' a = none
      rw [upd_ne ha]; exact z
  · have z := R.at' i s hs
    cases s with
    | un => trivial
    | val d => exact z
    | own d =>
      obtain ⟨a, e1, e2, e3, c⟩ := z
      have ha : a ≠ p := fun q => R.offHot off hs rfl (q ▸ e1)
      have e3 : upd B.H0 p o a = none := e3
      rw [upd_ne ha] at e3
      refine ⟨a, e1, e2, ?_, c.heap (upd_ne ha)⟩
      show upd B.H0 p o' a = none
      rw [upd_ne ha]; exact e3
    | io d =>
      obtain ⟨a, e1, e2, e3, c⟩ := z
      have ha : a ≠ p := fun q => R.offHot off hs rfl (q ▸ e1)
      exact ⟨a, e1, e2, e3, c.heap (upd_ne ha)⟩
theorem Rel.unbase (R : Rel K mg w (B.wth p o) F e σ H) (off : B.off p) : Rel K mg w B F e σ H := by
  refine ⟨R.sub, fun a u q t n => R.old a u ?_ t n, fun a u q t => R.oldT a u ?_ t, R.tabs, R.low, fun a u q => ?_, R.len, fun i s hs => ?_, R.ios, R.apart, R.noT⟩
  · show upd B.H0 p o a = some u
    rw [upd_ne (ne_of_none q off.h0)]; exact q
  · show upd B.H0 p o a = some u
    rw [upd_ne (ne_of_none q off.h0)]; exact q
  · rcases R.fr a u q with z | z
    · exact .inl z
    · right
      have z : upd B.H0 p o a = none := z
      have ha : a ≠ p := by rintro rfl; rw [upd_same] at z; cases z
      rw [upd_ne ha] at z; exact z
  · have z := R.at' i s hs
    cases s with
    | un => trivial
    | val d => exact z
    | io d => exact z
    | own d =>
      obtain ⟨a, e1, e2, e3, c⟩ := z
      have e3 : upd B.H0 p o a = none := e3
      have ha : a ≠ p := by rintro rfl; rw [upd_same] at e3; cases e3
      rw [upd_ne ha] at e3
      exact ⟨a, e1, e2, e3, c⟩
end
/-! ### the slots of a comprehension's own names -/
def wipeE (vs : List Nat) (e : En) : En := e.mapIdx fun i s => if i ∈ vs then .un else s
def backE (vs : List Nat) (e0 e : En) : En := e.mapIdx fun i s => if i ∈ vs then e0.getD i .un else s
def coolAt (vs : List Nat) (e : En) : Bool := vs.all fun i => match e[i]? with | some s => !s.hot | none => true
theorem wipe_get {σ : St} {i : Nat} : ∀ {vs : List Nat}, i ∉ vs → (wipe σ vs)[i]? = σ[i]?
  | [], _ => rfl
  | v :: vs, h => by
    unfold wipe
    rw [List.getElem?_set_ne fun q => h (by rw [q]; exact List.mem_cons_self)]
    exact wipe_get fun q => h (List.mem_cons_of_mem _ q)
section
variable {K : PySem.W.Frag} {mg : MG} {w : World} {T : Tb} {B : Bs T} {F F' H H' : Hp} {e e' : En} {σ : St} {vs : List Nat}
theorem cool_of (h : coolAt vs e = true) {i : Nat} {s : Sl} (hi : i ∈ vs) (hs : e[i]? = some s) : s.hot = false := by
  have := List.all_eq_true.mp h i hi
  rw [hs] at this
  simpa using this
theorem wipeE_at {i : Nat} {s : Sl} (h : (wipeE vs e)[i]? = some s) : (i ∈ vs ∧ s = .un) ∨ (i ∉ vs ∧ e[i]? = some s) := by
  unfold wipeE at h
  rw [List.getElem?_mapIdx] at h
  cases q : e[i]? with
  | none => rw [q] at h; cases h
  | some t =>
    rw [q] at h
    by_cases hi : i ∈ vs
    · simp [hi] at h; exact .inl ⟨hi, h.symm⟩
    · simp [hi] at h; subst h; exact .inr ⟨hi, rfl⟩
theorem Rel.wipe (R : Rel K mg w B F e σ H) (h : coolAt vs e = true) : Rel K mg w B F (wipeE vs e) (L2.wipe σ vs) H := by
  refine ⟨R.sub, R.old, R.oldT, R.tabs, R.low, R.fr, by rw [wipe_length, wipeE, List.length_mapIdx]; exact R.len, fun i s hs => ?_, fun i a ha => ?_, fun i j a s t h1 h2 h3 h4 h5 h6 => ?_, R.noT⟩
  · rcases wipeE_at hs with ⟨_, rfl⟩ | ⟨hi, h1⟩
    · trivial
    · rw [wipe_get hi]; exact R.at' i s h1
  · obtain ⟨d, hd⟩ := R.ios i a ha
    have hi : i ∉ vs := fun q => by have := cool_of h q hd; cases this
    exact ⟨d, by unfold wipeE; rw [List.getElem?_mapIdx, hd]; simp [hi]⟩
  · rcases wipeE_at h1 with ⟨_, rfl⟩ | ⟨hi, g1⟩
    · cases h3
    · rcases wipeE_at h2 with ⟨_, rfl⟩ | ⟨hj, g2⟩
      · cases h4
      · rw [wipe_get hi] at h5; rw [wipe_get hj] at h6
        exact R.apart i j a s t g1 g2 h3 h4 h5 h6
theorem backE_at {i : Nat} {s : Sl} {e0 : En} (h : (backE vs e0 e)[i]? = some s) : (i ∈ vs ∧ s = e0.getD i .un) ∨ (i ∉ vs ∧ e[i]? = some s) := by
  unfold backE at h
  rw [List.getElem?_mapIdx] at h
  cases q : e[i]? with
  | none => rw [q] at h; cases h
  | some t =>
    rw [q] at h
    by_cases hi : i ∈ vs
    · simp [hi] at h; exact .inl ⟨hi, by rw [List.getD_eq_getElem?_getD]; exact h.symm⟩
    · simp [hi] at h; subst h; exact .inr ⟨hi, rfl⟩
/-- behind a comprehension: its own names stand for what they stood for -/
theorem Rel.unwipe {e0 : En} {H0 : Hp} (R0 : Rel K mg w B F e0 σ H0) (hc : coolAt vs e0 = true) (le : Le F F') (R : Rel K mg w B F' e (L2.wipe σ vs) H') : Rel K mg w B F' (backE vs e0 e) σ H' := by
  have low : ∀ {i : Nat} {s : Sl}, i ∈ vs → s = e0.getD i .un → s.hot = false ∧ SlOk K mg w B F' H' i σ[i]? s := by
    intro i s hi hs
    rw [List.getD_eq_getElem?_getD] at hs
    cases q : e0[i]? with
    | none => rw [q] at hs; subst hs; exact ⟨rfl, trivial⟩
    | some t =>
      rw [q] at hs
      have hs : s = t := hs
      subst hs
      have hh := cool_of hc hi q
      have z := R0.at' i s q
      cases s with
      | un => exact ⟨rfl, trivial⟩
      | val d => obtain ⟨x, e1, e2⟩ := z; exact ⟨rfl, x, e1, e2.mono le⟩
      | own d => cases hh
      | io d => cases hh
  refine ⟨R.sub, R.old, R.oldT, R.tabs, R.low, R.fr, by unfold backE; rw [List.length_mapIdx, R.len, wipe_length], fun i s hs => ?_, fun i a ha => ?_, fun i j a s t h1 h2 h3 h4 h5 h6 => ?_, R.noT⟩
  · rcases backE_at hs with ⟨hi, h1⟩ | ⟨hi, h1⟩
    · exact (low hi h1).2
    · have z := R.at' i s h1
      rw [wipe_get hi] at z; exact z
  · obtain ⟨d, hd⟩ := R.ios i a ha
    have hi : i ∉ vs := fun q => by
      obtain ⟨d0, hd0⟩ := R0.ios i a ha
      have := cool_of hc q hd0; cases this
    exact ⟨d, by unfold backE; rw [List.getElem?_mapIdx, hd]; simp [hi]⟩
  · rcases backE_at h1 with ⟨hi, g1⟩ | ⟨hi, g1⟩
    · rw [(low hi g1).1] at h3; cases h3
    · rcases backE_at h2 with ⟨hj, g2⟩ | ⟨hj, g2⟩
      · rw [(low hj g2).1] at h4; cases h4
      · exact R.apart i j a s t g1 g2 h3 h4 (by rw [wipe_get hi]; exact h5) (by rw [wipe_get hj]; exact h6)
end
theorem wipe_eq {σ σ' : St} {vs : List Nat} (h : ∀ j, j ∉ vs → σ'[j]? = σ[j]?) (hl : σ'.length = σ.length) : wipe σ' vs = wipe σ vs := by
  refine List.ext_getElem? fun i => ?_
  by_cases hi : i ∈ vs
  · have : ∀ (τ : St) {vs : List Nat}, i ∈ vs → (wipe τ vs)[i]? = if i < τ.length then some none else none := by
      intro τ vs
      induction vs with
      | nil => intro h; cases h
      | cons v vs ih =>
        intro h
        unfold wipe
        by_cases hv : v = i
        · subst hv
          by_cases hl : v < τ.length
          · rw [List.getElem?_set_self (by rw [wipe_length]; exact hl), if_pos hl]
          · rw [List.getElem?_eq_none (by rw [List.length_set, wipe_length]; omega), if_neg hl]
        · rw [List.getElem?_set_ne hv]
          rcases List.mem_cons.mp h with q | q
          · exact absurd q.symm hv
          · exact ih q
    rw [this σ' hi, this σ hi, hl]
  · rw [wipe_get hi, wipe_get hi, h i hi]
end L2.PV

set_option Elab.async false
set_option linter.all false
set_option maxRecDepth 100000
set_option autoImplicit false
namespace L2.PV
open PySem PySem.Spec PyProof.Rows

/-! ### comprehensions -/
abbrev W0 : WX := fun _ _ _ _ => False
def compL (t : Tg) (tt : En → Res Bool) (ge : En → Res D) (vs : List Nat) : List D → En → List D → Res (List D)
  | [], e, acc => .ok acc e
  | d :: ds, e, acc => match t.go d e with
    | none => .bad
    | some e1 => match tt e1 with
      | .ok b e2 => if b = true then match ge e2 with
          | .ok y e3 => if coolAt vs e3 = true ∧ acc.length < sizeLine then compL t tt ge vs ds (wipeE vs e3) (acc ++ [y]) else .bad
          | _ => .bad
        else if coolAt vs e2 = true then compL t tt ge vs ds (wipeE vs e2) acc else .bad
      | _ => .bad
def compG (gi : En → Res (List D)) (t : Tg) (tt : En → Res Bool) (ge : En → Res D) (vs : List Nat) : En → Res D := fun e => (gi e).bind fun ds e1 =>
  if coolAt vs e1 = true then match compL t tt ge vs ds (wipeE vs e1) [] with
    | .ok acc e2 => .ok (.lst acc) (backE vs e1 e2)
    | _ => .bad
  else .bad
def yesT : En → Res Bool := fun e => .ok true e
section
variable {X : Cx} {T : Tb} {W : WX} {k : Nat}
theorem tsnil : PTs X [] (tB X.K X.mg X.w T W yesT) := ⟨fun pins s σ H Q I ⟨B, F, e, R, h⟩ => pts_nil.run pins s σ H Q I (h.ret R rfl)⟩
theorem tsone {c : Expr} {g : En → Res Bool} (h : PT X c (tB X.K X.mg X.w T W g)) : PTs X [c] (tB X.K X.mg X.w T W g) := pts_one h
theorem Cc.blk (c : Cc X W k) (s : Shared) (H : Hp) (scope : Scope) (cenv : Env) (fp : List Addr) : Cc (X.blk s H scope cenv fp) W0 k := ⟨c.calm, L2.takes0, PassesOwn.never, c.room, c.nd, c.gd⟩
theorem lc_read {K : PySem.W.Frag} {mg : MG} {w : World} {gi : En → Res (List D)} {t : Tg} {tt : En → Res Bool} {ge : En → Res D} {vs : List Nat} {σ : St} {H : Hp} {Q : VK} (hts : ∀ j ∈ t.slots, j ∈ vs)
    (h : tN K mg w T W (compG gi t tt ge vs) σ H Q) : tLc (tI K mg w T W gi) (tG K mg w T t) (tB K mg w T W0 tt) (tE K mg w T W0 ge) vs σ H Q := by
  obtain ⟨B, F, e, R, h⟩ := h
  refine ⟨B, F, e, R, PostN.step (R := fun F' ds J => Walk K mg w F' J ds) h fun F1 e1 ds J H1 l1 R1 Wk h1 => ?_⟩
  by_cases hc : coolAt vs e1 = true
  · rw [if_pos hc] at h1
    intro p hp
    have off := R1.offNew hp
    -- what the rest of the walk is to give
    let CP : Hp → Res (List D) → Prop := fun F2 r => match r with
      | .ok acc e2 => PostN K mg w W B σ F2 (.ok (.lst acc) (backE vs e1 e2)) Q
      | _ => False
    have CPle : ∀ {F2 F3 r}, Le F2 F3 → CP F2 r → CP F3 r := fun {F2 F3 r} l c => by
      cases r with
      | ok acc e2 => exact PostN.le c l
      | exc x e => exact c
      | bad => exact c
    have h2 : CP F1 (compL t tt ge vs ds (wipeE vs e1) []) := by
      cases q : compL t tt ge vs ds (wipeE vs e1) [] with
      | ok acc e2 => rw [q] at h1; exact h1
      | exc x e => rw [q] at h1; exact h1
      | bad => rw [q] at h1; exact h1
    let St2 : Nat → Hp → Prop := fun i H => ∃ F2 e2 acc vacc, Le F1 F2 ∧ Rel K mg w (B.wth p (.lst vacc)) F2 e2 (wipe σ vs) H ∧ DenL K mg w F2 acc vacc ∧ CP F2 (compL t tt ge vs (ds.drop i) e2 acc)
    refine ⟨fun i m H => m = ds.length - i ∧ i ≤ ds.length ∧ St2 i H, ⟨ds.length, by simp, Nat.zero_le _, F1, wipeE vs e1, [], [], Le.refl F1, (R1.base hp rfl).wipe hc, .nil, by simpa using h2⟩, ?_⟩
    rintro i m H2 ⟨rfl, hi, F2, e2, acc, vacc, l2, R2, dl, c2⟩
    by_cases hlt : i < ds.length
    · right
      obtain ⟨d, hd⟩ : ∃ d, ds[i]? = some d := ⟨ds[i], List.getElem?_eq_getElem hlt⟩
      obtain ⟨g1, g2⟩ := Wk.go F2 H2 i d l2 R2.sub hd
      refine ⟨g1, St2 (i + 1), fun H' s2 => ⟨ds.length - (i + 1), by omega, rfl, hlt, s2⟩, fun x H' hy => ?_⟩
      obtain ⟨F3, l3, hD, hR⟩ := g2 x H' hy
      have hdrop : ds.drop i = d :: ds.drop (i + 1) := by
        rw [List.drop_eq_getElem_cons hlt]
        rw [List.getElem?_eq_getElem hlt] at hd
        rw [Option.some.inj hd]
      rw [hdrop] at c2
      unfold compL at c2
      cases hgo : t.go d e2 with
      | none => simp only [hgo] at c2; exact c2.elim
      | some e3 =>
        simp only [hgo] at c2
        refine ⟨B.wth p (.lst vacc), F3, e2, d, hR T _ e2 _ R2, hD, e3, hgo, fun σ2 hj hl R4 => ?_⟩
        have hw : wipe σ2 vs = wipe σ vs := by
          rw [wipe_eq (fun j hjv => hj j fun q => hjv (hts j q)) hl]
          exact wipe_eq (fun j hjv => wipe_get hjv) (wipe_length σ vs)
        refine ⟨hw, B.wth p (.lst vacc), F3, e3, R4, ?_⟩
        cases htt : tt e3 with
        | bad => simp only [htt] at c2; exact c2.elim
        | exc x' e' => simp only [htt] at c2; exact c2.elim
        | ok b e4 =>
          simp only [htt] at c2
          intro F4 b' H4 l4 R5 hb
          subst hb
          cases b' with
          | false =>
            rw [if_neg Bool.false_ne_true] at c2 ⊢
            by_cases hc4 : coolAt vs e4 = true
            · rw [if_pos hc4] at c2
              exact ⟨F4, wipeE vs e4, acc, vacc, l2.trans (l3.trans l4), hw ▸ R5.wipe hc4, dl.mono (l3.trans l4), CPle (l3.trans l4) c2⟩
            · rw [if_neg hc4] at c2; exact c2.elim
          | true =>
            rw [if_pos rfl] at c2 ⊢
            refine ⟨B.wth p (.lst vacc), F4, e4, R5, ?_⟩
            cases hge : ge e4 with
            | bad => simp only [hge] at c2; exact c2.elim
            | exc x' e' => simp only [hge] at c2; exact c2.elim
            | ok y e5 =>
              simp only [hge] at c2
              by_cases hc5 : coolAt vs e5 = true ∧ acc.length < sizeLine
              · rw [if_pos hc5] at c2
                intro F6 yv H6 l6 R6 hy6
                refine ⟨vacc, (R6.atBase off rfl).1, by rw [← dl.length]; exact hc5.2, F6, wipeE vs e5, acc ++ [y], vacc ++ [yv], l2.trans (l3.trans (l4.trans l6)), hw ▸ (R6.rebase off rfl (fun ⟨_, _, z⟩ => by cases z) rfl).wipe hc5.1, (dl.mono (l3.trans (l4.trans l6))).append (.cons hy6 .nil), CPle (l3.trans (l4.trans l6)) c2⟩
              · rw [if_neg hc5] at c2; exact c2.elim
    · left
      have ei : i = ds.length := by omega
      subst ei
      refine ⟨Wk.stop F2 H2 _ l2 R2.sub (Nat.le_refl _), ?_⟩
      rw [List.drop_length] at c2
      have c2 : PostN K mg w W B σ F2 (.ok (.lst acc) (backE vs e1 e2)) Q := c2
      obtain ⟨hH, hF⟩ := R2.atBase off rfl
      refine c2 F2 p H2 (Le.refl F2) (R1.unwipe hc l2 (R2.unbase off)) hF off.h0 ⟨vacc, hH, dl⟩ fun j s hs ht => ?_
      rcases backE_at hs with ⟨hj, e1'⟩ | ⟨hj, e1'⟩
      · rw [List.getD_eq_getElem?_getD] at e1'
        cases q : e1[j]? with
        | none => rw [q] at e1'; subst e1'; cases ht
        | some s' =>
          rw [q] at e1'
          have e1' : s = s' := e1'
          subst e1'
          rw [cool_of hc hj q] at ht; cases ht
      · rw [← wipe_get hj]; exact R2.offHot off e1' ht
  · rw [if_neg hc] at h1; exact h1.elim
variable {elt tg iter : Expr} {ifs : List Expr} {scope : Scope} {own : List (Str × Nat)} {pos spos : Pos} {gi : En → Res (List D)} {t : Tg} {tt : En → Res Bool} {ge : En → Res D}
theorem nlc (c : Cc X W k) (hi : PI X tg iter (tI X.K X.mg X.w T W gi)) (ok : BlkOk X.N X.env.scope scope own) (hts : ∀ j ∈ t.slots, j ∈ own.map (·.2))
    (hg : ∀ (s : Shared) (H : Hp) (C : Addr) (cl : List (Str × Addr)) (fp : List Addr), Cc (X.blk s H scope (compEnvC scope cl C X.env) fp) W0 k → PG (X.blk s H scope (compEnvC scope cl C X.env) fp) tg (tG X.K X.mg X.w T t))
    (ht : ∀ (s : Shared) (H : Hp) (C : Addr) (cl : List (Str × Addr)) (fp : List Addr), Cc (X.blk s H scope (compEnvC scope cl C X.env) fp) W0 k → PTs (X.blk s H scope (compEnvC scope cl C X.env) fp) ifs (tB X.K X.mg X.w T W0 tt))
    (he : ∀ (s : Shared) (H : Hp) (C : Addr) (cl : List (Str × Addr)) (fp : List Addr), Cc (X.blk s H scope (compEnvC scope cl C X.env) fp) W0 k → PE (X.blk s H scope (compEnvC scope cl C X.env) fp) elt (tE X.K X.mg X.w T W0 ge))
    (hs : ∀ x, foldedSetIterable iter X.env x = pure x := by intro _; rfl) : PE X (.ListComp elt [⟨tg, iter, ifs, 0⟩] scope pos) (tN X.K X.mg X.w T W (compG gi t tt ge (own.map (·.2)))) :=
  conv (pe_lc c.calm c.nd hi ok (fun s H C cl fp => hg s H C cl fp (c.blk ..)) (fun s H C cl fp => ht s H C cl fp (c.blk ..)) (fun s H C cl fp => he s H C cl fp (c.blk ..)) hs) fun σ H Q h => lc_read hts h
/-- y = [..] on one line, y a local -/
theorem sownLc {y : Str} {py : Pos} (i : Nat) (c : Cc X W k) (hsw : swapsWith (.ListComp elt [⟨tg, iter, ifs, 0⟩] scope pos) (some (.Name y py)) spos.line X.env = pure true) (hi : PI X tg iter (tI X.K X.mg X.w T W gi)) (ok : BlkOk X.N X.env.scope scope own) (hts : ∀ j ∈ t.slots, j ∈ own.map (·.2))
    (hg : ∀ (s : Shared) (H : Hp) (C : Addr) (cl : List (Str × Addr)) (fp : List Addr), Cc (X.blk s H scope (compEnvC scope cl C X.env) fp) W0 k → PG (X.blk s H scope (compEnvC scope cl C X.env) fp) tg (tG X.K X.mg X.w T t))
    (ht : ∀ (s : Shared) (H : Hp) (C : Addr) (cl : List (Str × Addr)) (fp : List Addr), Cc (X.blk s H scope (compEnvC scope cl C X.env) fp) W0 k → PTs (X.blk s H scope (compEnvC scope cl C X.env) fp) ifs (tB X.K X.mg X.w T W0 tt))
    (he : ∀ (s : Shared) (H : Hp) (C : Addr) (cl : List (Str × Addr)) (fp : List Addr), Cc (X.blk s H scope (compEnvC scope cl C X.env) fp) W0 k → PE (X.blk s H scope (compEnvC scope cl C X.env) fp) elt (tE X.K X.mg X.w T W0 ge))
    (hy : X.N[i]? = some y := by rfl) (hyl : X.env.scope.names.lookup y = some .local := by rfl) (hs : ∀ x, foldedSetIterable iter X.env x = pure x := by intro _; rfl) :
    PS X (.Assign [.Name y py] (.ListComp elt [⟨tg, iter, ifs, 0⟩] scope pos) spos) (tS X.K X.mg X.w T W (ownS i (compG gi t tt ge (own.map (·.2))))) :=
  convS (ps_setLc c.calm c.nd hy hyl hsw hi ok (fun s H C cl fp => hg s H C cl fp (c.blk ..)) (fun s H C cl fp => ht s H C cl fp (c.blk ..)) (fun s H C cl fp => he s H C cl fp (c.blk ..)) hs) fun N σ H ⟨B, F, e, R, q⟩ => lc_read hts
    ⟨B, F, e, R, PostS.stepN q fun F1 e1 c a H1 l R1 n n0 ck hn q1 => by
      cases hp : putO i c e1 with
      | none => rw [hp] at q1; exact q1.elim
      | some e2 => rw [hp] at q1; exact q1 F1 _ H1 (Le.refl F1) (putO_ok R1 n n0 ck hn hp)⟩
end
/-- a name's own object, at once a plain value -/
theorem sownV {X : Cx} {T : Tb} {W : WX} {st : Stmt} {i : Nat} {g : En → Res D} (h : PS X st (tS X.K X.mg X.w T W (ownS i g))) : PS X st (tS X.K X.mg X.w T W (setS i g)) := convS h fun N σ H ⟨B, F, e, R, q⟩ => by
  refine ⟨B, F, e, R, ?_⟩
  unfold setS at q
  unfold ownS
  cases hg : g e with
  | bad => rw [hg] at q; exact q
  | exc x e1 => rw [hg] at q; exact q
  | ok d e1 =>
    rw [hg] at q
    have q : PostS X.K X.mg X.w W B F (nxO (putV i d e1)) N := q
    show PostS X.K X.mg X.w W B F (nxO (putO i d e1)) N
    unfold putV at q
    unfold putO
    cases hs : e1[i]? with
    | none => rw [hs] at q; exact q
    | some s =>
      rw [hs] at q
      cases ht : s.isIo with
      | true => simp only [ht] at q ⊢; exact q
      | false =>
        simp only [ht] at q ⊢
        intro F' σ' H' l R'
        have hi : i < e1.length := (List.getElem?_eq_some_iff.mp hs).1
        obtain ⟨F2, l2, R2⟩ := R'.freeze (i := i) (d := d) (by rw [List.getElem?_set_self hi])
        rw [List.set_set] at R2
        exact q F2 σ' H' (l.trans l2) R2
end L2.PV

set_option Elab.async false
set_option linter.all false
set_option maxRecDepth 100000
set_option autoImplicit false
/-! Dicts with mixed keys, by pure values. -/
namespace L2.PV
open PySem PySem.Spec PyProof.Rows
section
variable {K : PySem.W.Frag} {mg : MG} {w : World} {F H : Hp}
mutual
theorem key_den (s : Sub F H) : ∀ {d : D} {v : V} {k : NestedKey}, Den K mg w F d v → keyN d = some k → GD.KeyV K H k v
  | _, _, _, .non, h => by cases h; exact .non
  | _, _, _, .bl b, h => by cases h; exact .bl b
  | _, _, _, .int i, h => by cases h; exact .int i
  | _, _, _, .str x, h => by cases h; exact .str x
  | _, _, _, .tup h l, e => by
    obtain ⟨ks, h1, rfl⟩ := Option.map_eq_some_iff.mp e
    exact .tup (h.seq s) (keys_den s l h1)
  | _, _, _, .lst _ _, h => by cases h
  | _, _, _, .dct _ _, h => by cases h
  | _, _, _, .obj _ _ _, h => by cases h
  | _, _, _, .con _, h => by cases h
  | _, _, _, .xn0 _ _, h => by cases h
  | _, _, _, .xn1 _ _, h => by cases h
  | _, _, _, .gd _ _, h => by cases h
  | _, _, _, .sob _ _ _ _, h => by cases h
  | _, _, _, .er0 _ _, h => by cases h
  | _, _, _, .er1 _ _ _ _, h => by cases h
theorem keys_den (s : Sub F H) : ∀ {ds : List D} {vs : List V} {ks : List NestedKey}, DenL K mg w F ds vs → keyNs ds = some ks → GD.KeyVs K H ks vs
  | _, _, _, .nil, h => by cases h; exact .nil
  | _, _, _, .cons h t, e => by
    obtain ⟨k, h1, h2⟩ := Option.bind_eq_some_iff.mp e
    obtain ⟨ks, h3, rfl⟩ := Option.map_eq_some_iff.mp h2
    exact .cons (key_den s h h1) (keys_den s t h3)
end
theorem keyOk_some {d : D} {k : NestedKey} (h : keyOk d = some k) : keyN d = some k ∧ k.depth ≤ 8 := by
  obtain ⟨j, h1, h2⟩ := Option.bind_eq_some_iff.mp h
  split at h2
  · rename_i hd; cases h2; exact ⟨h1, hd⟩
  · cases h2
def lookG (kvs : List (D × D)) (k : NestedKey) : Option D := (kvs.find? fun kv => keyOk kv.1 == some k).map (·.2)
def putG (kvs : List (D × D)) (kd d : D) (k : NestedKey) : List (D × D) := if (lookG kvs k).isSome then kvs.map (fun kv => if (keyOk kv.1 == some k) = true then (kv.1, d) else kv) else kvs ++ [(kd, d)]
theorem DenG.len : ∀ {ds : List (D × D)} {es : List GD.EnV}, DenG K mg w F ds es → ds.length = es.length
  | _, _, .nil => rfl
  | _, _, .cons _ _ _ t => by rw [List.length_cons, List.length_cons, t.len]
theorem DenG.keys (s : Sub F H) : ∀ {ds : List (D × D)} {es : List GD.EnV}, DenG K mg w F ds es → GD.KeysV K H es
  | _, _, .nil => fun e he => by cases he
  | _, _, .cons n k _ t => fun e he => by
    rcases List.mem_cons.mp he with rfl | he
    · obtain ⟨h1, h2⟩ := keyOk_some n
      exact ⟨key_den s k h1, h2⟩
    · exact t.keys s e he
theorem DenG.find {k : NestedKey} : ∀ {ds : List (D × D)} {es : List GD.EnV}, DenG K mg w F ds es → (lookG ds k = none ∧ GD.vAt es k = none) ∨ ∃ d v, lookG ds k = some d ∧ GD.vAt es k = some v ∧ Den K mg w F d v
  | _, _, .nil => .inl ⟨rfl, rfl⟩
  | _, _, .cons (kd := kd) (k := k') n _ h t => by
    unfold lookG GD.vAt
    rw [List.find?_cons, List.find?_cons]
    simp only [n]
    by_cases hk : k' = k
    · subst hk
      simp only [beq_self_eq_true, decide_true]
      exact .inr ⟨_, _, rfl, rfl, h⟩
    · have h1 : (some k' == some k) = false := by
        cases hb : (some k' == some k) with
        | false => rfl
        | true => exact absurd (Option.some.inj (eq_of_beq hb)) hk
      simp only [h1, decide_eq_false hk]
      exact t.find
theorem DenG.some' {k : NestedKey} {ds : List (D × D)} {es : List GD.EnV} (h : DenG K mg w F ds es) : (lookG ds k).isSome = (GD.vAt es k).isSome := by
  rcases h.find (k := k) with ⟨a, b⟩ | ⟨d, v, a, b, _⟩ <;> rw [a, b] <;> rfl
theorem DenG.append : ∀ {ds es' : List (D × D)} {es fs : List GD.EnV}, DenG K mg w F ds es → DenG K mg w F es' fs → DenG K mg w F (ds ++ es') (es ++ fs)
  | _, _, _, _, .nil, s => s
  | _, _, _, _, .cons n k h t, s => .cons n k h (t.append s)
theorem DenG.rep {k : NestedKey} {d : D} {v : V} (hd : Den K mg w F d v) : ∀ {ds : List (D × D)} {es : List GD.EnV}, DenG K mg w F ds es → DenG K mg w F (ds.map (fun kv => if (keyOk kv.1 == some k) = true then (kv.1, d) else kv)) (es.map (fun e => if e.1 = k then (e.1, e.2.1, v) else e))
  | _, _, .nil => .nil
  | _, _, .cons (k := k') n hk' hd' t => by
    rw [List.map_cons, List.map_cons]
    by_cases e : k' = k
    · subst e
      simp only [n, beq_self_eq_true, if_true]
      exact .cons n hk' hd (DenG.rep hd t)
    · have h1 : (some k' == some k) = false := by
        cases hb : (some k' == some k) with
        | false => rfl
        | true => exact absurd (Option.some.inj (eq_of_beq hb)) e
      simp only [n, h1, if_neg e, Bool.false_eq_true, if_false]
      exact .cons n hk' hd' (DenG.rep hd t)
theorem DenG.put {ds : List (D × D)} {es : List GD.EnV} {k : NestedKey} {kd d : D} {kv v : V} (h : DenG K mg w F ds es) (hn : keyOk kd = some k) (hk : Den K mg w F kd kv) (hd : Den K mg w F d v) : DenG K mg w F (putG ds kd d k) (GD.vPut es k kv v) := by
  unfold putG GD.vPut
  rw [h.some' (k := k)]
  split
  · exact DenG.rep hd h
  · exact h.append (.cons hn hk hd .nil)
end
end L2.PV

set_option Elab.async false
set_option linter.all false
set_option maxRecDepth 100000
set_option autoImplicit false
namespace L2.PV
open PySem PySem.Spec PyProof.Rows

/-! ### data for == -/
mutual
def toPy : D → Option PyData
  | .non => some .none
  | .bl b => some (.bool b)
  | .int i => some (.int i)
  | .str x => some (.str x)
  | .lst xs => (toPys xs).map .list
  | .tup xs => (toPys xs).map .tuple
  | _ => none
def toPys : List D → Option (List PyData)
  | [] => some []
  | d :: ds => (toPy d).bind fun p => (toPys ds).map (p :: ·)
end
def eqB (a b : D) : Option Bool := (toPy a).bind fun p => (toPy b).bind fun q => if SeqAt.shaped p = true ∧ SeqAt.shaped q = true then some (PyData.eqv p q) else none
def eqD (a b : D) : Option D := (eqB a b).map .bl
def neD (a b : D) : Option D := (eqB a b).map fun k => .bl (!k)
section
variable {K : PySem.W.Frag} {mg : MG} {w : World} {F H : Hp}
mutual
theorem Den.dp (s : Sub F H) : ∀ {d : D} {v : V}, Den K mg w F d v → ∀ {p : PyData}, toPy d = some p → Dp K H v p
  | _, _, .non, _, h => by cases h; exact .non
  | _, _, .bl b, _, h => by cases h; exact .bl b
  | _, _, .int i, _, h => by cases h; exact .int i
  | _, _, .str x, _, h => by cases h; exact .str x
  | _, _, .tup h l, _, e => by
    unfold toPy at e
    obtain ⟨ps, h1, rfl⟩ := Option.map_eq_some_iff.mp e
    exact .tup (h.seq s) (DenL.dp s l h1)
  | _, _, .lst h l, _, e => by
    unfold toPy at e
    obtain ⟨ps, h1, rfl⟩ := Option.map_eq_some_iff.mp e
    exact .lst (h.seq s) (DenL.dp s l h1)
  | _, _, .dct h l, _, e => by cases e
  | _, _, .obj m h l, _, e => by cases e
  | _, _, .con v, _, e => by cases e
  | _, _, .xn0 _ _, _, e => by cases e
  | _, _, .xn1 _ _, _, e => by cases e
  | _, _, .gd _ _, _, e => by cases e
  | _, _, .sob _ _ _ _, _, e => by cases e
  | _, _, .er0 _ _, _, e => by cases e
  | _, _, .er1 _ _ _ _, _, e => by cases e
theorem DenL.dp (s : Sub F H) : ∀ {d : List D} {v : List V}, DenL K mg w F d v → ∀ {p : List PyData}, toPys d = some p → DpAll K H v p
  | _, _, .nil, _, h => by cases h; exact .nil
  | _, _, .cons h t, _, e => by
    unfold toPys at e
    obtain ⟨p, h1, h2⟩ := bind_some' e
    obtain ⟨ps, h3, rfl⟩ := Option.map_eq_some_iff.mp h2
    exact .cons (Den.dp s h h1) (DenL.dp s t h3)
end
end
/-- a rule's conclusion by an or -/
theorem CallR.or {X : Cx} {f : Value} {r r' : List V → Hp → VK → Prop} (h : CallR X f r) (h' : CallR X f r') : CallR X f (fun xs H Q => r xs H Q ∨ r' xs H Q) := fun pins s σ H xs us Q I rv q => q.elim (h pins s σ H xs us Q I rv) (h' pins s σ H xs us Q I rv)
section
variable {X : Cx}
theorem rd_list {pins : List (Addr × Obj)} {σ : St} {H : Hp} {s : Shared} {l : Addr} {xs : List V} (I : Inv X pins σ H s) (hH : Rd H l (.lst xs)) : xs.length ≤ sizeLine ∧ ∃ (its : List Value) (n : Nat), Vals xs its ∧ xs.length = its.length ∧ s.heap.get? l = some { cls := .type "list", data := .seq its.toArray n } := by
  obtain ⟨z, its, n, r, e⟩ := hH.ok I.hok
  exact ⟨z, its, n, r, r.length, e⟩
def rCatR : R2 := fun x y H Q => ∃ l b xs zs, x = .ref l ∧ y = .ref b ∧ Rd H l (.lst xs) ∧ Rd H b (.lst zs) ∧ xs.length + zs.length ≤ sizeLine ∧ ∀ p, H p = none → Q (.ref p) (upd H p (.lst (xs ++ zs)))
theorem op_catR : OpR X (binaryOp .Add) rCatR := by
  intro pins s σ H x y v u Q I rx ry h
  obtain ⟨l, b, xs, zs, rfl, rfl, hH, hB, hz, q⟩ := h
  cases rx
  cases ry
  obtain ⟨z, its, n, r, hl, e⟩ := rd_list I hH
  obtain ⟨z2, its2, n2, r2, hl2, e2⟩ := rd_list I hB
  refine PySem.P.add_list e e2 ?_ (by rw [List.size_toArray, List.size_toArray]; omega)
  have ea : its.toArray ++ its2.toArray = (its ++ its2).toArray := by simp
  rw [ea]
  exact ⟨.ref _, _, I.lnew (t' := s.toks) (r.append r2) (by rw [List.length_append]; omega), rfl, q _ I.fresh⟩
def rRepR : R2 := fun x y H Q => ∃ l k xs, x = .ref l ∧ y = .int k ∧ Rd H l (.lst xs) ∧ -(2 ^ 63) ≤ k ∧ k < 2 ^ 63 ∧ xs.length * k.toNat ≤ sizeLine ∧
  ∀ p, H p = none → Q (.ref p) (upd H p (.lst (List.replicate k.toNat xs).flatten))
theorem op_repR : OpR X (binaryOp .Mult) rRepR := by
  intro pins s σ H x y v u Q I rx ry h
  obtain ⟨l, k, xs, rfl, rfl, hH, h1, h2, hz, q⟩ := h
  cases rx
  obtain ⟨t, rfl⟩ := ry
  obtain ⟨z, its, n, r, hl, e⟩ := rd_list I hH
  have hlen : its.toArray.size * k.toNat ≤ sizeLine := by rw [List.size_toArray, ← hl]; exact hz
  have hcap : ¬ its.toArray.size * k.toNat > (2 ^ 63 - 1) / 8 := by
    have : (sizeLine : Nat) ≤ (2 ^ 63 - 1) / 8 := by decide
    omega
  have hfit : ¬ (!Builtin.List.listFitsIndex k) = true := by
    rw [fitsIndex_both h1 h2]
    exact Bool.false_ne_true
  have hlong : ¬ Builtin.List.listTooLong (its.toArray.size * k.toNat) = true := by
    rw [notLongL hlen]
    exact Bool.false_ne_true
  have hnew : List.foldl (fun x1 x2 => x1 ++ x2) #[] (List.replicate (if its.toArray.isEmpty = true then 0 else k.toNat) its.toArray) = (List.replicate k.toNat its).flatten.toArray := by
    have f0 : ∀ m : Nat, List.foldl (fun x1 x2 => x1 ++ x2) #[] (List.replicate m its.toArray) = (List.replicate m its).flatten.toArray := fun m => by
      have := foldl_rep its m []
      rw [List.nil_append] at this
      exact this
    rw [f0]
    cases its with
    | nil => simp
    | cons a r' => rw [if_neg (by simp)]
  refine wpAny_binaryOp_repeat_ref (T := "list") (U := "int") (by decide) ⟨_, e, rfl⟩ (fun s' => typeIs_int s' k t) noFill_list_mul PySem.F.fills_int_mul PySem.F.slot_int_rmul repeat_list PySem.F.slot_int_index.lookup
    (call_meets PySem.F.slot_int_rmul (typeIs_int s k t) PySem.F.entry_int_rmul (PySem.F.args_int_rmul_2 _ _) (int___rmul___int_list k t l its.toArray n)
      ⟨e, rfl, ⟨_, e, rfl⟩, call_meets PySem.F.slot_list_mul ⟨_, e, rfl⟩ PySem.F.entry_list_mul (PySem.F.args_list_mul_2 _ _) (AutoListH.list___mul___list_int_3 l its.toArray n k t hfit hcap hlong) ⟨e, ?_⟩⟩)
  rw [hnew]
  exact ⟨.ref _, _, I.lnew (t' := s.toks) (r.rep k.toNat) (by rw [PyProof.Rows.lm_len_rep_flat, Nat.mul_comm]; exact hz), rfl, q _ I.fresh⟩
/-- b ** e of a base from 2 on -/
def CPowW (i j : Int) : Prop := 2 ≤ i ∧ 1 ≤ j ∧ ((i.natAbs.log2 + 1 : Nat) : Int) * j < 1000000
theorem op_powW : OpR X (binaryOp .Pow) (rI CPowW fun i j => .int (i ^ j.toNat)) := opI fun i j t u s Q E hc q => by
  obtain ⟨h1, h2, h3⟩ := hc
  refine PySem.AutoIntOps.pow_4 (by omega) (by simp; omega) (by simp; omega) (by simp; omega) ?_ q
  have hb : Builtin.Int.intBits i = i.natAbs.log2 + 1 := by
    unfold Builtin.Int.intBits
    rw [if_neg (by simp; omega)]
  rw [hb]
  unfold Builtin.Int.intTooBig
  rw [decide_eq_true_eq]
  have : (1000000 : Int) ≤ (bitsLine : Nat) := by decide
  omega
end

/-! ### + -/
def szOk (n : Nat) : Bool := decide (n ≤ sizeLine)
def addD : D → D → Option D
  | .int i, .int j => some (.int (i + j))
  | .str a, .str b => if szOk (a.length + b.length) = true then some (.str (a ++ b)) else none
  | .tup a, .tup b => if szOk (a.length + b.length) = true then some (.tup (a ++ b)) else none
  | _, _ => none
def catD : D → D → Option D
  | .lst a, .lst b => if szOk (a.length + b.length) = true then some (.lst (a ++ b)) else none
  | _, _ => none
def OpN (K : PySem.W.Frag) (mg : MG) (w : World) (r : V → V → Hp → VK → Prop) (f : D → D → Option D) : Prop :=
  ∀ (T : Tb) (W : WX) (B : Bs T) (F : Hp) (e : En) (σ : St) (H : Hp) (a b : D) (x y : V) (Q : VK) (c : D), Rel K mg w B F e σ H → Den K mg w F a x → Den K mg w F b y → f a b = some c → PostN K mg w W B σ F (.ok c e) Q → r x y H Q
section
variable {X : Cx} {T : Tb} {W : WX} {a b : Expr} {ga gb : En → Res D} {pos : Pos} {K : PySem.W.Frag} {mg : MG} {w : World}
theorem nop {op : Operator} {r : V → V → Hp → VK → Prop} {f : D → D → Option D} (ho : OpR X (binaryOp op) r) (hr : OpN X.K X.mg X.w r f) (ha : PE X a (tE X.K X.mg X.w T W ga)) (hb : PE X b (tE X.K X.mg X.w T W gb)) :
    PE X (.BinOp a op b pos) (tN X.K X.mg X.w T W (op2G f ga gb)) := conv (pe_op ho ha hb) fun σ H Q ⟨B, F, e, R, h⟩ =>
  ⟨B, F, e, R, h.step fun F1 e1 d x H1 l1 R1 D1 h1 => ⟨B, F1, e1, R1, h1.step fun F2 e2 d2 y H2 l2 R2 D2 h2 => by
    obtain ⟨c, hc, h3⟩ := h2.lift
    exact hr T W B F2 e2 σ H2 d d2 x y Q c R2 (D1.mono l2) D2 hc h3⟩⟩
theorem if_some {α : Type} {c : Prop} [Decidable c] {a b : α} (h : (if c then some a else none) = some b) : c ∧ a = b := by
  split at h
  · rename_i hc; exact ⟨hc, Option.some.inj h⟩
  · cases h
theorem szOk_of {n : Nat} (h : szOk n = true) : n ≤ sizeLine := of_decide_eq_true h
def rAddA (K : PySem.W.Frag) : R2 := fun x y H Q => rI0 (fun i j => .int (i + j)) x y H Q ∨ (∃ i j, x = .str i ∧ y = .str j ∧ i.length + j.length ≤ sizeLine ∧ Q (.str (i ++ j)) H) ∨ rCatA K x y H Q
theorem op_addA : OpR X (binaryOp .Add) (rAddA X.K) := op_add.or (op_add_str.or op_catA)
theorem addD_ok : OpD K mg w (rAddA K) addD := by
  intro T W B F e σ H a b x y Q c R Da Db h P
  cases Da <;> cases Db <;> first
    | (cases h; done)
    | (rename_i i j; cases h; exact .inl ⟨i, j, rfl, rfl, P.ret R (.int _)⟩)
    | (rename_i i j; obtain ⟨h1, rfl⟩ := if_some h; exact .inr (.inl ⟨i, j, rfl, rfl, szOk_of h1, P.ret R (.str _)⟩))
    | (rename_i xs vs p h1 l1 ys ws q h2 l2
       obtain ⟨h3, rfl⟩ := if_some h
       refine .inr (.inr ⟨p, q, vs, ws, rfl, rfl, h1.seq R.sub, h2.seq R.sub, by rw [← l1.length, ← l2.length]; exact szOk_of h3, fun z => ?_, fun _ z => ?_, fun _ _ => P.newT R (l1.append l2)⟩)
       · subst z
         cases l1
         exact P.ret R (.tup h2 l2)
       · subst z
         cases l2
         rw [List.append_nil] at P
         exact P.ret R (.tup h1 l1))
theorem catD_ok : OpN K mg w rCatR catD := by
  intro T W B F e σ H a b x y Q c R Da Db h P
  cases Da <;> cases Db <;> first
    | (cases h; done)
    | (rename_i xs vs p h1 l1 ys ws q h2 l2
       obtain ⟨h3, rfl⟩ := if_some h
       exact ⟨p, q, vs, ws, rfl, rfl, h1.rd R.sub, h2.rd R.sub, by rw [← l1.length, ← l2.length]; exact szOk_of h3, P.newL R (l1.append l2)⟩)
/-! ### numbers -/
def intD (f : Int → Int → Option Int) : D → D → Option D
  | .int i, .int j => (f i j).map .int
  | _, _ => none
def cmpD (f : Int → Int → Bool) : D → D → Option D
  | .int i, .int j => some (.bl (f i j))
  | _, _ => none
theorem intD_ok {C : Int → Int → Prop} {g : Int → Int → Int} {f : Int → Int → Option Int} (h : ∀ i j k, f i j = some k → C i j ∧ k = g i j) : OpD K mg w (rI C fun i j => .int (g i j)) (intD f) := by
  intro T W B F e σ H a b x y Q c R Da Db hc P
  cases Da <;> cases Db <;> first
    | (cases hc; done)
    | (rename_i i j
       obtain ⟨k, h1, rfl⟩ := Option.map_eq_some_iff.mp hc
       obtain ⟨h2, rfl⟩ := h i j k h1
       exact ⟨i, j, rfl, rfl, h2, P.ret R (.int _)⟩)
theorem intD0_ok {g : Int → Int → Int} : OpD K mg w (rI0 fun i j => .int (g i j)) (intD fun i j => some (g i j)) := by
  intro T W B F e σ H a b x y Q c R Da Db hc P
  cases Da <;> cases Db <;> first
    | (cases hc; done)
    | (rename_i i j; cases hc; exact ⟨i, j, rfl, rfl, P.ret R (.int _)⟩)
theorem cmpD_ok {f : Int → Int → Bool} : OpD K mg w (rI0 fun i j => .bl (f i j)) (cmpD f) := by
  intro T W B F e σ H a b x y Q c R Da Db hc P
  cases Da <;> cases Db <;> first
    | (cases hc; done)
    | (rename_i i j; cases hc; exact ⟨i, j, rfl, rfl, P.ret R (.bl _)⟩)
def subI (i j : Int) : Option Int := some (i - j)
def mulI (i j : Int) : Option Int := if (-(2 ^ 64) < i ∧ i < 2 ^ 64) ∨ (-(2 ^ 64) < j ∧ j < 2 ^ 64) then some (i * j) else none
def fdivI (i j : Int) : Option Int := if 0 < j ∧ j < 1073741824 then some (i / j) else none
def modI (i j : Int) : Option Int := if 0 < j then some (i % j) else none
def powI (i j : Int) : Option Int := if 0 ≤ j ∧ j ≤ 1000000 ∧ i.natAbs < 2 ^ 64 then some (i ^ j.toNat) else if 2 ≤ i ∧ 1 ≤ j ∧ ((i.natAbs.log2 + 1 : Nat) : Int) * j < 1000000 then some (i ^ j.toNat) else none
def shlI (i j : Int) : Option Int := if 0 ≤ j ∧ j ≤ 1000000 ∧ i.natAbs < 2 ^ 64 then some (i * 2 ^ j.toNat) else none
def shrI (i j : Int) : Option Int := if 0 ≤ j then some (i / 2 ^ j.toNat) else none
theorem op_powA : OpR X (binaryOp .Pow) (fun x y H Q => rI CPow (fun i j => .int (i ^ j.toNat)) x y H Q ∨ rI CPowW (fun i j => .int (i ^ j.toNat)) x y H Q) := op_pow.or op_powW
theorem powD_ok : OpD K mg w (fun x y H Q => rI CPow (fun i j => .int (i ^ j.toNat)) x y H Q ∨ rI CPowW (fun i j => .int (i ^ j.toNat)) x y H Q) (intD powI) := by
  intro T W B F e σ H a b x y Q c R Da Db hc P
  cases Da <;> cases Db <;> first
    | (cases hc; done)
    | (rename_i i j
       obtain ⟨k, h1, rfl⟩ := Option.map_eq_some_iff.mp hc
       unfold powI at h1
       split at h1
       · rename_i h2; cases h1; exact .inl ⟨i, j, rfl, rfl, h2, P.ret R (.int _)⟩
       · obtain ⟨h2, rfl⟩ := if_some h1; exact .inr ⟨i, j, rfl, rfl, h2, P.ret R (.int _)⟩)
theorem eadd (ha : PE X a (tE X.K X.mg X.w T W ga)) (hb : PE X b (tE X.K X.mg X.w T W gb)) : PE X (.BinOp a .Add b pos) (tE X.K X.mg X.w T W (op2G addD ga gb)) := eop op_addA addD_ok ha hb
theorem ncat (ha : PE X a (tE X.K X.mg X.w T W ga)) (hb : PE X b (tE X.K X.mg X.w T W gb)) : PE X (.BinOp a .Add b pos) (tN X.K X.mg X.w T W (op2G catD ga gb)) := nop op_catR catD_ok ha hb
theorem esub (ha : PE X a (tE X.K X.mg X.w T W ga)) (hb : PE X b (tE X.K X.mg X.w T W gb)) : PE X (.BinOp a .Sub b pos) (tE X.K X.mg X.w T W (op2G (intD subI) ga gb)) := eop op_sub intD0_ok ha hb
theorem emul (ha : PE X a (tE X.K X.mg X.w T W ga)) (hb : PE X b (tE X.K X.mg X.w T W gb)) : PE X (.BinOp a .Mult b pos) (tE X.K X.mg X.w T W (op2G (intD mulI) ga gb)) := eop op_mul (intD_ok fun i j k h => by obtain ⟨h1, h2⟩ := if_some h; exact ⟨h1, h2.symm⟩) ha hb
theorem efdiv (ha : PE X a (tE X.K X.mg X.w T W ga)) (hb : PE X b (tE X.K X.mg X.w T W gb)) : PE X (.BinOp a .FloorDiv b pos) (tE X.K X.mg X.w T W (op2G (intD fdivI) ga gb)) := eop op_fdiv (intD_ok fun i j k h => by obtain ⟨h1, h2⟩ := if_some h; exact ⟨h1, h2.symm⟩) ha hb
theorem emod (ha : PE X a (tE X.K X.mg X.w T W ga)) (hb : PE X b (tE X.K X.mg X.w T W gb)) : PE X (.BinOp a .Mod b pos) (tE X.K X.mg X.w T W (op2G (intD modI) ga gb)) := eop op_mod (intD_ok fun i j k h => by obtain ⟨h1, h2⟩ := if_some h; exact ⟨h1, h2.symm⟩) ha hb
theorem epow (ha : PE X a (tE X.K X.mg X.w T W ga)) (hb : PE X b (tE X.K X.mg X.w T W gb)) : PE X (.BinOp a .Pow b pos) (tE X.K X.mg X.w T W (op2G (intD powI) ga gb)) := eop op_powA powD_ok ha hb
theorem eshl (ha : PE X a (tE X.K X.mg X.w T W ga)) (hb : PE X b (tE X.K X.mg X.w T W gb)) : PE X (.BinOp a .LShift b pos) (tE X.K X.mg X.w T W (op2G (intD shlI) ga gb)) := eop op_shl (intD_ok fun i j k h => by obtain ⟨h1, h2⟩ := if_some h; exact ⟨h1, h2.symm⟩) ha hb
theorem eshr (ha : PE X a (tE X.K X.mg X.w T W ga)) (hb : PE X b (tE X.K X.mg X.w T W gb)) : PE X (.BinOp a .RShift b pos) (tE X.K X.mg X.w T W (op2G (intD shrI) ga gb)) := eop op_shr (intD_ok fun i j k h => by obtain ⟨h1, h2⟩ := if_some h; exact ⟨h1, h2.symm⟩) ha hb
def andI (i j : Int) : Option Int := some (Builtin.bitAnd i j)
def orI (i j : Int) : Option Int := some (Builtin.bitOr i j)
theorem eband (ha : PE X a (tE X.K X.mg X.w T W ga)) (hb : PE X b (tE X.K X.mg X.w T W gb)) : PE X (.BinOp a .BitAnd b pos) (tE X.K X.mg X.w T W (op2G (intD andI) ga gb)) := eop op_and intD0_ok ha hb
theorem ebor (ha : PE X a (tE X.K X.mg X.w T W ga)) (hb : PE X b (tE X.K X.mg X.w T W gb)) : PE X (.BinOp a .BitOr b pos) (tE X.K X.mg X.w T W (op2G (intD orI) ga gb)) := eop op_or intD0_ok ha hb
def negD : D → Option D | .int i => some (.int (-i)) | _ => none
def invD : D → Option D | .int i => some (.int (Builtin.bitNot i)) | _ => none
theorem eneg (ha : PE X a (tE X.K X.mg X.w T W ga)) : PE X (.UnaryOp .USub a pos) (tE X.K X.mg X.w T W (op1G negD ga)) := eun un_neg (fun T W B F e σ H a x Q c R Da h P => by
  cases Da <;> first | (cases h; done) | (rename_i i; cases h; exact ⟨i, rfl, P.ret R (.int _)⟩)) ha
theorem einv (ha : PE X a (tE X.K X.mg X.w T W ga)) : PE X (.UnaryOp .Invert a pos) (tE X.K X.mg X.w T W (op1G invD ga)) := eun un_inv (fun T W B F e σ H a x Q c R Da h P => by
  cases Da <;> first | (cases h; done) | (rename_i i; cases h; exact ⟨i, rfl, P.ret R (.int _)⟩)) ha
/-- [..] * n -/
def repD : D → D → Option D
  | .lst a, .int k => if -(2 ^ 63) ≤ k ∧ k < 2 ^ 63 ∧ a.length * k.toNat ≤ sizeLine then some (.lst (List.replicate k.toNat a).flatten) else none
  | _, _ => none
theorem DenL.rep {F : Hp} {ds : List D} {vs : List V} (h : DenL K mg w F ds vs) : ∀ n : Nat, DenL K mg w F (List.replicate n ds).flatten (List.replicate n vs).flatten
  | 0 => .nil
  | n + 1 => by rw [List.replicate_succ, List.replicate_succ, List.flatten_cons, List.flatten_cons]; exact h.append (h.rep n)
theorem repD_ok : OpN K mg w rRepR repD := by
  intro T W B F e σ H a b x y Q c R Da Db h P
  cases Da <;> cases Db <;> first
    | (cases h; done)
    | (rename_i xs vs p h1 l1 k
       obtain ⟨⟨h2, h3, h4⟩, rfl⟩ := if_some h
       exact ⟨p, k, vs, rfl, rfl, h1.rd R.sub, h2, h3, by rw [← l1.length]; exact h4, P.newL R (l1.rep _)⟩)
theorem nrep (ha : PE X a (tE X.K X.mg X.w T W ga)) (hb : PE X b (tE X.K X.mg X.w T W gb)) : PE X (.BinOp a .Mult b pos) (tN X.K X.mg X.w T W (op2G repD ga gb)) := nop op_repR repD_ok ha hb
/-! ### comparisons -/
theorem eqD_ok : OpD K mg w (rEqD K) eqD := by
  intro T W B F e σ H a b x y Q c R Da Db h P
  obtain ⟨k, h1, rfl⟩ := Option.map_eq_some_iff.mp h
  obtain ⟨p, h2, h3⟩ := bind_some' h1
  obtain ⟨q, h4, h5⟩ := bind_some' h3
  obtain ⟨⟨h6, h7⟩, rfl⟩ := if_some h5
  exact ⟨p, q, Da.dp R.sub h2, Db.dp R.sub h4, h6, h7, P.ret R (.bl _)⟩
theorem neD_ok : OpD K mg w (rNeD K) neD := by
  intro T W B F e σ H a b x y Q c R Da Db h P
  obtain ⟨k, h1, rfl⟩ := Option.map_eq_some_iff.mp h
  obtain ⟨p, h2, h3⟩ := bind_some' h1
  obtain ⟨q, h4, h5⟩ := bind_some' h3
  obtain ⟨⟨h6, h7⟩, rfl⟩ := if_some h5
  exact ⟨p, q, Da.dp R.sub h2, Db.dp R.sub h4, h6, h7, P.ret R (.bl _)⟩
/-- x in a list or tuple (data), in a text -/
def rInT (K : PySem.W.Frag) : R2 := fun x y H Q => ∃ d ds, Dp K H x d ∧ Dp K H y (.tuple ds) ∧ SeqAt.shaped d = true ∧ SeqAt.shaped (.tuple ds) = true ∧ Q (.bl (ds.any fun z => PyData.eqv z d)) H
def rNotInT (K : PySem.W.Frag) : R2 := fun x y H Q => ∃ d ds, Dp K H x d ∧ Dp K H y (.tuple ds) ∧ SeqAt.shaped d = true ∧ SeqAt.shaped (.tuple ds) = true ∧ Q (.bl (!ds.any fun z => PyData.eqv z d)) H
theorem room_in_tup {A : Around} {d : PyData} {ds : List PyData} (h : SeqAt.shaped d = true) (hu : A.units + 65 < cLine) : A.units + 1 + min (PyData.depthAll ds) d.depth < cLine := by
  have h1 := SeqAt.depth_of_shaped h
  have h2 : min (PyData.depthAll ds) d.depth ≤ d.depth := Nat.min_le_right _ _
  omega
theorem op_inT (hu : X.A.units + 65 < cLine) : OpR X (compareOp .In) (rInT X.K) := by
  intro pins s σ H x y v u Q I rx ry h
  obtain ⟨d, ds, hd, he, sd, se, q⟩ := h
  obtain ⟨as, r1⟩ := Dp.reads I d x v hd rx
  obtain ⟨bs, r2⟩ := Dp.reads I (.tuple ds) y u he ry
  exact SeqAt.in_tuple_reads r2 r1 (SeqAt.canLay_of_shaped se) (SeqAt.canLay_of_shaped sd) (room_in_tup sd hu) ⟨.bl _, H, I, rfl, q⟩
theorem op_notInT (hu : X.A.units + 65 < cLine) : OpR X (compareOp .NotIn) (rNotInT X.K) := by
  intro pins s σ H x y v u Q I rx ry h
  obtain ⟨d, ds, hd, he, sd, se, q⟩ := h
  obtain ⟨as, r1⟩ := Dp.reads I d x v hd rx
  obtain ⟨bs, r2⟩ := Dp.reads I (.tuple ds) y u he ry
  exact SeqAt.notIn_tuple_reads r2 r1 (SeqAt.canLay_of_shaped se) (SeqAt.canLay_of_shaped sd) (room_in_tup sd hu) ⟨.bl _, H, I, rfl, q⟩
def memB (x : D) (ys : List D) (mk : List PyData → PyData) : Option Bool := (toPy x).bind fun d => (toPys ys).bind fun ds => if SeqAt.shaped d = true ∧ SeqAt.shaped (mk ds) = true then some (ds.any fun z => PyData.eqv z d) else none
def inS (b : Str) : D → Option Bool
  | .str a => if a.length = 1 then some (decide (a.cps.toList.getD 0 0 ∈ b.cps.toList)) else some (!(Builtin.Str.occurrences b a 0 b.length 1).isEmpty)
  | _ => none
def inB (x : D) : D → Option Bool
  | .str b => inS b x
  | .lst ys => memB x ys .list
  | .tup ys => memB x ys .tuple
  | .gd kvs => (keyOk x).map fun k => (lookG kvs k).isSome
  | _ => none
def inD (a b : D) : Option D := (inB a b).map .bl
def notInD (a b : D) : Option D := (inB a b).map fun k => .bl (!k)
def rSign : R2 := fun x y H Q => ∃ (c : Nat) (z : Str), x = .str ⟨#[c]⟩ ∧ y = .str z ∧ Q (.bl (decide (c ∈ z.cps.toList))) H
def rSignN : R2 := fun x y H Q => ∃ (c : Nat) (z : Str), x = .str ⟨#[c]⟩ ∧ y = .str z ∧ Q (.bl (!decide (c ∈ z.cps.toList))) H
def rInStr : R2 := fun x y H Q => ∃ i j, x = .str i ∧ y = .str j ∧ Q (.bl (!(Builtin.Str.occurrences j i 0 j.length 1).isEmpty)) H
def rInStrN : R2 := fun x y H Q => ∃ i j, x = .str i ∧ y = .str j ∧ Q (.bl (!(!(Builtin.Str.occurrences j i 0 j.length 1).isEmpty))) H
def rInA (K : PySem.W.Frag) (w : World) : R2 := fun x y H Q => rSign x y H Q ∨ rInStr x y H Q ∨ rInD K x y H Q ∨ rInT K x y H Q ∨ GD.rGIn K w x y H Q
def rNotInA (K : PySem.W.Frag) (w : World) : R2 := fun x y H Q => rSignN x y H Q ∨ rInStrN x y H Q ∨ rNotInD K x y H Q ∨ rNotInT K x y H Q ∨ GD.rGNotIn K w x y H Q
theorem op_inA (hu : X.A.units + 65 < cLine) : OpR X (compareOp .In) (rInA X.K X.w) := OpR.or op_in_sign (OpR.or op_in_str (OpR.or (op_inD hu) (OpR.or (op_inT hu) (GD.op_gin (by omega)))))
theorem op_notInA (hu : X.A.units + 65 < cLine) : OpR X (compareOp .NotIn) (rNotInA X.K X.w) := OpR.or op_notIn_sign (OpR.or op_notin_str (OpR.or (op_notInD hu) (OpR.or (op_notInT hu) (GD.op_gnotin (by omega)))))
theorem one_sign {a : Str} (h : a.length = 1) : a = ⟨#[a.cps.toList.getD 0 0]⟩ := by
  obtain ⟨⟨l⟩⟩ := a
  have h : l.length = 1 := h
  match l, h with
  | [c], _ => rfl
theorem inB_ok {F H : Hp} {a b : D} {x y : V} {k : Bool} (s : Sub F H) (Da : Den K mg w F a x) (Db : Den K mg w F b y) (h : inB a b = some k) : (∃ c z, x = .str ⟨#[c]⟩ ∧ y = .str z ∧ k = decide (c ∈ z.cps.toList)) ∨
    (∃ i j, x = .str i ∧ y = .str j ∧ k = !(Builtin.Str.occurrences j i 0 j.length 1).isEmpty) ∨ (∃ d ds, Dp K H x d ∧ Dp K H y (.list ds) ∧ SeqAt.shaped d = true ∧ SeqAt.shaped (.list ds) = true ∧ k = ds.any fun z => PyData.eqv z d) ∨
    (∃ d ds, Dp K H x d ∧ Dp K H y (.tuple ds) ∧ SeqAt.shaped d = true ∧ SeqAt.shaped (.tuple ds) = true ∧ k = ds.any fun z => PyData.eqv z d) ∨
    ∃ p ob es j, y = .ref p ∧ Rd H p (GD.gdO w p ob es) ∧ GD.KeysV K H es ∧ GD.KeyV K H j x ∧ j.depth ≤ 8 ∧ k = (GD.vAt es j).isSome := by
  have seq : ∀ {ys : List D} {mk : List PyData → PyData}, memB a ys mk = some k → ∃ d ds, toPy a = some d ∧ toPys ys = some ds ∧ SeqAt.shaped d = true ∧ SeqAt.shaped (mk ds) = true ∧ k = ds.any fun z => PyData.eqv z d := fun {ys mk} h => by
    obtain ⟨d, h1, h2⟩ := bind_some' h
    obtain ⟨ds, h3, h4⟩ := bind_some' h2
    obtain ⟨⟨h5, h6⟩, h7⟩ := if_some h4
    exact ⟨d, ds, h1, h3, h5, h6, h7.symm⟩
  cases Db with
  | lst hb l =>
    obtain ⟨d, ds, h1, h2, h3, h4, h5⟩ := seq h
    exact .inr (.inr (.inl ⟨d, ds, Da.dp s h1, .lst (hb.seq s) (l.dp s h2), h3, h4, h5⟩))
  | tup hb l =>
    obtain ⟨d, ds, h1, h2, h3, h4, h5⟩ := seq h
    exact .inr (.inr (.inr (.inl ⟨d, ds, Da.dp s h1, .tup (hb.seq s) (l.dp s h2), h3, h4, h5⟩)))
  | gd hb l =>
    obtain ⟨j, h1, h2⟩ := Option.map_eq_some_iff.mp h
    obtain ⟨h3, h4⟩ := keyOk_some h1
    exact .inr (.inr (.inr (.inr ⟨_, _, _, j, rfl, s _ _ hb, l.keys s, key_den s Da h3, h4, by rw [← h2]; exact l.some'⟩)))
  | str z =>
    cases Da with
    | str w =>
      have h : (if w.length = 1 then some (decide (w.cps.toList.getD 0 0 ∈ z.cps.toList)) else some (!(Builtin.Str.occurrences z w 0 z.length 1).isEmpty)) = some k := h
      split at h
      · rename_i hl
        cases h
        exact .inl ⟨_, z, by rw [← one_sign hl], rfl, rfl⟩
      · cases h
        exact .inr (.inl ⟨w, z, rfl, rfl, rfl⟩)
    | _ => cases h
  | _ => cases h
theorem inD_ok : OpD K mg w (rInA K w) inD := by
  intro T W B F e σ H a b x y Q c R Da Db h P
  obtain ⟨k, h1, rfl⟩ := Option.map_eq_some_iff.mp h
  rcases inB_ok R.sub Da Db h1 with ⟨c, z, rfl, rfl, rfl⟩ | ⟨i, j, rfl, rfl, rfl⟩ | ⟨d, ds, g1, g2, g3, g4, rfl⟩ | ⟨d, ds, g1, g2, g3, g4, rfl⟩ | ⟨p, ob, es, j, rfl, g1, g2, g3, g4, rfl⟩
  · exact .inl ⟨c, z, rfl, rfl, P.ret R (.bl _)⟩
  · exact .inr (.inl ⟨i, j, rfl, rfl, P.ret R (.bl _)⟩)
  · exact .inr (.inr (.inl ⟨d, ds, g1, g2, g3, g4, P.ret R (.bl _)⟩))
  · exact .inr (.inr (.inr (.inl ⟨d, ds, g1, g2, g3, g4, P.ret R (.bl _)⟩)))
  · exact .inr (.inr (.inr (.inr ⟨p, ob, es, j, rfl, g1, g2, g3, g4, P.ret R (.bl _)⟩)))
theorem notInD_ok : OpD K mg w (rNotInA K w) notInD := by
  intro T W B F e σ H a b x y Q c R Da Db h P
  obtain ⟨k, h1, rfl⟩ := Option.map_eq_some_iff.mp h
  rcases inB_ok R.sub Da Db h1 with ⟨c, z, rfl, rfl, rfl⟩ | ⟨i, j, rfl, rfl, rfl⟩ | ⟨d, ds, g1, g2, g3, g4, rfl⟩ | ⟨d, ds, g1, g2, g3, g4, rfl⟩ | ⟨p, ob, es, j, rfl, g1, g2, g3, g4, rfl⟩
  · exact .inl ⟨c, z, rfl, rfl, P.ret R (.bl _)⟩
  · exact .inr (.inl ⟨i, j, rfl, rfl, P.ret R (.bl _)⟩)
  · exact .inr (.inr (.inl ⟨d, ds, g1, g2, g3, g4, P.ret R (.bl _)⟩))
  · exact .inr (.inr (.inr (.inl ⟨d, ds, g1, g2, g3, g4, P.ret R (.bl _)⟩)))
  · exact .inr (.inr (.inr (.inr ⟨p, ob, es, j, rfl, g1, g2, g3, g4, P.ret R (.bl _)⟩)))
def isNonD : D → D → Option D
  | .non, .non => some (.bl true)
  | .con _, _ => none
  | _, .non => some (.bl false)
  | _, _ => none
def notNonD (a b : D) : Option D := (isNonD a b).bind fun | .bl k => some (.bl (!k)) | _ => none
theorem isNonD_ok : OpD K mg w (fun x y H Q => y = .non ∧ Q (.bl (decide (x = .non))) H) isNonD := by
  intro T W B F e σ H a b x y Q c R Da Db h P
  cases Db <;> cases Da <;> first | (cases h; done) | (cases h; exact ⟨rfl, P.ret R (.bl _)⟩)
theorem notNonD_ok : OpD K mg w (fun x y H Q => y = .non ∧ Q (.bl (!decide (x = .non))) H) notNonD := by
  intro T W B F e σ H a b x y Q c R Da Db h P
  cases Db <;> cases Da <;> first | (cases h; done) | (cases h; exact ⟨rfl, P.ret R (.bl _)⟩)
end
end L2.PV

set_option Elab.async false
set_option linter.all false
set_option maxRecDepth 100000
set_option autoImplicit false
namespace L2.PV
open PySem PySem.Spec PyProof.Rows
section
variable {X : Cx} {T : Tb} {W : WX} {a b c : Expr} {g ga gb : En → Res D} {pos : Pos} {K : PySem.W.Frag} {mg : MG} {w : World} {k : Nat}

/-! ### comparisons, short -/
def hu65 {k : Nat} (h : Room k X.A) : X.A.units + 65 < cLine := by have := h.un; omega
theorem eeq (c : Cc X W k) (ha : PE X a (tE X.K X.mg X.w T W ga)) (hb : PE X b (tE X.K X.mg X.w T W gb)) (hm : behindInMarks .Eq b = false := by first | exact nobehind _ (by decide) (by decide) | rfl) : PE X (.Compare a [.Eq] [b] pos) (tE X.K X.mg X.w T W (op2G eqD ga gb)) := ecmp (op_eqD c.room.units) eqD_ok ha hb hm
theorem ene (c : Cc X W k) (ha : PE X a (tE X.K X.mg X.w T W ga)) (hb : PE X b (tE X.K X.mg X.w T W gb)) (hm : behindInMarks .NotEq b = false := by first | exact nobehind _ (by decide) (by decide) | rfl) : PE X (.Compare a [.NotEq] [b] pos) (tE X.K X.mg X.w T W (op2G neD ga gb)) := ecmp (op_neD c.room.units) neD_ok ha hb hm
theorem ein (c : Cc X W k) (ha : PE X a (tE X.K X.mg X.w T W ga)) (hb : PE X b (tE X.K X.mg X.w T W gb)) (hm : behindInMarks .In b = false := by rfl) : PE X (.Compare a [.In] [b] pos) (tE X.K X.mg X.w T W (op2G inD ga gb)) := ecmp (op_inA (hu65 c.room)) inD_ok ha hb hm
theorem enin (c : Cc X W k) (ha : PE X a (tE X.K X.mg X.w T W ga)) (hb : PE X b (tE X.K X.mg X.w T W gb)) (hm : behindInMarks .NotIn b = false := by rfl) : PE X (.Compare a [.NotIn] [b] pos) (tE X.K X.mg X.w T W (op2G notInD ga gb)) := ecmp (op_notInA (hu65 c.room)) notInD_ok ha hb hm
theorem eisN (ha : PE X a (tE X.K X.mg X.w T W ga)) (hb : PE X b (tE X.K X.mg X.w T W gb)) (hm : behindInMarks .Is b = false := by first | exact nobehind _ (by decide) (by decide) | rfl) : PE X (.Compare a [.Is] [b] pos) (tE X.K X.mg X.w T W (op2G isNonD ga gb)) := ecmp op_isN isNonD_ok ha hb hm
theorem enotN (ha : PE X a (tE X.K X.mg X.w T W ga)) (hb : PE X b (tE X.K X.mg X.w T W gb)) (hm : behindInMarks .IsNot b = false := by first | exact nobehind _ (by decide) (by decide) | rfl) : PE X (.Compare a [.IsNot] [b] pos) (tE X.K X.mg X.w T W (op2G notNonD ga gb)) := ecmp op_notN notNonD_ok ha hb hm
theorem elt (ha : PE X a (tE X.K X.mg X.w T W ga)) (hb : PE X b (tE X.K X.mg X.w T W gb)) (hm : behindInMarks .Lt b = false := by first | exact nobehind _ (by decide) (by decide) | rfl) : PE X (.Compare a [.Lt] [b] pos) (tE X.K X.mg X.w T W (op2G (cmpD fun i j => decide (i < j)) ga gb)) := ecmp op_lt cmpD_ok ha hb hm
theorem ele (ha : PE X a (tE X.K X.mg X.w T W ga)) (hb : PE X b (tE X.K X.mg X.w T W gb)) (hm : behindInMarks .LtE b = false := by first | exact nobehind _ (by decide) (by decide) | rfl) : PE X (.Compare a [.LtE] [b] pos) (tE X.K X.mg X.w T W (op2G (cmpD fun i j => decide (i ≤ j)) ga gb)) := ecmp op_le cmpD_ok ha hb hm
theorem egt (ha : PE X a (tE X.K X.mg X.w T W ga)) (hb : PE X b (tE X.K X.mg X.w T W gb)) (hm : behindInMarks .Gt b = false := by first | exact nobehind _ (by decide) (by decide) | rfl) : PE X (.Compare a [.Gt] [b] pos) (tE X.K X.mg X.w T W (op2G (cmpD fun i j => decide (j < i)) ga gb)) := ecmp op_gt cmpD_ok ha hb hm
theorem ege (ha : PE X a (tE X.K X.mg X.w T W ga)) (hb : PE X b (tE X.K X.mg X.w T W gb)) (hm : behindInMarks .GtE b = false := by first | exact nobehind _ (by decide) (by decide) | rfl) : PE X (.Compare a [.GtE] [b] pos) (tE X.K X.mg X.w T W (op2G (cmpD fun i j => decide (j ≤ i)) ga gb)) := ecmp op_ge cmpD_ok ha hb hm
/-- a < b <= c of numbers -/
def chainG (f f' : Int → Int → Bool) (ga gb gc : En → Res D) : En → Res D := fun e => (ga e).bind fun x e1 => (gb e1).bind fun y e2 => match x, y with
  | .int i, .int j => if f i j = true then (gc e2).bind fun z e3 => match z with | .int l => .ok (.bl (f' j l)) e3 | _ => .bad else .ok (.bl false) e2
  | _, _ => .bad
theorem echain {gc : En → Res D} {op op' : CmpOp} {f f' : Int → Int → Bool} (ho : OpR X (compareOp op) (rI0 fun i j => .bl (f i j))) (ho' : OpR X (compareOp op') (rI0 fun i j => .bl (f' i j))) (ha : PE X a (tE X.K X.mg X.w T W ga)) (hb : PE X b (tE X.K X.mg X.w T W gb)) (hc : PE X c (tE X.K X.mg X.w T W gc)) (hm : lastMarks [op, op'] [b, c] = false := by with_unfolding_all rfl) :
    PE X (.Compare a [op, op'] [b, c] pos) (tE X.K X.mg X.w T W (chainG f f' ga gb gc)) := conv (pe_chain ho ho' ha hb hc hm) fun σ H Q ⟨B, F, e, R, h⟩ =>
  ⟨B, F, e, R, h.step fun F1 e1 d x H1 l1 R1 D1 h1 => ⟨B, F1, e1, R1, h1.step fun F2 e2 d2 y H2 l2 R2 D2 h2 => by
    split at h2
    · rename_i i j
      cases D1; cases D2
      refine ⟨i, j, rfl, rfl, f i j, rfl, ?_⟩
      cases hf : f i j with
      | true =>
        rw [if_pos hf] at h2; rw [if_pos rfl]
        exact ⟨B, F2, e2, R2, h2.step fun F3 e3 d3 z H3 l3 R3 D3 h3 => by
          split at h3
          · cases D3; exact ⟨_, _, rfl, rfl, h3.ret R3 (.bl _)⟩
          · exact h3.elim⟩
      | false =>
        rw [if_neg (by rw [hf]; exact Bool.false_ne_true)] at h2; rw [if_neg Bool.false_ne_true]
        exact h2.ret R2 (.bl _)
    · exact h2.elim⟩⟩
/-- a value's truth -/
theorem ttruth (h : PE X a (tE X.K X.mg X.w T W ga)) (he : ∀ whole, isTrue a X.env whole = (do let v ← whole; standAt a.pos; holding [v] (truthy v)) := by intro _; rfl) : PT X a (tB X.K X.mg X.w T W (truthG ga)) := convT (pt_truth h he) fun σ H Q ⟨B, F, e, R, h⟩ =>
  ⟨B, F, e, R, h.step fun F1 e1 d x H1 l1 R1 D1 h1 => by
    obtain ⟨c, hc, h3⟩ := h1.lift
    refine ⟨c, ?_, h3.ret R1 rfl⟩
    cases D1 with
    | non => cases hc; rfl
    | bl b => cases hc; rfl
    | int i => cases hc; rfl
    | str x =>
      have hc : (if x.length ≤ sizeLine then some (x.length != 0) else none) = some c := hc
      obtain ⟨h1, rfl⟩ := if_some hc
      refine ⟨h1, ?_⟩
      cases hx : x.length <;> simp
      omega
    | lst h l => cases hc; exact .inl ⟨_, h.seq R1.sub, by cases l <;> rfl⟩
    | tup h l => cases hc; exact .inr (.inl ⟨_, h.seq R1.sub, by cases l <;> rfl⟩)
    | _ => cases hc⟩

/-! ### subscripts -/
def keyD : D → Option Key
  | .int i => some (.inl i)
  | .str x => some (.inr x)
  | _ => none
def lookK (kvs : List (Key × D)) (k : Key) : Option D := (kvs.find? fun kv => decide (kv.1 = k)).map (·.2)
def ixD : D → D → Option D
  | .lst xs, .int i => atI xs i
  | .tup xs, .int i => atI xs i
  | .str z, .int i => if szOk z.length = true then (atI z.cps.toList i).map fun c => .str (sgn c) else none
  | .dct kvs, y => (keyD y).bind (lookK kvs)
  | .gd kvs, y => (keyOk y).bind (lookG kvs)
  | _, _ => none
def rIxKey : R2 := fun x y H Q => ∃ a v, x = .ref a ∧ DGet H a y (some v) ∧ Q v H
theorem ix_key (hu : X.A.units + 1 < cLine) : IxR X rIxKey := by
  intro value slice pins s σ H x y v u Q I rx ry h hs
  obtain ⟨a, v', rfl, g, q⟩ := h
  cases rx
  exact tail_any (dict_typeIs I g) slot_dict_getitem.lookup (d_getItem hu I g ry fun w' s' I' r' => ⟨v', H, I', r', q⟩) hs
theorem DenK.find {F : Hp} {k : Key} : ∀ {ds : List (Key × D)} {vs : List (Key × V)} {d : D}, DenK K mg w F ds vs → lookK ds k = some d → ∃ v, valV vs k = some v ∧ Den K mg w F d v
  | _, _, _, .nil, h => by cases h
  | _, _, d, .cons (k := k') h t, e => by
    unfold lookK at e
    unfold valV
    by_cases hk : k' = k
    · subst hk
      simp at e
      subst e
      exact ⟨_, by simp, h⟩
    · simp [hk] at e
      obtain ⟨v, h1, h2⟩ := DenK.find (k := k) t (by unfold lookK; simpa using e)
      exact ⟨v, by unfold valV at h1; simp [hk]; simpa using h1, h2⟩
theorem DenK.find0 {F : Hp} {k : Key} : ∀ {ds : List (Key × D)} {vs : List (Key × V)}, DenK K mg w F ds vs → lookK ds k = none → valV vs k = none
  | _, _, .nil, h => rfl
  | _, _, .cons (k := k') h t, e => by
    unfold lookK at e
    unfold valV
    by_cases hk : k' = k
    · subst hk
      simp at e
    · simp [hk] at e
      have h1 := DenK.find0 (k := k) t (by unfold lookK; simpa using e)
      unfold valV at h1
      simp [hk]
      simpa using h1
theorem atI_map {α β : Type} {xs : List α} {ys : List β} (hl : xs.length = ys.length) (hR : ∀ (j : Nat) (a : α), xs[j]? = some a → ∃ b, ys[j]? = some b) {i : Int} {a : α} (h : atI xs i = some a) : ∃ (j : Nat) (b : β), xs[j]? = some a ∧ ys[j]? = some b ∧ atI ys i = some b := by
  unfold atI at h ⊢
  obtain ⟨j, h1, h2⟩ := bind_some' h
  obtain ⟨b, hb⟩ := hR j a h2
  exact ⟨j, b, h2, hb, by rw [← hl, h1]; exact hb⟩
theorem DenL.atI {F : Hp} {ds : List D} {vs : List V} {i : Int} {d : D} (l : DenL K mg w F ds vs) (h : L2.atI ds i = some d) : ∃ v, L2.atI vs i = some v ∧ Den K mg w F d v := by
  obtain ⟨j, b, h1, h2, h3⟩ := atI_map l.length (fun j a ha => let ⟨v, e, _⟩ := l.get ha; ⟨v, e⟩) h
  obtain ⟨v, e1, e2⟩ := l.get h1
  rw [h2] at e1; cases e1
  exact ⟨b, h3, e2⟩
def rIxA (K : PySem.W.Frag) (w : World) : R2 := fun x y H Q => rIxL K x y H Q ∨ rIxT K x y H Q ∨ rIxS x y H Q ∨ rIxKey x y H Q ∨ GD.rGIx K w x y H Q
theorem ix_all (hu : X.A.units + 64 < cLine) : IxR X (rIxA X.K X.w) := IxR.or ix_list (IxR.or ix_tup (IxR.or ix_str (IxR.or (ix_key (by omega)) (GD.ix_gd (by omega)))))
theorem ixD_ok : OpD K mg w (rIxA K w) ixD := by
  intro T W B F e σ H a b x y Q c R Da Db h P
  cases Da with
  | lst h1 l =>
    cases Db with
    | int i => obtain ⟨v, h2, h3⟩ := l.atI h; exact .inl ⟨_, _, i, v, rfl, rfl, h1.seq R.sub, h2, P.ret R h3⟩
    | _ => cases h
  | tup h1 l =>
    cases Db with
    | int i => obtain ⟨v, h2, h3⟩ := l.atI h; exact .inr (.inl ⟨_, _, i, v, rfl, rfl, h1.seq R.sub, h2, P.ret R h3⟩)
    | _ => cases h
  | str z =>
    cases Db with
    | int i =>
      have h : (if szOk z.length = true then (atI z.cps.toList i).map fun c => D.str (sgn c) else none) = some c := h
      split at h
      · rename_i hz
        obtain ⟨s, h1, rfl⟩ := Option.map_eq_some_iff.mp h
        exact .inr (.inr (.inl ⟨z, i, s, rfl, rfl, szOk_of hz, h1, P.ret R (.str _)⟩))
      · cases h
    | _ => cases h
  | dct h1 l =>
    obtain ⟨k, h2, h3⟩ := bind_some' h
    obtain ⟨v, h4, h5⟩ := l.find h3
    have hy : y = kV k := by
      cases Db <;> cases h2 <;> rfl
    exact .inr (.inr (.inr (.inl ⟨_, v, rfl, .inl ⟨_, k, R.sub _ _ h1, hy, h4.symm⟩, P.ret R h5⟩)))
  | gd h1 l =>
    obtain ⟨k, h2, h3⟩ := bind_some' h
    obtain ⟨h4, h5⟩ := keyOk_some h2
    rcases l.find (k := k) with ⟨z, _⟩ | ⟨d, v, z, h6, h7⟩
    · rw [z] at h3; cases h3
    · rw [z] at h3; cases h3
      exact .inr (.inr (.inr (.inr ⟨_, _, _, k, v, rfl, R.sub _ _ h1, l.keys R.sub, key_den R.sub Db h4, h5, h6, P.ret R h7⟩)))
  | _ => cases h
theorem eix (c : Cc X W k) (ha : PE X a (tE X.K X.mg X.w T W ga)) (hb : PE X b (tE X.K X.mg X.w T W gb)) (hs : PlainIx b := by intro _ _; rfl) : PE X (.Subscript a b pos) (tE X.K X.mg X.w T W (op2G ixD ga gb)) := conv (pe_ix (ix_all c.room.units) ha hb hs) fun σ H Q ⟨B, F, e, R, h⟩ =>
  ⟨B, F, e, R, h.step fun F1 e1 d x H1 l1 R1 D1 h1 => ⟨B, F1, e1, R1, h1.step fun F2 e2 d2 y H2 l2 R2 D2 h2 => by
    obtain ⟨c, hc, h3⟩ := h2.lift
    exact ixD_ok T W B F2 e2 σ H2 d d2 x y Q c R2 (D1.mono l2) D2 hc h3⟩⟩
/-- slot i's own list, read at an index (it stays one's own) -/
def slotIxG (i : Nat) (g : En → Res D) : En → Res D := fun e => match e[i]?.bind Sl.cont with
  | some _ => (g e).bind fun d e1 => match e1[i]?.bind Sl.cont with
    | some c => lift (ixD c d) e1
    | none => .bad
  | none => .bad
theorem eslotIx {x : Str} {p : Pos} (i : Nat) (c : Cc X W k) (hb : PE X b (tE X.K X.mg X.w T W g)) (hN : X.N[i]? = some x := by rfl) (hv : Vis X.env.scope x := by first | exact Or.inl rfl | exact Or.inr (Or.inl rfl) | exact Or.inr (Or.inr rfl)) (hd : (x == ("__debug__" : Str)) = false := by decide)
    (hcd : (x == ("__classdict__" : Str)) = false := by decide) (hs : PlainIx b := by intro _ _; rfl) : PE X (.Subscript (.Name x p) b pos) (tE X.K X.mg X.w T W (slotIxG i g)) := conv (pe_ix (ix_all c.room.units) (pv i hN hv hd hcd) hb hs) fun σ H Q ⟨B, F, e, R, h⟩ => by
  unfold slotIxG at h
  split at h
  · rename_i c0 hc0
    obtain ⟨s, hs, hc⟩ := bind_some' hc0
    obtain ⟨a, e1, _, _⟩ := R.cont hs hc
    refine ⟨_, e1, B, F, e, R, h.step fun F1 e2 d y H1 l1 R1 D1 h1 => ?_⟩
    split at h1
    · rename_i c1 hc1
      obtain ⟨s1, hs1, hc1⟩ := bind_some' hc1
      obtain ⟨a1, k1, k2, ck⟩ := R1.cont hs1 hc1
      rw [e1] at k1; cases k1
      obtain ⟨r, hr, h2⟩ := h1.lift
      cases c1 with
      | lst ds =>
        obtain ⟨vs, e3, l⟩ := ck
        cases D1 with
        | int i => obtain ⟨v, h3, h4⟩ := l.atI hr; exact .inl ⟨_, _, i, v, rfl, rfl, SqL.of e3, h3, h2.ret R1 h4⟩
        | _ => cases hr
      | dct kvs =>
        obtain ⟨ws, e3, l⟩ := ck
        obtain ⟨k, h3, h4⟩ := bind_some' hr
        obtain ⟨v, h5, h6⟩ := l.find h4
        have hy : y = kV k := by cases D1 <;> cases h3 <;> rfl
        exact .inr (.inr (.inr (.inl ⟨_, v, rfl, .inl ⟨_, k, .inl e3, hy, h5.symm⟩, h2.ret R1 h6⟩)))
      | gd kvs =>
        obtain ⟨ob, ws, e3, l⟩ := ck
        obtain ⟨k, h3, h4⟩ := bind_some' hr
        obtain ⟨h5, h6⟩ := keyOk_some h3
        rcases l.find (k := k) with ⟨z, _⟩ | ⟨d, v, z, h7, h8⟩
        · rw [z] at h4; cases h4
        · rw [z] at h4; cases h4
          exact .inr (.inr (.inr (.inr ⟨_, _, _, k, v, rfl, .inl e3, l.keys R1.sub, key_den R1.sub D1 h5, h6, h7, h2.ret R1 h8⟩)))
      | obj _ _ => cases hr
      | _ => exact ck.elim
    · exact h1.elim
  · exact h.elim
/-! ### slices -/
def noP : En → Res (Option Int) := fun e => .ok none e
def someP (g : En → Res D) : En → Res (Option Int) := fun e => (g e).bind fun d e1 => match d with | .int i => .ok (some i) e1 | _ => .bad
def tP (K : PySem.W.Frag) (mg : MG) (w : World) (T : Tb) (W : WX) (g : En → Res (Option Int)) : TO := fun σ H Q => ∃ (B : Bs T) (F : Hp) (e : En), Rel K mg w B F e σ H ∧ Post K mg w W B σ (fun _ a b => b = a) F (g e) Q
theorem pnone : PO X none (tP X.K X.mg X.w T W noP) := ⟨fun pins s σ H Q I ⟨B, F, e, R, h⟩ => po_none.run pins s σ H Q I (h.ret R rfl)⟩
theorem psome (ha : PE X a (tE X.K X.mg X.w T W ga)) : PO X (some a) (tP X.K X.mg X.w T W (someP ga)) := ⟨fun pins s σ H Q I ⟨B, F, e, R, h⟩ => (po_some ha).run pins s σ H Q I ⟨B, F, e, R, h.step fun F1 e1 d x H1 l1 R1 D1 h1 => by
  split at h1
  · cases D1; exact ⟨_, rfl, h1.ret R1 rfl⟩
  · exact h1.elim⟩⟩
def cutD (xs : List D) (lo hi : Option Int) : List D := (xs.drop (HT.sIx xs.length 0 lo)).take (HT.sIx xs.length xs.length hi - HT.sIx xs.length 0 lo)
theorem DenL.cut {F : Hp} {ds : List D} {vs : List V} (l : DenL K mg w F ds vs) (lo hi : Option Int) : DenL K mg w F (cutD ds lo hi) (cutV vs lo hi) := by
  unfold cutD cutV
  rw [l.length]
  exact (l.drop _).take _
def slD : D → Option Int → Option Int → Option D
  | .tup xs, lo, hi => some (.tup (cutD xs lo hi))
  | .str z, lo, hi => if szOk z.length = true then some (.str (cutS z lo hi)) else none
  | _, _, _ => none
def slLD : D → Option Int → Option Int → Option D
  | .lst xs, lo, hi => some (.lst (cutD xs lo hi))
  | _, _, _ => none
def sliceG (f : D → Option Int → Option Int → Option D) (g : En → Res D) (l h : En → Res (Option Int)) : En → Res D := fun e => (g e).bind fun d e1 => (l e1).bind fun lo e2 => (h e2).bind fun hi e3 => lift (f d lo hi) e3
variable {lo hi : Option Expr} {gl gh : En → Res (Option Int)} {p2 : Pos}
theorem cut_whole {α : Type} {xs : List α} {lo hi : Option Int} (h1 : HT.sIx xs.length 0 lo = 0) (h2 : HT.sIx xs.length xs.length hi = xs.length) : (xs.drop (HT.sIx xs.length 0 lo)).take (HT.sIx xs.length xs.length hi - HT.sIx xs.length 0 lo) = xs := by
  rw [h1, h2]; simp
theorem eslice (ha : PE X a (tE X.K X.mg X.w T W ga)) (hl : PO X lo (tP X.K X.mg X.w T W gl)) (hh : PO X hi (tP X.K X.mg X.w T W gh)) : PE X (.Subscript a (.Slice lo hi none p2) pos) (tE X.K X.mg X.w T W (sliceG slD ga gl gh)) := conv (pe_slice (SlR.or sl_tupA sl_str) ha hl hh) fun σ H Q ⟨B, F, e, R, h⟩ =>
  ⟨B, F, e, R, h.step fun F1 e1 d x H1 l1 R1 D1 h1 => ⟨B, F1, e1, R1, h1.step fun F2 e2 lo lo' H2 l2 R2 e2' h2 => ⟨B, F2, e2, R2, h2.step fun F3 e3 hi hi' H3 l3 R3 e3' h3 => by
    subst e2' e3'
    obtain ⟨c, hc, h4⟩ := h3.lift
    have D3 := D1.mono (l2.trans l3)
    cases D3 with
    | tup hq l =>
      cases hc
      refine .inl ⟨_, _, rfl, hq.seq R3.sub, fun ⟨z1, z2⟩ => ?_, fun _ => h4.newT R3 (l.cut _ _)⟩
      unfold cutD at h4
      rw [cut_whole (by rw [l.length]; exact z1) (by rw [l.length]; exact z2)] at h4
      exact h4.ret R3 (.tup hq l)
    | str z => obtain ⟨hz, rfl⟩ := if_some hc; exact .inr ⟨z, rfl, szOk_of hz, h4.ret R3 (.str _)⟩
    | _ => cases hc⟩⟩⟩
theorem nslice (ha : PE X a (tE X.K X.mg X.w T W ga)) (hl : PO X lo (tP X.K X.mg X.w T W gl)) (hh : PO X hi (tP X.K X.mg X.w T W gh)) : PE X (.Subscript a (.Slice lo hi none p2) pos) (tN X.K X.mg X.w T W (sliceG slLD ga gl gh)) := conv (pe_slice sl_list ha hl hh) fun σ H Q ⟨B, F, e, R, h⟩ =>
  ⟨B, F, e, R, h.step fun F1 e1 d x H1 l1 R1 D1 h1 => ⟨B, F1, e1, R1, PostN.step (R := fun _ a b => b = a) h1 fun F2 e2 lo lo' H2 l2 R2 e2' h2 => ⟨B, F2, e2, R2, PostN.step (R := fun _ a b => b = a) h2 fun F3 e3 hi hi' H3 l3 R3 e3' h3 => by
    subst e2' e3'
    obtain ⟨c, hc, h4⟩ := h3.lift
    have D3 := D1.mono (l2.trans l3)
    cases D3 with
    | lst hq l => cases hc; exact ⟨_, _, rfl, hq.seq R3.sub, h4.newL R3 (l.cut _ _)⟩
    | _ => cases hc⟩⟩⟩

/-! ### built-in functions -/
def rLenA (K : PySem.W.Frag) (w : World) : List V → Hp → VK → Prop := fun xs H Q => (∃ x n, xs = [x] ∧ LenV K x H n ∧ Q (.int n) H) ∨ (∃ a kvs, xs = [V.ref a] ∧ Rd H a (.dK kvs) ∧ Q (.int kvs.length) H) ∨ ∃ a ob es, xs = [V.ref a] ∧ Rd H a (GD.gdO w a ob es) ∧ Q (.int es.length) H
theorem call_lenA : CallR X (.builtin "len") (rLenA X.K X.w) := CallR.or call_len (CallR.or (fun pins s σ H xs us Q I r h => by
  obtain ⟨a, kvs, rfl, ha, q⟩ := h
  obtain ⟨u, rfl, ru⟩ := vals1 r
  cases ru
  exact d_len I ha fun t s' I' => ⟨.int kvs.length, H, I', ⟨t, rfl⟩, q⟩) GD.len_gd)
def lenD : List D → Option D
  | [.str z] => if szOk z.length = true then some (.int z.length) else none
  | [.lst xs] => some (.int xs.length)
  | [.tup xs] => some (.int xs.length)
  | [.dct xs] => some (.int xs.length)
  | [.gd xs] => some (.int xs.length)
  | _ => none
theorem one_of {F : Hp} {as : List D} {xs : List V} (l : DenL K mg w F as xs) {d : D} (h : as = [d]) : ∃ x, xs = [x] ∧ Den K mg w F d x := by
  subst h
  cases l with
  | cons h t => cases t; exact ⟨_, rfl, h⟩
theorem two_of {F : Hp} {as : List D} {xs : List V} (l : DenL K mg w F as xs) {d e : D} (h : as = [d, e]) : ∃ x y, xs = [x, y] ∧ Den K mg w F d x ∧ Den K mg w F e y := by
  subst h
  cases l with
  | cons h t =>
    obtain ⟨y, rfl, h2⟩ := one_of t rfl
    exact ⟨_, y, rfl, h, h2⟩
theorem lenD_ok : CaD K mg w (rLenA K w) lenD := by
  intro T W B F e σ H as xs Q c R Ds h P
  unfold lenD at h
  split at h
  · obtain ⟨hz, rfl⟩ := if_some h
    obtain ⟨x, rfl, d⟩ := one_of Ds rfl
    cases d
    exact .inl ⟨_, _, rfl, ⟨szOk_of hz, rfl⟩, P.ret R (.int _)⟩
  · cases h
    obtain ⟨x, rfl, d⟩ := one_of Ds rfl
    cases d with
    | lst hq l => exact .inl ⟨_, _, rfl, .inl ⟨_, hq.seq R.sub, rfl⟩, P.ret R (by rw [l.length]; exact .int _)⟩
  · cases h
    obtain ⟨x, rfl, d⟩ := one_of Ds rfl
    cases d with
    | tup hq l => exact .inl ⟨_, _, rfl, .inr ⟨_, hq.seq R.sub, rfl⟩, P.ret R (by rw [l.length]; exact .int _)⟩
  · cases h
    obtain ⟨x, rfl, d⟩ := one_of Ds rfl
    cases d with
    | dct hq l => exact .inr (.inl ⟨_, _, rfl, R.sub _ _ hq, P.ret R (by rw [l.length]; exact .int _)⟩)
  · cases h
    obtain ⟨x, rfl, d⟩ := one_of Ds rfl
    cases d with
    | gd hq l => exact .inr (.inr ⟨_, _, _, rfl, R.sub _ _ hq, P.ret R (by rw [l.len]; exact .int _)⟩)
  · cases h
def absD : List D → Option D | [.int i] => some (.int (if i < 0 then -i else i)) | _ => none
theorem absD_ok : CaD K mg w (fun xs H Q => ∃ i, xs = [.int i] ∧ Q (.int (if i < 0 then -i else i)) H) absD := by
  intro T W B F e σ H as xs Q c R Ds h P
  unfold absD at h
  split at h
  · cases h
    obtain ⟨x, rfl, d⟩ := one_of Ds rfl
    cases d
    exact ⟨_, rfl, P.ret R (.int _)⟩
  · cases h
def toInt : List D → Option D | [.int i] => some (.int i) | [.bl b] => some (.int (if b then 1 else 0)) | _ => none
theorem toInt_ok : CaD K mg w (fun xs H Q => (∃ i, xs = [.int i] ∧ Q (.int i) H) ∨ ∃ k, xs = [.bl k] ∧ Q (.int (if k then 1 else 0)) H) toInt := by
  intro T W B F e σ H as xs Q c R Ds h P
  unfold toInt at h
  split at h
  · cases h
    obtain ⟨x, rfl, d⟩ := one_of Ds rfl
    cases d
    exact .inl ⟨_, rfl, P.ret R (.int _)⟩
  · cases h
    obtain ⟨x, rfl, d⟩ := one_of Ds rfl
    cases d
    exact .inr ⟨_, rfl, P.ret R (.int _)⟩
  · cases h
def int2 (f : Int → Int → Int) : List D → Option D | [.int i, .int j] => some (.int (f i j)) | _ => none
theorem int2_ok {f : Int → Int → Int} : CaD K mg w (fun xs H Q => ∃ i j, xs = [.int i, .int j] ∧ Q (.int (f i j)) H) (int2 f) := by
  intro T W B F e σ H as xs Q c R Ds h P
  unfold int2 at h
  split at h
  · cases h
    obtain ⟨x, y, rfl, d, d'⟩ := two_of Ds rfl
    cases d; cases d'
    exact ⟨_, _, rfl, P.ret R (.int _)⟩
  · cases h
def maxI (i j : Int) : Int := if j > i then j else i
def minI (i j : Int) : Int := if j < i then j else i
def itemsD : D → Option (List D) | .lst xs => some xs | .tup xs => some xs | _ => none
def toLst : List D → Option D | [d] => (itemsD d).map .lst | _ => none
theorem toLst_ok : CaN K mg w (fun xs H Q => ∃ p ys, xs = [.ref p] ∧ (SqL K H p ys ∨ SqT K H p ys) ∧ ∀ l, H l = none → Q (.ref l) (upd H l (.lst ys))) toLst := by
  intro T W B F e σ H as xs Q c R Ds h P
  unfold toLst at h
  split at h
  · obtain ⟨x, rfl, d⟩ := one_of Ds rfl
    obtain ⟨ds, h1, rfl⟩ := Option.map_eq_some_iff.mp h
    cases d with
    | lst hq l => cases h1; exact ⟨_, _, rfl, .inl (hq.seq R.sub), P.newL R l⟩
    | tup hq l => cases h1; exact ⟨_, _, rfl, .inr (hq.seq R.sub), P.newL R l⟩
    | _ => cases h1
  · cases h
def toTup : List D → Option D | [d] => (itemsD d).map .tup | _ => none
theorem toTup_ok : CaD K mg w (fun xs H Q => ∃ p ys, xs = [.ref p] ∧ ((SqL K H p ys ∧ ∀ l, H l = none → Q (.ref l) (upd H l (.tup ys))) ∨ (SqT K H p ys ∧ Q (.ref p) H))) toTup := by
  intro T W B F e σ H as xs Q c R Ds h P
  unfold toTup at h
  split at h
  · obtain ⟨x, rfl, d⟩ := one_of Ds rfl
    obtain ⟨ds, h1, rfl⟩ := Option.map_eq_some_iff.mp h
    cases d with
    | lst hq l => cases h1; exact ⟨_, _, rfl, .inl ⟨hq.seq R.sub, P.newT R l⟩⟩
    | tup hq l => cases h1; exact ⟨_, _, rfl, .inr ⟨hq.seq R.sub, P.ret R (.tup hq l)⟩⟩
    | _ => cases h1
  · cases h
def bools : List D → Option (List Bool)
  | [] => some []
  | .bl b :: r => (bools r).map (b :: ·)
  | _ :: _ => none
theorem bools_vs {F : Hp} : ∀ {ds : List D} {vs : List V} {bs : List Bool}, DenL K mg w F ds vs → bools ds = some bs → vs = bs.map V.bl
  | [], _, _, l, h => by cases h; cases l; rfl
  | .bl b :: r, _, _, l, h => by
    obtain ⟨bs, h1, rfl⟩ := Option.map_eq_some_iff.mp h
    cases l with
    | cons h t => cases h; rw [bools_vs t h1]; rfl
  | .non :: _, _, _, _, h => by cases h
  | .int _ :: _, _, _, _, h => by cases h
  | .str _ :: _, _, _, _, h => by cases h
  | .tup _ :: _, _, _, _, h => by cases h
  | .lst _ :: _, _, _, _, h => by cases h
  | .dct _ :: _, _, _, _, h => by cases h
  | .obj _ _ :: _, _, _, _, h => by cases h
  | .con _ :: _, _, _, _, h => by cases h
def allD : List D → Option D | [.lst ds] => (bools ds).map fun bs => .bl (bs.all id) | _ => none
def anyD : List D → Option D | [.lst ds] => (bools ds).map fun bs => .bl (bs.any id) | _ => none
theorem allD_ok : CaD K mg w (rAll K) allD := by
  intro T W B F e σ H as xs Q c R Ds h P
  unfold allD at h
  split at h
  · obtain ⟨x, rfl, d⟩ := one_of Ds rfl
    obtain ⟨bs, h1, rfl⟩ := Option.map_eq_some_iff.mp h
    cases d with
    | lst hq l => exact ⟨_, bs, rfl, bools_vs l h1 ▸ hq.seq R.sub, P.ret R (.bl _)⟩
  · cases h
theorem anyD_ok : CaD K mg w (rAny K) anyD := by
  intro T W B F e σ H as xs Q c R Ds h P
  unfold anyD at h
  split at h
  · obtain ⟨x, rfl, d⟩ := one_of Ds rfl
    obtain ⟨bs, h1, rfl⟩ := Option.map_eq_some_iff.mp h
    cases d with
    | lst hq l => exact ⟨_, bs, rfl, bools_vs l h1 ▸ hq.seq R.sub, P.ret R (.bl _)⟩
  · cases h
def divmodD : List D → Option D | [.int i, .int j] => if 0 < j ∧ j < 1073741824 then some (.tup [.int (i / j), .int (i % j)]) else none | _ => none
theorem divmodD_ok : CaD K mg w (fun xs H Q => ∃ i j, xs = [.int i, .int j] ∧ CDiv i j ∧ ∀ p, H p = none → Q (.ref p) (upd H p (.tup [.int (i / j), .int (i % j)]))) divmodD := by
  intro T W B F e σ H as xs Q c R Ds h P
  unfold divmodD at h
  split at h
  · obtain ⟨h1, rfl⟩ := if_some h
    obtain ⟨x, y, rfl, d, d'⟩ := two_of Ds rfl
    cases d; cases d'
    exact ⟨_, _, rfl, h1, P.newT R (.cons (.int _) (.cons (.int _) .nil))⟩
  · cases h
/-! ### isinstance with a built-in type -/
def tyName : D → Option String
  | .non => some "NoneType"
  | .bl _ => some "bool"
  | .int _ => some "int"
  | .str _ => some "str"
  | .lst _ => some "list"
  | .tup _ => some "tuple"
  | .dct _ => some "dict"
  | _ => none
def isiT (n a : String) : Bool := a == n || (a == "bool" && n == "int")
def isiD (n : String) (d : D) : Option D := if ["int", "str", "bool", "tuple", "list", "dict"].contains n = true then (tyName d).map fun a => .bl (isiT n a) else none
theorem isiT_ok : ∀ n ∈ ["int", "str", "bool", "tuple", "list", "dict"], ∀ a ∈ ["NoneType", "bool", "int", "str", "list", "tuple", "dict"], kitB a n = some (isiT n a) := by decide +kernel
theorem tyName_mem {d : D} {a : String} (h : tyName d = some a) : a ∈ ["NoneType", "bool", "int", "str", "list", "tuple", "dict"] := by
  cases d <;> cases h <;> decide
theorem tyX_of {F H : Hp} {d : D} {v : V} {a : String} (s : Sub F H) (D0 : Den K mg w F d v) (h : tyName d = some a) : TyX K H v (.type a) := by
  cases D0 with
  | non => cases h; exact .base .non
  | bl b => cases h; exact .base (.bl b)
  | int i => cases h; exact .base (.int i)
  | str x => cases h; exact .base (.str x)
  | lst hq l =>
    cases h
    rcases hq.rd s with z | ⟨o, z⟩
    · exact .base (.lst z)
    · exact .base (.frz z)
  | tup hq l =>
    cases h
    rcases hq with z | ⟨o, its, n, z, hc, _⟩
    · rcases s _ _ z with z | ⟨o, z⟩
      · exact .base (.tup z)
      · exact .fTuple z
    · exact .kTuple z hc
  | dct hq l =>
    cases h
    rcases s _ _ hq with z | ⟨o, z⟩
    · exact .base (.dK z)
    · exact .fDict z
  | _ => cases h
def isiG (n : String) (g : En → Res D) : En → Res D := fun e => (g e).bind fun d e1 => lift (isiD n d) e1
theorem eisi {t : Str} {n : String} {p1 p2 : Pos} (ha : PE X a (tE X.K X.mg X.w T W ga)) (hg : Gl X "isinstance") (hm : X.mg "isinstance" = none) (hgt : Gl X t) (hmt : X.mg t = none) (hvt : bootBuiltins t = some (.type n) := by decide +kernel) (hnt : t ≠ "__name__" := by decide) (hdt : (t == ("__debug__" : Str)) = false := by decide)
    (he : starEach [a, .Name t p2] X.env = (false, eval a X.env) :: starEach [.Name t p2] X.env := by rfl) (hpl : (backTo pos (starEach [.Name t p2] X.env)).any (·.1) = false := by rfl) : PE X (.Call (.Name "isinstance" p1) [a, .Name t p2] [] pos) (tE X.K X.mg X.w T W (isiG n ga)) :=
  conv (pe_callB call_isi hg hm (by decide +kernel) (pa_cons ha (pa_cons (pe_bltn (v := .ty n) hgt hmt hvt rfl hnt hdt) pa_nil) he) (by decide) (by decide) he hpl) fun σ H Q ⟨B, F, e, R, h⟩ =>
    ⟨B, F, e, R, h.step fun F1 e1 d x H1 l1 R1 D1 h1 => by
      obtain ⟨c, hc, h2⟩ := h1.lift
      unfold isiD at hc
      split at hc
      · rename_i hn
        obtain ⟨a, h3, rfl⟩ := Option.map_eq_some_iff.mp hc
        exact ⟨x, .ty n, .type a, .type n, _, rfl, .ty n, tyX_of R1.sub D1 h3, kit_ty (isiT_ok n (by simpa using hn) a (tyName_mem h3)), h2.ret R1 (.bl _)⟩
      · cases hc⟩
/-! ### lists changed in place -/
def appD : D → List D → Option (D × D)
  | .lst xs, [d] => if xs.length < sizeLine then some (.lst (xs ++ [d]), .non) else none
  | _, _ => none
theorem appD_ok : MuD K mg w rAppend appD := by
  intro F H a c as xs Q c' v s ck l h P
  unfold appD at h
  split at h
  · obtain ⟨hz, h2⟩ := if_some h
    cases h2
    obtain ⟨vs, e1, l1⟩ := ck
    obtain ⟨x, rfl, d⟩ := one_of l rfl
    exact ⟨a, vs, x, rfl, rfl, e1, by rw [← l1.length]; exact hz, P _ _ ⟨_, upd_same, l1.append (.cons d .nil)⟩ .non⟩
  · cases h
def rExtR (K : PySem.W.Frag) : V → List V → Hp → VK → Prop := fun x vs H Q => ∃ l b xs zs, x = .ref l ∧ vs = [.ref b] ∧ H l = some (.lst xs) ∧ Rd H b (.lst zs) ∧ xs.length + zs.length ≤ sizeLine ∧ Q .non (upd H l (.lst (xs ++ zs)))
theorem mt_extR : MtM X "list.extend" (rExtR X.K) := by
  intro pins s σ H x vs v us Q I rx rv h
  obtain ⟨l, b, xs, zs, rfl, rfl, hH, hB, hz, q⟩ := h
  cases rx
  obtain ⟨u, rfl, ru⟩ := rv.one
  cases ru
  obtain ⟨z, its, n, r, hl, e⟩ := I.lstM hH
  obtain ⟨z2, its2, n2, r2, hl2, e2⟩ := rd_list I hB
  have hsz : its.toArray.size + its2.toArray.size ≤ sizeLine := by rw [List.size_toArray, List.size_toArray]; omega
  have hlong : ¬ (!its.toArray.isEmpty && Builtin.List.listTooLong (its.toArray.size + its2.toArray.size)) = true := by
    rw [notLongL hsz, Bool.and_false]
    exact Bool.false_ne_true
  refine call_meets PySem.F.slot_list_extend ⟨_, e, rfl⟩ PySem.F.entry_list_extend (PySem.F.args_list_extend_2 _ _)
    (AutoSeq1.list_extend_list_list_0 l its.toArray n b its2.toArray n2 hlong (by rw [List.size_toArray]; omega) (by omega)) ⟨e, e2, ?_⟩
  refine ⟨.non, _, I.lset (its' := its ++ its2) hH e (by simp) (r.append r2) ?_, rfl, q⟩
  rw [List.length_append]
  omega
def extD : D → List D → Option (D × D)
  | .lst xs, [.lst ys] => if szOk (xs.length + ys.length) = true then some (.lst (xs ++ ys), .non) else none
  | _, _ => none
theorem extD_ok : MuD K mg w (rExtR K) extD := by
  intro F H a c as xs Q c' v s ck l h P
  unfold extD at h
  split at h
  · obtain ⟨hz, h2⟩ := if_some h
    cases h2
    obtain ⟨vs, e1, l1⟩ := ck
    obtain ⟨x, rfl, d⟩ := one_of l rfl
    cases d with
    | lst hq l2 => exact ⟨a, _, vs, _, rfl, rfl, e1, hq.rd s, by rw [← l1.length, ← l2.length]; exact szOk_of hz, P _ _ ⟨_, upd_same, l1.append l2⟩ .non⟩
  · cases h
def popD : D → List D → Option (D × D)
  | .lst xs, [] => (xs[xs.length - 1]?).map fun d => (.lst xs.dropLast, d)
  | _, _ => none
theorem popD_ok : MuD K mg w rPop popD := by
  intro F H a c as xs Q c' v s ck l h P
  unfold popD at h
  split at h
  · obtain ⟨d, h1, h2⟩ := Option.map_eq_some_iff.mp h
    cases h2
    obtain ⟨vs, e1, l1⟩ := ck
    cases l
    obtain ⟨x, h3, h4⟩ := l1.get h1
    exact ⟨a, vs, x, rfl, rfl, e1, by rw [← l1.length]; exact h3, P _ _ ⟨_, upd_same, l1.dropLast⟩ h4⟩
  · cases h
def popAtD : D → List D → Option (D × D)
  | .lst xs, [.int i] => if 0 ≤ i ∧ i < 2 ^ 63 then (xs[i.toNat]?).map fun d => (.lst (xs.eraseIdx i.toNat), d) else none
  | _, _ => none
theorem popAtD_ok : MuD K mg w rPopAt popAtD := by
  intro F H a c as xs Q c' v s ck l h P
  unfold popAtD at h
  split at h
  · split at h
    · rename_i hi
      obtain ⟨d, h1, h2⟩ := Option.map_eq_some_iff.mp h
      cases h2
      obtain ⟨vs, e1, l1⟩ := ck
      obtain ⟨y, rfl, d'⟩ := one_of l rfl
      cases d'
      obtain ⟨x, h3, h4⟩ := l1.get h1
      have hlt := (List.getElem?_eq_some_iff.mp h3).1
      exact ⟨a, vs, _, _, x, rfl, rfl, e1, by omega, hi.2, seqIndex_of hi.1 (by omega), h3, P _ _ ⟨_, upd_same, l1.eraseIdx _⟩ h4⟩
    · cases h
  · cases h
end
end L2.PV

set_option Elab.async false
set_option linter.all false
set_option maxRecDepth 100000
set_option autoImplicit false
namespace L2.PV
open PySem PySem.Spec PyProof.Rows
section
variable {X : Cx} {T : Tb} {W : WX} {a b c : Expr} {g ga gb gc : En → Res D} {pos : Pos} {K : PySem.W.Frag} {mg : MG} {w : World} {k : Nat}
/-! ### + and * of any kind -/
def addV (a b : D) : Option D := match addD a b with | some d => some d | none => catD a b
theorem addV_ok : OpD K mg w (fun x y H Q => rAddA K x y H Q ∨ rCatR x y H Q) addV := by
  intro T W B F e σ H a b x y Q c R Da Db h P
  unfold addV at h
  cases q : addD a b with
  | some d => rw [q] at h; cases h; exact .inl (addD_ok T W B F e σ H a b x y Q _ R Da Db q P)
  | none => rw [q] at h; exact .inr (catD_ok T W B F e σ H a b x y Q _ R Da Db h P.toN)
theorem eaddV (ha : PE X a (tE X.K X.mg X.w T W ga)) (hb : PE X b (tE X.K X.mg X.w T W gb)) : PE X (.BinOp a .Add b pos) (tE X.K X.mg X.w T W (op2G addV ga gb)) := eop (OpR.or op_addA op_catR) addV_ok ha hb
/-- text * n -/
def repS (x : Str) (n : Nat) : Str := ⟨(List.replicate n x.cps.toList).flatten.toArray⟩
def CRepS (x : Str) (n : Int) : Prop := -(2 ^ 30) < n ∧ n < 2 ^ 30 ∧ x.length * n.toNat ≤ sizeLine
def rRepS : R2 := fun x y H Q => ∃ z n, x = .str z ∧ y = .int n ∧ CRepS z n ∧ Q (.str (repS z n.toNat)) H
theorem foldl_cps (c : Array Nat) : ∀ (n : Nat) (acc : List Nat), (List.replicate n c).foldl (fun x1 x2 => x1 ++ x2) acc.toArray = (acc ++ (List.replicate n c.toList).flatten).toArray
  | 0, acc => by simp
  | n + 1, acc => by
    rw [List.replicate_succ, List.foldl_cons, List.replicate_succ, List.flatten_cons]
    have : acc.toArray ++ c = (acc ++ c.toList).toArray := by
      apply Array.ext'; simp
    rw [this, foldl_cps c n, List.append_assoc]
theorem op_repS : OpR X (binaryOp .Mult) rRepS := by
  intro pins s σ H x y v u Q I rx ry h
  obtain ⟨z, n, rfl, rfl, ⟨h1, h2, h3⟩, q⟩ := h
  obtain ⟨t, rfl⟩ := rx
  obtain ⟨t', rfl⟩ := ry
  have hz : sizeLine = 16777216 := sizeLine_eq
  have e0 : (List.replicate n.toNat z.cps).foldl (fun x1 x2 => x1 ++ x2) #[] = (repS z n.toNat).cps := by
    have := foldl_cps z.cps n.toNat []
    simpa [repS] using this
  refine PySem.P.mul_str (by rw [decide_eq_false (by omega), decide_eq_false (by omega)]; rfl) (fun g1 g2 => ?_) (fun g1 g2 => ?_) ?_
  · intro hh
    have h5 : (2 : Int) ^ 63 - 1 = 9223372036854775807 := by decide
    rw [h5] at hh
    have h6 : (8589934591 : Int) ≤ 9223372036854775807 / n := by
      rw [Int.le_ediv_iff_mul_le (by omega)]; omega
    have hn1 : 1 ≤ n.toNat := by omega
    have h7 : z.length ≤ z.length * n.toNat := Nat.le_mul_of_pos_right _ hn1
    omega
  · unfold Builtin.Str.tooLong; rw [decide_eq_false]; omega
  · split
    · rename_i hn
      have : n.toNat = 0 := by omega
      have e1 : (Str.empty : Str) = repS z n.toNat := by rw [this]; rfl
      refine ⟨by decide, ?_⟩
      exact ⟨.str (repS z n.toNat), H, I.tok _, ⟨_, by rw [← e1]⟩, q⟩
    · split
      · rename_i hn hc
        have e1 : z = repS z n.toNat := by
          obtain ⟨⟨l⟩⟩ := z
          rcases Bool.or_eq_true_iff.mp hc with w | w
          · have : n = 1 := by simpa using w
            subst this
            simp [repS]
          · have w' : l.length = 0 := beq_iff_eq.mp w
            have : l = [] := List.length_eq_zero_iff.mp w'
            subst this
            simp [repS]
        exact ⟨.str (repS z n.toNat), H, I, ⟨t, by rw [← e1]⟩, q⟩
      · rw [e0]
        refine ⟨?_, ⟨.str (repS z n.toNat), H, I.tok _, ⟨_, rfl⟩, q⟩⟩
        show (repS z n.toNat).length ≤ sizeLine
        have : (repS z n.toNat).length = n.toNat * z.length := by
          show ((List.replicate n.toNat z.cps.toList).flatten.toArray).size = n.toNat * z.cps.size
          simp
        rw [this, Nat.mul_comm]; exact h3
instance {x : Str} {n : Int} : Decidable (CRepS x n) := by unfold CRepS; infer_instance
def mulV : D → D → Option D
  | .int i, .int j => (mulI i j).map .int
  | .str z, .int n => if CRepS z n then some (.str (repS z n.toNat)) else none
  | a, b => repD a b
theorem mulV_ok : OpD K mg w (fun x y H Q => rI CMul (fun i j => .int (i * j)) x y H Q ∨ rRepS x y H Q ∨ rRepR x y H Q) mulV := by
  intro T W B F e σ H a b x y Q c R Da Db h P
  unfold mulV at h
  split at h
  · obtain ⟨k, h1, rfl⟩ := Option.map_eq_some_iff.mp h
    obtain ⟨h2, rfl⟩ := if_some h1
    cases Da; cases Db
    exact .inl ⟨_, _, rfl, rfl, h2, P.ret R (.int _)⟩
  · obtain ⟨h2, rfl⟩ := if_some h
    cases Da; cases Db
    exact .inr (.inl ⟨_, _, rfl, rfl, h2, P.ret R (.str _)⟩)
  · exact .inr (.inr (repD_ok T W B F e σ H a b x y Q _ R Da Db h P.toN))
theorem emulV (ha : PE X a (tE X.K X.mg X.w T W ga)) (hb : PE X b (tE X.K X.mg X.w T W gb)) : PE X (.BinOp a .Mult b pos) (tE X.K X.mg X.w T W (op2G mulV ga gb)) := eop (OpR.or op_mul (OpR.or op_repS op_repR)) mulV_ok ha hb
/-- slices of any kind, as values -/
theorem esliceL {lo hi : Option Expr} {gl gh : En → Res (Option Int)} {p2 : Pos} (ha : PE X a (tE X.K X.mg X.w T W ga)) (hl : PO X lo (tP X.K X.mg X.w T W gl)) (hh : PO X hi (tP X.K X.mg X.w T W gh)) :
    PE X (.Subscript a (.Slice lo hi none p2) pos) (tE X.K X.mg X.w T W (sliceG (fun d l h => match slD d l h with | some r => some r | none => slLD d l h) ga gl gh)) := conv (pe_slice (SlR.or (SlR.or sl_tupA sl_str) sl_list) ha hl hh) fun σ H Q ⟨B, F, e, R, h⟩ =>
  ⟨B, F, e, R, h.step fun F1 e1 d x H1 l1 R1 D1 h1 => ⟨B, F1, e1, R1, h1.step fun F2 e2 lo lo' H2 l2 R2 e2' h2 => ⟨B, F2, e2, R2, h2.step fun F3 e3 hi hi' H3 l3 R3 e3' h3 => by
    subst e2' e3'
    obtain ⟨c, hc, h4⟩ := h3.lift
    have D3 := D1.mono (l2.trans l3)
    cases D3 with
    | tup hq l =>
      cases hc
      refine .inl (.inl ⟨_, _, rfl, hq.seq R3.sub, fun ⟨z1, z2⟩ => ?_, fun _ => h4.newT R3 (l.cut _ _)⟩)
      unfold cutD at h4
      rw [cut_whole (by rw [l.length]; exact z1) (by rw [l.length]; exact z2)] at h4
      exact h4.ret R3 (.tup hq l)
    | str z =>
      have hc : (match (if szOk z.length = true then some (D.str (cutS z lo' hi')) else none) with | some r => some r | none => none) = some c := hc
      split at hc
      · rename_i r hr
        obtain ⟨hz, rfl⟩ := if_some hr
        cases hc
        exact .inl (.inr ⟨z, rfl, szOk_of hz, h4.ret R3 (.str _)⟩)
      · cases hc
    | lst hq l => cases hc; exact .inr ⟨_, _, rfl, hq.seq R3.sub, h4.toN.newL R3 (l.cut _ _)⟩
    | _ => cases hc⟩⟩⟩

/-! ### several at once, values and new objects -/
/-- the items in hand: a value, or an object that nobody else knows -/
def HandOk (K : PySem.W.Frag) (mg : MG) (w : World) {T : Tb} (B : Bs T) (σ : St) (F H : Hp) (e : En) : List (Bool × D) → List V → Prop
  | [], [] => True
  | (false, d) :: r, v :: vs => Den K mg w F d v ∧ HandOk K mg w B σ F H e r vs
  | (true, d) :: r, v :: vs => (∃ a, v = .ref a ∧ F a = none ∧ B.H0 a = none ∧ Cont K mg w F H a d ∧ (∀ (j : Nat) (s : Sl), e[j]? = some s → s.hot = true → σ[j]? ≠ some (some (.ref a))) ∧
      ∀ (j : Nat) (d' : D), r[j]? = some (true, d') → vs[j]? ≠ some (.ref a)) ∧ HandOk K mg w B σ F H e r vs
  | _, _ => False
def PostK (K : PySem.W.Frag) (mg : MG) (w : World) (W : WX) {T : Tb} (B : Bs T) (σ : St) (F : Hp) (r : Res (List (Bool × D))) (Q : List V → Hp → Prop) : Prop := match r with
  | .ok is e => ∀ F' vs H', Le F F' → Rel K mg w B F' e σ H' → HandOk K mg w B σ F' H' e is vs → Q vs H'
  | .exc x e => ∀ F' c dd H', Le F F' → Rel K mg w B F' e σ H' → DenX K mg w F' x c dd → W c dd σ H'
  | .bad => False
def tK (K : PySem.W.Frag) (mg : MG) (w : World) (T : Tb) (W : WX) (g : En → Res (List (Bool × D))) : TA := fun σ H Q => ∃ (B : Bs T) (F : Hp) (e : En), Rel K mg w B F e σ H ∧ PostK K mg w W B σ F (g e) Q
def nilK : En → Res (List (Bool × D)) := fun e => .ok [] e
def valK (g : En → Res D) (k : En → Res (List (Bool × D))) : En → Res (List (Bool × D)) := fun e => (g e).bind fun d e1 => (k e1).bind fun ds e2 => .ok ((false, d) :: ds) e2
def ownK (g : En → Res D) (k : En → Res (List (Bool × D))) : En → Res (List (Bool × D)) := fun e => (g e).bind fun d e1 => (k e1).bind fun ds e2 => .ok ((true, d) :: ds) e2
theorem PostK.le {T : Tb} {B : Bs T} {σ : St} {F G : Hp} {r : Res (List (Bool × D))} {Q : List V → Hp → Prop} (h : PostK K mg w W B σ F r Q) (s : Le F G) : PostK K mg w W B σ G r Q := by
  cases r with
  | ok a e => exact fun F' b H' l => h F' b H' (s.trans l)
  | exc x e => exact fun F' c dd H' l => h F' c dd H' (s.trans l)
  | bad => exact h
variable {e : Expr} {es : List Expr} {kk : En → Res (List (Bool × D))}
theorem knil : PA X [] (tK X.K X.mg X.w T W nilK) := convA pa_nil fun σ H Q ⟨B, F, e, R, h⟩ => h F [] H (Le.refl F) R trivial
theorem kval (ha : PE X e (tE X.K X.mg X.w T W g)) (hr : PA X es (tK X.K X.mg X.w T W kk)) (hs : starEach (e :: es) X.env = (false, eval e X.env) :: starEach es X.env := by rfl) : PA X (e :: es) (tK X.K X.mg X.w T W (valK g kk)) := convA (pa_cons ha hr hs) fun σ H Q ⟨B, F, e, R, h⟩ =>
  ⟨B, F, e, R, by
    unfold valK at h
    cases q : g e with
    | bad => rw [q] at h; exact h
    | exc x e1 => rw [q] at h; exact h
    | ok d e1 =>
      rw [q] at h
      intro F1 v H1 l1 R1 D1
      refine ⟨B, F1, e1, R1, ?_⟩
      have h := PostK.le h l1
      simp only [Res.bind] at h
      cases q2 : kk e1 with
      | bad => rw [q2] at h; exact h
      | exc x e2 => rw [q2] at h; exact h
      | ok ds e2 =>
        rw [q2] at h
        exact fun F2 vs H2 l2 R2 hk => h F2 (v :: vs) H2 l2 R2 ⟨D1.mono l2, hk⟩⟩
theorem kown (ha : PE X e (tN X.K X.mg X.w T W g)) (hr : PA X es (tK X.K X.mg X.w T W kk)) (hs : starEach (e :: es) X.env = (false, eval e X.env) :: starEach es X.env := by rfl) : PA X (e :: es) (tK X.K X.mg X.w T W (ownK g kk)) := convA (pa_cons ha hr hs) fun σ H Q ⟨B, F, e, R, h⟩ =>
  ⟨B, F, e, R, by
    unfold ownK at h
    cases q : g e with
    | bad => rw [q] at h; exact h
    | exc x e1 => rw [q] at h; exact h
    | ok d e1 =>
      rw [q] at h
      intro F1 a H1 l1 R1 n n0 ck hn
      obtain ⟨o, ho, ht, hx⟩ := ck.tracked'
      have h := PostK.le h l1
      simp only [Res.bind] at h
      -- the object stands among the old ones
      have offF : B.F0 a = none := by
        cases z : B.F0 a with
        | none => rfl
        | some u =>
          have := R1.low _ _ z
          rw [n] at this; cases this
      have offA : B.off a := ⟨n0, offF, fun i hi => by
        obtain ⟨d', hd'⟩ := R1.ios i a hi
        obtain ⟨a', k1, k2, k3, _⟩ := R1.at' i _ hd'
        rw [hi] at k3; cases k3
        exact hn i _ hd' rfl k1⟩
      have RB : Rel X.K X.mg X.w (B.wth a o) F1 e1 σ H1 := by
        refine ⟨R1.sub, fun b u q t io => ?_, fun b u q t => ?_, R1.tabs, R1.low, fun b u q => ?_, R1.len, fun i s hs => ?_, R1.ios, R1.apart, R1.noT⟩
        · have q : upd B.H0 a o b = some u := q
          by_cases hb : b = a
          · subst hb; rw [upd_same] at q; cases q; exact ho
          · rw [upd_ne hb] at q; exact R1.old b u q t io
        · have q : upd B.H0 a o b = some u := q
          by_cases hb : b = a
          · subst hb; rw [upd_same] at q; cases q; rw [ht] at t; cases t
          · rw [upd_ne hb] at q; exact R1.oldT b u q t
        · rcases R1.fr b u q with z | z
          · exact .inl z
          · right
            have hb : b ≠ a := ne_of_none q n
            show upd B.H0 a o b = none
            rw [upd_ne hb]; exact z
        · have z := R1.at' i s hs
          cases s with
          | un => trivial
          | val d => exact z
          | io d => exact z
          | own d =>
            obtain ⟨b, k1, k2, k3, k4⟩ := z
            have hb : b ≠ a := fun w => hn i _ hs rfl (w ▸ k1)
            refine ⟨b, k1, k2, ?_, k4⟩
            show upd B.H0 a o b = none
            rw [upd_ne hb]; exact k3
      refine ⟨B.wth a o, F1, e1, RB, ?_⟩
      cases q2 : kk e1 with
      | bad => rw [q2] at h; exact h
      | exc x e2 => rw [q2] at h; exact fun F2 c dd H2 l2 R2 hd => h F2 c dd H2 l2 (R2.unbase offA) hd
      | ok ds e2 =>
        rw [q2] at h
        intro F2 vs H2 l2 R2 hk
        obtain ⟨hH, hF⟩ := R2.atBase offA ht
        -- what the others are, by the frame itself
        have fix : ∀ {ds : List (Bool × D)} {vs : List V}, HandOk X.K X.mg X.w (B.wth a o) σ F2 H2 e2 ds vs → HandOk X.K X.mg X.w B σ F2 H2 e2 ds vs ∧ ∀ (j : Nat) (d' : D), ds[j]? = some (true, d') → vs[j]? ≠ some (.ref a) := by
          intro ds
          induction ds with
          | nil => intro vs h; cases vs with | nil => exact ⟨trivial, fun j d' h => by simp at h⟩ | cons _ _ => exact h.elim
          | cons p ds ih =>
            intro vs h
            obtain ⟨k, d0⟩ := p
            cases vs with
            | nil => cases k <;> exact h.elim
            | cons v vs =>
              cases k with
              | false =>
                obtain ⟨h1, h2⟩ := h
                obtain ⟨g1, g2⟩ := ih h2
                exact ⟨⟨h1, g1⟩, fun j d' hj => by cases j with | zero => simp at hj | succ j => simpa using g2 j d' (by simpa using hj)⟩
              | true =>
                obtain ⟨⟨b, w1, w2, w3, w4, w5, w6⟩, h2⟩ := h
                obtain ⟨g1, g2⟩ := ih h2
                have w3 : upd B.H0 a o b = none := w3
                have hb : b ≠ a := by rintro rfl; rw [upd_same] at w3; cases w3
                rw [upd_ne hb] at w3
                refine ⟨⟨⟨b, w1, w2, w3, w4, w5, w6⟩, g1⟩, fun j d' hj => ?_⟩
                cases j with
                | zero => intro hv; simp at hv; rw [w1] at hv; cases hv; exact hb rfl
                | succ j => simpa using g2 j d' (by simpa using hj)
        obtain ⟨k1, k2⟩ := fix hk
        exact h F2 (.ref a :: vs) H2 l2 (R2.unbase offA) ⟨⟨a, rfl, hF, n0, (ck.mono l2).heap (by rw [hH, ho]), fun j s hj ht' => R2.offHot offA hj ht', k2⟩, k1⟩⟩
/-- stores, from the left -/
def putPar : List Nat → List (Bool × D) → En → Option En
  | [], [], e => some e
  | i :: is, (false, d) :: r, e => (putV i d e).bind (putPar is r)
  | i :: is, (true, d) :: r, e => (putO i d e).bind (putPar is r)
  | _, _, _ => none
def setAll : List Nat → List V → St → St
  | i :: is, v :: vs, σ => setAll is vs (σ.set i (some v))
  | _, _, σ => σ
theorem putPar_ok {B : Bs T} {F H : Hp} : ∀ {is : List Nat} {ds : List (Bool × D)} {vs : List V} {e e' : En} {σ : St}, Rel K mg w B F e σ H → HandOk K mg w B σ F H e ds vs → putPar is ds e = some e' → Rel K mg w B F e' (setAll is vs σ) H
  | [], [], [], _, _, _, R, _, h => by cases h; exact R
  | i :: is, (false, d) :: r, v :: vs, e, e', σ, R, ⟨h1, h2⟩, h => by
    obtain ⟨e1, h3, h4⟩ := bind_some' h
    have R1 := putV_ok R h1 h3
    have keep : ∀ {r : List (Bool × D)} {vs : List V}, HandOk K mg w B σ F H e r vs → HandOk K mg w B (σ.set i (some v)) F H e1 r vs := by
      intro r
      induction r with
      | nil => intro vs h; cases vs <;> exact h
      | cons p r ih =>
        intro vs h
        obtain ⟨k, d0⟩ := p
        cases vs with
        | nil => cases k <;> exact h.elim
        | cons w vs =>
          cases k with
          | false => exact ⟨h.1, ih h.2⟩
          | true =>
            obtain ⟨⟨b, w1, w2, w3, w4, w5, w6⟩, h2⟩ := h
            refine ⟨⟨b, w1, w2, w3, w4, fun j s hj ht => ?_, w6⟩, ih h2⟩
            unfold putV at h3
            split at h3
            · rename_i s0 hs0
              split at h3
              · cases h3
              · cases h3
                by_cases hij : i = j
                · subst hij
                  rw [List.getElem?_set_self (List.getElem?_eq_some_iff.mp hs0).1] at hj
                  cases hj; cases ht
                · rw [List.getElem?_set_ne hij] at hj
                  rw [List.getElem?_set_ne hij]
                  exact w5 j s hj ht
            · cases h3
    show Rel K mg w B F e' (setAll is vs (σ.set i (some v))) H
    exact putPar_ok R1 (keep h2) h4
  | i :: is, (true, d) :: r, v :: vs, e, e', σ, R, ⟨⟨a, h1, n, n0, ck, hn, hd⟩, h2⟩, h => by
    obtain ⟨e1, h3, h4⟩ := bind_some' h
    subst h1
    have R1 := putO_ok R n n0 ck hn h3
    have keep : ∀ {r : List (Bool × D)} {vs : List V}, HandOk K mg w B σ F H e r vs → (∀ (j : Nat) (d' : D), r[j]? = some (true, d') → vs[j]? ≠ some (.ref a)) → HandOk K mg w B (σ.set i (some (.ref a))) F H e1 r vs := by
      intro r
      induction r with
      | nil => intro vs h _; cases vs <;> exact h
      | cons p r ih =>
        intro vs h hd
        obtain ⟨k, d0⟩ := p
        cases vs with
        | nil => cases k <;> exact h.elim
        | cons w vs =>
          have hd' : ∀ (j : Nat) (d' : D), r[j]? = some (true, d') → vs[j]? ≠ some (.ref a) := fun j d' q => by simpa using hd (j + 1) d' (by simpa using q)
          cases k with
          | false => exact ⟨h.1, ih h.2 hd'⟩
          | true =>
            obtain ⟨⟨b, w1, w2, w3, w4, w5, w6⟩, h2⟩ := h
            have hba : b ≠ a := by
              rintro rfl
              exact hd 0 d0 rfl (by rw [w1]; rfl)
            refine ⟨⟨b, w1, w2, w3, w4, fun j s hj ht => ?_, w6⟩, ih h2 hd'⟩
            unfold putO at h3
            split at h3
            · rename_i s0 hs0
              split at h3
              · cases h3
              · cases h3
                by_cases hij : i = j
                · subst hij
                  rw [List.getElem?_set_self (by rw [← R.len]; exact (List.getElem?_eq_some_iff.mp hs0).1)]
                  intro q; cases q; exact hba rfl
                · rw [List.getElem?_set_ne hij] at hj
                  rw [List.getElem?_set_ne hij]
                  exact w5 j s hj ht
            · cases h3
    show Rel K mg w B F e' (setAll is vs (σ.set i (some (.ref a)))) H
    exact putPar_ok R1 (keep h2 hd) h4
  | [], _ :: _, _, _, _, _, _, _, h => by cases h
  | [], [], _ :: _, _, _, _, _, h, _ => h.elim
  | _ :: _, [], _, _, _, _, _, _, h => by cases h
  | _ :: _, (false, _) :: _, [], _, _, _, _, h, _ => h.elim
  | _ :: _, (true, _) :: _, [], _, _, _, _, h, _ => h.elim
def parS (is : List Nat) (k : En → Res (List (Bool × D))) : En → Out := fun e => (k e).thn fun ds e1 => nxO (putPar is ds e1)
theorem PostS.stepK {B : Bs T} {σ : St} {F : Hp} {N : Ends} {r : Res (List (Bool × D))} {k : List (Bool × D) → En → Out} {KK : List V → Hp → Prop} (h : PostS K mg w W B F (r.thn k) N)
    (f : ∀ F1 e1 ds vs H1, Le F F1 → Rel K mg w B F1 e1 σ H1 → HandOk K mg w B σ F1 H1 e1 ds vs → PostS K mg w W B F1 (k ds e1) N → KK vs H1) : PostK K mg w W B σ F r KK := by
  cases r with
  | ok ds e => exact fun F' vs H' l R1 hk => f F' e ds vs H' l R1 hk (PostS.le h l)
  | exc x e => exact fun F' c dd H' l R1 hx => h F' c dd σ H' l R1 hx
  | bad => exact h
theorem hand_len {B : Bs T} {σ : St} {F H : Hp} {e : En} : ∀ {ds : List (Bool × D)} {vs : List V}, HandOk K mg w B σ F H e ds vs → ds.length = vs.length
  | [], [], _ => rfl
  | (false, _) :: r, _ :: vs, ⟨_, h⟩ => by rw [List.length_cons, List.length_cons, hand_len h]
  | (true, _) :: r, _ :: vs, ⟨_, h⟩ => by rw [List.length_cons, List.length_cons, hand_len h]
  | [], _ :: _, h => h.elim
  | (false, _) :: _, [], h => h.elim
  | (true, _) :: _, [], h => h.elim
theorem putPar_len : ∀ {is : List Nat} {ds : List (Bool × D)} {e e' : En}, putPar is ds e = some e' → ds.length = is.length
  | [], [], _, _, _ => rfl
  | i :: is, (false, d) :: r, e, e', h => by obtain ⟨e1, _, h4⟩ := bind_some' h; rw [List.length_cons, List.length_cons, putPar_len h4]
  | i :: is, (true, d) :: r, e, e', h => by obtain ⟨e1, _, h4⟩ := bind_some' h; rw [List.length_cons, List.length_cons, putPar_len h4]
  | [], _ :: _, _, _, h => by cases h
  | _ :: _, [], _, _, h => by cases h
variable {x y z : Str} {px py pz pt : Pos} {kt k2 : Nat} {pt2 : Pos}
theorem spar (i j : Nat) (cc : Cc X W k) (ha : PA X [a, b] (tK X.K X.mg X.w T W kk)) (hij : i ≠ j := by decide) (hi : X.N[i]? = some x := by rfl) (hj : X.N[j]? = some y := by rfl)
    (hx : X.env.scope.names.lookup x = some .local := by rfl) (hy : X.env.scope.names.lookup y = some .local := by rfl)
    (hw : swappedStores [.Tuple [.Name x px, .Name y py] kt pt] (.Tuple [a, b] k2 pt2) X.env = pure (some [x, y]) := by rfl)
    (hs : swapsWithSole [.Tuple [.Name x px, .Name y py] kt pt] (.Tuple [a, b] k2 pt2) pos.line X.env = pure false := by rfl) :
    PS X (.Assign [.Tuple [.Name x px, .Name y py] kt pt] (.Tuple [a, b] k2 pt2) pos) (tS X.K X.mg X.w T W (parS [i, j] kk)) := convS (ps_par cc.calm cc.nd hi hj hij hx hy ha hw hs) fun N σ H ⟨B, F, e, R, q⟩ =>
  ⟨B, F, e, R, PostS.stepK q fun F1 e1 ds vs H1 l1 R1 hk q1 => by
    cases hp : putPar [i, j] ds e1 with
    | none => rw [hp] at q1; exact q1.elim
    | some e2 =>
      rw [hp] at q1
      have hl := (hand_len hk).symm.trans (putPar_len hp)
      match vs, hl, hk with
      | [v, w], _, hk => exact ⟨v, w, rfl, q1 F1 _ H1 (Le.refl F1) (putPar_ok R1 hk hp)⟩⟩
theorem spar3 (i j l : Nat) (cc : Cc X W k) (ha : PA X [a, b, c] (tK X.K X.mg X.w T W kk)) (hij : i ≠ j := by decide) (hil : i ≠ l := by decide) (hjl : j ≠ l := by decide) (hi : X.N[i]? = some x := by rfl) (hj : X.N[j]? = some y := by rfl) (hl : X.N[l]? = some z := by rfl)
    (hx : X.env.scope.names.lookup x = some .local := by rfl) (hy : X.env.scope.names.lookup y = some .local := by rfl) (hz : X.env.scope.names.lookup z = some .local := by rfl)
    (hw : swappedStores [.Tuple [.Name x px, .Name y py, .Name z pz] kt pt] (.Tuple [a, b, c] k2 pt2) X.env = pure (some [x, y, z]) := by rfl)
    (hs : swapsWithSole [.Tuple [.Name x px, .Name y py, .Name z pz] kt pt] (.Tuple [a, b, c] k2 pt2) pos.line X.env = pure false := by rfl) :
    PS X (.Assign [.Tuple [.Name x px, .Name y py, .Name z pz] kt pt] (.Tuple [a, b, c] k2 pt2) pos) (tS X.K X.mg X.w T W (parS [i, j, l] kk)) := convS (ps_par3 cc.calm cc.nd hi hj hl hij hil hjl hx hy hz ha hw hs) fun N σ H ⟨B, F, e, R, q⟩ =>
  ⟨B, F, e, R, PostS.stepK q fun F1 e1 ds vs H1 l1 R1 hk q1 => by
    cases hp : putPar [i, j, l] ds e1 with
    | none => rw [hp] at q1; exact q1.elim
    | some e2 =>
      rw [hp] at q1
      have hl := (hand_len hk).symm.trans (putPar_len hp)
      match vs, hl, hk with
      | [u, v, w], _, hk => exact ⟨u, v, w, rfl, q1 F1 _ H1 (Le.refl F1) (putPar_ok R1 hk hp)⟩⟩
/-- target = e, the target of any form -/
def asgS (g : En → Res D) (t : Tg) : En → Out := fun e => (g e).thn fun d e1 => nxO (t.go d e1)
theorem sasg {tg e : Expr} {t : Tg} (he : PE X e (tE X.K X.mg X.w T W g)) (hg : PG X tg (tG X.K X.mg X.w T t)) (hs : swapsWithSole [tg] e pos.line X.env = pure false := by rfl) (hw : swappedStores [tg] e X.env = pure none := by rfl)
    (h1 : (assignEach [tg] X.env).map (·.2) = [assign tg X.env] := by rfl) : PS X (.Assign [tg] e pos) (tS X.K X.mg X.w T W (asgS g t)) := convS (ps_asg he hg hs hw h1) fun N σ H ⟨B, F, e, R, q⟩ =>
  ⟨B, F, e, R, PostS.step (R := Den X.K X.mg X.w) q fun F1 e1 d v H1 l1 R1 D1 q1 => by
    cases hp : t.go d e1 with
    | none => rw [hp] at q1; exact q1.elim
    | some e2 => rw [hp] at q1; exact ⟨B, F1, e1, d, R1, D1, e2, hp, fun σ' _ _ R' => q1 F1 σ' H1 (Le.refl F1) R'⟩⟩
/-- len of slot i's own list -/
def slotLenG (i : Nat) : En → Res D := fun e => match e[i]?.bind Sl.cont with
  | some c => lift (lenD [c]) e
  | none => .bad
theorem eslotLen {f x : Str} {p p1 : Pos} (i : Nat) (hg : Gl X f) (hf : f = "len") (hm : X.mg f = none) (hN : X.N[i]? = some x := by rfl) (hv : Vis X.env.scope x := by first | exact Or.inl rfl | exact Or.inr (Or.inl rfl) | exact Or.inr (Or.inr rfl)) (hd : (x == ("__debug__" : Str)) = false := by decide)
    (hcd : (x == ("__classdict__" : Str)) = false := by decide) (he : starEach [.Name x p] X.env = (false, eval (.Name x p) X.env) :: starEach [] X.env := by rfl) : PE X (.Call (.Name f p1) [.Name x p] [] pos) (tE X.K X.mg X.w T W (slotLenG i)) := by
  subst hf
  refine conv (pe_callB call_lenA hg hm (by decide +kernel) (pa_cons (pv i hN hv hd hcd) pa_nil he) (by decide) (by decide) he) fun σ H Q ⟨B, F, e, R, h⟩ => ?_
  unfold slotLenG at h
  split at h
  · rename_i c0 hc0
    obtain ⟨s, hs, hc⟩ := bind_some' hc0
    obtain ⟨a, e1, _, ck⟩ := R.cont hs hc
    obtain ⟨r, hr, h2⟩ := h.lift
    refine ⟨_, e1, ?_⟩
    cases c0 with
    | lst ds => cases hr; obtain ⟨vs, e3, l⟩ := ck; exact .inl ⟨_, _, rfl, .inl ⟨_, SqL.of e3, rfl⟩, h2.ret R (by rw [l.length]; exact .int _)⟩
    | dct ds => cases hr; obtain ⟨vs, e3, l⟩ := ck; exact .inr (.inl ⟨_, _, rfl, .inl e3, h2.ret R (by rw [l.length]; exact .int _)⟩)
    | gd ds => cases hr; obtain ⟨ob, vs, e3, l⟩ := ck; exact .inr (.inr ⟨_, _, _, rfl, .inl e3, h2.ret R (by rw [l.len]; exact .int _)⟩)
    | obj _ _ => cases hr
    | _ => exact ck.elim
  · exact h.elim
/-- a constant of the module -/
def GC (K : PySem.W.Frag) (mg : MG) (w : World) (x : Str) (d : D) : Prop := ∃ u v, mg x = some u ∧ RelV v u ∧ ∀ F, Den K mg w F d v
theorem egl {d : D} {p : Pos} (hg : Gl X x) (h : GC X.K X.mg X.w x d) (hd : (x == ("__debug__" : Str)) = false := by decide) : PE X (.Name x p) (tE X.K X.mg X.w T W (constG d)) := by
  obtain ⟨u, v, h1, h2, h3⟩ := h
  exact ecst (pe_glob hg h1 h2 hd) h3
end

/-! ### defs by name -/
structure Cl (P : Program) (w : World) (K : PySem.W.Frag) (mg : MG) (base : Heap) (T : Tb) (j : Nat) (x : Str) (n : Nat) (f : En → Res D) : Prop where
  ex : ∃ (fa : Addr) (fd : FuncData) (ps : List Str), FnG P w K mg base (L2.CX P w) j fa fd ps (spV K mg w T n f) ∧ mg x = some (.ref fa) ∧ PySem.W.keepIn K (.ref fa) = true ∧ Binds K fd ps []
/-- the def st stands at x behind the top -/
structure Fd (K : PySem.W.Frag) (mg : MG) (x : Str) (st : Stmt) : Prop where
  ex : ∃ (fa : Addr) (fd : FuncData), Fun K x x st fa fd ∧ mg x = some (.ref fa)
section
variable {P : Program} {w : World} {K : PySem.W.Frag} {mg : MG} {base : Heap} {T : Tb} {x : Str} {st : Stmt} {N ps : List Str} {n k : Nat} {body : En → Out}
theorem clV (F : Fd K mg x st) (S : FnScope N ps (defScope st)) (hn : ps.length = n)
    (hbind : ∀ (kV doc pm : Value) (an : Option Addr) (cdv ct : Value) (us : List Value), us.length = ps.length → bindArgs (PySem.W.fnOf x x (defArgs st) (defBody st) (defScope st) .none kV doc pm an cdv ct) ⟨us, []⟩ = pure (ps.zip us))
    (hb : ∀ (f : Addr) (cdv : Value) (A : Around) (outer : List Env) (s : Shared) (H : Hp) (E : XK), Cc (dX P w K mg base N x st f cdv A outer s H E) (dW E) k →
      PSs (dX P w K mg base N x st f cdv A outer s H E) (defBody st) (tS K mg w T (dW E) body)) : Cl P w K mg base T (k + 1) x n (defV N.length body) := by
  obtain ⟨fa, fd, F1, hm⟩ := F.ex
  exact ⟨fa, fd, ps, okV F1 S hn (hb fa), hm, F1.kp, F1.binds hbind⟩
end
section
variable {X : Cx} {T : Tb} {W : WX} {k j n : Nat} {f : En → Res D} {x : Str} {p pos : Pos} {e : Expr} {es : List Expr} {g : En → Res (List Ar)}
theorem ecl (c : Cc X W k) (C : Cl X.prog X.w X.K X.mg X.base T j x n f) (hj : j ≤ k) (hg : Gl X x) (ha : PA X (e :: es) (tA X.K X.mg X.w T W g)) (hl : ∀ as en en', g en = .ok as en' → as.length = n) (hn : (e :: es).length = n := by rfl) (hdb : (x == ("__debug__" : Str)) = false := by decide)
    (he : starEach (e :: es) X.env = (false, eval e X.env) :: starEach es X.env := by rfl) (hpl : (backTo pos (starEach es X.env)).any (·.1) = false := by rfl) : PE X (.Call (.Name x p) (e :: es) [] pos) (tE X.K X.mg X.w T W (callG f g)) := by
  obtain ⟨fa, fd, ps, F, hm, hk, hb⟩ := C.ex
  exact ecall c F hj hg hm hk hb ha hn hdb he hpl hl
end
end L2.PV

set_option Elab.async false
set_option linter.all false
set_option maxRecDepth 100000
set_option autoImplicit false
namespace L2.PV
open PySem PySem.Spec PyProof.Rows

/-! ### a def that hands back a new object -/
section
variable (K : PySem.W.Frag) (mg : MG) (w : World) (T : Tb)
def spO (n : Nat) (f : En → Res D) : Sp := fun vs H Q E => vs.length = n ∧ ∃ (B : Bs T) (F : Hp) (args : En), B.H0 = kn T H ∧ B.F0 = F ∧ Rel K mg w B F args (vs.map some) H ∧ (∀ s ∈ args, (∃ d, s = .val d) ∨ ∃ d, s = .io d) ∧
  PostN K mg w (fun c dd _ H => E c dd H) B (vs.map some) F (f args) Q
/-- what a return statement hands back is an object that nobody else knows -/
def tSO (W : WX) (g : En → Out) : TS := fun N σ H => ∃ (B : Bs T) (F : Hp) (e : En), Rel K mg w B F e σ H ∧ match g e with
  | .ret c e1 => ∀ F' a σ' H', Le F F' → Rel K mg w B F' e1 σ' H' → F' a = none → B.H0 a = none → Cont K mg w F' H' a c → N.rt (.ref a) H'
  | r => PostS K mg w W B F r N
end
section
variable {X : Cx} {T : Tb} {W : WX} {st : Stmt} {rest : List Stmt} {g h : En → Out} {ge : En → Res D} {e : Expr} {pos : Pos} {c : En → Res Bool} {x : Str}
/-- without a return in it, a statement is the same either way -/
def noRet : Out → Prop | .ret _ _ => False | _ => True
theorem oS {st : Stmt} (h : PS X st (tS X.K X.mg X.w T W g)) (hn : ∀ e, noRet (g e)) : PS X st (tSO X.K X.mg X.w T W g) := convS h fun N σ H ⟨B, F, e, R, q⟩ => ⟨B, F, e, R, by
  have := hn e
  cases hg : g e with
  | ret d e1 => rw [hg] at this; exact this.elim
  | nx e1 => rw [hg] at q; exact q
  | brk e1 => rw [hg] at q; exact q
  | cnt e1 => rw [hg] at q; exact q
  | exc x e1 => rw [hg] at q; exact q
  | bad => rw [hg] at q; exact q⟩
theorem ocons (h1 : PS X st (tS X.K X.mg X.w T W g)) (hn : ∀ e, noRet (g e)) (h2 : PSs X rest (tSO X.K X.mg X.w T W h)) : PSs X (st :: rest) (tSO X.K X.mg X.w T W (seqS g h)) := convSs (pss_cons h1 h2) fun N σ H ⟨B, F, e, R, q⟩ =>
  ⟨B, F, e, R, by
    have := hn e
    unfold seqS at q
    cases hg : g e with
    | ret d e1 => rw [hg] at this; exact this.elim
    | nx e1 =>
      simp only [hg] at q
      intro F' σ' H' l R'
      refine ⟨B, F', e1, R', ?_⟩
      cases hh : h e1 with
      | ret d e2 => rw [hh] at q; exact fun F2 a σ2 H2 l2 => q F2 a σ2 H2 (l.trans l2)
      | nx e2 => rw [hh] at q; exact PostS.le q l
      | brk e2 => rw [hh] at q; exact PostS.le q l
      | cnt e2 => rw [hh] at q; exact PostS.le q l
      | exc x e2 => rw [hh] at q; exact PostS.le q l
      | bad => rw [hh] at q; exact q
    | brk e1 => simp only [hg] at q; exact q
    | cnt e1 => simp only [hg] at q; exact q
    | exc x e1 => simp only [hg] at q; exact q
    | bad => simp only [hg] at q; exact q⟩
def noR (g : En → Out) : En → Out := fun e => match g e with | .ret _ _ => .bad | o => o
theorem oconsR (h1 : PS X st (tS X.K X.mg X.w T W g)) (h2 : PSs X rest (tSO X.K X.mg X.w T W h)) : PSs X (st :: rest) (tSO X.K X.mg X.w T W (seqS (noR g) h)) :=
  ocons (g := noR g) (convS h1 fun N σ H ⟨B, F, e, R, q⟩ => ⟨B, F, e, R, by
    unfold noR at q
    cases hg : g e with
    | ret d e1 => rw [hg] at q; exact q.elim
    | _ => rw [hg] at q; exact q⟩) (fun e => by
    unfold noR
    cases g e <;> trivial) h2
theorem oone (h1 : PS X st (tSO X.K X.mg X.w T W g)) : PSs X [st] (tSO X.K X.mg X.w T W g) := pss_one h1
theorem oret (he : PE X e (tN X.K X.mg X.w T W ge)) : PS X (.Return (some e) pos) (tSO X.K X.mg X.w T W (retS ge)) := convS (ps_ret he) fun N σ H ⟨B, F, e, R, q⟩ =>
  ⟨B, F, e, R, by
    unfold retS at q
    cases hg : ge e with
    | ok d e1 => rw [hg] at q; exact fun F' a H' l R' n n0 ck _ => q F' a σ H' l R' n n0 ck
    | exc x e1 => rw [hg] at q; exact fun F' c dd H' l R' hx => q F' c dd σ H' l R' hx
    | bad => rw [hg] at q; exact q⟩
/-- return x, x a slot's own object -/
def retSlot (i : Nat) : En → Out := fun e => match e[i]? with
  | some (.own d) => .ret d (e.set i .un)
  | _ => .bad
theorem oretSlot {p : Pos} (i : Nat) (hN : X.N[i]? = some x := by rfl) (hv : Vis X.env.scope x := by first | exact Or.inl rfl | exact Or.inr (Or.inl rfl) | exact Or.inr (Or.inr rfl)) (hd : (x == ("__debug__" : Str)) = false := by decide)
    (hcd : (x == ("__classdict__" : Str)) = false := by decide) : PS X (.Return (some (.Name x p)) pos) (tSO X.K X.mg X.w T W (retSlot i)) := convS (ps_ret (pv i hN hv hd hcd)) fun N σ H ⟨B, F, e, R, q⟩ => by
  unfold retSlot at q
  cases hs : e[i]? with
  | none => rw [hs] at q; exact q.elim
  | some s =>
    rw [hs] at q
    cases s with
    | own d =>
      obtain ⟨a, e1, e2, e3, ck⟩ := R.at' i _ hs
      exact ⟨_, e1, q F a σ H (Le.refl F) (R.drop hs rfl) e2 e3 ck⟩
    | un => exact q.elim
    | val d => exact q.elim
    | io d => exact q.elim
end
section
variable {P : Program} {w : World} {K : PySem.W.Frag} {mg : MG} {T : Tb} {base : Heap}
def defO (N : Nat) (body : En → Out) : En → Res D := fun args => match body (args ++ List.replicate (N - args.length) .un) with
  | .ret d e => .ok d (outArgs args e)
  | .exc x e => .exc x (outArgs args e)
  | _ => .bad
theorem okO {x qual : Str} {st : Stmt} {f : Addr} {fd : FuncData} {N ps : List Str} {k n : Nat} {body : En → Out} (Fn : Fun K x qual st f fd) (S : FnScope N ps (defScope st)) (hn : ps.length = n)
    (hb : ∀ (cdv : Value) (A : Around) (outer : List Env) (s : Shared) (H : Hp) (E : XK), Cc (dX P w K mg base N qual st f cdv A outer s H E) (dW E) k →
      PSs (dX P w K mg base N qual st f cdv A outer s H E) (defBody st) (tSO K mg w T (dW E) body)) : FnG P w K mg base (L2.CX P w) (k + 1) f fd ps (spO K mg w T n (defO N.length body)) := by
  obtain ⟨oc, od, kV, doc, pm, an, cdv, ct, osl, rfl, lk, hcd⟩ := Fn.ex
  refine fnG_of lk hcd S (fun vs H Q E h => h.1.trans hn.symm) fun A outer s H vs Q E g hr h => ?_
  refine ⟨_, hb cdv A outer s H E ⟨rfl, takes_of rfl rfl rfl rfl, passes_of rfl, hr, S.nd, g⟩, ?_⟩
  obtain ⟨hv, B, F, args, h0, hF, R, kind, h⟩ := h
  have hl : args.length = vs.length := by rw [R.len, List.length_map]
  have R0 := R.begin (n := N.length - args.length)
  rw [hl] at R0
  refine ⟨B, F, _, R0, ?_⟩
  unfold defO at h
  rw [hl] at h
  cases hbd : body (args ++ List.replicate (N.length - vs.length) .un) with
  | nx e => rw [hbd] at h; exact h.elim
  | ret d e =>
    rw [hbd] at h
    intro F' a σ' H' l R' n n0 ck
    refine h F' a H' l (R.finish kind l R') n n0 ck fun j s hj ht q => ?_
    have RF := R.finish kind l R'
    obtain ⟨b, o, k1, _, k3, k4, _⟩ := RF.hot hj ht
    rw [k1] at q; cases q
    have : kn T H a = none := by rw [← h0]; exact n0
    obtain ⟨s', hs'⟩ : ∃ s', args[j]? = some s' ∧ s'.hot = true := by
      rcases k4 with z | z
      · have hjl : j < args.length := by rw [← outArgs_len (e := e)]; exact (List.getElem?_eq_some_iff.mp hj).1
        rcases kind _ (List.mem_of_getElem? (List.getElem?_eq_getElem hjl)) with ⟨d', hd'⟩ | ⟨d', hd'⟩
        · rw [outArgs_val (by rw [List.getElem?_eq_getElem hjl, hd'])] at hj; cases hj; cases ht
        · exact ⟨_, List.getElem?_eq_getElem hjl, by rw [hd']; rfl⟩
      · obtain ⟨d', hd'⟩ := R.ios j a z
        exact ⟨_, hd', rfl⟩
    obtain ⟨b, o', w1, _, w3, _, w4, _⟩ := R.hot hs'.1 hs'.2
    rw [k1] at w1; cases w1
    rw [kn_of w3 w4] at this; cases this
  | exc x e => rw [hbd] at h; exact fun F' c dd σ' H' l R' hd => h F' c dd H' l (R.finish kind l R') hd
  | brk e => rw [hbd] at h; exact h.elim
  | cnt e => rw [hbd] at h; exact h.elim
  | bad => rw [hbd] at h; exact h
structure ClO (P : Program) (w : World) (K : PySem.W.Frag) (mg : MG) (base : Heap) (T : Tb) (j : Nat) (x : Str) (n : Nat) (f : En → Res D) : Prop where
  ex : ∃ (fa : Addr) (fd : FuncData) (ps : List Str), FnG P w K mg base (L2.CX P w) j fa fd ps (spO K mg w T n f) ∧ mg x = some (.ref fa) ∧ PySem.W.keepIn K (.ref fa) = true ∧ Binds K fd ps []
theorem clO {x : Str} {st : Stmt} {N ps : List Str} {n k : Nat} {body : En → Out} (F : Fd K mg x st) (S : FnScope N ps (defScope st)) (hn : ps.length = n)
    (hbind : ∀ (kV doc pm : Value) (an : Option Addr) (cdv ct : Value) (us : List Value), us.length = ps.length → bindArgs (PySem.W.fnOf x x (defArgs st) (defBody st) (defScope st) .none kV doc pm an cdv ct) ⟨us, []⟩ = pure (ps.zip us))
    (hb : ∀ (f : Addr) (cdv : Value) (A : Around) (outer : List Env) (s : Shared) (H : Hp) (E : XK), Cc (dX P w K mg base N x st f cdv A outer s H E) (dW E) k →
      PSs (dX P w K mg base N x st f cdv A outer s H E) (defBody st) (tSO K mg w T (dW E) body)) : ClO P w K mg base T (k + 1) x n (defO N.length body) := by
  obtain ⟨fa, fd, F1, hm⟩ := F.ex
  exact ⟨fa, fd, ps, okO F1 S hn (hb fa), hm, F1.kp, F1.binds hbind⟩
end
section
variable {X : Cx} {T : Tb} {W : WX} {k j n : Nat} {f : En → Res D} {x : Str} {p pos : Pos} {e : Expr} {es : List Expr} {g : En → Res (List Ar)}
theorem call_postN {B : Bs T} {F H : Hp} {en : En} {σ : St} {as : List Ar} {vs : List V} {args : En} {Q : VK} (hn : vs.length = n) (R : Rel X.K X.mg X.w B F en σ H) (A : ArsOk X.K X.mg X.w σ F as vs) (nd : (slotsOf as).Nodup) (m : mkArgs en as = some args)
    (h : PostN X.K X.mg X.w W B σ F (match f args with | .ok d r => .ok d (wb as r en) | .exc x r => .exc x (wb as r en) | .bad => .bad) Q) : spO X.K X.mg X.w T n f vs H Q (WE W σ) := by
  refine ⟨hn, (⟨kn T H, F, ioOf σ as⟩ : Bs T), F, args, rfl, rfl, R.args A nd m, mk_kinds m, ?_⟩
  cases q : f args with
  | ok d r =>
    rw [q] at h
    intro F' a H' le R' n n0 ck _
    have RB := R.back A nd m le R'
    have n0 : kn T H a = none := n0
    refine h F' a H' le RB n (R.none0k n0) ck fun j s hj ht z => ?_
    obtain ⟨b, o, e1, _, _, e4, _⟩ := RB.hot hj ht
    rw [e1] at z; cases z
    -- a hot slot's object stood there ahead of the call
    have hjl : j < en.length := by rw [← wb_len (as := as) (r := r)]; exact (List.getElem?_eq_some_iff.mp hj).1
    rcases e4 with w | w
    · have z := RB.at' j s hj
      have hh := R.at' j _ (List.getElem?_eq_getElem hjl)
      cases hen : en[j] with
      | own d' => rw [hen] at hh; obtain ⟨b, k1, _, _, k4⟩ := hh; rw [e1] at k1; cases k1; obtain ⟨o', ho, ht, _⟩ := k4.tracked'; rw [kn_of ho ht] at n0; cases n0
      | io d' => rw [hen] at hh; obtain ⟨b, k1, _, _, k4⟩ := hh; rw [e1] at k1; cases k1; obtain ⟨o', ho, ht, _⟩ := k4.tracked'; rw [kn_of ho ht] at n0; cases n0
      | un =>
        exfalso
        by_cases hm : j ∈ slotsOf as
        · obtain ⟨i, hi⟩ : ∃ i : Nat, as[i]? = some (Ar.s j) := slots_ix hm
          have hj' : i < args.length := by rw [(mk_get (j := 0) m).1]; exact (List.getElem?_eq_some_iff.mp hi).1
          rcases (mk_get (j := i) m).2 _ (List.getElem?_eq_getElem hj') with ⟨_, g1, _⟩ | ⟨i', c, s', g1, g2, g3, _⟩
          · rw [hi] at g1; cases g1
          · rw [hi] at g1; cases g1
            rw [List.getElem?_eq_getElem hjl, hen] at g2; cases g2; cases g3
        · rw [wb_other hm, List.getElem?_eq_getElem hjl, hen] at hj; cases hj; cases ht
      | val d' =>
        exfalso
        by_cases hm : j ∈ slotsOf as
        · obtain ⟨i, hi⟩ : ∃ i : Nat, as[i]? = some (Ar.s j) := slots_ix hm
          have hj' : i < args.length := by rw [(mk_get (j := 0) m).1]; exact (List.getElem?_eq_some_iff.mp hi).1
          rcases (mk_get (j := i) m).2 _ (List.getElem?_eq_getElem hj') with ⟨_, g1, _⟩ | ⟨i', c, s', g1, g2, g3, _⟩
          · rw [hi] at g1; cases g1
          · rw [hi] at g1; cases g1
            rw [List.getElem?_eq_getElem hjl, hen] at g2; cases g2; cases g3
        · rw [wb_other hm, List.getElem?_eq_getElem hjl, hen] at hj; cases hj; cases ht
    · obtain ⟨d', hd'⟩ := R.ios j a w
      obtain ⟨b, k1, _, _, k4⟩ := R.at' j _ hd'
      rw [e1] at k1; cases k1
      obtain ⟨o', ho, ht, _⟩ := k4.tracked'
      rw [kn_of ho ht] at n0; cases n0
  | exc x r =>
    rw [q] at h
    exact fun F' c dd H' le R' hd => h F' c dd H' le (R.back A nd m le R') hd
  | bad => rw [q] at h; exact h
theorem nclO (c : Cc X W k) (C : ClO X.prog X.w X.K X.mg X.base T j x n f) (hj : j ≤ k) (hg : Gl X x) (ha : PA X (e :: es) (tA X.K X.mg X.w T W g)) (hl : ∀ as en en', g en = .ok as en' → as.length = n) (hn : (e :: es).length = n := by rfl) (hdb : (x == ("__debug__" : Str)) = false := by decide)
    (he : starEach (e :: es) X.env = (false, eval e X.env) :: starEach es X.env := by rfl) (hpl : (backTo pos (starEach es X.env)).any (·.1) = false := by rfl) : PE X (.Call (.Name x p) (e :: es) [] pos) (tN X.K X.mg X.w T W (callG f g)) := by
  obtain ⟨fa, fd, ps, Fn, hm, hk, hb⟩ := C.ex
  exact conv (pe_callG (E := WE W) Fn c.gd (c.room.mono hj) hg hm hk hb (passAt c.tk) ha hdb he hpl) fun σ H Q ⟨B, F, e, R, h⟩ =>
    ⟨B, F, e, R, by
      unfold callG at h
      cases hq : g e with
      | bad => rw [hq] at h; exact h
      | exc x e' => rw [hq] at h; exact h
      | ok as e' =>
        rw [hq] at h
        intro F1 vs H1 l1 R1 A1
        have h1 := PostN.le h l1
        simp only [Res.bind] at h1
        split at h1
        · rename_i nd
          split at h1
          · rename_i args hm
            exact call_postN (by rw [← (args_get (j := 0) A1).2]; exact hl as e e' hq) R1 A1 nd hm h1
          · exact h1.elim
        · exact h1.elim⟩
end
/-! ### slot i's own list or dict, changed at an index -/
def putKD (kvs : List (Key × D)) (k : Key) (v : D) : List (Key × D) :=
  if (kvs.any fun kv => decide (kv.1 = k)) = true then kvs.map (fun kv => if kv.1 = k then (kv.1, v) else kv) else kvs ++ [(k, v)]
section
variable {K : PySem.W.Frag} {mg : MG} {w : World} {F : Hp}
theorem DenK.any {k : Key} : ∀ {ds : List (Key × D)} {vs : List (Key × V)}, DenK K mg w F ds vs → (ds.any fun kv => decide (kv.1 = k)) = vs.any fun kv => decide (kv.1 = k)
  | _, _, .nil => rfl
  | _, _, .cons h t => by rw [List.any_cons, List.any_cons, t.any]
theorem DenK.repl {k : Key} {d : D} {v : V} (hd : Den K mg w F d v) : ∀ {ds : List (Key × D)} {vs : List (Key × V)}, DenK K mg w F ds vs → DenK K mg w F (ds.map fun kv => if kv.1 = k then (kv.1, d) else kv) (vs.map fun kv => if kv.1 = k then (kv.1, v) else kv)
  | _, _, .nil => .nil
  | _, _, .cons (k := k') h t => by
    rw [List.map_cons, List.map_cons]
    by_cases hk : k' = k
    · simp only [hk, if_true]; exact .cons hd (t.repl hd)
    · simp only [hk, if_false]; exact .cons h (t.repl hd)
theorem DenK.append : ∀ {ds es : List (Key × D)} {vs ws : List (Key × V)}, DenK K mg w F ds vs → DenK K mg w F es ws → DenK K mg w F (ds ++ es) (vs ++ ws)
  | _, _, _, _, .nil, s => s
  | _, _, _, _, .cons h t, s => .cons h (t.append s)
theorem DenK.put {k : Key} {d : D} {v : V} {ds : List (Key × D)} {vs : List (Key × V)} (l : DenK K mg w F ds vs) (hd : Den K mg w F d v) : DenK K mg w F (putKD ds k d) (putK vs k v) := by
  unfold putKD L2.putK
  rw [l.any]
  split
  · exact l.repl hd
  · exact l.append (.cons hd .nil)
end
def setIxD (c i v : D) : Option D := match c, i with
  | .lst xs, .int i => if 0 ≤ i ∧ i < xs.length then some (.lst (xs.set i.toNat v)) else none
  | .dct kvs, k => (keyD k).bind fun k => if kvs.length < sizeLine then some (.dct (putKD kvs k v)) else none
  | .gd kvs, y => (keyOk y).bind fun k => if kvs.length < sizeLine then some (.gd (putG kvs y v k)) else none
  | _, _ => none
def setIxS (i : Nat) (gi ge : En → Res D) : En → Out := fun e => (ge e).thn fun v e1 => match e1[i]?.bind Sl.cont with
  | some _ => (gi e1).thn fun k e2 => match e2[i]? with
    | some s => match s.cont with
      | some c => match setIxD c k v with
        | some c' => .nx (e2.set i (s.put c'))
        | none => .bad
      | none => .bad
    | none => .bad
  | none => .bad
def rSetA (K : PySem.W.Frag) (w : World) : V → V → V → Hp → (Hp → Prop) → Prop := fun o i v H Q => rSetL o i v H Q ∨ (∃ a H', o = .ref a ∧ DPut H a i v H' ∧ Q H') ∨ GD.rGSet K w o i v H Q
section
variable {X : Cx} {T : Tb} {W : WX} {k : Nat} {gi ge : En → Res D} {x : Str} {p pos spos : Pos} {idx e : Expr}
theorem set_all (hu : X.A.units + 64 < cLine) : PSet X (rSetA X.K X.w) := by
  intro pins s σ H o i v ov iv u Q I ro ri rv h
  rcases h with h | ⟨a, H', rfl, g, q⟩ | h
  · exact set_list pins s σ H o i v ov iv u Q I ro ri rv h
  · cases ro
    exact d_setItem (by omega) I g ri rv fun s' I' => ⟨H', I', q⟩
  · exact GD.set_gd (by omega) pins s σ H o i v ov iv u Q I ro ri rv h
theorem ssetIx (i : Nat) (c : Cc X W k) (hk : PE X idx (tE X.K X.mg X.w T W gi)) (he : PE X e (tE X.K X.mg X.w T W ge)) (hN : X.N[i]? = some x := by rfl) (hv : Vis X.env.scope x := by first | exact Or.inl rfl | exact Or.inr (Or.inl rfl) | exact Or.inr (Or.inr rfl)) (hd : (x == ("__debug__" : Str)) = false := by decide)
    (hcd : (x == ("__classdict__" : Str)) = false := by decide) (hsub : ∀ v, assign (.Subscript (.Name x p) idx spos) X.env v = (do
      let ov ← holding [v] (eval (.Name x p) X.env)
      let iv ← holding [v, ov] (eval idx X.env)
      standAt spos
      holding [v, ov, iv] (setItem ov iv v)
      release [v, ov, iv] []) := by intro _; rfl)
    (hs : swapsWithSole [.Subscript (.Name x p) idx spos] e pos.line X.env = pure false := by rfl) (hw : swappedStores [.Subscript (.Name x p) idx spos] e X.env = pure none := by rfl)
    (h1 : (assignEach [.Subscript (.Name x p) idx spos] X.env).map (·.2) = [assign (.Subscript (.Name x p) idx spos) X.env] := by rfl) :
    PS X (.Assign [.Subscript (.Name x p) idx spos] e pos) (tS X.K X.mg X.w T W (setIxS i gi ge)) := convS (ps_asg he (pg_sub (pv i hN hv hd hcd) hk (set_all c.room.units) hsub) hs hw h1) fun N σ H ⟨B, F, e, R, q⟩ =>
  ⟨B, F, e, R, PostS.step (R := Den X.K X.mg X.w) q fun F1 e1 d v H1 l1 R1 D1 q1 => by
    split at q1
    · rename_i c0 hc0
      obtain ⟨s, hs, hc⟩ := bind_some' hc0
      obtain ⟨a, k1, _, _⟩ := R1.cont hs hc
      refine ⟨_, k1, B, F1, e1, R1, PostS.step (R := Den X.K X.mg X.w) q1 fun F2 e2 dk vk H2 l2 R2 D2 q2 => ?_⟩
      cases hs2 : e2[i]? with
      | none => simp only [hs2] at q2; exact q2.elim
      | some s2 =>
        simp only [hs2] at q2
        cases hc2 : s2.cont with
        | none => simp only [hc2] at q2; exact q2.elim
        | some c2 =>
          simp only [hc2] at q2
          obtain ⟨a2, w1, w2, ck⟩ := R2.cont hs2 hc2
          rw [k1] at w1; cases w1
          cases hx : setIxD c2 dk d with
          | none => simp only [hx] at q2; exact q2.elim
          | some c' =>
            simp only [hx] at q2
            have D1' := D1.mono l2
            cases c2 with
            | lst ds =>
              obtain ⟨vs, e3, l⟩ := ck
              cases D2 with
              | int j =>
                have hx : (if 0 ≤ j ∧ j < ds.length then some (D.lst (ds.set j.toNat d)) else none) = some c' := hx
                obtain ⟨⟨h1, h2⟩, rfl⟩ := if_some hx
                refine .inl ⟨a, vs, j, j.toNat, rfl, rfl, e3, ?_, ?_⟩
                · unfold ixN
                  rw [if_pos h1, if_pos (by rw [← l.length]; exact h2)]
                · exact q2 F2 σ _ (Le.refl F2) (R2.put hs2 hc2 k1 ⟨_, upd_same, l.set _ D1'⟩)
              | _ => cases hx
            | dct kvs =>
              obtain ⟨ws, e3, l⟩ := ck
              obtain ⟨key, h3, h4⟩ := bind_some' hx
              obtain ⟨h5, rfl⟩ := if_some h4
              have hy : vk = kV key := by cases D2 <;> cases h3 <;> rfl
              refine .inr (.inl ⟨a, _, rfl, .inl ⟨ws, key, e3, hy, by rw [← l.length]; exact h5, rfl⟩, ?_⟩)
              exact q2 F2 σ _ (Le.refl F2) (R2.put hs2 hc2 k1 ⟨_, upd_same, l.put D1'⟩)
            | gd kvs =>
              obtain ⟨ob, ws, e3, l⟩ := ck
              obtain ⟨key, h3, h4⟩ := bind_some' hx
              obtain ⟨h5, rfl⟩ := if_some h4
              obtain ⟨h6, h7⟩ := keyOk_some h3
              refine .inr (.inr ⟨a, ob, ws, key, rfl, e3, l.keys R2.sub, key_den R2.sub D2 h6, h7, by rw [← l.len]; exact h5, fun ob' => ?_⟩)
              exact q2 F2 σ _ (Le.refl F2) (R2.put hs2 hc2 k1 ⟨_, _, upd_same, l.put h3 D2 D1'⟩)
            | obj _ _ => cases hx
            | _ => exact ck.elim
    · exact q1.elim⟩
end
end L2.PV

set_option Elab.async false
set_option linter.all false
set_option maxRecDepth 100000
set_option autoImplicit false
namespace L2.PV
open PySem PySem.Spec PyProof.Rows
section
variable {X : Cx} {T : Tb} {W : WX} {a b c : Expr} {ga gb : En → Res D} {pos : Pos} {k : Nat}
/-! ### comparisons as tests -/
theorem teq (c : Cc X W k) (ha : PE X a (tE X.K X.mg X.w T W ga)) (hb : PE X b (tE X.K X.mg X.w T W gb)) (hm : behindInMarks .Eq b = false := by first | exact nobehind _ (by decide) (by decide) | rfl) : PT X (.Compare a [.Eq] [b] pos) (tB X.K X.mg X.w T W (boolG (op2G eqD ga gb))) := tcmp (op_eqD c.room.units) eqD_ok ha hb hm
theorem tne (c : Cc X W k) (ha : PE X a (tE X.K X.mg X.w T W ga)) (hb : PE X b (tE X.K X.mg X.w T W gb)) (hm : behindInMarks .NotEq b = false := by first | exact nobehind _ (by decide) (by decide) | rfl) : PT X (.Compare a [.NotEq] [b] pos) (tB X.K X.mg X.w T W (boolG (op2G neD ga gb))) := tcmp (op_neD c.room.units) neD_ok ha hb hm
theorem tin (c : Cc X W k) (ha : PE X a (tE X.K X.mg X.w T W ga)) (hb : PE X b (tE X.K X.mg X.w T W gb)) (hm : behindInMarks .In b = false := by rfl) : PT X (.Compare a [.In] [b] pos) (tB X.K X.mg X.w T W (boolG (op2G inD ga gb))) := tcmp (op_inA (hu65 c.room)) inD_ok ha hb hm
theorem tnin (c : Cc X W k) (ha : PE X a (tE X.K X.mg X.w T W ga)) (hb : PE X b (tE X.K X.mg X.w T W gb)) (hm : behindInMarks .NotIn b = false := by rfl) : PT X (.Compare a [.NotIn] [b] pos) (tB X.K X.mg X.w T W (boolG (op2G notInD ga gb))) := tcmp (op_notInA (hu65 c.room)) notInD_ok ha hb hm
theorem tisN (ha : PE X a (tE X.K X.mg X.w T W ga)) (hb : PE X b (tE X.K X.mg X.w T W gb)) (hm : behindInMarks .Is b = false := by first | exact nobehind _ (by decide) (by decide) | rfl) : PT X (.Compare a [.Is] [b] pos) (tB X.K X.mg X.w T W (boolG (op2G isNonD ga gb))) := tcmp op_isN isNonD_ok ha hb hm
theorem tnotN (ha : PE X a (tE X.K X.mg X.w T W ga)) (hb : PE X b (tE X.K X.mg X.w T W gb)) (hm : behindInMarks .IsNot b = false := by first | exact nobehind _ (by decide) (by decide) | rfl) : PT X (.Compare a [.IsNot] [b] pos) (tB X.K X.mg X.w T W (boolG (op2G notNonD ga gb))) := tcmp op_notN notNonD_ok ha hb hm
theorem tlt (ha : PE X a (tE X.K X.mg X.w T W ga)) (hb : PE X b (tE X.K X.mg X.w T W gb)) (hm : behindInMarks .Lt b = false := by first | exact nobehind _ (by decide) (by decide) | rfl) : PT X (.Compare a [.Lt] [b] pos) (tB X.K X.mg X.w T W (boolG (op2G (cmpD fun i j => decide (i < j)) ga gb))) := tcmp op_lt cmpD_ok ha hb hm
theorem tle (ha : PE X a (tE X.K X.mg X.w T W ga)) (hb : PE X b (tE X.K X.mg X.w T W gb)) (hm : behindInMarks .LtE b = false := by first | exact nobehind _ (by decide) (by decide) | rfl) : PT X (.Compare a [.LtE] [b] pos) (tB X.K X.mg X.w T W (boolG (op2G (cmpD fun i j => decide (i ≤ j)) ga gb))) := tcmp op_le cmpD_ok ha hb hm
theorem tgt (ha : PE X a (tE X.K X.mg X.w T W ga)) (hb : PE X b (tE X.K X.mg X.w T W gb)) (hm : behindInMarks .Gt b = false := by first | exact nobehind _ (by decide) (by decide) | rfl) : PT X (.Compare a [.Gt] [b] pos) (tB X.K X.mg X.w T W (boolG (op2G (cmpD fun i j => decide (j < i)) ga gb))) := tcmp op_gt cmpD_ok ha hb hm
theorem tge (ha : PE X a (tE X.K X.mg X.w T W ga)) (hb : PE X b (tE X.K X.mg X.w T W gb)) (hm : behindInMarks .GtE b = false := by first | exact nobehind _ (by decide) (by decide) | rfl) : PT X (.Compare a [.GtE] [b] pos) (tB X.K X.mg X.w T W (boolG (op2G (cmpD fun i j => decide (j ≤ i)) ga gb))) := tcmp op_ge cmpD_ok ha hb hm
theorem tchain {gc : En → Res D} {op op' : CmpOp} {f f' : Int → Int → Bool} (ho : OpR X (compareOp op) (rI0 fun i j => .bl (f i j))) (ho' : OpR X (compareOp op') (rI0 fun i j => .bl (f' i j))) (ha : PE X a (tE X.K X.mg X.w T W ga)) (hb : PE X b (tE X.K X.mg X.w T W gb)) (hc : PE X c (tE X.K X.mg X.w T W gc)) (hm : lastMarks [op, op'] [b, c] = false := by with_unfolding_all rfl) :
    PT X (.Compare a [op, op'] [b, c] pos) (tB X.K X.mg X.w T W (boolG (chainG f f' ga gb gc))) := convT (pt_chain ho ho' ha hb hc hm) fun σ H Q ⟨B, F, e, R, h⟩ => by
  have h1 : Post X.K X.mg X.w W B σ (Den X.K X.mg X.w) F (chainG f f' ga gb gc e) fun v H' => ∃ k, v = .bl k ∧ Q k H' := by
    unfold boolG at h
    have hb : ∀ d e1, chainG f f' ga gb gc e = .ok d e1 → ∃ k, d = .bl k := by
      intro d e1 q
      rw [q] at h
      cases d with
      | bl k => exact ⟨k, rfl⟩
      | _ => exact h.elim
    cases q : chainG f f' ga gb gc e with
    | bad => rw [q] at h; exact h
    | exc x e1 => rw [q] at h; exact h
    | ok d e1 =>
      obtain ⟨k, rfl⟩ := hb d e1 q
      rw [q] at h
      intro F' b H' l R' D
      cases D
      exact ⟨k, rfl, h F' k H' l R' rfl⟩
  refine ⟨B, F, e, R, h1.step fun F1 e1 d x H1 l1 R1 D1 h1 => ⟨B, F1, e1, R1, h1.step fun F2 e2 d2 y H2 l2 R2 D2 h2 => ?_⟩⟩
  split at h2
  · rename_i i j
    cases D1; cases D2
    refine ⟨i, j, rfl, rfl, f i j, rfl, ?_⟩
    cases hf : f i j with
    | true =>
      rw [if_pos hf] at h2; rw [if_pos rfl]
      exact ⟨B, F2, e2, R2, h2.step fun F3 e3 d3 z H3 l3 R3 D3 h3 => by
        split at h3
        · cases D3; exact ⟨_, _, rfl, rfl, h3.ret R3 (.bl _)⟩
        · exact h3.elim⟩
    | false =>
      rw [if_neg (by rw [hf]; exact Bool.false_ne_true)] at h2; rw [if_neg Bool.false_ne_true]
      exact h2.ret R2 (.bl _)
  · exact h2.elim
end
def slV (d : D) (l h : Option Int) : Option D := match slD d l h with | some r => some r | none => slLD d l h
end L2.PV

set_option Elab.async false
set_option linter.all false
set_option maxRecDepth 100000
set_option autoImplicit false
namespace L2.PV
open PySem PySem.Spec PyProof.Rows
/-! ### raise C("..") of an own class -/
structure XcV (K : PySem.W.Frag) (mg : MG) (x : Str) : Prop where
  ex : ∃ (C : Addr) (bmB : List Value) (B newId initId : String), ExcBaseFacts B newId initId bmB ∧ mg x = some (.ref C) ∧ PySem.W.excIn K C bmB newId = true ∧ PySem.W.keepIn K (.ref C) = true ∧ PySem.W.subIn K (.ref C) (.type "BaseException") = some true ∧ PySem.W.typeIn K (.ref C) = some (.type "type")
def raiseS (x : Str) : En → Out := fun e => .exc ⟨.own x, none⟩ e
section
variable {X : Cx} {T : Tb} {W : WX} {k : Nat} {x m : Str} {j : Nat} {p p2 pos pos' : Pos}
theorem sraise (c : Cc X W k) (h : XcV X.K X.mg x) (hg : Gl X x) (hdb : (x == ("__debug__" : Str)) = false := by decide) : PS X (.Raise (some (.Call (.Name x p) [.Constant (.str m) j p2] [] pos)) none pos') (tS X.K X.mg X.w T W (raiseS x)) := by
  obtain ⟨C, bmB, B, newId, initId, F, gC, q, kC, sC, tC⟩ := h.ex
  exact convS (ps_raise c.calm c.tk (pmk_own F q gC kC (raises_own sC tC) hg hdb)) fun N σ H ⟨B, F, e, R, q⟩ => q F (.ref C) none σ H (Le.refl F) R ⟨gC, rfl⟩
end
/-! ### several except clauses, with names or without -/
abbrev SuX := Addr → Value → Option Addr → TS
/-- the ends of a clause whose name is slot i's -/
def goneE (i : Nat) (D : Ends) : Ends := { nx := fun σ H => D.nx (σ.set i none) H, rt := D.rt, bk := fun σ H => D.bk (σ.set i none) H, ct := fun σ H => D.ct (σ.set i none) H }
def wHd (oi : Option Nat) (ts : SuX) (D : Ends) (a : Addr) : WX := fun cls d σ H => match oi with
  | none => ts a cls d D σ H
  | some i => ts a cls d (goneE i D) (σ.set i (some (.ref a))) H
def wHds (K : PySem.W.Frag) (Wout : WX) (D : Ends) : List (Value × Option Nat × SuX) → WX
  | [] => Wout
  | (c, oi, ts) :: r => fun cls d σ H => ∃ b, PySem.W.exmOne K cls c = some b ∧ (b = true → ∀ a, H a = none → wHd oi ts D a cls d σ H) ∧ (b = false → wHds K Wout D r cls d σ H)
def suOk (X : Cx) (b : List Stmt) (ts : SuX) : Prop := ∀ (a : Addr) (oe : Obj) (cls : Value) (d : Option Addr) (pn : List (Addr × Obj)), Zc cls d oe → (∃ vs, oe.data = .fields vs) → PSs (X.suite a ((a, oe) :: pn)) b (ts a cls d)
inductive HdL (X : Cx) : List ExceptHandler → List (Value × Option Nat × SuX) → Prop
  | nil : HdL X [] []
  | plain {x : Str} {c : Value} {ts : SuX} {b₀ : Stmt} {su : List Stmt} {np p : Pos} {hds : List ExceptHandler} {l : List (Value × Option Nat × SuX)} (hc : Names X x c) (hs : suOk X (b₀ :: su) ts) (r : HdL X hds l) :
      HdL X (.ExceptHandler (some (.Name x np)) none (b₀ :: su) p :: hds) ((c, none, ts) :: l)
  | named {x n : Str} {c : Value} {ts : SuX} {b₀ : Stmt} {su : List Stmt} {np p : Pos} {hds : List ExceptHandler} {l : List (Value × Option Nat × SuX)} (i : Nat) (hN : X.N.Nodup) (hi : X.N[i]? = some n) (hk : X.env.kindOf n = some .local) (hc : Names X x c) (hs : suOk X (b₀ :: su) ts) (r : HdL X hds l) :
      HdL X (.ExceptHandler (some (.Name x np)) (some n) (b₀ :: su) p :: hds) ((c, some i, ts) :: l)
section
variable {X : Cx} {pins : List (Addr × Obj)} {D : Ends} {Wout : WX}
theorem sp_map {Y : Cx} {pY : List (Addr × Obj)} {D' : Ends} {fl : Flow} {s : Shared} (f : ∀ σ H, Inv Y pY σ H s → Inv X pins σ H s) (nx : ∀ σ H, D'.nx σ H → D.nx σ H) (rt : ∀ v H, D'.rt v H → D.rt v H) (bk : ∀ σ H, D'.bk σ H → D.bk σ H) (ct : ∀ σ H, D'.ct σ H → D.ct σ H)
    (h : SP Y pY D' fl s) : SP X pins D fl s := by
  cases fl with
  | next => obtain ⟨σ, H, I, q⟩ := h; exact ⟨σ, H, f σ H I, nx σ H q⟩
  | brk => obtain ⟨σ, H, I, q⟩ := h; exact ⟨σ, H, f σ H I, bk σ H q⟩
  | cont => obtain ⟨σ, H, I, q⟩ := h; exact ⟨σ, H, f σ H I, ct σ H q⟩
  | ret u => obtain ⟨v, σ, H, I, r, q⟩ := h; exact ⟨v, σ, H, f σ H I, r, rt v H q⟩
end
section
variable {X : Cx} {body : List Stmt} {h₀ : ExceptHandler} {hds : List ExceptHandler} {l : List (Value × Option Nat × SuX)} {pos : Pos} {tb : WX → TS} {Wout : WX}
theorem ps_tryL (hs : X.stack = X.env :: X.outer) (hf : X.env.frame = some X.env.locals) (tk : Takes X Wout)
    (hb : ∀ (W : WX) (pn : List (Addr × Obj)) (xe : Value → Shared → Prop), Takes (X.tr pn xe) W → PassesOwn (model X.prog X.w) X.A X.env xe → PSs (X.tr pn xe) body (tb W))
    (hh : HdL X (h₀ :: hds) l) : PS X (.Try body (h₀ :: hds) [] [] pos) (fun D σ H => tb (wHds X.K Wout D l) D σ H) := by
  refine ⟨fun pins s σ H D I start => ?_⟩
  have ok := I.ok
  have frm : X.A.frames = some (X.env :: X.outer) := ok.frames.trans (congrArg some hs)
  let M := model X.prog X.w
  let caught : Value → Shared → Prop := fun e s₁ => wpAny M X.A (noteFrame e X.env) (fun _ s₂ => wpAny M X.A (setFlight e none) (fun _ s₃ => wpAny M X.A (handleBy e X.env (h₀ :: hds)) (SP X pins D) X.xe s₃) X.xe s₂) X.xe s₁
  have takes : Takes (X.tr (X.pn ++ pins) caught) (wHds X.K Wout D l) := by
    intro u s' xx
    obtain ⟨a, B, sI, pins', σ', H', cls, d, rfl, J', nb, up, sky, na, os, ag, w⟩ := xx
    have J := J'.ofTry ok
    have sky : Sky B (X.env :: X.outer) a (Zc cls d) X.env.locals s'.heap := by rw [← hs]; exact sky
    show wpAny M X.A (noteFrame (.ref a) X.env) _ _ _
    refine Sky.land Zc.steady frm hf sky fun h3 fl3 up3 => ?_
    have J3 : Inv X pins σ' H' { s' with heap := h3 } := J.landed nb fl3.1 (up.trans up3) os ag
    obtain ⟨oe, vs, he, hz, hd⟩ := fl3.there
    have off : a ∉ frs (X.env :: X.outer) := fun hm => by
      obtain ⟨_, o', e', z⟩ := fl3.2.2.1.mem hm
      rw [he] at e'; cases e'
      exact z _ hd
    have nL : a ≠ X.env.locals := fun z => off (List.mem_filterMap.mpr ⟨X.env, List.mem_cons_self, hf.trans (congrArg some z.symm)⟩)
    have nF : a ∉ X.fs := fun hm => by
      obtain ⟨v, hv, q⟩ := List.mem_filterMap.mp hm
      exact off (List.mem_filterMap.mpr ⟨v, List.mem_cons_of_mem _ hv, q⟩)
    have S3 := J3.suite he hd na nL nF
    have typ : PySem.W.Looks M h3 (typeOf (.ref a)) cls := fun A Q E s k q => wpAny_typeOf_ref (k _ _ he) (by rw [hz.1]; exact q)
    -- a clause's test
    have ask : ∀ {x : Str} {c : Value} {np : Pos} {Q : Value → Shared → Prop} {E : Value → Shared → Prop}, Names X x c → Q c { s' with heap := h3 } → wpAny M (X.A.mark (some (.ref a))) (eval (.Name x np) X.env) Q E { s' with heap := h3 } := fun hc q => by
      rcases hc with ⟨hg, hdbg, hm | ⟨hm, hv, hnn⟩⟩
      · exact ld_glob (X := X.suite a ((a, oe) :: (X.pn ++ pins))) S3 hg hm q hdbg
      · exact ld_blt (X := X.suite a ((a, oe) :: (X.pn ++ pins))) S3 hg hm hv q hnn hdbg
    -- the object once more, ahead of a suite
    have again : ∀ {h4 : Heap}, HandSPX.FlyingZ B (X.env :: X.outer) a (Zc cls d) h4 → h3.UpToSlots h4 → ∃ oe4, Zc cls d oe4 ∧ (∃ vs, oe4.data = .fields vs) ∧ Inv (X.suite a ((a, oe4) :: (X.pn ++ pins))) [] σ' H' { s' with heap := h4 } := fun {h4} fl4 up4 => by
      obtain ⟨oe4, vs4, he4, hz4, hd4⟩ := fl4.there
      have J4 : Inv X pins σ' H' { s' with heap := h4 } := J.landed nb fl4.1 ((up.trans up3).trans up4) os ag
      exact ⟨oe4, hz4, ⟨vs4, hd4⟩, J4.suite he4 hd4 na nL nF⟩
    have go : ∀ {hds' : List ExceptHandler} {l' : List (Value × Option Nat × SuX)}, HdL X hds' l' → wHds X.K Wout D l' cls d σ' H' → wpAny M X.A (handleBy (.ref a) X.env hds') (SP X pins D) X.xe { s' with heap := h3 } := by
      intro hds' l' hk
      induction hk with
      | nil =>
        intro w
        refine wpAny_handleBy_nil ?_
        obtain ⟨k1, k2, k3, oe', vs', T, oT, ts', he', hz', hd', h1', hr'⟩ := id fl3
        have out : wpAny M X.A (setFlight (.ref a) X.env.frame) (fun _ s4 => wpAny M X.A (throw (.ref a) : Sem Flow) (SP X pins D) X.xe s4) X.xe { s' with heap := h3 } := by
          rw [hf]
          exact HandSPX.setFlight_upZ fl3 fun h4 hh4 up4 => wpAny_throw (tk _ _ ⟨a, B, sI, pins, σ', H', cls, d, rfl, J, nb, (up.trans up3).trans up4, .inr (.inr (by rw [hs]; exact hh4)), na, os, ag, w⟩)
        unfold PySem.passOn
        refine wpAny_bind (wpAny_field he' hd' h1' ?_)
        rw [if_neg (show ¬ ((Value.ref T == Value.none) = true) from by simp)]
        first
          | exact wpAny_bind out
          | exact wpAny_bind (wpAny_pure (wpAny_bind out))
      | plain hc hsu r ih =>
        intro ⟨b, hb1, hyes, hno⟩
        refine wpAny_handleBy_cons (codeAny_handlers_test (ask hc ((PySem.W.exm_one (M := M) J3.kIn typ hb1).here ?_))) (by intro q; cases q)
        cases b with
        | false => exact ih (hno rfl)
        | true =>
          refine codeAny_handlers_suite (HandSPX.lands_againZ fl3 fun h4 fl4 up4 => ?_)
          obtain ⟨oe4, hz4, hd4, S4⟩ := again fl4 up4
          exact wpAny_mono ((hsu a oe4 cls d (X.pn ++ pins) hz4 hd4).run [] _ _ H' _ S4 (hyes rfl a na)) (fun f s6 hsp => sp_map (fun σ H I => I.unsuite ok) (fun _ _ q => q) (fun _ _ q => q) (fun _ _ q => q) (fun _ _ q => q) hsp) fun _ _ z => z.elim
      | named i hN hi hk hc hsu r ih =>
        intro ⟨b, hb1, hyes, hno⟩
        refine wpAny_handleBy_cons (codeAny_handlers_test (ask hc ((PySem.W.exm_one (M := M) J3.kIn typ hb1).here ?_))) (by intro q; cases q)
        cases b with
        | false => exact ih (hno rfl)
        | true =>
          refine codeAny_handlers_suite_as (HandSPX.lands_againZ fl3 fun h4 fl4 up4 => ?_)
          obtain ⟨oe4, hz4, hd4, S4⟩ := again fl4 up4
          refine store_ok (X := X.suite a ((a, oe4) :: (X.pn ++ pins))) (v := .ref a) S4 hN hi (.inl hk) rfl (fun s5 S5 => ?_) (.inr hk)
          refine wpAny_mono ((hsu a oe4 cls d (X.pn ++ pins) hz4 hd4).run [] s5 _ H' _ S5 (hyes rfl a na)) (fun f s6 hsp => ?_) fun _ _ z => z.elim
          cases f with
          | next => obtain ⟨σ6, H6, S6, q6⟩ := hsp; exact gone_ok (S6.unsuite ok) hN hi hk fun s7 J7 => ⟨_, _, J7, q6⟩
          | brk => obtain ⟨σ6, H6, S6, q6⟩ := hsp; exact gone_ok (S6.unsuite ok) hN hi hk fun s7 J7 => ⟨_, _, J7, q6⟩
          | cont => obtain ⟨σ6, H6, S6, q6⟩ := hsp; exact gone_ok (S6.unsuite ok) hN hi hk fun s7 J7 => ⟨_, _, J7, q6⟩
          | ret u => obtain ⟨v6, σ6, H6, S6, r6, q6⟩ := hsp; exact gone_ok (S6.unsuite ok) hN hi hk fun s7 J7 => ⟨_, _, _, J7, r6, q6⟩
    exact go hh w
  refine wpAny_Try_except ?_
  refine wpAny_mono ((hb _ _ caught takes PassesOwn.looking).run [] s σ H D (I.toTry _) start) (fun f s1 hsp => ?_) fun e s1 he => he
  have back := sp_map (D := D) (fun σ H (J : Inv (X.tr (X.pn ++ pins) caught) [] σ H s1) => J.ofTry ok) (fun _ _ q => q) (fun _ _ q => q) (fun _ _ q => q) (fun _ _ q => q) hsp
  cases f with
  | next => exact wpAny_execs_nil back
  | _ => exact back
end
end L2.PV

set_option Elab.async false
set_option linter.all false
set_option maxRecDepth 100000
set_option autoImplicit false
namespace L2.PV
open PySem PySem.Spec PyProof.Rows
section
variable {K : PySem.W.Frag} {mg : MG} {w : World} {T : Tb} {B : Bs T} {F F' H H1 H' : Hp} {e e' : En} {σ σ' : St}
/-- the tables are written, all else is kept -/
theorem Rel.extN (R : Rel K mg w B F e σ H) (x : LamX.ExtN H H1) (t : LamX.Tabs T H1) : Rel K mg w B F e σ H1 := by
  have hk : ∀ b u, H b = some u → isTbl u = false → H1 b = some u := fun b u z n => x b u z fun ps q => by subst q; cases n
  refine ⟨fun a u q => ?_, fun a u q t n => hk _ _ (R.old a u q t n) t, R.oldT, t, R.low, R.fr, R.len, fun i s hs => ?_, R.ios, R.apart, R.noT⟩
  · rcases R.sub a u q with z | ⟨w, z⟩
    · exact .inl (hk _ _ z (R.noT a u q))
    · exact .inr ⟨w, hk _ _ z rfl⟩
  · have z := R.at' i s hs
    cases s with
    | un => trivial
    | val d => exact z
    | own d =>
      obtain ⟨a, e1, e2, e3, c⟩ := z
      obtain ⟨o, e4, e5, _⟩ := c.tracked'
      exact ⟨a, e1, e2, e3, c.heap ((hk _ _ e4 e5).trans e4.symm)⟩
    | io d =>
      obtain ⟨a, e1, e2, e3, c⟩ := z
      obtain ⟨o, e4, e5, _⟩ := c.tracked'
      exact ⟨a, e1, e2, e3, c.heap ((hk _ _ e4 e5).trans e4.symm)⟩
/-- the base of a frame that is handed nothing to change -/
abbrev Bs.sub (T : Tb) (H F : Hp) : Bs T := ⟨kn T H, F, fun _ => none⟩
def une (n : Nat) : En := List.replicate n .un
theorem une_at {n i : Nat} {s : Sl} (h : (une n)[i]? = some s) : s = .un := by
  unfold une at h
  rw [List.getElem?_replicate] at h
  split at h <;> cases h
  rfl
theorem Rel.fresh (R : Rel K mg w B F e σ H) {n : Nat} (hl : σ'.length = n) : Rel K mg w (Bs.sub T H F) F (une n) σ' H := by
  refine ⟨R.sub, fun a o h _ _ => (kn_sub h).1, fun a o h t => (kn_sub h).2 t, R.tabs, Le.refl F, fun _ _ h => .inl h, by unfold une; rw [List.length_replicate, hl], fun i s h => ?_, fun i a h => (by cases h), fun i j a s t h1 _ h3 _ _ _ => ?_, R.noT⟩
  · rw [une_at h]; trivial
  · rw [une_at h1] at h3; cases h3
theorem Rel.after (R : Rel K mg w B F e σ H) (C : Rel K mg w (Bs.sub T H F) F' e' σ' H') (le : Le F F') : Rel K mg w B F' e σ H' := by
  have hio : (fun _ => none : Nat → Option Addr) = ioOf σ [] := by
    funext j
    cases q : ioOf σ [] j with
    | none => rfl
    | some a => obtain ⟨i, h1, _⟩ := ioOf_some q; simp at h1
  have C' : Rel K mg w (⟨kn T H, F, ioOf σ []⟩ : Bs T) F' [] (([] : List V).map some) H' := by
    rw [← hio]
    refine ⟨C.sub, C.old, C.oldT, C.tabs, C.low, C.fr, rfl, fun i s h => ?_, fun i a h => (by cases h), fun i j a s t h1 _ _ _ _ _ => ?_, C.noT⟩
    · simp at h
    · simp at h1
  have z := R.back (as := []) (args := []) (vs := []) trivial List.nodup_nil rfl le C'
  simpa [wb] using z
end

/-! ### what a handler knows of the exception -/
def clsOk (mg : MG) (x : Ex) (cls : Value) : Prop := match x.cls with
  | .own n => mg n = some cls
  | .blt n => cls = .type n
/-- the exception as the clause's name holds it -/
def xnD (a : Addr) (d : Option Addr) (x : Ex) : D := .xn a (match x.fs with | none => none | some _ => d) "" (x.fs.getD [])
theorem xnD_ok {K : PySem.W.Frag} {mg : MG} {w : World} {F : Hp} {x : Ex} {cls : Value} {d : Option Addr} {a : Addr} (h : DenX K mg w F x cls d) : Den K mg w F (xnD a d x) (.ref a) := by
  obtain ⟨_, h2⟩ := h
  unfold xnD
  cases q : x.fs with
  | none => exact .xn0 a ""
  | some fs =>
    rw [q] at h2
    obtain ⟨p, gs, h3, h4, h5⟩ := h2
    subst h3
    exact .xn1 h4 h5
def isC (x : Ex) (C : Str) : Bool := match x.cls with | .own c => decide (c = C) | .blt _ => false
/-- e.f of the exception in slot i, which must be of the class C -/
def exfG (a : Addr) (d : Option Addr) (x : Ex) (C : Str) (i : Nat) (f : Str) : En → Res D := fun e => match e[i]? with
  | some (.val (.xn a' d' _ fs)) => if a' = a ∧ d' = d ∧ isC x C = true then lift (fs.lookup f) e else .bad
  | _ => .bad
structure XfT (K : PySem.W.Frag) (mg : MG) (C f : Str) : Prop where
  ex : ∃ A : Addr, mg C = some (.ref A) ∧ XfC K A ∧ PySem.W.findIn K (.ref A) f = some none
theorem DenF.look {K : PySem.W.Frag} {mg : MG} {w : World} {F : Hp} {f : Str} {d : D} : ∀ {fs : List (Str × D)} {gs : List (Str × V)}, DenF K mg w F fs gs → fs.lookup f = some d → ∃ v, gs.lookup f = some v ∧ Den K mg w F d v
  | _, _, .nil, h => by cases h
  | _, _, .cons (k := k) h t, e => by
    by_cases q : (f == k) = true
    · simp only [List.lookup, q] at e ⊢
      cases e
      exact ⟨_, rfl, h⟩
    · have q : (f == k) = false := by simpa using q
      simp only [List.lookup, q] at e ⊢
      exact t.look e
section
variable {X : Cx} {T : Tb} {W : WX} {a : Addr} {oe : Obj} {cls : Value} {d : Option Addr} {pn : List (Addr × Obj)} {n f C : Str} {p pos : Pos} {x : Ex}
theorem eexf (i : Nat) (XT : XfT X.K X.mg C f) (hx : clsOk X.mg x cls) (hz : Zc cls d oe) (hf : ∃ vs, oe.data = .fields vs) (hN : X.N[i]? = some n := by rfl) (hv : Vis X.env.scope n := by first | exact Or.inl rfl | exact Or.inr (Or.inl rfl) | exact Or.inr (Or.inr rfl)) (hd : (n == ("__debug__" : Str)) = false := by decide)
    (hcd : (n == ("__classdict__" : Str)) = false := by decide) (hb : attributeBase (.Name n p) f X.env (eval (.Name n p) X.env) = eval (.Name n p) X.env := by rfl) :
    PE (X.suite a ((a, oe) :: pn)) (.Attribute (.Name n p) f pos) (tE X.K X.mg X.w T W (exfG a d x C i f)) := ⟨fun pins s σ H Q I ⟨B, F, e, R, h⟩ => by
  unfold exfG at h
  split at h
  · rename_i a' d' c' fs hs
    split at h
    · rename_i cond
      obtain ⟨rfl, rfl, hc⟩ := cond
      obtain ⟨r, hr, h⟩ := h.lift
      obtain ⟨v, hv', hD⟩ := R.at' i _ hs
      obtain ⟨A, m1, T1, no⟩ := XT.ex
      have ec : cls = .ref A := by
        unfold clsOk at hx
        unfold isC at hc
        cases q : x.cls with
        | blt z => rw [q] at hc; cases hc
        | own z =>
          rw [q] at hc hx
          have : z = C := of_decide_eq_true hc
          subst this
          have hx : X.mg z = some cls := hx
          rw [m1] at hx
          exact (Option.some.inj hx).symm
      subst ec
      refine attr_of hb (thn ((pv (X := X.suite a' ((a', oe) :: pn)) i hN hv hd hcd).run pins s σ H (fun y H1 => y = v ∧ H1 = H) I ⟨v, hv', rfl, rfl⟩) fun u s1 hh => ?_)
      obtain ⟨y, H1, I1, rx, e1, e2⟩ := hh
      subst e1
      rw [e2] at I1
      cases hD with
      | xn0 => cases hr
      | @xn1 _ dd _ _ gs h4 h5 =>
        obtain rfl : u = Value.ref a' := rx
        obtain ⟨v', l', hD'⟩ := h5.look hr
        obtain ⟨ha, _⟩ := I1.pin (a', oe) (List.mem_append_left _ List.mem_cons_self)
        obtain ⟨vs, hdat⟩ := hf
        have hxd : ObjOk X.prog X.w H s1.heap dd (.xd gs) := (R.sub _ _ h4).ok I1.hok
        obtain ⟨mA, hns, hr'⟩ := hxd
        obtain ⟨od, ho, hl⟩ := lookIn_ns hns
        obtain ⟨u, hu, ru⟩ := RelO.some_of (v := v') (o := mA f) (by rw [← l']; exact hr' f)
        have J : PySem.W.InstAt s1.heap a' oe A (some od) := ⟨ha, hz.1, by unfold PySem.W.notCls; rw [hdat] <;> rfl, by rw [hz.2]; exact ho⟩
        exact HandSPX.exc_get I1.kIn J T1.ga T1.gg T1.exC (PySem.W.findObj_own T1.hdC no rfl (by rw [hl, hu])) (handed_of ru) ⟨v', H, I1.tok _, ru, h.ret R hD'⟩
    · exact h.elim
  · exact h.elim⟩
end
/-! ### the class tests -/
def SubOk (K : PySem.W.Frag) (mg : MG) (sub : Str → Str → Option Bool) : Prop := ∀ x c b A C, sub x c = some b → mg x = some (.ref A) → mg c = some (.ref C) → PySem.W.exmOne K (.ref A) (.ref C) = some b
structure HdF where
  cls : Str
  slot : Option Nat
  run : Addr → Option Addr → Ex → En → Out
def HdF.env (h : HdF) (n : Nat) (a : Addr) (d : Option Addr) (x : Ex) : En := match h.slot with
  | none => une n
  | some i => (une n).set i (.val (xnD a d x))
def hdOut (sub : Str → Str → Option Bool) (n : Nat) (a : Addr) (d : Option Addr) (x : Ex) : List HdF → Out
  | [] => .bad
  | h :: r => match x.cls with
    | .own c => match sub c h.cls with
      | some true => h.run a d x (h.env n a d x)
      | some false => hdOut sub n a d x r
      | none => .bad
    | .blt _ => .bad
def outD : Out → Option D
  | .ret d _ => some d
  | .nx _ => some .non
  | _ => none
/-- behind the clauses -/
def thenO (o : Out) (rest : En → Out) : Out := match o with
  | .nx e => rest e
  | o => o
end L2.PV

set_option Elab.async false
set_option linter.all false
set_option maxRecDepth 100000
set_option autoImplicit false
namespace L2.PV
open PySem PySem.Spec PyProof.Rows
section
variable {P : Program} {w : World} {K : PySem.W.Frag} {mg : MG} {base : Heap} {T : Tb} {x : Str} {st : Stmt} {N ps : List Str} {n k : Nat} {body : En → Out} {c0 : Addr}
/-- clV for a def whose code object is known (it makes lambdas) -/
theorem clVc (F : Fc K mg x st c0) (S : FnScope N ps (defScope st)) (hn : ps.length = n)
    (hbind : ∀ (kV doc pm : Value) (an : Option Addr) (cdv ct : Value) (us : List Value), us.length = ps.length → bindArgs (PySem.W.fnOf x x (defArgs st) (defBody st) (defScope st) .none kV doc pm an cdv ct) ⟨us, []⟩ = pure (ps.zip us))
    (hb : ∀ (f : Addr) (A : Around) (outer : List Env) (s : Shared) (H : Hp) (E : XK), Cc (dX P w K mg base N x st f (.ref c0) A outer s H E) (dW E) k →
      PSs (dX P w K mg base N x st f (.ref c0) A outer s H E) (defBody st) (tS K mg w T (dW E) body)) : Cl P w K mg base T (k + 1) x n (defV N.length body) := by
  obtain ⟨fa, oc, od, an, kV, doc, pm, ct, osl, hm, lk, hcd, kp⟩ := F.ex
  refine ⟨fa, _, ps, fnG_of lk hcd S (fun vs H Q E h => h.1.trans hn.symm) fun A outer s H vs Q E g hr h => ?_, hm, kp, .all (hbind kV doc pm an (.ref c0) ct)⟩
  exact okV_core (ps := ps) (hb fa A outer s H E ⟨rfl, takes_of rfl rfl rfl rfl, passes_of rfl, hr, S.nd, g⟩) h
theorem Fc.fd (F : Fc K mg x st c0) : Fd K mg x st := by
  obtain ⟨fa, oc, od, an, kV, doc, pm, ct, osl, hm, lk, hcd, kp⟩ := F.ex
  exact ⟨fa, _, fun_mk lk hcd kp, hm⟩
end
/-! ### the clauses, by pure values -/
/-- a clause's result: its suite must not fall through where it bears a name -/
def hdRun (h : HdF) (n : Nat) (a : Addr) (d : Option Addr) (x : Ex) : Out := match h.slot with
  | none => h.run a d x (une n)
  | some i => match h.run a d x ((une n).set i (.val (xnD a d x))) with
    | .nx _ => .bad
    | o => o
def hdsOut (sub : Str → Str → Option Bool) (n : Nat) (a : Addr) (d : Option Addr) (x : Ex) : List HdF → Out
  | [] => .bad
  | h :: r => match x.cls with
    | .own c => match sub c h.cls with
      | some true => hdRun h n a d x
      | some false => hdsOut sub n a d x r
      | none => .bad
    | .blt _ => .bad
/-- the suite of a clause -/
def suP (X : Cx) (T : Tb) (b : List Stmt) (run : Addr → Option Addr → Ex → En → Out) : Prop := ∀ (a : Addr) (oe : Obj) (cls : Value) (d : Option Addr) (pn : List (Addr × Obj)) (x : Ex), clsOk X.mg x cls → Zc cls d oe → (∃ vs, oe.data = .fields vs) →
  PSs (X.suite a ((a, oe) :: pn)) b (tS X.K X.mg X.w T W0 (run a d x))
inductive HdP (X : Cx) (T : Tb) : List ExceptHandler → List HdF → Prop
  | nil : HdP X T [] []
  | plain {x : Str} {run : Addr → Option Addr → Ex → En → Out} {b₀ : Stmt} {su : List Stmt} {np p : Pos} {hds : List ExceptHandler} {l : List HdF} (hg : Gl X x) (hd : (x == ("__debug__" : Str)) = false) (hm : ∃ C, X.mg x = some C) (hs : suP X T (b₀ :: su) run) (r : HdP X T hds l) :
      HdP X T (.ExceptHandler (some (.Name x np)) none (b₀ :: su) p :: hds) (⟨x, none, run⟩ :: l)
  | named {x n : Str} {run : Addr → Option Addr → Ex → En → Out} {b₀ : Stmt} {su : List Stmt} {np p : Pos} {hds : List ExceptHandler} {l : List HdF} (i : Nat) (hN : X.N.Nodup) (hi : X.N[i]? = some n) (hk : X.env.kindOf n = some .local) (hg : Gl X x) (hd : (x == ("__debug__" : Str)) = false) (hm : ∃ C, X.mg x = some C)
      (hs : suP X T (b₀ :: su) run) (r : HdP X T hds l) : HdP X T (.ExceptHandler (some (.Name x np)) (some n) (b₀ :: su) p :: hds) (⟨x, some i, run⟩ :: l)
def tHd (X : Cx) (T : Tb) (run : Addr → Option Addr → Ex → En → Out) : SuX := fun a cls d D σ H => ∃ x, clsOk X.mg x cls ∧ tS X.K X.mg X.w T W0 (run a d x) D σ H
theorem suP.ok {X : Cx} {T : Tb} {b : List Stmt} {run : Addr → Option Addr → Ex → En → Out} (h : suP X T b run) : suOk X b (tHd X T run) := fun a oe cls d pn hz hf => ⟨fun pins s σ H D I ⟨x, hx, q⟩ => (h a oe cls d pn x hx hz hf).run pins s σ H D I q⟩
def SubT (K : PySem.W.Frag) (mg : MG) (sub : Str → Str → Option Bool) : Prop := ∀ x c b u v, sub x c = some b → mg x = some u → mg c = some v → PySem.W.exmOne K u v = some b
section
variable {X : Cx} {T : Tb} {hds : List ExceptHandler} {hs : List HdF} {sub : Str → Str → Option Bool} {rst : En → Out} {d' : D} {Q : VK}
/-- the ends of the whole: rst stands behind the clauses -/
def endR (X : Cx) (T : Tb) (rst : En → Out) (Q : VK) : Ends := { nx := fun σ H => tS X.K X.mg X.w T W0 rst { nx := fun _ H' => Q .non H', rt := Q } σ H, rt := Q }
theorem out_end {B : Bs T} {F : Hp} {o : Out} (ho : outD o = some d') (fin : ∀ F' v σ' e' H', Le F F' → Rel X.K X.mg X.w B F' e' σ' H' → Den X.K X.mg X.w F' d' v → Q v H') : PostS X.K X.mg X.w W0 B F o { nx := fun _ H' => Q .non H', rt := Q } := by
  cases o with
  | nx e => cases ho; exact fun F' σ' H' l R => fin F' .non σ' e H' l R .non
  | ret d e => cases ho; exact fun F' v σ' H' l R hd => fin F' v σ' e H' l R hd
  | _ => cases ho
theorem out_endR {B : Bs T} {F : Hp} {o : Out} (ho : outD (thenO o rst) = some d') (fin : ∀ F' v σ' e' H', Le F F' → Rel X.K X.mg X.w B F' e' σ' H' → Den X.K X.mg X.w F' d' v → Q v H') : PostS X.K X.mg X.w W0 B F o (endR X T rst Q) := by
  cases o with
  | nx e => exact fun F' σ' H' l R => ⟨B, F', e, R, out_end ho fun F2 v σ2 e2 H2 l2 R2 => fin F2 v σ2 e2 H2 (l.trans l2) R2⟩
  | ret d e => cases ho; exact fun F' v σ' H' l R hd => fin F' v σ' e H' l R hd
  | _ => cases ho
theorem hds_wish (h : HdP X T hds hs) (hsub : SubT X.K X.mg sub) : ∃ l, HdL X hds l ∧ ∀ (rst : En → Out) (d' : D) (Q : VK) (n : Nat) (B : Bs T) (F H : Hp) (x : Ex) (cls : Value) (dd : Option Addr) (σ : St), n = σ.length → Rel X.K X.mg X.w B F (une n) σ H → DenX X.K X.mg X.w F x cls dd →
    (∀ a, outD (thenO (hdsOut sub n a dd x hs) rst) = some d') → (∀ F' v σ' e' H', Le F F' → Rel X.K X.mg X.w B F' e' σ' H' → Den X.K X.mg X.w F' d' v → Q v H') → wHds X.K (fun _ _ _ _ => False) (endR X T rst Q) l cls dd σ H := by
  induction h with
  | nil => exact ⟨[], .nil, fun rst d' Q n B F H x cls dd σ hn R hx ho fin => by have := ho 0; cases this⟩
  | @plain c run b₀ su np p hds l hg hd hm hs r ih =>
    obtain ⟨l', h1, h2⟩ := ih
    obtain ⟨C, hC⟩ := hm
    refine ⟨(C, none, tHd X T run) :: l', .plain ⟨hg, hd, .inl hC⟩ hs.ok h1, fun rst d' Q n B F H x cls dd σ hn R hx ho fin => ?_⟩
    have hk : clsOk X.mg x cls := hx.1
    cases q : x.cls with
    | blt z => have := ho 0; unfold hdsOut at this; rw [q] at this; cases this
    | own z =>
      have hz : X.mg z = some cls := by unfold clsOk at hk; rw [q] at hk; exact hk
      cases qb : sub z c with
      | none => have := ho 0; unfold hdsOut at this; simp only [q, qb] at this; cases this
      | some b =>
        refine ⟨b, hsub z c b cls C qb hz hC, fun hb a ha => ?_, fun hb => ?_⟩
        · subst hb
          have ho := ho a
          unfold hdsOut at ho
          simp only [q, qb] at ho
          exact ⟨x, hk, B, F, une n, R, out_endR ho fin⟩
        · subst hb
          refine h2 rst d' Q n B F H x cls dd σ hn R hx (fun a => ?_) fin
          have ho := ho a
          unfold hdsOut at ho
          simp only [q, qb] at ho
          exact ho
  | @named c nm run b₀ su np p hds l i hN hi hkd hg hd hm hs r ih =>
    obtain ⟨l', h1, h2⟩ := ih
    obtain ⟨C, hC⟩ := hm
    refine ⟨(C, some i, tHd X T run) :: l', .named i hN hi hkd ⟨hg, hd, .inl hC⟩ hs.ok h1, fun rst d' Q n B F H x cls dd σ hn R hx ho fin => ?_⟩
    have hk : clsOk X.mg x cls := hx.1
    cases q : x.cls with
    | blt z => have := ho 0; unfold hdsOut at this; rw [q] at this; cases this
    | own z =>
      have hz : X.mg z = some cls := by unfold clsOk at hk; rw [q] at hk; exact hk
      cases qb : sub z c with
      | none => have := ho 0; unfold hdsOut at this; simp only [q, qb] at this; cases this
      | some b =>
        refine ⟨b, hsub z c b cls C qb hz hC, fun hb a ha => ?_, fun hb => ?_⟩
        · subst hb
          have ho := ho a
          unfold hdsOut at ho
          simp only [q, qb, hdRun] at ho
          have R' : Rel X.K X.mg X.w B F ((une n).set i (.val (xnD a dd x))) (σ.set i (some (.ref a))) H := by
            by_cases hin : i < n
            · exact R.setVal (s0 := .un) (by unfold une; rw [List.getElem?_replicate, if_pos hin]) rfl (xnD_ok hx)
            · have e1 : (une n).set i (.val (xnD a dd x)) = une n := List.set_eq_of_length_le (by unfold une; rw [List.length_replicate]; omega)
              have e2 : σ.set i (some (.ref a)) = σ := List.set_eq_of_length_le (by omega)
              rw [e1, e2]; exact R
          refine ⟨x, hk, B, F, _, R', ?_⟩
          cases qo : run a dd x ((une n).set i (.val (xnD a dd x))) with
          | ret d e => rw [qo] at ho; cases ho; exact fun F' v σ' H' l R hd => fin F' v σ' e H' l R hd
          | _ => rw [qo] at ho; cases ho
        · subst hb
          refine h2 rst d' Q n B F H x cls dd σ hn R hx (fun a => ?_) fin
          have ho := ho a
          unfold hdsOut at ho
          simp only [q, qb] at ho
          exact ho
end
/-! ### told: what it makes of what the lambda gives -/
def toldG (tf : D ⊕ Ex → Option D) (g : En → Res D) : En → Res D := fun e => match g e with
  | .ok d e1 => lift (tf (.inl d)) e1
  | .exc x e1 => lift (tf (.inr x)) e1
  | .bad => .bad
def TTd (K : PySem.W.Frag) (mg : MG) (w : World) (T : Tb) (tf : D ⊕ Ex → Option D) : (XK → Hp → VK → Prop) → Hp → VK → Prop := fun tl H Q =>
  ∃ (Ech : XK) (QQ : VK), tl Ech H QQ ∧
    (∀ v H', QQ v H' → ∃ (B : Bs T) (F : Hp) (e : En) (σ : St) (d d' : D), Rel K mg w B F e σ H' ∧ Den K mg w F d v ∧ tf (.inl d) = some d' ∧ ∀ F' v' H'', Le F F' → Rel K mg w B F' e σ H'' → Den K mg w F' d' v' → Q v' H'') ∧
    (∀ cls dd H', Ech cls dd H' → ∃ (B : Bs T) (F : Hp) (e : En) (σ : St) (x : Ex) (d' : D), Rel K mg w B F e σ H' ∧ DenX K mg w F x cls dd ∧ tf (.inr x) = some d' ∧ ∀ F' v' H'', Le F F' → Rel K mg w B F' e σ H'' → Den K mg w F' d' v' → Q v' H'')
theorem tlam_of {K : PySem.W.Frag} {mg : MG} {w : World} {T : Tb} {W : WX} {tf : D ⊕ Ex → Option D} {g : En → Res D} {σ : St} {H : Hp} {Q : VK} (h : tE K mg w T W (toldG tf g) σ H Q) : LamX.tLam T (TTd K mg w T tf) (fun E => tE K mg w T (dW E) g) σ H Q := by
  obtain ⟨B, F, e, R, h⟩ := h
  refine ⟨R.tabs, fun H1 x t => ?_⟩
  have R1 := R.extN x t
  unfold toldG at h
  cases q : g e with
  | bad => rw [q] at h; exact h.elim
  | ok d e1 =>
    rw [q] at h
    obtain ⟨d', hd, h⟩ := h.lift
    refine ⟨fun _ _ _ => False, fun v H' => ∃ F', Le F F' ∧ Rel K mg w B F' e1 σ H' ∧ Den K mg w F' d v, ⟨B, F, e, R1, by rw [q]; exact fun F' v H' l R' D' => ⟨F', l, R', D'⟩⟩, ?_, fun _ _ _ z => z.elim⟩
    rintro v H' ⟨F', l, R', D'⟩
    exact ⟨B, F', e1, σ, d, d', R', D', hd, fun F2 v2 H2 l2 R2 D2 => h F2 v2 H2 (l.trans l2) R2 D2⟩
  | exc x e1 =>
    rw [q] at h
    obtain ⟨d', hd, h⟩ := h.lift
    refine ⟨fun cls dd H' => ∃ F', Le F F' ∧ Rel K mg w B F' e1 σ H' ∧ DenX K mg w F' x cls dd, fun _ _ => False, ⟨B, F, e, R1, by rw [q]; exact fun F' c dd H' l R' D' => ⟨F', l, R', D'⟩⟩, fun _ _ z => z.elim, ?_⟩
    rintro cls dd H' ⟨F', l, R', D'⟩
    exact ⟨B, F', e1, σ, x, d', R', D', hd, fun F2 v2 H2 l2 R2 D2 => h F2 v2 H2 (l.trans l2) R2 D2⟩
end L2.PV

set_option Elab.async false
set_option linter.all false
set_option maxRecDepth 100000
set_option autoImplicit false
namespace L2.PV
open PySem PySem.Spec PyProof.Rows LamX
section
theorem peW {X : Cx} {e : Expr} {t : TE} (h : PE X e t) : PE X e (fun σ H Q => ∃ QQ : VK, t σ H QQ ∧ ∀ v H', QQ v H' → Q v H') := ⟨fun pins s σ H Q I ⟨QQ, h1, h2⟩ =>
  wpAny_mono (h.run pins s σ H QQ I h1) (fun v s' ⟨y, H', I', r, q⟩ => ⟨y, H', I', r, h2 _ _ q⟩) fun _ _ z => z⟩
theorem takes_len {Y : Cx} {W : WX} (t : Takes Y W) : Takes Y (fun c d σ H => σ.length = Y.N.length → W c d σ H) := fun u s' ⟨a, B, sI, pins, σ, H, cls, d, e, I, nb, up, sky, na, os, ag, w⟩ =>
  t u s' ⟨a, B, sI, pins, σ, H, cls, d, e, I, nb, up, sky, na, os, ag, w I.len⟩
/-- the context of told's body -/
abbrev toldX (X : Cx) (Ng : List Str) (x : Str) (sg : Scope) (g : Addr) (cdg : Value) (A : Around) (outer : List Env) (s : Shared) (H : Hp) : Cx := (cxOf C8.CX0 X.prog X.w X.K X.mg X.base Ng x sg g cdg A outer s H C8.E0).nox
variable {X : Cx} {T : Tb} {Ng : List Str} {x a q : Str} {sg : Scope} {g : Addr} {cdg : Value} {h₀ : ExceptHandler} {hds : List ExceptHandler} {hs : List HdF} {rest : List Stmt} {rst : En → Out} {sub : Str → Str → Option Bool} {tf : D ⊕ Ex → Option D} {n : Nat} {p1 p2 p3 p8 : Pos}
theorem told_any {bst : Stmt} (ret : Bool) (hsub : SubT X.K X.mg sub) (hN : Ng.length = n) (h0 : ∀ f : Addr, (L2.start Ng [V.ref f])[0]? = some (some (V.ref f))) (hst : ∀ f : Addr, (L2.start Ng [V.ref f]).length = n)
    (hh : ∀ (s : Shared) (H : Hp), HdP (toldX X Ng x sg g cdg X.A X.stack s H) T (h₀ :: hds) hs)
    (hr : ∀ (s : Shared) (H : Hp), PSs (toldX X Ng x sg g cdg X.A X.stack s H) rest (tS X.K X.mg X.w T W0 rst))
    (hb : ∀ (Y : Cx) (t : TE), PE Y (.Call (.Name a p1) [] [] p2) t → PS Y bst (if ret then tRet t else tDrop t))
    (hok : ∀ d d', tf (.inl d) = some d' → if ret then d' = d else outD (rst (une n)) = some d')
    (hex : ∀ y d', tf (.inr y) = some d' → ∀ ea dd, outD (thenO (hdsOut sub n ea dd y hs) rst) = some d') :
    GivesTo X Ng x sg g cdg (.Try [bst] (h₀ :: hds) [] [] p8 :: rest) a q (TTd X.K X.mg X.w T tf) := by
  intro f c' s H Q tl act hc ⟨Ech, QQ, htl, ok, ex⟩
  obtain ⟨l, hl, wish⟩ := hds_wish (sub := sub) (hh s H) hsub
  refine ⟨_, pss_cons (ps_tryL (X := toldX X Ng x sg g cdg X.A X.stack s H) (l := l)
    (tb := fun W D σ H' => σ[0]? = some (some (.ref f)) ∧ H' c' = some (CodeO c' q) ∧ ∃ (E2 : XK) (Q2 : VK), (∀ cls d σ' H'', E2 cls d H'' → σ'.length = n → W cls d σ' H'') ∧ tl E2 H' Q2 ∧ ∀ v H'', Q2 v H'' → if ret then D.rt v H'' else D.nx σ H'')
    rfl rfl LamX.takes0 (fun W pn xe tk _ => ?_) hl) (hr s H), ?_⟩
  · refine ⟨fun pins s' σ H' D I ⟨k1, k2, E2, Q2, k3, k4, k5⟩ => ?_⟩
    have hp := peW (act _ pn xe E2 p1 p2 (takes_len tk) fun cls d σ' H'' z hl => k3 cls d σ' H'' z (hl.trans hN))
    have hq := pss_one (hb _ _ hp)
    refine hq.run pins s' σ H' D I ?_
    cases ret with
    | true => exact ⟨Q2, ⟨k1, k2, k4⟩, k5⟩
    | false => exact ⟨Q2, ⟨k1, k2, k4⟩, k5⟩
  · refine ⟨h0 f, hc, Ech, QQ, fun cls dd σ' H' z hl => ?_, htl, fun v H' z => ?_⟩
    · obtain ⟨B, F, e, σ, y, d', R, hx, ht, fin⟩ := ex cls dd H' z
      exact wish rst d' Q n (Bs.sub T H' F) F H' y cls dd σ' hl.symm (R.fresh hl) hx (fun ea => hex y d' ht ea dd) fun F' v σ2 e2 H2 l2 R2 D2 => fin F' v H2 l2 (R.after R2 l2) D2
    · obtain ⟨B, F, e, σ, d, d', R, hd, ht, fin⟩ := ok v H' z
      have hk := hok d d' ht
      cases ret with
      | true =>
        have hk : d' = d := hk
        subst hk
        exact fin F v H' (Le.refl F) R hd
      | false =>
        have hk : outD (rst (une n)) = some d' := hk
        exact ⟨Bs.sub T H' F, F, une n, R.fresh (hst f), out_end hk fun F' v σ2 e2 H2 l2 R2 D2 => fin F' v H2 l2 (R.after R2 l2) D2⟩
/-- the def st at x calls the one lambda that it gets and makes of its end what tf says -/
structure Told (X : Cx) (T : Tb) (x : Str) (st : Stmt) (tf : D ⊕ Ex → Option D) : Prop where
  gv : ∃ (Ng : List Str) (a : Str), FnScope Ng [a] (defScope st) ∧ Ng[0]? = some a ∧ Vis (defScope st) a ∧ (a == ("__debug__" : Str)) = false ∧ (a == ("__classdict__" : Str)) = false ∧
    (∀ (kV doc pm : Value) (an : Option Addr) (cdv ct : Value) (us : List Value), us.length = [a].length → bindArgs (PySem.W.fnOf x x (defArgs st) (defBody st) (defScope st) .none kV doc pm an cdv ct) ⟨us, []⟩ = pure ([a].zip us)) ∧
    ∀ (g : Addr) (cdg : Value) (q : Str), GivesTo X Ng x (defScope st) g cdg (defBody st) a q (TTd X.K X.mg X.w T tf)
/-- the lambdas of a def with the code object c0 -/
structure LamF (base : Heap) (mg : MG) (T : Tb) (q : Str) (c0 : Addr) : Prop where
  ex : ∃ Pt : Addr, TabB base mg c0 Pt ∧ (Pt, q ++ "<lambda>") ∈ T ∧ ∀ p ∈ T, p.1 = Pt → p.2 = q ++ "<lambda>"
end
section
variable {X : Cx} {T : Tb} {W : WX} {x : Str} {st : Stmt} {tf : D ⊕ Ex → Option D} {k j : Nat} {c0 : Addr} {g : En → Res D} {params : Arguments} {body : Expr} {scope : Scope} {p lpos pos : Pos}
theorem elam (c : Cc X W k) (Td : Told X T x st tf) (F : Fd X.K X.mg x st) (LF : LamF X.base X.mg T X.env.qual c0) (hj : j + 2 ≤ k)
    (hbody : ∀ (A : Around) (outer : List Env) (s : Shared) (H : Hp) (E : XK) (f c' : Addr), Cc (lamCx X A outer s H E scope f c') (dW E) j → PE (lamCx X A outer s H E scope f c') body (tE X.K X.mg X.w T (dW E) g))
    (hL : lamSB X.env.scope scope = true) (hg : Gl X x := by rfl) (hcode : X.env.code = .ref c0 := by rfl) (hdef : defaultsOf params X.env = ([], []) := by rfl)
    (hbind : ∀ (q : Str) (cl : List (Str × Addr)) (pm cv ctv : Value), bindArgs (PySem.W.kla_fn "<lambda>" q params body scope cl pm cv ctv) ⟨[], []⟩ = pure [] := by intros; rfl)
    (hdb : (x == ("__debug__" : Str)) = false := by decide) : PE X (.Call (.Name x p) [.Lambda params body scope lpos] [] pos) (tE X.K X.mg X.w T W (toldG tf g)) := by
  obtain ⟨Ng, a, S, hN, hv, hd, hcd, hbi, gv⟩ := Td.gv
  obtain ⟨fa, fd, F1, hm⟩ := F.ex
  obtain ⟨oc, od, kV, doc, pm, an, cdv, ct, osl, rfl, lk, hcg⟩ := F1.ex
  obtain ⟨Pt, TB, hT, hu⟩ := LF.ex
  refine conv (pe_lamG (k := j) (t := fun E => tE X.K X.mg X.w T (dW E) g) c.gd hg hm F1.kp lk hcg (.all (hbi kV doc pm an cdv ct)) S hN hv (gv fa cdv _) TB hcode hT hu (c.room.mono hj) (lamS_by hL) hdef hbind (fun A outer s H E f c' gd hr => ?_) hdb hd hcd) fun σ H Q h => tlam_of h
  exact hbody A outer s H E f c' ⟨rfl, takes_of rfl rfl rfl rfl, passes_of rfl, hr, c.nd, gd⟩
end
end L2.PV

set_option Elab.async false
set_option linter.all false
set_option maxRecDepth 100000
set_option autoImplicit false
namespace L2.PV
open PySem PySem.Spec PyProof.Rows
/-! ### methods of texts -/
def szLine (x : Str) : Bool := decide (x.length ≤ sizeLine)
def strStr (f : Str → Str → Option D) : D → List D → Option D := fun d as => match d, as with
  | .str a, [.str b] => f a b
  | _, _ => none
def stripD : D → List D → Option D := strStr fun a b => if a.length ≤ sizeLine then some (.str (Txt.stripChars a b)) else none
def splitD : D → List D → Option D := strStr fun a b => if (b.length == 0) = false ∧ a.length + 2 ≤ sizeLine then some (.lst ((Txt.split a b).map .str)) else none
def strsD : List D → Option (List Str)
  | [] => some []
  | .str x :: r => (strsD r).map (x :: ·)
  | _ :: _ => none
def joinD (d : D) (as : List D) : Option D := match d, as with
  | .str a, [.lst xs] => (strsD xs).bind fun ys => if (ys.map (·.length)).sum + ys.length * a.length ≤ 16777216 then some (.str (Txt.join a ys)) else none
  | .str a, [.tup xs] => (strsD xs).bind fun ys => if (ys.map (·.length)).sum + ys.length * a.length ≤ 16777216 then some (.str (Txt.join a ys)) else none
  | _, _ => none
section
variable {K : PySem.W.Frag} {mg : MG} {w : World} {F : Hp}
theorem strsD_ok : ∀ {ds : List D} {vs : List V} {ys : List Str}, DenL K mg w F ds vs → strsD ds = some ys → vs = ys.map V.str
  | [], _, _, .nil, h => by cases h; rfl
  | .str x :: r, _, _, .cons hd ht, h => by
    obtain ⟨zs, h1, rfl⟩ := Option.map_eq_some_iff.mp h
    cases hd
    rw [strsD_ok ht h1]; rfl
theorem den_strs : ∀ ys : List Str, DenL K mg w F (ys.map .str) (ys.map V.str)
  | [] => .nil
  | y :: ys => .cons (.str y) (den_strs ys)
end
section
variable {X : Cx} {K : PySem.W.Frag} {mg : MG} {w : World}
theorem stripD_ok : MeD K mg w "str" (fun x xs H Q => ∃ a b, x = .str a ∧ xs = [.str b] ∧ a.length ≤ sizeLine ∧ Q (.str (Txt.stripChars a b)) H) stripD := by
  intro T W B F e σ H d x as xs Q c R Dd Da h P
  unfold stripD strStr at h
  split at h
  · obtain ⟨hz, rfl⟩ := if_some h
    cases Dd
    cases Da with | cons h1 h2 => cases h1; cases h2; exact ⟨_, _, rfl, rfl, hz, P.ret R (.str _)⟩
  · cases h
theorem splitD_ok : MeN K mg w "str" (fun x xs H Q => ∃ a b, x = .str a ∧ xs = [.str b] ∧ (b.length == 0) = false ∧ a.length + 2 ≤ sizeLine ∧ rNewStrs (Txt.split a b) H Q) splitD := by
  intro T W B F e σ H d x as xs Q c R Dd Da h P
  unfold splitD strStr at h
  split at h
  · obtain ⟨⟨hz, hl⟩, rfl⟩ := if_some h
    cases Dd
    cases Da with | cons h1 h2 => cases h1; cases h2; exact ⟨_, _, rfl, rfl, hz, hl, P.newL R (den_strs _)⟩
  · cases h
theorem joinD_ok : MeD K mg w "str" (fun x xs H Q => ∃ a p, ∃ ys : List Str, x = .str a ∧ xs = [.ref p] ∧ (SqL K H p (ys.map V.str) ∨ SqT K H p (ys.map V.str)) ∧ (ys.map (·.length)).sum + ys.length * a.length ≤ 16777216 ∧ Q (.str (Txt.join a ys)) H) joinD := by
  intro T W B F e σ H d x as xs Q c R Dd Da h P
  unfold joinD at h
  split at h
  · obtain ⟨ys, h1, h2⟩ := bind_some' h
    obtain ⟨h3, rfl⟩ := if_some h2
    cases Dd
    cases Da with
    | cons g1 g2 =>
      cases g2
      cases g1 with
      | lst hq l =>
        have := strsD_ok l h1
        subst this
        exact ⟨_, _, ys, rfl, rfl, .inl (hq.seq R.sub), h3, P.ret R (.str _)⟩
  · obtain ⟨ys, h1, h2⟩ := bind_some' h
    obtain ⟨h3, rfl⟩ := if_some h2
    cases Dd
    cases Da with
    | cons g1 g2 =>
      cases g2
      cases g1 with
      | tup hq l =>
        have := strsD_ok l h1
        subst this
        exact ⟨_, _, ys, rfl, rfl, .inr (hq.seq R.sub), h3, P.ret R (.str _)⟩
  · cases h
/-! ### repr -/
def shOk (p : PyData) : Bool := p.showable && !p.hasDict && decide (p.depth ≤ 60) && decide (p.shown.length ≤ sizeLine)
def reprD : List D → Option D
  | [d] => (toPy d).bind fun p => if shOk p = true then some (.str p.shown) else none
  | _ => none
def rReprA (K : PySem.W.Frag) : List V → Hp → VK → Prop := fun xs H Q => ∃ (v : V) (p : PyData), xs = [v] ∧ Dp K H v p ∧ shOk p = true ∧ Q (.str p.shown) H
theorem call_reprG (g : X.A.guards = some []) (hu : X.A.units + 64 < cLine) : CallR X (.builtin "repr") (rReprA X.K) := by
  intro pins s σ H xs us Q I r h
  obtain ⟨v, p, rfl, hd, hp, q⟩ := h
  unfold shOk at hp
  simp only [Bool.and_eq_true, decide_eq_true_eq, Bool.not_eq_true'] at hp
  obtain ⟨⟨⟨h1, h2⟩, h3⟩, h4⟩ := hp
  cases r with
  | @cons _ u _ us rx rn =>
    cases rn
    obtain ⟨as, hr⟩ := Dp.reads I p v u hd rx
    have tok : ∀ t', Inv X pins σ H { s with toks := t' } := fun t' => I.tok t'
    cases hr with
    | none => exact PySem.P.repr_of_none ⟨.str _, H, tok _, ⟨_, rfl⟩, by simpa [PyData.shown] using q⟩
    | bool b => exact PySem.P.repr_of_bool ⟨.str _, H, tok _, ⟨_, rfl⟩, by simpa [PyData.shown] using q⟩
    | int i t => exact PySem.P.repr_of_int (by simpa [PyData.showable] using h1) ⟨.str _, H, tok _, ⟨_, rfl⟩, by simpa [PyData.shown] using q⟩
    | str x t => exact PySem.P.repr_of_str ⟨.str _, H, tok _, ⟨_, rfl⟩, by simpa [PyData.shown] using q⟩ (by simpa [PyData.shown] using h4)
    | list e1 e2 e3 e4 => exact repr_of_reads' (.list e1 e2 e3 e4) h1 (PyData.noDict_hsm h2) g (by omega) (fun _ _ e => e) (fun h' u tk hk => ⟨.str _, H, I.kept hk, ⟨_, rfl⟩, q⟩) h4
    | tuple e1 e2 e3 e4 => exact repr_of_reads' (.tuple e1 e2 e3 e4) h1 (PyData.noDict_hsm h2) g (by omega) (fun _ _ e => e) (fun h' u tk hk => ⟨.str _, H, I.kept hk, ⟨_, rfl⟩, q⟩) h4
    | dict e1 e2 e3 e4 e5 => simp [PyData.hasDict] at h2
theorem reprD_ok : CaD K mg w (rReprA K) reprD := by
  intro T W B F e σ H as xs Q c R Da h P
  unfold reprD at h
  split at h
  · obtain ⟨p, h1, h2⟩ := bind_some' h
    obtain ⟨h3, rfl⟩ := if_some h2
    cases Da with | cons g1 g2 => cases g2; exact ⟨_, p, rfl, Den.dp R.sub g1 h1, h3, P.ret R (.str _)⟩
  · cases h
/-! ### str of a number or a text -/
def strD : List D → Option D
  | [.str a] => some (.str a)
  | [.int i] => if i.natAbs.log2 < 1920 then some (.str (toString i)) else none
  | _ => none
theorem strD_ok : CaD K mg w (fun xs H Q => (∃ a, xs = [V.str a] ∧ Q (.str a) H) ∨ ∃ i : Int, xs = [V.int i] ∧ i.natAbs.log2 < 1920 ∧ Q (.str (toString i)) H) strD := by
  intro T W B F e σ H as xs Q c R Da h P
  unfold strD at h
  split at h
  · cases h; cases Da with | cons g1 g2 => cases g1; cases g2; exact .inl ⟨_, rfl, P.ret R (.str _)⟩
  · obtain ⟨h3, rfl⟩ := if_some h
    cases Da with | cons g1 g2 => cases g1; cases g2; exact .inr ⟨_, rfl, h3, P.ret R (.str _)⟩
  · cases h
theorem call_strA : CallR X (.type "str") (fun xs H Q => (∃ a, xs = [V.str a] ∧ Q (.str a) H) ∨ ∃ i : Int, xs = [V.int i] ∧ i.natAbs.log2 < 1920 ∧ Q (.str (toString i)) H) := CallR.or SkE.call_str_str call_str_int
end
/-! ### dict displays -/
def mergeD (kvs more : List (Key × D)) : List (Key × D) := more.foldl (fun acc kv => putKD acc kv.1 kv.2) kvs
def pairsL : List ((En → Res D) × (En → Res D)) → En → Res (List (Key × D))
  | [], e => .ok [] e
  | (gk, gv) :: r, e => (gk e).bind fun k e1 => (gv e1).bind fun v e2 => (pairsL r e2).bind fun kvs e3 => match keyD k with
    | some key => .ok ((key, v) :: kvs) e3
    | none => .bad
def dispG (gs : List ((En → Res D) × (En → Res D))) : En → Res D := fun e => (pairsL gs e).bind fun kvs e1 => if kvs.length ≤ 15 then .ok (.dct (mergeD [] kvs)) e1 else .bad
section
variable {K : PySem.W.Frag} {mg : MG} {w : World} {F : Hp}
theorem DenK.merge : ∀ {more : List (Key × D)} {ms : List (Key × V)} {kvs : List (Key × D)} {vs : List (Key × V)}, DenK K mg w F more ms → DenK K mg w F kvs vs → DenK K mg w F (mergeD kvs more) (L2.mergeK vs ms)
  | _, _, _, _, .nil, h => h
  | _, _, kvs, ws, .cons (k := k) (d := d) (v := v) (ds := ds) (vs := vs) hd ht, h => by
    have z := DenK.merge (more := ds) (ms := vs) (kvs := putKD kvs k d) (vs := L2.putK ws k v) ht (h.put hd)
    exact z
end
section
variable {X : Cx} {T : Tb} {W : WX} {pos : Pos}
/-- the pairs of a display -/
inductive PDs (X : Cx) (T : Tb) (W : WX) (pos : Pos) : List (Option Expr) → List Expr → List ((En → Res D) × (En → Res D)) → Prop
  | nil : PDs X T W pos [] [] []
  | cons {k v : Expr} {ks : List (Option Expr)} {vs : List Expr} {gk gv : En → Res D} {gs : List ((En → Res D) × (En → Res D))} (hk : PE X k (tE X.K X.mg X.w T W gk)) (hv : PE X v (tE X.K X.mg X.w T W gv)) (r : PDs X T W pos ks vs gs) : PDs X T W pos (some k :: ks) (v :: vs) ((gk, gv) :: gs)
def trsOf (X : Cx) (T : Tb) (W : WX) (gs : List ((En → Res D) × (En → Res D))) : List (TE × TE) := gs.map fun p => (tE X.K X.mg X.w T W p.1, tE X.K X.mg X.w T W p.2)
theorem PDs.pps {ks : List (Option Expr)} {vs : List Expr} {gs : List ((En → Res D) × (En → Res D))} (h : PDs X T W pos ks vs gs) : PPs X pos ks vs (trsOf X T W gs) := by
  induction h with
  | nil => exact pps_nil
  | cons hk hv r ih => exact pps_cons hk hv ih
def PostP (K : PySem.W.Frag) (mg : MG) (w : World) (W : WX) {T : Tb} (B : Bs T) (σ : St) (F : Hp) (r : Res (List (Key × D))) (Q : List (V × V) → Hp → Prop) : Prop := match r with
  | .ok kvs e => ∀ F' ws H', Le F F' → Rel K mg w B F' e σ H' → DenK K mg w F' kvs ws → Q (ws.map fun kv => (kV kv.1, kv.2)) H'
  | .exc x e => ∀ F' c dd H', Le F F' → Rel K mg w B F' e σ H' → DenX K mg w F' x c dd → W c dd σ H'
  | .bad => False
theorem PostP.le {K : PySem.W.Frag} {mg : MG} {w : World} {B : Bs T} {σ : St} {F G : Hp} {r : Res (List (Key × D))} {Q : List (V × V) → Hp → Prop} (h : PostP K mg w W B σ F r Q) (s : Le F G) : PostP K mg w W B σ G r Q := by
  cases r with
  | ok a e => exact fun F' b H' l => h F' b H' (s.trans l)
  | exc x e => exact fun F' c dd H' l => h F' c dd H' (s.trans l)
  | bad => exact h
theorem PostP.step {K : PySem.W.Frag} {mg : MG} {w : World} {B : Bs T} {σ : St} {F : Hp} {r : Res D} {k : D → En → Res (List (Key × D))} {KK : V → Hp → Prop} {Q : List (V × V) → Hp → Prop} (h : PostP K mg w W B σ F (r.bind k) Q)
    (f : ∀ F1 e1 a b H1, Le F F1 → Rel K mg w B F1 e1 σ H1 → Den K mg w F1 a b → PostP K mg w W B σ F1 (k a e1) Q → KK b H1) : Post K mg w W B σ (Den K mg w) F r KK := by
  cases r with
  | ok a e => exact fun F' b H' l R1 hR => f F' e a b H' l R1 hR (PostP.le h l)
  | exc x e => exact h
  | bad => exact h
theorem keyD_kV {K : PySem.W.Frag} {mg : MG} {w : World} {F : Hp} {d : D} {v : V} {k : Key} (h : Den K mg w F d v) (hk : keyD d = some k) : v = kV k := by
  cases h <;> cases hk <;> rfl
theorem pairs_run {B : Bs T} {σ : St} : ∀ (gs : List ((En → Res D) × (En → Res D))) {F H : Hp} {e : En} {Q : List (V × V) → Hp → Prop}, Rel X.K X.mg X.w B F e σ H → PostP X.K X.mg X.w W B σ F (pairsL gs e) Q → tPairs (trsOf X T W gs) σ H Q
  | [], F, H, e, Q, R, h => h F [] H (Le.refl F) R .nil
  | (gk, gv) :: gs, F, H, e, Q, R, h => by
    refine ⟨B, F, e, R, PostP.step (k := fun k e1 => (gv e1).bind fun v e2 => (pairsL gs e2).bind fun kvs e3 => match keyD k with | some key => .ok ((key, v) :: kvs) e3 | none => .bad) h fun F1 e1 dk x H1 l1 R1 D1 h1 => ⟨B, F1, e1, R1, PostP.step h1 fun F2 e2 dv y H2 l2 R2 D2 h2 => ?_⟩⟩
    refine pairs_run gs R2 ?_
    cases hq : pairsL gs e2 with
    | bad => rw [hq] at h2; exact h2
    | exc x' e3 => rw [hq] at h2; exact h2
    | ok kvs e3 =>
      rw [hq] at h2
      cases hk : keyD dk with
      | none => simp only [Res.bind, hk] at h2; exact h2.elim
      | some key =>
        simp only [Res.bind, hk] at h2
        have hx := keyD_kV D1 hk
        subst hx
        exact fun F3 ws H3 l3 R3 D3 => h2 F3 ((key, y) :: ws) H3 l3 R3 (.cons (D2.mono l3) D3)
theorem ndisp {ks : List (Option Expr)} {vs : List Expr} {gs : List ((En → Res D) × (En → Res D))} (h : PDs X T W pos ks vs gs) (hall : ks.all (·.isSome) = true := by rfl) (hl : ks.length = vs.length := by rfl) (h0 : ks ≠ [] := by intro z; cases z) (h15 : ks.length ≤ 15 := by decide) :
    PE X (.Dict ks vs pos) (tN X.K X.mg X.w T W (dispG gs)) := conv (pe_disp h.pps hall hl h0 h15) fun σ H Q ⟨B, F, e, R, h⟩ p hp => by
  have off := R.offNew hp
  refine pairs_run gs (R.base (o := .dK []) hp rfl) ?_
  unfold dispG at h
  cases hq : pairsL gs e with
  | bad => rw [hq] at h; exact h
  | exc x e1 => rw [hq] at h; exact fun F' c dd H' l R' hx => h F' c dd H' l (R'.unbase off) hx
  | ok kvs e1 =>
    rw [hq] at h
    intro F' ws H' l R' D'
    simp only [Res.bind] at h
    split at h
    · rename_i hlen
      obtain ⟨hH, hF⟩ := R'.atBase off rfl
      refine ⟨hH, ws, rfl, by rw [← D'.length]; exact hlen, ?_⟩
      have R2 := (R'.rebase (o' := .dK (L2.mergeK [] ws)) off rfl (fun ⟨_, _, z⟩ => by cases z) rfl).unbase off
      exact h F' p _ l R2 hF off.1 ⟨_, upd_same, DenK.merge D' .nil⟩ fun j s hj ht => R'.offHot off hj ht
    · exact h.elim
theorem ndict0 : PE X (.Dict [] [] pos) (tN X.K X.mg X.w T W (constG (.dct []))) := conv pe_dnewK fun σ H Q ⟨B, F, e, R, h⟩ p hp => h.new R p hp ⟨[], upd_same, .nil⟩
end
end L2.PV

set_option Elab.async false
set_option linter.all false
set_option maxRecDepth 100000
set_option autoImplicit false
/-! Making errors of own classes over a built-in class of errors: what is used of the built-in class. KeyError is made by the maker of the class above it. -/
namespace L2.PV
open PySem PySem.Spec PyProof.Rows PySem.W PySem.Calls
structure ExcMk (newId i : String) (bmB : List Value) : Prop where
  plain : plainId i = true
  entry : entryFor table i = some Builtin.«BaseException.__init__»
  bound : ∀ {M : Model} {A : Around} {E : Value → Shared → Prop} {h : Heap} {g : Array GenState} {d : Drawn} {t : Nat} {os : OsState} {nm q : Str} {C N e : Addr} {oe : Obj} {bs bm : List Value} {hdct : Bool} {sn : List Str} {sub : List Value} {ab : Bool} {col : Option Bool} {dd : Option Addr}
    {k0 k1 k2 k3 k5 : Option Value} {rest : List Value} {Q : Unit → Shared → Prop}, h.get? C = some (excClassObj nm q C N bs bm hdct sn sub ab col dd k0 k1 k2 k3 k5 newId) → h.get? e = some oe → oe.cls = .ref C → Q () ⟨h, g, d, t, os⟩ → wpAny M A (checkBoundCall i ⟨.ref e :: rest, []⟩) Q E ⟨h, g, d, t, os⟩
  make : ∀ {prog : Program} {w : World} {A : Around} {R : Result → Shared → Prop} {h : Heap} {g : Array GenState} {d : Drawn} {t : Nat} {os : OsState} {nm q : Str} {C N : Addr} {bs bm : List Value} {hdct : Bool} {sn : List Str} {sub : List Value} {ab : Bool} {col : Option Bool} {dd : Option Addr}
    {k0 k1 k2 k3 k5 : Option Value}, (∀ X : String, bm.contains (.type X) = bmB.contains (.type X)) → ∀ {rest : List Value} {fI : Addr}, h.get? C = some (excClassObj nm q C N bs bm hdct sn sub ab col dd k0 k1 k2 k3 k5 newId) → Looks (model prog w) h (typeLookup (.ref C) "__init__") (some (.ref fI)) →
    (∀ self, Looks (model prog w) h (bindSpecial (.ref fI) self) (.ref fI, [self])) → rest.length ≤ sizeLine →
    codeAny (model prog w) (A.under (.builtin "type.__call__" ⟨.ref C :: rest, []⟩)) (.call (.ref fI) ⟨.ref (h.objs.size + 1) :: rest, []⟩) (InitBack (h.objs.size + 1) R) ⟨(h.push (kdv_tup rest)).push (PySem.HandSPX.excO C h.objs.size), g, d, t, os⟩ →
    codeAny (model prog w) A (.call (.ref C) ⟨rest, []⟩) R ⟨h, g, d, t, os⟩
theorem ExcMk.of {B newId i : String} {bmB : List Value} (F : ExcBaseFacts B newId i bmB) : ExcMk newId i bmB where
  plain := F.init.plain
  entry := F.initEntry
  bound := fun hC he hc hq => check_bound_init F.toExcCallFacts hC he hc hq
  make := fun hT _ _ hC hi hb hr hq => PySem.HandSPX.call_own F hT hC hi hb hr hq
section
variable {M : Model} {A : Around} {E : Value → Shared → Prop} {h : Heap} {g : Array GenState} {d : Drawn} {t : Nat} {os : OsState} {nm q : Str} {C N : Addr} {bs bm bm0 : List Value} {hdct : Bool} {sn : List Str} {sub : List Value} {ab : Bool} {col : Option Bool} {dd : Option Addr} {k0 k1 k2 k3 k5 : Option Value} {B newId i0 : String} {ws : List Value}
theorem chk_new (F : ExcBaseFacts B newId i0 bm0) (h3 : (Value.ref C :: bm).contains (.type B) = true) {Q : Unit → Shared → Prop} (cls : h.get? C = some (excClassObj nm q C N bs bm hdct sn sub ab col dd k0 k1 k2 k3 k5 newId)) (fin : Q () ⟨h, g, d, t, os⟩) :
    wpAny M A (checkBuiltinCall newId ⟨.ref C :: ws, []⟩) Q E ⟨h, g, d, t, os⟩ := by
  have st := F.noStar
  simp only [checkBuiltinCall, F.newSplit, F.newRow, F.newKind]
  repeat (first | refine wpAny_loadPart_at cls ?_ | (refine wpAny_isSubtype_exc cls ?_; rw [h3]) | refine wpAny_staticBase_exc cls ?_ | refine wpAny_madeBy_exc cls ?_ | simp only [bne_self_eq_false, Bool.false_eq_true, if_false] | wp_step)
  exact fin
end
section
variable {prog : Program} {w : World} {A : Around} {E : Value → Shared → Prop} {R : Result → Shared → Prop} {h : Heap} {g : Array GenState} {d : Drawn} {t : Nat} {os : OsState} {nm q : Str} {C N fI : Addr} {bs bm bm0 : List Value} {hdct : Bool} {sn : List Str} {sub : List Value} {ab : Bool} {col : Option Bool} {dd : Option Addr} {k0 k1 k2 k3 k5 : Option Value} {B newId i0 : String} {ws : List Value}
theorem do_new (F : ExcBaseFacts B newId i0 bm0) (h3 : (Value.ref C :: bm).contains (.type B) = true) (h4 : (Value.ref C :: bm).contains (.type "AttributeError") = false) (h5 : (Value.ref C :: bm).contains (.type "NameError") = false)
    (cls : h.get? C = some (excClassObj nm q C N bs bm hdct sn sub ab col dd k0 k1 k2 k3 k5 newId)) (fin : R (.ok (.ret (.ref (h.objs.size + 1)))) ⟨(h.push (kdv_tup ws)).push (PySem.HandSPX.excO C h.objs.size), g, d, t, os⟩) (sz : ws.length ≤ sizeLine) :
    codeAny (model prog w) A (.builtin newId ⟨.ref C :: ws, []⟩) R ⟨h, g, d, t, os⟩ := by
  have en := F.ends
  refine codeAny_builtinAt F.entry ?_
  unfold Builtin.«BaseException.__new__»
  refine PySem.wpAt_bind ?_
  show PySem.wpAt _ _ _ (stack >>= _) _ _ _
  refine PySem.wpAt_bind (PySem.wpAt_stack fun p below => PySem.wpAt_of_wpAny ?_)
  wp_walk
  refine PySem.wpAt_of_wpAny ?_
  rw [F.owner]
  repeat (first | with_reducible refine wpAny_madeHere_exc F.canon cls ?_ | with_reducible refine wpAny_loadPart_at cls ?_ | (with_reducible refine wpAny_isSubtype_exc cls ?_; first | rw [h3] | rw [h4] | rw [h5]) | wp_step)
  show R (.ok (.ret (.ref (h.push (kdv_tup ws)).objs.size))) _
  rw [Heap.size_push]
  exact fin
theorem do_make (F : ExcBaseFacts B newId i0 bm0) (h3 : (Value.ref C :: bm).contains (.type B) = true) (h4 : (Value.ref C :: bm).contains (.type "AttributeError") = false) (h5 : (Value.ref C :: bm).contains (.type "NameError") = false) {Q : Fin → Shared → Prop}
    (cls : h.get? C = some (excClassObj nm q C N bs bm hdct sn sub ab col dd k0 k1 k2 k3 k5 newId)) (li : Looks (model prog w) h (typeLookup (.ref C) "__init__") (some (.ref fI))) (lb : ∀ self, Looks (model prog w) h (bindSpecial (.ref fI) self) (.ref fI, [self])) (sz : ws.length ≤ sizeLine)
    (fin : codeAny (model prog w) A (.call (.ref fI) ⟨.ref (h.objs.size + 1) :: ws, []⟩) (fun r s' => match r with | .ok (.ret v) => v = .none ∧ Q (.done (.ret (.ref (h.objs.size + 1)))) s' | .ok _ => False | .error e => E e s') ⟨(h.push (kdv_tup ws)).push (PySem.HandSPX.excO C h.objs.size), g, d, t, os⟩) :
    wpAny (model prog w) A (Builtin.«type.__call__» ⟨.ref C :: ws, []⟩) Q E ⟨h, g, d, t, os⟩ := by
  repeat (first | with_reducible refine wpAny_loadPart_at cls ?_ | with_reducible refine wpAny_madeBy_exc cls ?_ | wp_step)
  refine codeAny_call_builtin_code (Code.quiet_builtin _ F.quiet) (chk_new F h3 cls (do_new F h3 h4 h5 cls ?_ sz))
  show wpAny _ _ _ _ _ _
  have up : ∀ b o, h.get? b = some o → ((h.push (kdv_tup ws)).push (PySem.HandSPX.excO C h.objs.size)).get? b = some o := fun b o e => Heap.get?_push_of_some _ (Heap.get?_push_of_some _ e)
  have cls' := up _ _ cls
  have obj : ((h.push (kdv_tup ws)).push (PySem.HandSPX.excO C h.objs.size)).get? (h.objs.size + 1) = some (PySem.HandSPX.excO C h.objs.size) := by heap_get
  have h6 : (Value.ref C :: bm).contains (.ref C) = true := by simp
  have li' := li.keeps up
  have lb' := (lb (.ref (h.objs.size + 1))).keeps up
  unfold isInstance
  repeat (first | with_reducible refine wpAny_loadPart_at obj ?_ | (with_reducible refine wpAny_isSubtype_exc cls' ?_; rw [h6]) | wp_step)
  show wpAny _ _ (typeLookup (.ref C) _) _ _ _
  refine li'.at (wpAny_holding (wpAny_bind (lb'.at ?_)))
  refine wpAny_bind (wpAny_call (codeAny_mono fin fun r s' z => ?_))
  rcases r with e | (v | _ | _ | _) <;> first
    | exact z
    | exact z.elim
    | (obtain ⟨rfl, z⟩ := z
       first
         | exact wpAny_pure (wpAny_pure z)
         | (wp_walk; exact z))
end
theorem excMk_KeyError : ExcMk "LookupError.__new__" "KeyError.__init__" [.type "KeyError", .type "LookupError", .type "Exception", .type "BaseException", .type "object"] where
  plain := excClass_KeyError.init.plain
  entry := excClass_KeyError.initEntry
  bound := fun {M A E h g d t os nm q C N e oe bs bm hdct sn sub ab col dd k0 k1 k2 k3 k5 rest Q} hC he hcls hq => by
    have st := excClass_KeyError.notStar
    simp only [checkBoundCall, excClass_KeyError.initKind, excClass_KeyError.initSig]
    repeat (first | (with_reducible refine wpAny_loadPart_at he ?_; rw [hcls]) | with_reducible refine wpAny_loadPart_at hC ?_ | wp_step)
    refine wpAny_onRaise ?_
    rw [show ∀ (a b : String) (n : Nat), Bind.check ⟨.positional, "*", "KeyError", .self, [⟨"args", .varPos, false⟩]⟩ a b n (List.map (fun x => x.fst) ({ pos := Value.ref e :: rest } : Args).kw) = pure () from fun a b n => check_star_args _ _ _ _ _ _]
    exact wpAny_pure hq
  make := fun {prog w A R h g d t os nm q C N bs bm hdct sn sub ab col dd k0 k1 k2 k3 k5} hT {rest fI} hC hi hb hr hq => by
    have h3 : (Value.ref C :: bm).contains (.type "LookupError") = true := by rw [List.contains_cons, hT]; rfl
    have h4 : (Value.ref C :: bm).contains (.type "AttributeError") = false := by rw [List.contains_cons, hT]; rfl
    have h5 : (Value.ref C :: bm).contains (.type "NameError") = false := by rw [List.contains_cons, hT]; rfl
    have f1 := tc_lookup
    have f2 := tc_bind (.ref C)
    have ty : (⟨h, g, d, t, os⟩ : Shared).TypeIs (.ref C) "type" := ⟨_, hC, rfl⟩
    refine codeAny_of_tree (?_ : wpAny _ _ (callAny (.ref C) _) _ _ _)
    repeat (any_goals (first | assumption | with_reducible refine wpAny_loadPart_at hC ?_ | wp_step))
    refine ⟨rfl, codeAny_call_builtin_at (Code.quiet_builtin _ (by decide +kernel)) entry_typeCall (wpAny_check_type_call_sub hC (do_make PySem.F.excBase_LookupError h3 h4 h5 hC hi hb hr (codeAny_mono hq fun r s' z => ?_)))⟩
    rcases r with e | (v | _ | _ | _) <;> exact z
theorem kxs_KeyError : KxsFacts "KeyError" "KeyError.__init__" := ⟨by show builtinType _ = _; rw [builtinType_eq_fast]; kernel_rfl, by first | kernel_rfl | rfl⟩
theorem store_KeyError : StoreFacts "KeyError" [.type "KeyError", .type "LookupError", .type "Exception", .type "BaseException", .type "object"] "object.__setattr__" "object" where
  mro := by kernel_rfl
  slot := .of (owner := "object") (n := "__setattr__") (by rw [typeLookup_type, builtinLookup_eq_fast]; kernel_rfl) (by decide +kernel) (by decide +kernel) (by decide +kernel) (by first | exact .inl (by decide +kernel) | exact .inr (by decide +kernel)) (by rw [isSubtype_type]; kernel_rfl)
  entry := PySem.F.store_LookupError.entry
  kind := PySem.F.store_LookupError.kind
  split := PySem.F.store_LookupError.split
  hasOwner := by decide +kernel
  args := PySem.F.store_LookupError.args
  passes := fun self => by kernel_rfl
end L2.PV

set_option Elab.async false
set_option linter.all false
set_option maxRecDepth 100000
set_option autoImplicit false
/-! raise C(v), C an own class whose __init__ says super().__init__(v) and keeps v. -/
namespace L2.PV
open PySem PySem.Spec PyProof.Rows PySem.W PySem.Calls
/-- what is asked of the class, of its __init__, of the top -/
structure SupC (prog : Program) (K : PySem.W.Frag) (mg : MG) (C fI : Addr) (B newId i : String) (bmB : List Value) (fld f : Str) (initSt : Stmt) : Prop where
  FB : ExcMk newId i bmB
  KF : KxsFacts B i
  SF : StoreFacts B bmB "object.__setattr__" "object"
  q : excInitIn K C bmB newId = true
  over : excOver K C bmB = true
  iC : findIn K (.ref C) "__init__" = some (some (.ref fI))
  isf : isFn K (.ref fI) = true
  hm : ks_superIn K C C "__init__" = some (some (.builtin i))
  hB : subIn K (.ref C) (.type B) = some true
  hsub : mroIn K C (.ref C) = some true
  hsuper : nsIn K mainGlobals "super" = some none
  any : nsIn K cStatics "thirdparty.any" = some none
  sa : findIn K (.ref C) "__setattr__" = some (some (.builtin "object.__setattr__"))
  tk : takerIn K C fld = some none
  hh : hasDictIn K C = true
  exC : subIn K (.ref C) (.type "BaseException") = some true
  tyC : typeIn K (.ref C) = some (.type "type")
  keep : keepIn K (.ref C) = true
  init : ∃ (oc : Value) (od an : Option Addr) (osl : Array (Option Value)) (qual : Str) (kV doc pm ct : Value) (cda cc : Addr) (vs : Array Value) (file : Str) (tf : Tok) (ccl cl : Value) (cdd cld : Option Addr) (ccs csl : Array (Option Value)),
    K.lookup fI = some ⟨oc, od, .func (ksFn "__init__" qual (defArgs initSt) (defBody initSt) (defScope initSt) .none kV doc pm an (.ref cda) ct cc), osl⟩ ∧ codeIn K (.ref cda) qual = true ∧
    K.lookup cda = some ⟨ccl, cdd, .fields vs, ccs⟩ ∧ vs[2]? = some (.str file tf) ∧ ((prog.main.file : Str) == file) = true ∧ K.lookup cc = some ⟨cl, cld, .cell (some (.ref C)), csl⟩
abbrev supEnv (initSt : Stmt) (qual : Str) (kV doc pm ct cdv : Value) (an : Option Addr) (cc L fI : Addr) : Env :=
  callEnv (ksFn "__init__" qual (defArgs initSt) (defBody initSt) (defScope initSt) .none kV doc pm an cdv ct cc) L fI
/-- the text of such an __init__ -/
structure SupT (prog : Program) (fld f : Str) (initSt : Stmt) : Prop where
  body : ∃ p0 p1 p2 p3 p4 p5 p6 p7 p8 p9 : Pos, defBody initSt = [.Expr (.Call (.Attribute (.Call (.Name "super" p0) [] [] p1) "__init__" p2) [.Name f p3] [] p4) p5, .Assign [.Attribute (.Name "self" p6) fld p7] (.Name f p8) p9] ∧
    ∀ (qual : Str) (kV doc pm ct cdv : Value) (an : Option Addr) (cc L fI : Addr), interactive (supEnv initSt qual kV doc pm ct cdv an cc L fI) = false ∧
      swapsWith (.Call (.Attribute (.Call (.Name "super" p0) [] [] p1) "__init__" p2) [.Name f p3] [] p4) none p5.line (supEnv initSt qual kV doc pm ct cdv an cc L fI) = pure false ∧
      (∃ pl : Sem Bool, eval (.Call (.Attribute (.Call (.Name "super" p0) [] [] p1) "__init__" p2) [.Name f p3] [] p4) (supEnv initSt qual kV doc pm ct cdv an cc L fI) = (do
        let ov ← attributeBase (.Call (.Name "super" p0) [] [] p1) "__init__" (supEnv initSt qual kV doc pm ct cdv an cc L fI) (eval (.Call (.Name "super" p0) [] [] p1) (supEnv initSt qual kV doc pm ct cdv an cc L fI))
        standAt p2.atName
        let (f', first) ← holding [ov] (getMethod ov "__init__" pl)
        callWith p4 f' first (backTo p4 (starEach [.Name f p3] (supEnv initSt qual kV doc pm ct cdv an cc L fI))) [])) ∧
      swapsWith (.Name f p8) (some (.Attribute (.Name "self" p6) fld p7)) p9.line (supEnv initSt qual kV doc pm ct cdv an cc L fI) = pure false
  head : ∃ ar, ((defArgs initSt).posonlyargs ++ (defArgs initSt).args).head? = some ar ∧ ar.arg = "self"
  bind : ∀ (qual : Str) (kV doc pm ct cdv : Value) (an : Option Addr) (cc : Addr) (u v : Value), bindArgs (ksFn "__init__" qual (defArgs initSt) (defBody initSt) (defScope initSt) .none kV doc pm an cdv ct cc) ⟨[u, v], []⟩ = pure [(("self" : Str), u), (f, v)]
  kind : (defScope initSt).kind = .function
  co : (defScope initSt).isCoroutine = false
  gen : (defScope initSt).isGenerator = false
  cell : ∀ x ∈ (defScope initSt).names, x.2 ≠ .cell
  nS : (defScope initSt).names.lookup ("super" : Str) = some .globalImplicit
  nC : (defScope initSt).names.lookup ("__class__" : Str) = some .free
  nself : (defScope initSt).names.lookup ("self" : Str) = some .local
  nf : (defScope initSt).names.lookup f = some .local
  ne : f ≠ "self"
  dbg : (f == ("__debug__" : Str)) = false
  top : (prog.main.scope.names.lookup ("super" : Str)).isSome = false
section
variable {prog : Program} {w : World} {A : Around} {K : PySem.W.Frag} {mg : MG} {C fI : Addr} {B newId i : String} {bmB : List Value} {fld f : Str} {initSt : Stmt}
theorem init_run {s : Shared} {e t0 : Addr} {u : Value} {R : Result → Shared → Prop} (S : SupC prog K mg C fI B newId i bmB fld f initSt) (Tx : SupT prog fld f initSt) (M : L2.Mod K mg s.heap) (hdep : A.depth < recursionLimit)
    (he : s.heap.get? e = some (excObj C t0 none .none)) (hKe : K.lookup e = none)
    (hq : ∀ h' tk' dx t1, (∀ b o, b ≠ e → s.heap.get? b = some o → h'.get? b = some o) → s.heap.objs.size ≤ dx → h'.get? e = some (excObj C t1 (some dx) .none) → h'.Ns1 dx (fun y => if y = fld then some u else none) → R (.ok (.ret .none)) { s with heap := h', toks := tk' }) :
    codeAny (model prog w) A (.call (.ref fI) ⟨[.ref e, u], []⟩) R s := by
  obtain ⟨oc, od, an, osl, qual, kV, doc, pm, ct, cda, cc, vs, file, tf, ccl, cl, cdd, cld, ccs, csl, lk, hcd, hcode, hvs, hfile, hcell⟩ := S.init
  obtain ⟨p0, p1, p2, p3, p4, p5, p6, p7, p8, p9, hbody, heqs⟩ := Tx.body
  obtain ⟨ar, har, hself⟩ := Tx.head
  have X : K.In s.heap := M.kin
  refine ks_codeAny_call_defAt (fd := ksFn "__init__" qual (defArgs initSt) (defBody initSt) (defScope initSt) .none kV doc pm an (.ref cda) ct cc) (body := defBody initSt) (binds := [(("self" : Str), .ref e), (f, u)]) hdep (X _ _ lk) rfl M.nolimit (codeRec_of X hcd) rfl
    (.of_eq (Tx.bind qual kV doc pm ct (.ref cda) an cc (.ref e) u)) Tx.cell (fun x hx => ?_) (fun h1 hns k1 => ?_) Tx.co Tx.gen Tx.kind
  · rcases List.mem_cons.mp hx with rfl | hx
    · exact Tx.nself
    · rcases List.mem_cons.mp hx with rfl | hx
      · exact Tx.nf
      · cases hx
  have X1 : K.In h1 := X.keeps k1
  have he1 := k1 _ _ he
  obtain ⟨cd, hcl, hdict⟩ := any_some S.hh
  obtain ⟨oC, hC1, hC2⟩ : ∃ oC, h1.get? C = some oC ∧ oC.data = .cls cd := by
    unfold clsIn at hcl
    split at hcl
    · rename_i c d cd' sl ho
      cases hcl
      exact ⟨_, X1 _ _ ho, rfl⟩
    · cases hcl
  have eC : e ≠ C := by
    rintro rfl
    rw [he1] at hC1; cases hC1; cases hC2
  have mself : (fun y => ([(("self" : Str), Value.ref e), (f, u)] : List (Str × Value)).reverse.lookup y) ("self" : Str) = some (.ref e) := by
    show List.lookup ("self" : Str) [(f, u), (("self" : Str), Value.ref e)] = some (.ref e)
    simp only [List.lookup, beq_eq_false_iff_ne.mpr (Ne.symm Tx.ne), beq_self_eq_true]
  have mf : (fun y => ([(("self" : Str), Value.ref e), (f, u)] : List (Str × Value)).reverse.lookup y) f = some u := by
    show List.lookup f [(f, u), (("self" : Str), Value.ref e)] = some u
    simp only [List.lookup, beq_self_eq_true]
  have ldf : ∀ {M' : Model} {A' : Around} {Q : Value → Shared → Prop} {E : Value → Shared → Prop} {p : Pos} {h' : Heap} {g : Array GenState} {d : Drawn} {t : Nat} {os : OsState}, (∀ b o, h1.get? b = some o → h'.get? b = some o) → Q u ⟨h', g, d, t, os⟩ →
      wpAny M' A' (eval (.Name f p) (callEnv (ksFn "__init__" qual (defArgs initSt) (defBody initSt) (defScope initSt) .none kV doc pm an (.ref cda) ct cc) s.heap.objs.size fI)) Q E ⟨h', g, d, t, os⟩ := fun k q =>
    wpAny_Name (wpAny_loadName_local Tx.kind Tx.nf (hns.keeps k) mf q) Tx.dbg
  obtain ⟨hi, hsw, ⟨pl, hev⟩, hsw2⟩ := heqs qual kV doc pm ct (.ref cda) an cc s.heap.objs.size fI
  rw [show execs (defBody initSt) = _ from congrArg execs hbody]
  obtain ⟨hh, g, d, t, os⟩ := s
  refine ks_wpAt_execs_cons (ks_wpAt_Expr_any (ks_wpAt_MethodCall ?_ hev) hi hsw)
  refine ks_wpAt_super_base Tx.nS Tx.nC (by rfl) rfl (X1 _ _ lk) rfl har rfl (X1 _ _ hcode) rfl hvs hfile Tx.top ?_
  obtain ⟨mb, hb1, hb2⟩ := M.blt
  refine ks_loadName_global Tx.kind Tx.nS (loadGlobal_builtin (M.glob.keeps k1) (mg_none_of X1 (M.glob.keeps k1) S.hsuper) (hb1.keeps k1) ((hb2 _ (by decide +kernel)).trans (by decide +kernel)) ⟨rfl, ?_⟩)
  refine wpAny_loadName_free Tx.kind Tx.nC rfl ⟨_, X1 _ _ hcell, rfl⟩ ?_
  rw [hself]
  refine wpAny_loadName_local Tx.kind Tx.nself hns mself ?_
  refine ks_wpAny_isType_cls hC1 hC2 ⟨rfl, ?_⟩
  refine ks_wpAny_call_super hC1 hC2 he1 rfl (fun c z => by cases z) (looks_mroIn X1 S.hsub) (fun h2 hso k2 => ?_)
  have X2 : K.In h2 := X1.keeps k2
  have hI2 : Looks (model prog w) h2 (isInstance (.ref e) (.type B)) true := (show InstAt h2 e (excObj C t0 none .none) C none from ⟨k2 _ _ he1, rfl, rfl, trivial⟩).type.andThen (looks_subIn X2 S.hB)
  have hms := S.hm
  unfold ks_superIn at hms
  rw [hcl] at hms
  refine kxs_getMethod S.KF hso (looks_opaque X2 S.any) (l₀ := cd.mro) (fun A Q E s k q => wpAny_bind ((looks_clsIn X2 hcl) A _ E s k (wpAny_pure q))) rfl X2 hms hI2 eC (by decide) ?_
  have k3 : ∀ b o, h1.get? b = some o → (h2.push (kxs_mw i e)).get? b = some o := fun b o z => Heap.get?_push_of_some _ (k2 _ _ z)
  refine kxs_callWith (i := i) (x := e) (by rfl) ?_
  refine evalArgs_plain (x := eval (.Name f p3) _) (rest := []) (spliced_cons (ldf k3 (spliced_nil ⟨Heap.get?_push_size _ rfl, ?_⟩)))
  have hz : ([u] : List Value).length ≤ sizeLine := by show 1 ≤ sizeLine; rw [sizeLine_eq]; omega
  have X3 : K.In (h2.push (kxs_mw i e)) := X1.keeps k3
  obtain ⟨nm, N', qn, bs, bm, hdct, sn, sub, ab, col, dd, s0, s1, s2, s3, s5, hCC, hT⟩ := excInit_of X3 S.q
  refine wpAny_call (codeAny_of_tree ?_)
  show wpAny _ _ (callAny (.ref h2.objs.size) ⟨[u], []⟩) _ _ _
  simp only [callAny]
  refine wpAny_bind (wpAny_load (Heap.get?_push_size _ rfl) ?_)
  simp only [kxs_mw, show (Value.type "method-wrapper" == Value.type "method" || Value.type "method-wrapper" == Value.type "builtin_function_or_method" || Value.type "method-wrapper" == Value.type "method-wrapper") = true by decide, if_true]
  refine KFB.if_so (by decide) ?_
  refine wpAny_bind (S.FB.bound hCC (k3 _ _ he1) rfl ?_)
  refine wpAny_bind (wpAny_pure (wpAny_pure ?_))
  refine ⟨plainId_quiet S.FB.plain _, codeAny_builtin S.FB.entry ?_⟩
  refine exc_init_tree (cls := .ref C) (t0 := t0) (dv := none) (c2 := .none) (c3 := .none) (b4 := .bool false) (k3 _ _ he1) hz fun h4 k4 he4 ht4 => ?_
  -- self.f = v
  have k14 : ∀ b o, b ≠ e → h1.get? b = some o → h4.get? b = some o := fun b o hb z => k4 b o hb (k3 _ _ z)
  have X4 : K.In h4 := fun b o z => k14 b o (fun q => by rw [q, hKe] at z; cases z) (X1 b o z)
  have hL : hh.objs.size ≠ e := Nat.ne_of_gt (Heap.lt_size he)
  have hns4 : h4.Ns hh.objs.size _ := let ⟨oL, es, ep, z, r⟩ := hns; ⟨oL, es, ep, k14 _ _ hL z, r⟩
  have sz : hh.objs.size ≤ h4.objs.size := Nat.le_of_lt (let ⟨_, _, _, z, _⟩ := hns4; Heap.lt_size z)
  refine ks_wpAt_execs_cons (ks_wpAt_Assign_Attr (wpAt_of_wpAny (wpAny_Name (wpAny_loadName_local Tx.kind Tx.nf hns4 mf (wpAny_Name (wpAny_loadName_local Tx.kind Tx.nself hns4 mself ?_) (by decide))) Tx.dbg)) hsw2)
  have I4 : ∀ {h' : Heap}, (h'.get? e = h4.get? e) → InstAt h' e (excObj C (h2.push (kxs_mw i e)).objs.size none .none) C none := fun z => ⟨z.trans he4, rfl, rfl, trivial⟩
  refine set_plain X4 (I4 rfl) S.sa (osa_openX S.SF X4 (I4 rfl) S.over S.tk fun b => ?_)
  refine wpAny_bind (wpAny_pure (wpAny_bind (instanceDict_exc he4 (looks_clsIn X4 hcl) hdict ?_)))
  show wpAny _ _ (PySem.Builtin.ObjectAttr.storeInDict h4.objs.size _ fld u) _ _ _
  have e4 : e ≠ h4.objs.size := Nat.ne_of_lt (Heap.lt_size he4)
  have hpu : (h4.push (dictOf [] 0)).get? e = some (excObj C (h2.push (kxs_mw i e)).objs.size none .none) := Heap.get?_push_of_some _ he4
  refine HandSPX.store_in_new ⟨_, #[], _, (Heap.get?_update_ne _ _ _ _ e4.symm).trans (Heap.get?_push_at rfl rfl), rfl, fun e he => absurd he (by simp), fun _ => rfl⟩ fun h5 tk5 hn5 hs5 => ?_
  refine wpAt_of_wpAny (wpAny_execs_nil (hq h5 tk5 h4.objs.size _ (fun b o hb z => ?_) sz ((hs5.2 e e4).trans (Heap.get?_update_self _ hpu rfl)) hn5))
  have z4 : h4.get? b = some o := k14 b o hb (k1 _ _ z)
  exact (hs5.2 b (Nat.ne_of_lt (Heap.lt_size z4))).trans ((Heap.get?_update_ne _ _ _ _ hb).trans (Heap.get?_push_of_some _ z4))
end
section
open L2
variable {X : Cx} {K : PySem.W.Frag} {mg : MG} {w : World} {C fI : Addr} {B newId i : String} {bmB : List Value} {fld f x : Str} {initSt : Stmt} {e : Expr} {te : TE} {p pos : Pos} {k : Nat}
theorem mod_here {pins : List (Addr × Obj)} {σ : L2.St} {H : Hp} {s : Shared} {h' : Heap} (I : Inv X pins σ H s) (kk : ∀ b o, s.heap.get? b = some o → h'.get? b = some o) : L2.Mod X.K X.mg h' := by
  have k : ∀ b o, X.base.get? b = some o → h'.get? b = some o := fun b o z => kk _ _ (I.bk b o z)
  obtain ⟨mb, h1, h2⟩ := I.ok.mod.blt
  exact ⟨I.ok.mod.kin.keeps k, I.ok.mod.glob.keeps k, ⟨mb, h1.keeps k, h2⟩, I.ok.mod.nolimit.keeps k⟩
theorem pmk_sup (S : SupC X.prog X.K X.mg C fI B newId i bmB fld f initSt) (Tx : SupT X.prog fld f initSt) (hr : Room (k + 1) X.A) (hg : Gl X x) (hm : X.mg x = some (.ref C)) (he : PE X e te)
    (hdb : (x == ("__debug__" : Str)) = false := by decide) (hs : starEach [e] X.env = (false, eval e X.env) :: starEach [] X.env := by rfl) :
    PMk X (.Call (.Name x p) [e] [] pos) (fun σ H Q => te σ H fun v H1 => ∀ d, H1 d = none → Q (.ref C) (some d) (upd H1 d (.xd [(fld, v)]))) := by
  intro pins s σ H Q I h
  refine wpAny_Call_Name_kw (ld_glob I hg hm (PySem.W.callWith_K (h₀ := X.base) I.ok.mod.kin S.keep ?_ hs (by rfl)) hdb)
  rw [hs]
  show wpAny _ _ (spliced ((false, eval e X.env) :: backTo pos (starEach [] X.env))) _ _ s
  refine Calls.spliced_cons (thn (he.run pins s σ H _ I h) fun u s1 ⟨v, H1, I1, r1, q1⟩ => Calls.spliced_nil ⟨I1.kIn, ?_⟩)
  show wpAny _ _ (call (.ref C) [u]) _ _ _
  obtain ⟨hp, g, dr, tk, os⟩ := s1
  obtain ⟨nm, N', qn, bs, bm, hdct, sn, sub, ab, col, dd, s0, s1, s2, s3, s5, hC, hT⟩ := excInit_of I1.kIn S.q
  obtain ⟨oI, hoI, hcI⟩ : ∃ oI, hp.get? fI = some oI ∧ oI.cls = .type "function" := by
    obtain ⟨o, ho, hc⟩ := Option.map_eq_some_iff.mp (show (X.K.lookup fI).map (·.cls) = some (.type "function") from beq_iff_eq.mp S.isf)
    exact ⟨o, I1.kIn _ _ ho, hc⟩
  have hz : ([u] : List Value).length ≤ sizeLine := by show 1 ≤ sizeLine; rw [sizeLine_eq]; omega
  have hn : H1 (hp.objs.size + 1) = none := I1.hok.fresh (Nat.le_succ _)
  have kk : ∀ b o, hp.get? b = some o → ((hp.push (PySem.W.kdv_tup [u])).push (PySem.HandSPX.excO C hp.objs.size)).get? b = some o := fun b o e => Heap.get?_push_of_some _ (Heap.get?_push_of_some _ e)
  have hget : ((hp.push (PySem.W.kdv_tup [u])).push (PySem.HandSPX.excO C hp.objs.size)).get? (hp.objs.size + 1) = some (excObj C hp.objs.size none .none) := by heap_get
  have hlt : ∀ {b : Addr} {o : Obj}, hp.get? b = some o → b ≠ hp.objs.size + 1 := fun z => Nat.ne_of_lt (Nat.lt_succ_of_lt (Heap.lt_size z))
  have hKe : X.K.lookup (hp.objs.size + 1) = none := by
    cases z : X.K.lookup (hp.objs.size + 1) with
    | none => rfl
    | some o => exact absurd rfl (hlt (I1.kIn _ _ z))
  refine wpAny_call (S.FB.make hT hC (looks_findIn I1.kIn S.iC) (fun self => exc_bind hoI hcI self) hz (init_run (mg := X.mg) S Tx (mod_here I1 kk) (hr.make C [u] []).depth hget hKe fun h' tk' dx t1 k' hdx he' hn' => ⟨rfl, ?_⟩))
  have hdx' : hp.objs.size ≤ dx := Nat.le_trans (by rw [Heap.size_push, Heap.size_push]; omega) hdx
  have hdn : H1 dx = none := I1.hok.fresh hdx'
  have hde : dx ≠ hp.objs.size + 1 := fun z => by
    obtain ⟨o, es, ep, e1, e2, _⟩ := hn'
    rw [z, he'] at e1
    cases e1; cases e2
  have gk : ∀ b o, b ≠ hp.objs.size + 1 → h'.get? b = some o → (hideAll h' [hp.objs.size + 1]).get? b = some o := fun b o hb z => hideAll_get _ z (by simpa using hb)
  have J := I1.laid (t' := tk') (a := dx) (o := .xd [(fld, v)]) (h' := hideAll h' [hp.objs.size + 1]) (fun b o z => gk b o (hlt z) (k' b o (hlt z) (kk _ _ z))) hdx'
    ⟨_, hn'.at fun o y => gk dx o hde y, fun y => by
      by_cases hy : y = fld
      · subst hy; rw [if_pos rfl]; simp only [List.lookup, beq_self_eq_true]; exact r1
      · rw [if_neg hy]; simp only [List.lookup, beq_eq_false_iff_ne.mpr hy]; exact True.intro⟩
  exact ⟨hp.objs.size + 1, _, _, _, _, .ref C, some dx, rfl, J, fun b o z => of_hideAll _ z, hideAll_none _ (List.mem_singleton.mpr rfl), he', ⟨rfl, rfl⟩, rfl, rfl, by rw [upd_ne (Ne.symm hde)]; exact hn, rfl, I1.bare, raises_own S.exC S.tyC, q1 dx hdn⟩
end
/-- raise C(v) -/
structure XcS (prog : Program) (K : PySem.W.Frag) (mg : MG) (x fld : Str) : Prop where
  ex : ∃ (C fI : Addr) (B newId i : String) (bmB : List Value) (f : Str) (initSt : Stmt), SupC prog K mg C fI B newId i bmB fld f initSt ∧ SupT prog fld f initSt ∧ mg x = some (.ref C)
def raiseVS (x fld : Str) (g : En → Res D) : En → Out := fun e => (g e).thn fun v e1 => .exc ⟨.own x, some [(fld, v)]⟩ e1
section
variable {X : L2.Cx} {T : Tb} {W : L2.WX} {k : Nat} {x fld : Str} {p pos pos' : Pos} {e : Expr} {g : En → Res D}
theorem sraiseV (c : Cc X W (k + 1)) (h : XcS X.prog X.K X.mg x fld) (hg : L2.Gl X x) (he : L2.PE X e (tE X.K X.mg X.w T W g)) (hdb : (x == ("__debug__" : Str)) = false := by decide)
    (hs : starEach [e] X.env = (false, eval e X.env) :: starEach [] X.env := by rfl) : L2.PS X (.Raise (some (.Call (.Name x p) [e] [] pos)) none pos') (tS X.K X.mg X.w T W (raiseVS x fld g)) := by
  obtain ⟨C, fI, B, newId, i, bmB, f, initSt, S, Tx, gC⟩ := h.ex
  exact convS (L2.ps_raise c.calm c.tk (pmk_sup S Tx c.room hg gC he hdb hs)) fun N σ H ⟨B, F, e, R, q⟩ => ⟨B, F, e, R, PostS.step (R := Den X.K X.mg X.w) q fun F1 e1 d v H1 l1 R1 D1 q1 a ha =>
    q1 _ (.ref C) (some a) σ _ (.upd (R1.sub.free ha)) (R1.new ha rfl) ⟨gC, a, _, rfl, L2.upd_same, .cons (D1.mono (.upd (R1.sub.free ha))) .nil⟩⟩
end
end L2.PV

set_option Elab.async false
set_option linter.all false
set_option maxRecDepth 100000
set_option autoImplicit false
/-! Keyword-only parameters with defaults. -/
namespace L2.PV
open PySem PySem.Spec PyProof.Rows
section
variable {X : Cx} {CX : CXT} {k n : Nat} {f : Addr} {fd : FuncData} {ps ks : List Str} {sp : Sp} {E : St → XK} {x : Str} {p pos : Pos} {e : Expr} {es : List Expr} {kws : List Keyword} {t tk : TA} {g : List Value → List Value → List Value} {gV : List V → List V → List V}
def tCallGN (n m : Nat) (sp : Sp) (gV : List V → List V → List V) (E : St → XK) (t tk : TA) : TE := fun σ H Q => t σ H fun vs H1 => tk σ H1 fun zs H2 => vs.length = n ∧ zs.length = m ∧ sp (gV vs zs) H2 Q (E σ)
theorem pe_callGN (F : FnG X.prog X.w X.K X.mg X.base CX k f fd ps sp) (gd : X.A.guards = some []) (hr : Room k X.A) (hg : Gl X x) (hm : X.mg x = some (.ref f)) (hk : PySem.W.keepIn X.K (.ref f) = true) (hb : KBn X.K fd ps n ks g gV) (hx : ∀ σ, PassesAt CX X σ (E σ))
    (ha : PA X (e :: es) t) (hkw : PK X kws tk) (hall : (backToKw pos (keywordEach kws X.env)).all (·.1.isSome) = true) (hks : (backToKw pos (keywordEach kws X.env)).filterMap (·.1) = ks)
    (hdb : (x == ("__debug__" : Str)) = false) (he : starEach (e :: es) X.env = (false, eval e X.env) :: starEach es X.env)
    (hpl : ((backTo pos (starEach (e :: es) X.env)).any (·.1) || (backToKw pos (keywordEach kws X.env)).any (·.1.isNone)) = false) :
    PE X (.Call (.Name x p) (e :: es) kws pos) (tCallGN n ks.length sp gV E t tk) := by
  refine ⟨fun pins s σ H Q I h => wpAny_Call_Name_kw (ld_glob I hg hm (PySem.W.callWith_KW (h₀ := X.base) I.ok.mod.kin hk hall (thn (ha.run pos pins s σ H _ I h) fun us s1 ⟨vs, H1, I1, r, q⟩ => ?_) hpl he) hdb)⟩
  refine thn (hkw.run pos pins s1 σ H1 _ I1 q) fun ws s2 ⟨zs, H2, I2, rz, l1, l2, q2⟩ => ⟨I2.kIn, ?_⟩
  rw [hks]
  refine wpAny_call (codeAny_mono (F.run X.A X.stack s2 H2 ⟨us, ks.zip ws⟩ (g us ws) (gV vs zs) Q (E σ) gd hr I2.env0 (hb.to s2 us ws I2.kIn (r.length.symm.trans l1) (rz.length.symm.trans l2)) (hb.rel r rz) q2) fun r s' hq => ?_)
  match r, hq with
  | .error e, hq => exact hx σ pins H2 s2 e s' I2 hq
  | .ok (.ret u), hq => exact I2.after hq
  | .ok .next, hq => exact hq.elim
  | .ok .brk, hq => exact hq.elim
  | .ok .cont, hq => exact hq.elim
end
/-! ### by pure values -/
section
variable {X : Cx} {T : Tb} {W : WX} {ga : En → Res D} {gk : En → Res (List Ar)} {kws : List Keyword} {e : Expr} {nm : Option Str} {kpos : Pos}
theorem convPK {t t' : TA} (h : PK X kws t) (k : ∀ σ H Q, t' σ H Q → t σ H Q) : PK X kws t' := ⟨fun po pins s σ H Q I q => h.run po pins s σ H Q I (k σ H Q q)⟩
theorem kwnil : PK X [] (tA X.K X.mg X.w T W nilA) := convPK pk_nil fun σ H Q ⟨B, F, e, R, h⟩ => h.ret R trivial
theorem kwcons (ha : PE X e (tE X.K X.mg X.w T W ga)) (hr : PK X kws (tA X.K X.mg X.w T W gk)) : PK X (⟨nm, e, kpos⟩ :: kws) (tA X.K X.mg X.w T W (consA ga gk)) := convPK (pk_cons ha hr) fun σ H Q ⟨B, F, e, R, h⟩ =>
  ⟨B, F, e, R, h.step fun F1 e1 d x H1 l1 R1 D1 h1 => ⟨B, F1, e1, R1, h1.step fun F2 e2 ds xs H2 l2 R2 D2 h2 => h2.ret R2 ⟨D1.mono l2, D2⟩⟩⟩
end
/-- the values in the parameters' order: m of the keyword-only defaults fill up -/
def catA (dfl : List D) (ga gk : En → Res (List Ar)) : En → Res (List Ar) := fun e => (ga e).bind fun as e1 => (gk e1).bind fun zs e2 => .ok (as ++ zs ++ dfl.map .v) e2
/-- a def of n positional parameters and keyword-only ones with the defaults kwsD -/
structure FdD (K : PySem.W.Frag) (mg : MG) (w : World) (x : Str) (st : Stmt) (kwsD : List (Str × D)) : Prop where
  ex : ∃ (fa : Addr) (fd : FuncData) (kws : List (Str × V)), FunD K x x (defArgs st) (defBody st) (defScope st) [] kws fa fd ∧ mg x = some (.ref fa) ∧ kws.map (·.1) = kwsD.map (·.1) ∧ ∀ F, DenL K mg w F (kwsD.map (·.2)) (kws.map (·.2))
structure ClD (P : Program) (w : World) (K : PySem.W.Frag) (mg : MG) (base : Heap) (T : Tb) (j : Nat) (x : Str) (st : Stmt) (ps : List Str) (kwsD : List (Str × D)) (f : En → Res D) : Prop where
  ex : ∃ (fa : Addr) (fd : FuncData) (kws : List (Str × V)), FnG P w K mg base (L2.CX P w) j fa fd ps (spV K mg w T ps.length f) ∧ FunD K x x (defArgs st) (defBody st) (defScope st) [] kws fa fd ∧ mg x = some (.ref fa) ∧ kws.map (·.1) = kwsD.map (·.1) ∧ ∀ F, DenL K mg w F (kwsD.map (·.2)) (kws.map (·.2))
theorem clD {P : Program} {w : World} {K : PySem.W.Frag} {mg : MG} {base : Heap} {T : Tb} {x : Str} {st : Stmt} {N ps : List Str} {k : Nat} {body : En → Out} {kwsD : List (Str × D)} (F : FdD K mg w x st kwsD) (S : FnScope N ps (defScope st))
    (hb : ∀ (f : Addr) (cdv : Value) (A : Around) (outer : List Env) (s : Shared) (H : Hp) (E : XK), Cc (dX P w K mg base N x st f cdv A outer s H E) (dW E) k →
      PSs (dX P w K mg base N x st f cdv A outer s H E) (defBody st) (tS K mg w T (dW E) body)) : ClD P w K mg base T (k + 1) x st ps kwsD (defV N.length body) := by
  obtain ⟨fa, fd, kws, F1, hm, h1, h2⟩ := F.ex
  obtain ⟨oc, od, dV, kV, doc, pm, an, cdv, ct, osl, rfl, lk, hcd, a1, a2⟩ := F1.ex
  refine ⟨fa, _, kws, fnG_of lk hcd S (fun vs H Q E h => h.1) fun A outer s H vs Q E g hr h => ?_, F1, hm, h1, h2⟩
  exact okV_core (ps := ps) (hb fa cdv A outer s H E ⟨rfl, takes_of rfl rfl rfl rfl, passes_of rfl, hr, S.nd, g⟩) h
theorem ArsOk.append {K : PySem.W.Frag} {mg : MG} {w : World} {σ : St} {F : Hp} : ∀ {as zs : List Ar} {vs ws : List V}, ArsOk K mg w σ F as vs → ArsOk K mg w σ F zs ws → ArsOk K mg w σ F (as ++ zs) (vs ++ ws)
  | [], _, [], _, _, h => h
  | _ :: as, _, _ :: vs, _, ⟨h1, h2⟩, h => ⟨h1, ArsOk.append h2 h⟩
  | [], _, _ :: _, _, h, _ => h.elim
  | _ :: _, _, [], _, h, _ => h.elim
theorem ArsOk.dens {K : PySem.W.Frag} {mg : MG} {w : World} {σ : St} {F : Hp} : ∀ {ds : List D} {vs : List V}, DenL K mg w F ds vs → ArsOk K mg w σ F (ds.map .v) vs
  | [], [], .nil => trivial
  | _ :: _, _ :: _, .cons h t => ⟨h, ArsOk.dens t⟩
theorem vals_app {as bs : List V} {us ws : List Value} (h : Vals as us) (h' : Vals bs ws) : Vals (as ++ bs) (us ++ ws) := h.append h'
section
variable {X : Cx} {T : Tb} {W : WX} {k j n : Nat} {f : En → Res D} {x : Str} {st : Stmt} {ps ks : List Str} {kwsD : List (Str × D)} {p pos : Pos} {e : Expr} {es : List Expr} {kws : List Keyword} {ga gk : En → Res (List Ar)}
/-- the call, some way to bind given -/
theorem ecl_bind {fa : Addr} {fd : FuncData} (dfl : List D) (dvs : List V) {g : List Value → List Value → List Value} (c : Cc X W k) (Fn : FnG X.prog X.w X.K X.mg X.base (L2.CX X.prog X.w) j fa fd ps (spV X.K X.mg X.w T ps.length f)) (hj : j ≤ k) (hg : Gl X x) (hm : X.mg x = some (.ref fa)) (hk : PySem.W.keepIn X.K (.ref fa) = true)
    (hb : KBn X.K fd ps n ks g (fun vs zs => vs ++ zs ++ dvs)) (hd : ∀ F, DenL X.K X.mg X.w F dfl dvs) (ha : PA X (e :: es) (tA X.K X.mg X.w T W ga)) (hkw : PK X kws (tA X.K X.mg X.w T W gk))
    (hla : ∀ as en en', ga en = .ok as en' → as.length = n) (hlk : ∀ as en en', gk en = .ok as en' → as.length = ks.length) (hn : n + ks.length + dfl.length = ps.length)
    (hall : (backToKw pos (keywordEach kws X.env)).all (·.1.isSome) = true) (hks : (backToKw pos (keywordEach kws X.env)).filterMap (·.1) = ks)
    (hdb : (x == ("__debug__" : Str)) = false) (he : starEach (e :: es) X.env = (false, eval e X.env) :: starEach es X.env)
    (hpl : ((backTo pos (starEach (e :: es) X.env)).any (·.1) || (backToKw pos (keywordEach kws X.env)).any (·.1.isNone)) = false) :
    PE X (.Call (.Name x p) (e :: es) kws pos) (tE X.K X.mg X.w T W (callG f (catA dfl ga gk))) := conv (pe_callGN (E := WE W) Fn c.gd (c.room.mono hj) hg hm hk hb (passAt c.tk) ha hkw hall hks hdb he hpl) fun σ H Q ⟨B, F, e, R, h⟩ => by
  refine ⟨B, F, e, R, ?_⟩
  unfold callG catA at h
  cases hq : ga e with
  | bad => rw [hq] at h; exact h
  | exc x e' => rw [hq] at h; exact h
  | ok as e' =>
    rw [hq] at h
    intro F1 vs H1 l1 R1 A1
    have h := Post.le h l1
    simp only [Res.bind] at h
    refine ⟨B, F1, e', R1, ?_⟩
    cases hq2 : gk e' with
    | bad => rw [hq2] at h; exact h
    | exc x e2 => rw [hq2] at h; exact h
    | ok zs e2 =>
      rw [hq2] at h
      intro F2 ws H2 l2 R2 A2
      have h := Post.le h l2
      simp only at h
      have AA : ArsOk X.K X.mg X.w σ F2 (as ++ zs ++ dfl.map .v) (vs ++ ws ++ dvs) := ((A1.mono l2).append A2).append (ArsOk.dens (hd F2))
      have L1 : vs.length = n := by rw [← (args_get (j := 0) A1).2]; exact hla as e e' hq
      have L2 : ws.length = ks.length := by rw [← (args_get (j := 0) A2).2]; exact hlk zs e' e2 hq2
      have L3 : dvs.length = dfl.length := (hd F2).length.symm
      refine ⟨L1, L2, ?_⟩
      split at h
      · rename_i nd
        split at h
        · rename_i args hm
          exact call_post (by rw [List.length_append, List.length_append, L1, L2, L3]; exact hn) R2 AA nd hm h
        · exact h.elim
      · exact h.elim
/-- f(e, ..): every keyword-only default is taken -/
theorem eclD0 (c : Cc X W k) (C : ClD X.prog X.w X.K X.mg X.base T j x st ps kwsD f) (hj : j ≤ k) (hg : Gl X x) (ha : PA X (e :: es) (tA X.K X.mg X.w T W ga)) (hla : ∀ as en en', ga en = .ok as en' → as.length = n) (hk0 : kwsD ≠ []) (hn : n + kwsD.length = ps.length)
    (hbi : ∀ (D : Addr) (doc pm : Value) (an : Option Addr) (cdv ct : Value) (us mv : List Value), us.length = n → mv.length = kwsD.length →
      KwChain D ((kwsD.map (·.1)).zip mv) (bindArgs (PySem.W.fnOf x x (defArgs st) (defBody st) (defScope st) .none (.ref D) doc pm an cdv ct) ⟨us, []⟩) (ps.zip (us ++ mv)))
    (hdb : (x == ("__debug__" : Str)) = false := by decide) (he : starEach (e :: es) X.env = (false, eval e X.env) :: starEach es X.env := by rfl)
    (hpl : ((backTo pos (starEach (e :: es) X.env)).any (·.1) || (backToKw pos (keywordEach [] X.env)).any (·.1.isNone)) = false := by rfl) :
    PE X (.Call (.Name x p) (e :: es) [] pos) (tE X.K X.mg X.w T W (callG f (catA (kwsD.map (·.2)) ga nilA))) := by
  obtain ⟨fa, fd, kws, Fn, FD, hm, e1, e2⟩ := C.ex
  have hl : kws.length = kwsD.length := by rw [← List.length_map (f := (·.1)), e1, List.length_map]
  have hne : kws ≠ [] := fun z => hk0 (by rw [z] at hl; exact List.length_eq_zero_iff.mp hl.symm)
  obtain ⟨mv, hb⟩ := FD.kbinds0 (ps := ps) n [] kws (fun us mv ws => us ++ ws ++ mv) hne (fun q hq => hq) (fun r1 r2 r3 => (r1.append r3).append r2) fun D doc pm an cdv ct us mv ws l1 l2 l3 => by
    have : ws = [] := List.length_eq_zero_iff.mp l3
    subst this
    have := hbi D doc pm an cdv ct us mv l1 (l2.trans hl)
    rw [← e1] at this
    simpa using this
  exact ecl_bind (kwsD.map (·.2)) (kws.map (·.2)) c Fn hj hg hm FD.kp hb e2 ha kwnil hla (fun as en en' h => by cases h; rfl) (by rw [List.length_map]; exact hn) rfl rfl hdb he hpl
/-- f(e, .., k = v, ..): all the keyword-only ones are told, in their order -/
theorem eclDA (c : Cc X W k) (C : ClD X.prog X.w X.K X.mg X.base T j x st ps kwsD f) (hj : j ≤ k) (hg : Gl X x) (ha : PA X (e :: es) (tA X.K X.mg X.w T W ga)) (hkw : PK X kws (tA X.K X.mg X.w T W gk)) (hla : ∀ as en en', ga en = .ok as en' → as.length = n) (hlk : ∀ as en en', gk en = .ok as en' → as.length = ks.length)
    (hk0 : kwsD ≠ []) (hn : n + ks.length = ps.length)
    (hbi : ∀ (D : Addr) (doc pm : Value) (an : Option Addr) (cdv ct : Value) (us ws : List Value), us.length = n → ws.length = ks.length →
      bindArgs (PySem.W.fnOf x x (defArgs st) (defBody st) (defScope st) .none (.ref D) doc pm an cdv ct) ⟨us, ks.zip ws⟩ = pure (ps.zip (us ++ ws)))
    (hall : (backToKw pos (keywordEach kws X.env)).all (·.1.isSome) = true := by rfl) (hks : (backToKw pos (keywordEach kws X.env)).filterMap (·.1) = ks := by rfl)
    (hdb : (x == ("__debug__" : Str)) = false := by decide) (he : starEach (e :: es) X.env = (false, eval e X.env) :: starEach es X.env := by rfl)
    (hpl : ((backTo pos (starEach (e :: es) X.env)).any (·.1) || (backToKw pos (keywordEach kws X.env)).any (·.1.isNone)) = false := by rfl) :
    PE X (.Call (.Name x p) (e :: es) kws pos) (tE X.K X.mg X.w T W (callG f (catA [] ga gk))) := by
  obtain ⟨fa, fd, kws0, Fn, FD, hm, e1, e2⟩ := C.ex
  have hl : kws0.length = kwsD.length := by rw [← List.length_map (f := (·.1)), e1, List.length_map]
  have hne : kws0 ≠ [] := fun z => hk0 (by rw [z] at hl; exact List.length_eq_zero_iff.mp hl.symm)
  obtain ⟨mv, hb⟩ := FD.kbinds0 (ps := ps) n ks [] (fun us mv ws => us ++ ws ++ mv) hne (fun q hq => by cases hq) (fun r1 r2 r3 => (r1.append r3).append r2) fun D doc pm an cdv ct us mv ws l1 l2 l3 => by
    have : mv = [] := List.length_eq_zero_iff.mp l2
    subst this
    show bindArgs _ _ = pure _
    rw [List.append_nil]
    exact hbi D doc pm an cdv ct us ws l1 l3
  exact ecl_bind [] [] c Fn hj hg hm FD.kp hb (fun _ => .nil) ha hkw hla hlk (by simpa using hn) hall hks hdb he hpl
end
end L2.PV

set_option Elab.async false
set_option linter.all false
set_option maxRecDepth 100000
set_option autoImplicit false
namespace L2.PV
open PySem PySem.Spec PyProof.Rows
theorem XcV.here {K : PySem.W.Frag} {mg : MG} {x : Str} (h : XcV K mg x) : ∃ C, mg x = some C := let ⟨C, _, _, _, _, _, m, _⟩ := h.ex; ⟨_, m⟩
theorem XcS.here {P : Program} {K : PySem.W.Frag} {mg : MG} {x f : Str} (h : XcS P K mg x f) : ∃ C, mg x = some C := let ⟨C, _, _, _, _, _, _, _, _, _, m⟩ := h.ex; ⟨_, m⟩
theorem hu64 {k : Nat} {A : Around} (r : Room k A) : A.units + 64 < cLine := r.units
theorem hu64d {A : Around} (r : Room 2 A) (env : Env) (h : Option Value) : ((A.deeper env).mark h).units + 64 < cLine := by have := r.un; show A.units + 3 + 64 < cLine; omega
/-! ### a clause's result does not hang on the error's address -/
def Cm (g : En → Res D) (e : En) (o : Option D) : Prop := g e = lift o e
theorem cm_const {d : D} {e : En} : Cm (constG d) e (some d) := rfl
theorem cm_op2 {f : D → D → Option D} {ga gb : En → Res D} {e : En} {a b : Option D} (ha : Cm ga e a) (hb : Cm gb e b) : Cm (op2G f ga gb) e (a.bind fun x => b.bind fun y => f x y) := by
  unfold Cm op2G
  rw [show ga e = lift a e from ha]
  cases a with
  | none => rfl
  | some x =>
    show (gb e).bind _ = _
    rw [show gb e = lift b e from hb]
    cases b <;> rfl
theorem cm_blt1 {f : List D → Option D} {ga : En → Res D} {e : En} {a : Option D} (ha : Cm ga e a) : Cm (bltG f (consA ga nilA)) e (a.bind fun x => f [x]) := by
  unfold Cm bltG consA
  rw [show ga e = lift a e from ha]
  cases a <;> rfl
theorem cm_exf {n i : Nat} {a : Addr} {d : Option Addr} {x : Ex} {C f : Str} (h : i < n) : Cm (exfG a d x C i f) ((une n).set i (.val (xnD a d x))) (if isC x C = true then x.fs.bind (List.lookup f) else none) := by
  unfold Cm exfG
  rw [List.getElem?_set_self (by unfold une; rw [List.length_replicate]; exact h)]
  unfold xnD
  cases q : x.fs with
  | none =>
    simp only []
    have : (if isC x C = true then (none : Option (List (Str × D))).bind (List.lookup f) else none) = none := by split <;> rfl
    rw [this]
    split <;> rfl
  | some fs =>
    simp only []
    by_cases hc : isC x C = true
    · rw [if_pos (by simp [hc]), if_pos hc]; rfl
    · rw [if_neg fun z => hc z.2.2, if_neg hc]; rfl
section
variable {sub : Str → Str → Option Bool} {n : Nat} {y : Ex} {rs : En → Out}
def Same (sub : Str → Str → Option Bool) (n : Nat) (y : Ex) (rs : En → Out) (hs : List HdF) : Prop := ∀ ea dd, outD (thenO (hdsOut sub n ea dd y hs) rs) = outD (thenO (hdsOut sub n 0 (some 0) y hs) rs)
def Same1 (n : Nat) (y : Ex) (rs : En → Out) (h : HdF) : Prop := ∀ ea dd, outD (thenO (hdRun h n ea dd y) rs) = outD (thenO (hdRun h n 0 (some 0) y) rs)
theorem same_nil : Same sub n y rs [] := fun _ _ => rfl
theorem same_cons {h : HdF} {hs : List HdF} (h1 : Same1 n y rs h) (h2 : Same sub n y rs hs) : Same sub n y rs (h :: hs) := fun ea dd => by
  unfold hdsOut
  cases y.cls with
  | blt z => rfl
  | own z =>
    simp only []
    cases sub z h.cls with
    | none => rfl
    | some b => cases b with
      | true => exact h1 ea dd
      | false => exact h2 ea dd
theorem same_ret {C : Str} {i : Nat} {run : Addr → Option Addr → Ex → En → Out} {o : Option D} (h : ∀ ea dd, ∃ g, run ea dd y = retS g ∧ Cm g ((une n).set i (.val (xnD ea dd y))) o) : Same1 n y rs ⟨C, some i, run⟩ := by
  have key : ∀ ea dd, outD (thenO (hdRun ⟨C, some i, run⟩ n ea dd y) rs) = o := fun ea dd => by
    obtain ⟨g, h1, h2⟩ := h ea dd
    unfold hdRun
    simp only [h1, retS]
    rw [show g _ = lift o _ from h2]
    cases o <;> rfl
  exact fun ea dd => (key ea dd).trans (key 0 (some 0)).symm
end
end L2.PV

set_option Elab.async false
set_option linter.all false
set_option maxRecDepth 100000
set_option autoImplicit false
/-! The end of a law: its def called once, by the caller whose every promise we know. -/
namespace L2.PV
open PySem PySem.Spec PyProof.Rows LamX
/-- what is tracked when the law's def is called: the script, the tables of code objects -/
def lawH (a : Addr) (ob : Obj) (xs : List V) (cs : List (Addr × Addr)) : Hp := fun b => if b = a then some (.frz ob (.lst xs)) else if b ∈ cs.map (·.2) then some (.tbl #[]) else none
theorem lawH_a {a : Addr} {ob : Obj} {xs : List V} {cs : List (Addr × Addr)} : lawH a ob xs cs a = some (.frz ob (.lst xs)) := if_pos rfl
theorem lawH_t {a b : Addr} {ob : Obj} {xs : List V} {cs : List (Addr × Addr)} (h : b ≠ a) (hb : b ∈ cs.map (·.2)) : lawH a ob xs cs b = some (.tbl #[]) := (if_neg h).trans (if_pos hb)
theorem lawH_n {a b : Addr} {ob : Obj} {xs : List V} {cs : List (Addr × Addr)} (h : b ≠ a) (hb : b ∉ cs.map (·.2)) : lawH a ob xs cs b = none := (if_neg h).trans (if_neg hb)
theorem lawH_cases {a b : Addr} {ob : Obj} {xs : List V} {cs : List (Addr × Addr)} {u : HO} (h : lawH a ob xs cs b = some u) : (b = a ∧ u = .frz ob (.lst xs)) ∨ (b ≠ a ∧ b ∈ cs.map (·.2) ∧ u = .tbl #[]) := by
  by_cases hb : b = a
  · subst hb; rw [lawH_a] at h; cases h; exact .inl ⟨rfl, rfl⟩
  · by_cases ht : b ∈ cs.map (·.2)
    · rw [lawH_t hb ht] at h; cases h; exact .inr ⟨hb, ht, rfl⟩
    · rw [lawH_n hb ht] at h; cases h
section
variable {P : Program} {w : World} {K : PySem.W.Frag} {mg mb : MG} {CX : CXT} {k : Nat} {fa a : Addr} {cs : List (Addr × Addr)} {fd : FuncData} {x : Str} {sp : Sp} {s₁ : Shared} {vs : List Value} {ns : List Int}
theorem law_callG (KX : K.In s₁.heap) (hns : s₁.heap.Ns mainGlobals mg) (hb : s₁.heap.Ns builtinsNs mb) (hbb : ∀ x : Str, x ≠ "__name__" → mb x = bootBuiltins x) (hlim : s₁.heap.NoLimit) (hg : s₁.gens = #[])
    (hT : ∀ p ∈ cs, s₁.heap.get? p.2 = some { cls := .none, data := .fields #[] }) (nT : ∀ p ∈ cs, K.lookup p.2 = none) (C : ∀ p ∈ cs, PySem.W.CodeHd s₁.heap p.1 p.2)
    (hbm : ∃ (bm : Addr) (ob : Obj), mg "__builtins__" = some (.ref bm) ∧ bm ≠ builtinsNs ∧ s₁.heap.get? bm = some ob ∧ ob.cls = .type "module" ∧ ob.dict = some builtinsNs ∧ ob.data = .plain)
    (ha : s₁.heap.get? a = some { cls := .type "list", data := .seq vs.toArray }) (hi : IntsAre vs ns) (hl : ns.length ≤ sizeLine) (nA : K.lookup a = none) (hr : Room k callerA)
    (F : ∀ base : Heap, K.In base → base.Ns mainGlobals mg → (∀ p ∈ cs, TabB base mg p.1 p.2) → FnG P w K mg base CX k fa fd [x] sp) (hbind : ∀ (s : Shared) (u : Value), BindsTo s fd ⟨[u], []⟩ [(x, u)])
    (hsp : sp [.ref a] (lawH a { cls := .type "list", data := .seq vs.toArray } (ns.map V.int) cs) (fun v _ => v = .bl true) fun _ _ _ => False)
    (hCX : ∀ H e s', CX [] H s₁ (fun _ _ _ => False) e s' → False) :
    codeAny (model P w) callerA (.call (.ref fa) ⟨[.ref a], []⟩) (fun r s' => r = .ok (.ret (.bool true)) ∧ OldK s₁.heap s'.heap ∧ s'.os = s₁.os ∧ AllBare s'.gens) s₁ := by
  have rv := vals_ints hi
  have lenV := hi.length
  let ob : Obj := { cls := .type "list", data := .seq vs.toArray }
  let H : Hp := lawH a ob (ns.map V.int) cs
  have isT : ∀ b, b ∈ cs.map (·.2) → s₁.heap.get? b = some { cls := .none, data := .fields #[] } := fun b hb => by
    obtain ⟨p, hp, e⟩ := List.mem_map.mp hb
    rw [← e]; exact hT p hp
  have aT : a ∉ cs.map (·.2) := fun z => by
    have q := isT a z
    rw [ha] at q; cases q
  -- nothing else is tracked
  have free : ∀ {b : Addr} {o : Obj}, s₁.heap.get? b = some o → (∀ vs n, o.data ≠ .seq vs n) → o.data ≠ .fields #[] → H b = none := fun {b o} e h1 h2 => by
    refine lawH_n (fun z => ?_) fun z => ?_
    · rw [z, ha] at e; cases e; exact h1 _ _ rfl
    · rw [isT b z] at e; cases e; exact h2 rfl
  have hok : HOk P w H s₁.heap := fun b u z => by
    rcases lawH_cases z with ⟨rfl, rfl⟩ | ⟨_, hb, rfl⟩
    · exact ⟨ha, by rw [List.length_map]; exact hl, vs, _, rv, ha⟩
    · exact isT b hb
  have keep : ∀ {b : Addr} {o : Obj}, s₁.heap.get? b = some o → H b = none → (hidT s₁.heap H).get? b = some o := fun e n => hidT_get e n
  have keepNs : ∀ {b : Addr} {m : MG}, s₁.heap.Ns b m → (hidT s₁.heap H).Ns b m := fun {b m} ⟨o, es, ep, e, d, r⟩ => ⟨o, es, ep, keep e (free e (fun _ _ z => by rw [d] at z; cases z) fun z => by rw [d] at z; cases z), d, r⟩
  have hK : K.In (hidT s₁.heap H) := fun b o e => keep (KX b o e) (lawH_n (fun z => by rw [z, nA] at e; cases e) fun z => by
    obtain ⟨p, hp, ep⟩ := List.mem_map.mp z
    rw [← ep, nT p hp] at e; cases e)
  have hM : L2.Mod K mg (hidT s₁.heap H) := ⟨hK, keepNs hns, ⟨mb, keepNs hb, hbb⟩, let ⟨mc, h1, h2⟩ := hlim; ⟨mc, keepNs h1, h2⟩⟩
  have TB : ∀ p ∈ cs, TabB (hidT s₁.heap H) mg p.1 p.2 := fun p hp => by
    refine ⟨?_, ?_, fun z => ?_⟩
    · obtain ⟨o, us, file, tf, flags, tg, inF, text, tt, e1, r1, r2, r3, r⟩ := C p hp
      exact ⟨o, us, file, tf, flags, tg, inF, text, tt, keep e1 (free e1 (fun _ _ z => by rw [r2] at z; cases z) fun z => by rw [r2] at z; cases z; simp at r3), r1, r2, r3, r⟩
    · obtain ⟨bm, om, b1, b2, b3, b4, b5, b6⟩ := hbm
      refine ⟨bm, om, b1, b2, fun q => ?_, fun q => ?_, keep b3 (free b3 (fun _ _ z => by rw [b6] at z; cases z) fun z => by rw [b6] at z; cases z), b4, b5, b6⟩
      · obtain ⟨o, es, ep, e, hd, _⟩ := hns
        rw [q, e] at b3; cases b3; rw [hd] at b6; cases b6
      · rw [q, hT p hp] at b3; cases b3; cases b6
    · obtain ⟨o, es, ep, e, hd, _⟩ := hns
      rw [z, hT p hp] at e; cases e; cases hd
  have e0 : Env0 P w K mg (hidT s₁.heap H) callerA [] s₁ H := ⟨rfl, hM, fun b o e => of_hidT e, Nat.le_of_eq (hidT_size _ _), trivial, fun b hb => absurd (show b ∈ ([] : List Addr) from hb) (by simp), hok, .of_eq hg⟩
  refine codeAny_mono ((F _ hK (keepNs hns) TB).run callerA [] s₁ H ⟨[.ref a], []⟩ [.ref a] [.ref a] _ _ rfl hr e0 (hbind s₁ (.ref a)) (.cons rfl .nil) hsp) fun r s' h => ?_
  match r, h with
  | .error e, h => exact (hCX H e s' h).elim
  | .ok .next, h => exact h.elim
  | .ok .brk, h => exact h.elim
  | .ok .cont, h => exact h.elim
  | .ok (.ret u), h =>
    obtain ⟨v, H', os, bare, un, hok', r', q⟩ := h
    have q : v = .bl true := q
    subst q
    obtain rfl : u = Value.bool true := r'
    have same : ∀ b o, b ∉ cs.map (·.2) → s₁.heap.get? b = some o → s'.heap.get? b = some o := fun b o nb e => by
      by_cases hba : b = a
      · subst hba
        rw [ha] at e; cases e
        exact (hok' b _ (un.frzs b ob _ lawH_a)).1
      · exact un.keep b o e (lawH_n hba nb) (by intro z; exact absurd (show b ∈ ([] : List Addr) from z) (by simp)) (by simp)
    have grown : ∀ b, b ∈ cs.map (·.2) → ∃ more : Array Value, s'.heap.get? b = some { cls := .none, data := .fields more } := fun b hb => by
      obtain ⟨more, z⟩ := un.tbls b #[] (lawH_t (fun z => aT (z ▸ hb)) hb)
      exact ⟨_, hok' b _ z⟩
    refine ⟨rfl, ⟨fun b o e => ?_, fun b o e => ?_⟩, os, bare⟩
    · by_cases hb : b ∈ cs.map (·.2)
      · obtain ⟨p, hp, ep⟩ := List.mem_map.mp hb
        obtain ⟨more, hm⟩ := grown b hb
        rw [isT b hb] at e
        cases e
        rw [← ep] at hm ⊢
        exact .inr (.inl ⟨((C p hp).tab (hT p hp)).isCodeTable, rfl, #[], more, rfl, by rw [Array.empty_append]; exact hm⟩)
      · exact .inl (same b o hb e)
    · by_cases hb : b ∈ cs.map (·.2)
      · obtain ⟨more, hm⟩ := grown b hb; exact ⟨_, hm⟩
      · exact ⟨o, same b o hb e⟩
end
/-- the law's def promises what its pure values say -/
theorem spV_law {K : PySem.W.Frag} {mg : MG} {w : World} {cs : List (Addr × Addr)} {T : Tb} {f : En → Res D} {a : Addr} {vs : List Value} {ns : List Int} {e' : En} (hT : ∀ p ∈ T, p.1 ∈ cs.map (·.2)) (aT : a ∉ cs.map (·.2)) (hf : f [.val (.lst (ns.map .int))] = .ok (.bl true) e') :
    spV K mg w T 1 f [.ref a] (lawH a { cls := .type "list", data := .seq vs.toArray } (ns.map V.int) cs) (fun v _ => v = .bl true) fun _ _ _ => False := by
  refine ⟨rfl, ⟨kn T (lawH a { cls := .type "list", data := .seq vs.toArray } (ns.map V.int) cs), fun b => if b = a then some (.lst (ns.map V.int)) else none, fun _ => none⟩, _, [.val (.lst (ns.map .int))], rfl, rfl, ?_, fun s hs => ?_, ?_⟩
  · refine ⟨fun b u q => ?_, fun b o q _ _ => (kn_sub q).1, fun b o q t => (kn_sub q).2 t, fun p hp => ?_, Le.refl _, fun _ _ h => .inl h, rfl, fun i s hs => ?_, fun i b hb => (by cases hb), fun i j b s t h1 h2 h3 _ _ _ => ?_, fun b u q => ?_⟩
    · by_cases hb : b = a
      · subst hb
        have q : (if b = b then some (HO.lst (ns.map V.int)) else none) = some u := q
        rw [if_pos rfl] at q; cases q
        exact .inr ⟨_, lawH_a⟩
      · have q : (if b = a then some (HO.lst (ns.map V.int)) else none) = some u := q
        rw [if_neg hb] at q; cases q
    · exact TabS.nil (lawH_t (fun z => aT (z ▸ hT p hp)) (hT p hp))
    · match i, hs with
      | 0, hs =>
        cases hs
        refine ⟨.ref a, rfl, .lst (vs := ns.map V.int) (by show (if a = a then _ else _) = _; rw [if_pos rfl]) ?_⟩
        exact DenL.ofMap (fun z => .int z) ns
    · match i, h1 with
      | 0, h1 => cases h1; cases h3
    · have q : (if b = a then some (HO.lst (ns.map V.int)) else none) = some u := q
      split at q
      · cases q; rfl
      · cases q
  · rcases List.mem_cons.mp hs with rfl | hs
    · exact .inl ⟨_, rfl⟩
    · cases hs
  · rw [hf]
    intro F' v H' _ _ hd
    cases hd; rfl
/-- no list of the module's own is written in K -/
def noLists (K : PySem.W.Frag) : Bool := K.all fun p => !(p.2.cls == .type "list")
theorem mem_lk {a : Addr} {o : Obj} : ∀ {K : List (Addr × Obj)}, K.lookup a = some o → (a, o) ∈ K
  | (b, u) :: r, e => by
    by_cases h : (a == b) = true
    · simp only [List.lookup, h] at e
      rw [beq_iff_eq.mp h, Option.some.inj e]
      exact List.mem_cons_self
    · have h : (a == b) = false := by simpa using h
      simp only [List.lookup, h] at e
      exact List.mem_cons_of_mem _ (mem_lk e)
theorem noLists_at {K : PySem.W.Frag} {a : Addr} {o : Obj} (h : noLists K = true) (e : K.lookup a = some o) : o.cls ≠ .type "list" := fun z => by
  have := List.all_eq_true.mp h (a, o) (mem_lk e)
  simp [z] at this
end L2.PV

set_option Elab.async false
set_option linter.all false
set_option maxRecDepth 100000
set_option autoImplicit false
namespace L2.PV
open PySem PySem.Spec PyProof.Rows LamX
theorem cx_no {P : Program} {w : World} {H : Hp} {s : Shared} {e : Value} {s' : Shared} (h : L2.CX P w [] H s (fun _ _ _ => False) e s') : False := by
  obtain ⟨_, _, _, _, _, _, _, _, _, _, _, _, z⟩ := h
  exact z
/-- what a law's text must show: its code objects, its def's promise, its answer -/
structure LawG (q : Program) (l : PySem.W.OpenLaw) (w : World) (K : PySem.W.Frag) (mg : MG) (n k : Nat) (x : Str) (fa : Addr) (cs : List (Addr × Addr)) (T : Tb) (f : En → Res D) : Prop where
  tabs : ∀ p ∈ cs, ∃ y d, (recsOf q).find? (fun e => e.name == y) = some d ∧ PySem.W.tabIn K y = some p
  nT : ∀ p ∈ cs, K.lookup p.2 = none
  nl : noLists K = true
  tT : ∀ p ∈ T, p.1 ∈ cs.map (·.2)
  bind : ∃ fd : FuncData, (∀ (s : Shared) (u : Value), BindsTo s fd ⟨[u], []⟩ [(x, u)]) ∧ ∀ base : Heap, K.In base → base.Ns mainGlobals mg → (∀ p ∈ cs, TabB base mg p.1 p.2) → FnG l.prog w K mg base (L2.CX l.prog w) k fa fd [x] (spV K mg w T 1 f)
theorem walkG {l : PySem.W.OpenLaw} {n k : Nat} {q : Program} {loose : List Str} {XP : (Str → Option Value) → Heap → Prop} {YP : World → Heap → Prop} {d : DefRec} {K : Params → PySem.W.Frag} {x : Str}
    (hn : l.most = some n) (hn2 : n ≤ sizeLine) (hdf : d.params.defaults = []) (hr : Room k callerA) (hY : ∀ (w : World) (h : Heap), YP w h → (K w.params).In h) (f : En → Res D)
    (F : ∀ (w : World) (mg : MG) (fa : Addr) (h : Heap), YP w h → (K w.params).In h → h.Ns mainGlobals mg → mg d.name = some (.ref fa) → ∃ cs T, LawG q l w (K w.params) mg n k x fa cs T f)
    (hf : ∀ ns : List Int, ns.length ≤ n → (∀ z ∈ ns, Builtin.Int.intBits z ≤ 1048576) → ∃ e', f [.val (.lst (ns.map .int))] = .ok (.bl true) e') :
    PySem.W.WalkO q loose XP YP l.row.toRowW d [] (fun f vs => PySem.call f vs) := by
  refine Att.attach_callB hn hdf fun w s₀ s₁ mg mb fa o pm cd doc a vs ns G Y ho hd hcd hmg hobj hints hlen hbits hg => ?_
  have KX := hY w _ Y
  obtain ⟨cs, T, L⟩ := F w mg fa _ Y KX G.T.g hmg
  obtain ⟨fd, hb, hF⟩ := L.bind
  obtain ⟨e', he⟩ := hf ns hlen hbits
  have tab : ∀ p ∈ cs, PySem.W.CodeHd s₁.heap p.1 p.2 ∧ s₁.heap.get? p.2 = some (PySem.W.tabObj #[]) := fun p hp => by
    obtain ⟨y, d', h1, h2⟩ := L.tabs p hp
    exact PySem.W.tab_of G.T KX h1 h2
  have nA : (K w.params).lookup a = none := by
    cases z : (K w.params).lookup a with
    | none => rfl
    | some o =>
      have e := KX a o z
      rw [hobj] at e
      cases e
      exact absurd rfl (noLists_at L.nl z)
  have aT : a ∉ cs.map (·.2) := fun z => by
    obtain ⟨p, hp, ep⟩ := List.mem_map.mp z
    have e := (tab p hp).2
    rw [ep, hobj] at e; cases e
  exact law_callG (sp := spV (K w.params) mg w T 1 f) KX G.T.g G.T.b G.T.builtins G.T.nolimit hg (fun p hp => (tab p hp).2) L.nT (fun p hp => (tab p hp).1) G.T.bmain hobj hints (Nat.le_trans hlen hn2) nA hr hF hb (spV_law L.tT aT he) fun H e s' h => cx_no h
end L2.PV
namespace L2.PV
open PySem
theorem taker_no {K : PySem.W.Frag} {C : Addr} {n : Str} (h : PySem.W.findIn K (.ref C) n = some none) : PySem.W.takerIn K C n = some none := by
  unfold PySem.W.takerIn
  rw [h]; rfl
end L2.PV
namespace L2.PV
open PySem
theorem tabIn_mk {K : PySem.W.Frag} {x : Str} {f c P : Addr} {oc e : Value} {od dd : Option Addr} {fd : FuncData} {sl s : Array (Option Value)} {vs : Array Value} (a : PySem.W.nsIn K mainGlobals x = some (some (.ref f))) (l : K.lookup f = some ⟨oc, od, .func fd, sl⟩)
    (hc : fd.code = .ref c) (lc : K.lookup c = some ⟨e, dd, .fields vs, s⟩) (lp : vs[11]? = some (.ref P)) : PySem.W.tabIn K x = some (c, P) := by
  unfold PySem.W.tabIn
  rw [a]
  simp only []
  rw [l]
  simp only [hc]
  rw [lc]
  simp only [lp]
end L2.PV

set_option Elab.async false
set_option linter.all false
set_option maxRecDepth 100000
set_option autoImplicit false
/-! Comprehensions of dicts with mixed keys, by pure values. -/
namespace L2.PV
open PySem PySem.Spec PyProof.Rows
def dcL (t : Tg) (tt : En → Res Bool) (gk gv : En → Res D) (vs : List Nat) : List D → En → List (D × D) → Res (List (D × D))
  | [], e, acc => .ok acc e
  | d :: ds, e, acc => match t.go d e with
    | none => .bad
    | some e1 => match tt e1 with
      | .ok b e2 => if b = true then match gk e2 with
          | .ok y e3 => match gv e3 with
            | .ok z e4 => match keyOk y with
              | some k => if coolAt vs e4 = true ∧ acc.length < sizeLine then dcL t tt gk gv vs ds (wipeE vs e4) (putG acc y z k) else .bad
              | none => .bad
            | _ => .bad
          | _ => .bad
        else if coolAt vs e2 = true then dcL t tt gk gv vs ds (wipeE vs e2) acc else .bad
      | _ => .bad
def dcG (gi : En → Res (List D)) (t : Tg) (tt : En → Res Bool) (gk gv : En → Res D) (vs : List Nat) : En → Res D := fun e => (gi e).bind fun ds e1 =>
  if coolAt vs e1 = true then match dcL t tt gk gv vs ds (wipeE vs e1) [] with
    | .ok acc e2 => .ok (.gd acc) (backE vs e1 e2)
    | _ => .bad
  else .bad
section
variable {X : Cx} {T : Tb} {W : WX} {k : Nat}
theorem gc_read {K : PySem.W.Frag} {mg : MG} {w : World} {gi : En → Res (List D)} {t : Tg} {tt : En → Res Bool} {gk gv : En → Res D} {vs : List Nat} {σ : St} {H : Hp} {Q : VK} (hts : ∀ j ∈ t.slots, j ∈ vs)
    (h : tN K mg w T W (dcG gi t tt gk gv vs) σ H Q) : GD.tGc K w (tI K mg w T W gi) (tG K mg w T t) (tB K mg w T W0 tt) (tE K mg w T W0 gk) (tE K mg w T W0 gv) vs σ H Q := by
  obtain ⟨B, F, e, R, h⟩ := h
  refine ⟨B, F, e, R, PostN.step (R := fun F' ds J => Walk K mg w F' J ds) h fun F1 e1 ds J H1 l1 R1 Wk h1 => ?_⟩
  by_cases hc : coolAt vs e1 = true
  · rw [if_pos hc] at h1
    intro p hp
    have off := R1.offNew hp
    let CP : Hp → Res (List (D × D)) → Prop := fun F2 r => match r with
      | .ok acc e2 => PostN K mg w W B σ F2 (.ok (.gd acc) (backE vs e1 e2)) Q
      | _ => False
    have CPle : ∀ {F2 F3 r}, Le F2 F3 → CP F2 r → CP F3 r := fun {F2 F3 r} l c => by
      cases r with
      | ok acc e2 => exact PostN.le c l
      | exc x e => exact c
      | bad => exact c
    have h2 : CP F1 (dcL t tt gk gv vs ds (wipeE vs e1) []) := by
      cases q : dcL t tt gk gv vs ds (wipeE vs e1) [] with
      | ok acc e2 => rw [q] at h1; exact h1
      | exc x e => rw [q] at h1; exact h1
      | bad => rw [q] at h1; exact h1
    let St2 : Nat → Hp → Prop := fun i H => ∃ F2 e2 acc ob vacc, Le F1 F2 ∧ Rel K mg w (B.wth p (GD.gdO w p ob vacc)) F2 e2 (wipe σ vs) H ∧ DenG K mg w F2 acc vacc ∧ CP F2 (dcL t tt gk gv vs (ds.drop i) e2 acc)
    refine ⟨fun i m H => m = ds.length - i ∧ i ≤ ds.length ∧ St2 i H, ⟨ds.length, by simp, Nat.zero_le _, F1, wipeE vs e1, [], _, [], Le.refl F1, (R1.base hp rfl).wipe hc, .nil, by simpa using h2⟩, ?_⟩
    rintro i m H2 ⟨rfl, hi, F2, e2, acc, ob, vacc, l2, R2, dl, c2⟩
    by_cases hlt : i < ds.length
    · right
      obtain ⟨d, hd⟩ : ∃ d, ds[i]? = some d := ⟨ds[i], List.getElem?_eq_getElem hlt⟩
      obtain ⟨g1, g2⟩ := Wk.go F2 H2 i d l2 R2.sub hd
      refine ⟨g1, St2 (i + 1), fun H' s2 => ⟨ds.length - (i + 1), by omega, rfl, hlt, s2⟩, fun x H' hy => ?_⟩
      obtain ⟨F3, l3, hD, hR⟩ := g2 x H' hy
      have hdrop : ds.drop i = d :: ds.drop (i + 1) := by
        rw [List.drop_eq_getElem_cons hlt]
        rw [List.getElem?_eq_getElem hlt] at hd
        rw [Option.some.inj hd]
      rw [hdrop] at c2
      unfold dcL at c2
      cases hgo : t.go d e2 with
      | none => simp only [hgo] at c2; exact c2.elim
      | some e3 =>
        simp only [hgo] at c2
        refine ⟨B.wth p (GD.gdO w p ob vacc), F3, e2, d, hR T _ e2 _ R2, hD, e3, hgo, fun σ2 hj hl R4 => ?_⟩
        have hw : wipe σ2 vs = wipe σ vs := by
          rw [wipe_eq (fun j hjv => hj j fun q => hjv (hts j q)) hl]
          exact wipe_eq (fun j hjv => wipe_get hjv) (wipe_length σ vs)
        refine ⟨hw, B.wth p (GD.gdO w p ob vacc), F3, e3, R4, ?_⟩
        cases htt : tt e3 with
        | bad => simp only [htt] at c2; exact c2.elim
        | exc x' e' => simp only [htt] at c2; exact c2.elim
        | ok b e4 =>
          simp only [htt] at c2
          intro F4 b' H4 l4 R5 hb
          subst hb
          cases b' with
          | false =>
            rw [if_neg Bool.false_ne_true] at c2 ⊢
            by_cases hc4 : coolAt vs e4 = true
            · rw [if_pos hc4] at c2
              exact ⟨F4, wipeE vs e4, acc, ob, vacc, l2.trans (l3.trans l4), hw ▸ R5.wipe hc4, dl.mono (l3.trans l4), CPle (l3.trans l4) c2⟩
            · rw [if_neg hc4] at c2; exact c2.elim
          | true =>
            rw [if_pos rfl] at c2 ⊢
            refine ⟨B.wth p (GD.gdO w p ob vacc), F4, e4, R5, ?_⟩
            cases hgk : gk e4 with
            | bad => simp only [hgk] at c2; exact c2.elim
            | exc x' e' => simp only [hgk] at c2; exact c2.elim
            | ok y e5 =>
              simp only [hgk] at c2
              intro F5 yv H5 l5 R6 hy5
              refine ⟨B.wth p (GD.gdO w p ob vacc), F5, e5, R6, ?_⟩
              cases hgv : gv e5 with
              | bad => simp only [hgv] at c2; exact c2.elim
              | exc x' e' => simp only [hgv] at c2; exact c2.elim
              | ok z e6 =>
                simp only [hgv] at c2
                intro F6 zv H6 l6 R7 hz6
                cases hk : keyOk y with
                | none => simp only [hk] at c2; exact c2.elim
                | some kk =>
                  simp only [hk] at c2
                  by_cases hc5 : coolAt vs e6 = true ∧ acc.length < sizeLine
                  · rw [if_pos hc5] at c2
                    obtain ⟨hkn, hkd⟩ := keyOk_some hk
                    have ll := l3.trans (l4.trans (l5.trans l6))
                    exact ⟨ob, vacc, kk, (R7.atBase off rfl).1, (dl.mono ll).keys R7.sub, key_den R7.sub (hy5.mono l6) hkn, hkd, by rw [← dl.len]; exact hc5.2, fun ob' =>
                      ⟨F6, wipeE vs e6, putG acc y z kk, ob', GD.vPut vacc kk yv zv, l2.trans ll, hw ▸ (R7.rebase off rfl gd_no rfl).wipe hc5.1, (dl.mono ll).put hk (hy5.mono l6) hz6, CPle ll c2⟩⟩
                  · rw [if_neg hc5] at c2; exact c2.elim
    · left
      have ei : i = ds.length := by omega
      subst ei
      refine ⟨Wk.stop F2 H2 _ l2 R2.sub (Nat.le_refl _), ?_⟩
      rw [List.drop_length] at c2
      have c2 : PostN K mg w W B σ F2 (.ok (.gd acc) (backE vs e1 e2)) Q := c2
      obtain ⟨hH, hF⟩ := R2.atBase off rfl
      refine c2 F2 p H2 (Le.refl F2) (R1.unwipe hc l2 (R2.unbase off)) hF off.h0 ⟨_, vacc, hH, dl⟩ fun j s hs ht => ?_
      rcases backE_at hs with ⟨hj, e1'⟩ | ⟨hj, e1'⟩
      · rw [List.getD_eq_getElem?_getD] at e1'
        cases q : e1[j]? with
        | none => rw [q] at e1'; subst e1'; cases ht
        | some s' =>
          rw [q] at e1'
          have e1' : s = s' := e1'
          subst e1'
          rw [cool_of hc hj q] at ht; cases ht
      · rw [← wipe_get hj]; exact R2.offHot off e1' ht
  · rw [if_neg hc] at h1; exact h1.elim
variable {kx vx tg iter : Expr} {ifs : List Expr} {scope : Scope} {own : List (Str × Nat)} {pos spos : Pos} {gi : En → Res (List D)} {t : Tg} {tt : En → Res Bool} {gk gv : En → Res D}
theorem ndc (c : Cc X W k) (hi : PI X tg iter (tI X.K X.mg X.w T W gi)) (ok : BlkOk X.N X.env.scope scope own) (hts : ∀ j ∈ t.slots, j ∈ own.map (·.2))
    (hg : ∀ (s : Shared) (H : Hp) (C : Addr) (cl : List (Str × Addr)) (fp : List Addr), Cc (X.blk s H scope (compEnvC scope cl C X.env) fp) W0 k → PG (X.blk s H scope (compEnvC scope cl C X.env) fp) tg (tG X.K X.mg X.w T t))
    (ht : ∀ (s : Shared) (H : Hp) (C : Addr) (cl : List (Str × Addr)) (fp : List Addr), Cc (X.blk s H scope (compEnvC scope cl C X.env) fp) W0 k → PTs (X.blk s H scope (compEnvC scope cl C X.env) fp) ifs (tB X.K X.mg X.w T W0 tt))
    (hk : ∀ (s : Shared) (H : Hp) (C : Addr) (cl : List (Str × Addr)) (fp : List Addr), Cc (X.blk s H scope (compEnvC scope cl C X.env) fp) W0 k → PE (X.blk s H scope (compEnvC scope cl C X.env) fp) kx (tE X.K X.mg X.w T W0 gk))
    (he : ∀ (s : Shared) (H : Hp) (C : Addr) (cl : List (Str × Addr)) (fp : List Addr), Cc (X.blk s H scope (compEnvC scope cl C X.env) fp) W0 k → PE (X.blk s H scope (compEnvC scope cl C X.env) fp) vx (tE X.K X.mg X.w T W0 gv))
    (hs : ∀ x, foldedSetIterable iter X.env x = pure x := by intro _; rfl) : PE X (.DictComp kx vx [⟨tg, iter, ifs, 0⟩] scope pos) (tN X.K X.mg X.w T W (dcG gi t tt gk gv (own.map (·.2)))) :=
  conv (GD.pe_gc (by have := hu65 c.room; omega) c.calm c.nd hi ok (fun s H C cl fp => hg s H C cl fp (c.blk ..)) (fun s H C cl fp => ht s H C cl fp (c.blk ..)) (fun s H C cl fp => hk s H C cl fp (c.blk ..)) (fun s H C cl fp => he s H C cl fp (c.blk ..)) hs) fun σ H Q h => gc_read hts h
theorem ngnew {pos : Pos} : PE X (.Dict [] [] pos) (tN X.K X.mg X.w T W (constG (.gd []))) := conv GD.pe_gnew fun σ H Q ⟨B, F, e, R, h⟩ p hp => h.new R p hp ⟨_, [], upd_same, .nil⟩
end
end L2.PV

set_option Elab.async false
set_option linter.all false
set_option maxRecDepth 100000
set_option autoImplicit false
/-! enumerate and zip, by pure values. -/
namespace L2.PV
open PySem PySem.Spec PyProof.Rows
def enumD (ds : List D) : List D := ds.zipIdx.map fun p => .tup [.int (p.2 : Nat), p.1]
def zipD (as bs : List D) : List D := (as.zip bs).map fun p => .tup [p.1, p.2]
section
variable {K : PySem.W.Frag} {mg : MG} {w : World} {F H : Hp}
/-- a new pair stands among the frozen ones -/
theorem pair_new {F' : Hp} {d1 d2 : D} {x y : V} {p : Addr} (s : Sub F' H) (hp : H p = none) (h1 : Den K mg w F' d1 x) (h2 : Den K mg w F' d2 y) :
    ∃ F'', Le F' F'' ∧ Den K mg w F'' (.tup [d1, d2]) (.ref p) ∧ ∀ (T : Tb) (B : Bs T) (e : En) (σ : St), Rel K mg w B F' e σ H → Rel K mg w B F'' e σ (upd H p (.tup [x, y])) := by
  have l : Le F' (upd F' p (.tup [x, y])) := Le.upd (s.free hp)
  exact ⟨_, l, .tup (.inl upd_same) (.cons (h1.mono l) (.cons (h2.mono l) .nil)), fun T B e σ R => R.new hp rfl⟩
theorem enumD_get {ds : List D} {i : Nat} {d : D} (h : (enumD ds)[i]? = some d) : ∃ d1, ds[i]? = some d1 ∧ d = .tup [.int (i : Nat), d1] := by
  unfold enumD at h
  rw [List.getElem?_map, List.getElem?_zipIdx] at h
  cases q : ds[i]? with
  | none => rw [q] at h; cases h
  | some d1 => rw [q] at h; simp at h; exact ⟨d1, rfl, h.symm⟩
theorem enumD_len (ds : List D) : (enumD ds).length = ds.length := by simp [enumD]
theorem zipD_get {as bs : List D} {i : Nat} {d : D} (h : (zipD as bs)[i]? = some d) : ∃ a b, as[i]? = some a ∧ bs[i]? = some b ∧ d = .tup [a, b] := by
  unfold zipD at h
  rw [List.getElem?_map] at h
  cases q : (as.zip bs)[i]? with
  | none => rw [q] at h; cases h
  | some p =>
    rw [q] at h
    obtain ⟨h1, h2⟩ := List.getElem?_zip_eq_some.mp q
    exact ⟨p.1, p.2, h1, h2, (Option.some.inj h).symm⟩
theorem zipD_len (as bs : List D) : (zipD as bs).length = min as.length bs.length := by simp [zipD]
theorem walk_enumL {a : Addr} {ds : List D} {vs : List V} (h : AtL K F a vs) (l : DenL K mg w F ds vs) : Walk K mg w F (Ite K a) (enumD ds) where
  go := fun F' H i d le s hd => by
    obtain ⟨d1, hd1, rfl⟩ := enumD_get hd
    obtain ⟨v, h1, h2⟩ := l.get hd1
    have hq := (h.mono le).seq s
    refine ⟨⟨vs, v, hq, h1⟩, fun x H' ⟨p, y, e1, e2, e3, hy⟩ => ?_⟩
    have := hy vs hq
    rw [h1] at this; cases this
    subst e1 e3
    exact pair_new s e2 (.int _) (h2.mono le)
  stop := fun F' H i le s hi => ⟨vs, (h.mono le).seq s, by rw [← l.length, ← enumD_len]; exact hi⟩
theorem walk_enumT {a : Addr} {ds : List D} {vs : List V} (h : AtT K F a vs) (l : DenL K mg w F ds vs) : Walk K mg w F (GE.Itet K a) (enumD ds) where
  go := fun F' H i d le s hd => by
    obtain ⟨d1, hd1, rfl⟩ := enumD_get hd
    obtain ⟨v, h1, h2⟩ := l.get hd1
    have hq := (h.mono le).seq s
    refine ⟨⟨vs, v, hq, h1⟩, fun x H' ⟨p, y, e1, e2, e3, hy⟩ => ?_⟩
    have := hy vs hq
    rw [h1] at this; cases this
    subst e1 e3
    exact pair_new s e2 (.int _) (h2.mono le)
  stop := fun F' H i le s hi => ⟨vs, (h.mono le).seq s, by rw [← l.length, ← enumD_len]; exact hi⟩
theorem walk_zipL {a b : Addr} {as bs : List D} {vs us : List V} (h : AtL K F a vs) (l : DenL K mg w F as vs) (h' : AtL K F b us) (l' : DenL K mg w F bs us) : Walk K mg w F (Itz K a b) (zipD as bs) where
  go := fun F' H i d le s hd => by
    obtain ⟨d1, d2, hd1, hd2, rfl⟩ := zipD_get hd
    obtain ⟨v, h1, h2⟩ := l.get hd1
    obtain ⟨u, k1, k2⟩ := l'.get hd2
    have hq := (h.mono le).seq s
    have hq' := (h'.mono le).seq s
    refine ⟨⟨vs, us, v, u, hq, hq', h1, k1⟩, fun x H' ⟨p, y, z, e1, e2, e3, hy, hz⟩ => ?_⟩
    have ey := hy vs hq
    have ez := hz us hq'
    rw [h1] at ey; cases ey
    rw [k1] at ez; cases ez
    subst e1 e3
    exact pair_new s e2 (h2.mono le) (k2.mono le)
  stop := fun F' H i le s hi => ⟨vs, us, (h.mono le).seq s, (h'.mono le).seq s, by rw [← l.length, ← l'.length]; rw [zipD_len] at hi; omega⟩
theorem walk_zipT {a b : Addr} {as bs : List D} {vs us : List V} (h : AtT K F a vs) (l : DenL K mg w F as vs) (h' : AtT K F b us) (l' : DenL K mg w F bs us) : Walk K mg w F (RZ.ItzT K a b) (zipD as bs) where
  go := fun F' H i d le s hd => by
    obtain ⟨d1, d2, hd1, hd2, rfl⟩ := zipD_get hd
    obtain ⟨v, h1, h2⟩ := l.get hd1
    obtain ⟨u, k1, k2⟩ := l'.get hd2
    have hq := (h.mono le).seq s
    have hq' := (h'.mono le).seq s
    refine ⟨⟨vs, us, v, u, hq, hq', h1, k1⟩, fun x H' ⟨p, y, z, e1, e2, e3, hy, hz⟩ => ?_⟩
    have ey := hy vs hq
    have ez := hz us hq'
    rw [h1] at ey; cases ey
    rw [k1] at ez; cases ez
    subst e1 e3
    exact pair_new s e2 (h2.mono le) (k2.mono le)
  stop := fun F' H i le s hi => ⟨vs, us, (h.mono le).seq s, (h'.mono le).seq s, by rw [← l.length, ← l'.length]; rw [zipD_len] at hi; omega⟩
end
def gvalsD : D → Option (List D)
  | .gd kvs => some (kvs.map (·.2))
  | _ => none
def gitemsD : D → Option (List D)
  | .gd kvs => some (kvs.map fun kv => .tup [kv.1, kv.2])
  | _ => none
def viewG (f : D → Option (List D)) (g : En → Res D) : En → Res (List D) := fun e => (g e).bind fun d e1 => lift (f d) e1
section
variable {K : PySem.W.Frag} {mg : MG} {w : World} {F H : Hp}
theorem walk_gitems {a : Addr} {ob : Obj} {kvs : List (D × D)} {es : List GD.EnV} (h : F a = some (GD.gdO w a ob es)) (l : DenG K mg w F kvs es) : Walk K mg w F (GD.Itgi w a ob es) (kvs.map fun kv => .tup [kv.1, kv.2]) where
  go := fun F' H i d le s hd => by
    rw [List.getElem?_map] at hd
    obtain ⟨kv, h1, rfl⟩ := Option.map_eq_some_iff.mp hd
    obtain ⟨e, h2, h3, h4⟩ := l.get h1
    refine ⟨⟨s _ _ (le _ _ h), (List.getElem?_eq_some_iff.mp h2).1⟩, fun x H' ⟨p, e', h5, e2, e3, e4⟩ => ?_⟩
    rw [h2] at h5; cases h5
    subst e2 e4
    exact pair_new s e3 (h3.mono le) (h4.mono le)
  stop := fun F' H i le s hi => ⟨s _ _ (le _ _ h), by rw [← l.size]; simpa using hi⟩
end
section
variable {X : Cx} {T : Tb} {W : WX} {l tg : Expr} {g : En → Res D} {apos cpos tpos : Pos} {elts : List Expr} {kk : Nat}
theorem ivals (he : PE X l (tE X.K X.mg X.w T W g)) (hbase : attributeBase l "values" X.env (eval l X.env) = eval l X.env := by rfl) (hline : (apos.endLine == cpos.line) = true := by rfl) : PI X tg (.Call (.Attribute l "values" apos) [] [] cpos) (tI X.K X.mg X.w T W (viewG gvalsD g)) :=
  convI (GD.pi_gvalues he hbase hline) fun σ H R ⟨B, F, e, Rl, h⟩ => ⟨B, F, e, Rl, h.step fun F1 e1 d x H1 l1 R1 D1 h1 => by
    obtain ⟨ds, hd, h2⟩ := h1.lift
    cases D1 with
    | gd hg l => cases hd; exact ⟨_, _, _, rfl, R1.sub _ _ hg, h2.ret R1 (walk_gvals hg l)⟩
    | _ => cases hd⟩
theorem iitems (he : PE X l (tE X.K X.mg X.w T W g)) (hbase : attributeBase l "items" X.env (eval l X.env) = eval l X.env := by rfl) (hline : (apos.endLine == cpos.line) = true := by rfl) : PI X (.Tuple elts kk tpos) (.Call (.Attribute l "items" apos) [] [] cpos) (tI X.K X.mg X.w T W (viewG gitemsD g)) :=
  convI (GD.pi_gitems he hbase hline) fun σ H R ⟨B, F, e, Rl, h⟩ => ⟨B, F, e, Rl, h.step fun F1 e1 d x H1 l1 R1 D1 h1 => by
    obtain ⟨ds, hd, h2⟩ := h1.lift
    cases D1 with
    | gd hg l => cases hd; exact ⟨_, _, _, rfl, R1.sub _ _ hg, h2.ret R1 (walk_gitems hg l)⟩
    | _ => cases hd⟩
end
def enm : List Ar → Option (List D)
  | [.v (.lst ds)] => some (enumD ds)
  | [.v (.tup ds)] => some (enumD ds)
  | _ => none
def zp2 : List Ar → Option (List D)
  | [.v (.lst as), .v (.lst bs)] => some (zipD as bs)
  | [.v (.tup as), .v (.tup bs)] => some (zipD as bs)
  | _ => none
section
variable {X : Cx} {T : Tb} {W : WX} {a b : Expr} {k : En → Res (List Ar)} {p pos tpos : Pos} {elts : List Expr} {kk : Nat}
theorem ienum (hg : Gl X "enumerate") (hm : X.mg "enumerate" = none) (ha : PA X [a] (tA X.K X.mg X.w T W k)) (hs : starEach [a] X.env = [(false, eval a X.env)] := by rfl) : PI X (.Tuple elts kk tpos) (.Call (.Name "enumerate" p) [a] [] pos) (tI X.K X.mg X.w T W (rangeG enm k)) := convI (GE.pi_enumA hg hm ha hs) fun σ H R ⟨B, F, e, Rl, h⟩ =>
  ⟨B, F, e, Rl, h.step fun F1 e1 as vs H1 l1 R1 D1 h1 => by
    obtain ⟨ds, hd, h2⟩ := h1.lift
    unfold enm at hd
    split at hd
    · cases hd
      match vs, D1 with
      | [v], ⟨d1, _⟩ =>
        obtain ⟨q, l⟩ : ∃ vs, ∃ a, v = .ref a ∧ AtL X.K F1 a vs ∧ DenL X.K X.mg X.w F1 _ vs := by cases (show Den X.K X.mg X.w F1 (.lst _) v from d1) with | lst q l => exact ⟨_, _, rfl, q, l⟩
        obtain ⟨a, rfl, q, l⟩ := l
        exact ⟨_, _, rfl, .inl ⟨AtL.seq R1.sub q, h2.ret R1 (walk_enumL q l)⟩⟩
    · cases hd
      match vs, D1 with
      | [v], ⟨d1, _⟩ =>
        obtain ⟨q, l⟩ : ∃ vs, ∃ a, v = .ref a ∧ AtT X.K F1 a vs ∧ DenL X.K X.mg X.w F1 _ vs := by cases (show Den X.K X.mg X.w F1 (.tup _) v from d1) with | tup q l => exact ⟨_, _, rfl, q, l⟩
        obtain ⟨a, rfl, q, l⟩ := l
        exact ⟨_, _, rfl, .inr ⟨q.seq R1.sub, h2.ret R1 (walk_enumT q l)⟩⟩
    · cases hd⟩
theorem izip (hg : Gl X "zip") (hm : X.mg "zip" = none) (ha : PA X [a, b] (tA X.K X.mg X.w T W k)) (hs : starEach [a, b] X.env = (false, eval a X.env) :: starEach [b] X.env := by rfl) (hpl : (backTo pos (starEach [b] X.env)).any (·.1) = false := by rfl) : PI X (.Tuple elts kk tpos) (.Call (.Name "zip" p) [a, b] [] pos) (tI X.K X.mg X.w T W (rangeG zp2 k)) := convI (RZ.pi_zipA hg hm ha hs hpl) fun σ H R ⟨B, F, e, Rl, h⟩ =>
  ⟨B, F, e, Rl, h.step fun F1 e1 as vs H1 l1 R1 D1 h1 => by
    obtain ⟨ds, hd, h2⟩ := h1.lift
    unfold zp2 at hd
    split at hd
    · cases hd
      match vs, D1 with
      | [v, u], ⟨d1, d2, _⟩ =>
        obtain ⟨vs, a, rfl, q, l⟩ : ∃ vs, ∃ a, v = .ref a ∧ AtL X.K F1 a vs ∧ DenL X.K X.mg X.w F1 _ vs := by cases (show Den X.K X.mg X.w F1 (.lst _) v from d1) with | lst q l => exact ⟨_, _, rfl, q, l⟩
        obtain ⟨us, b, rfl, q', l'⟩ : ∃ vs, ∃ a, u = .ref a ∧ AtL X.K F1 a vs ∧ DenL X.K X.mg X.w F1 _ vs := by cases (show Den X.K X.mg X.w F1 (.lst _) u from d2) with | lst q l => exact ⟨_, _, rfl, q, l⟩
        exact ⟨_, _, _, _, rfl, .inl ⟨AtL.seq R1.sub q, AtL.seq R1.sub q', h2.ret R1 (walk_zipL q l q' l')⟩⟩
    · cases hd
      match vs, D1 with
      | [v, u], ⟨d1, d2, _⟩ =>
        obtain ⟨vs, a, rfl, q, l⟩ : ∃ vs, ∃ a, v = .ref a ∧ AtT X.K F1 a vs ∧ DenL X.K X.mg X.w F1 _ vs := by cases (show Den X.K X.mg X.w F1 (.tup _) v from d1) with | tup q l => exact ⟨_, _, rfl, q, l⟩
        obtain ⟨us, b, rfl, q', l'⟩ : ∃ vs, ∃ a, u = .ref a ∧ AtT X.K F1 a vs ∧ DenL X.K X.mg X.w F1 _ vs := by cases (show Den X.K X.mg X.w F1 (.tup _) u from d2) with | tup q l => exact ⟨_, _, rfl, q, l⟩
        exact ⟨_, _, _, _, rfl, .inr ⟨q.seq R1.sub, q'.seq R1.sub, h2.ret R1 (walk_zipT q l q' l')⟩⟩
    · cases hd⟩
end
end L2.PV

set_option Elab.async false
set_option linter.all false
set_option maxRecDepth 100000
set_option autoImplicit false
/-! Texts in their order. -/
namespace L2.PV
open PySem PySem.Spec PyProof.Rows
def leS (a b : Str) : Bool := !ltCps b.cps.toList a.cps.toList
theorem ltCps_trans : ∀ {a b c : List Nat}, ltCps b a = false → ltCps c b = false → ltCps c a = false
  | [], [], [], _, _ => rfl
  | [], [], _ :: _, _, _ => by simp [ltCps]
  | [], _ :: _, [], _, h => by simp [ltCps] at h
  | [], _ :: _, _ :: _, _, _ => by simp [ltCps]
  | _ :: _, [], _, h, _ => by simp [ltCps] at h
  | _ :: _, _ :: _, [], _, h => by simp [ltCps] at h
  | x :: a, y :: b, z :: c, h1, h2 => by
    simp only [ltCps] at h1 h2 ⊢
    have := @ltCps_trans a b c
    grind
theorem ltCps_anti : ∀ {a b : List Nat}, ltCps a b = false → ltCps b a = false → a = b
  | [], [], _, _ => rfl
  | [], _ :: _, h, _ => by simp [ltCps] at h
  | _ :: _, [], _, h => by simp [ltCps] at h
  | x :: a, y :: b, h1, h2 => by
    simp only [ltCps] at h1 h2
    have := @ltCps_anti a b
    grind
theorem ltCps_total : ∀ {a b : List Nat}, ltCps a b = false ∨ ltCps b a = false
  | [], [] => .inl rfl
  | [], _ :: _ => .inr (by simp [ltCps])
  | _ :: _, [] => .inl (by simp [ltCps])
  | x :: a, y :: b => by
    have := @ltCps_total a b
    simp only [ltCps]
    grind
theorem perm_one {α : Type} {r : α → α → Prop} (anti : ∀ a b, r a b → r b a → a = b) : ∀ {a b : List α}, a.Perm b → a.Pairwise r → b.Pairwise r → a = b
  | [], b, p, _, _ => by rw [List.nil_perm.mp p]
  | x :: a, [], p, _, _ => by simpa using p.length_eq
  | x :: a, y :: b, p, h1, h2 => by
    have h1' := List.pairwise_cons.mp h1
    have h2' := List.pairwise_cons.mp h2
    have e : x = y := by
      have hx : x ∈ y :: b := p.mem_iff.mp List.mem_cons_self
      have hy : y ∈ x :: a := p.mem_iff.mpr List.mem_cons_self
      rcases List.mem_cons.mp hx with z | z
      · exact z
      · rcases List.mem_cons.mp hy with q | q
        · exact q.symm
        · exact anti _ _ (h1'.1 _ q) (h2'.1 _ z)
    subst e
    rw [perm_one anti (List.perm_cons x |>.mp p) h1'.2 h2'.2]
end L2.PV
namespace L2.PV
open PySem PySem.Spec PyProof.Rows
theorem leS_trans (a b c : Str) (h1 : leS a b = true) (h2 : leS b c = true) : leS a c = true := by
  unfold leS at *
  simp only [Bool.not_eq_true'] at *
  exact ltCps_trans h1 h2
theorem leS_total (a b : Str) : (leS a b || leS b a) = true := by
  unfold leS
  rcases ltCps_total (a := a.cps.toList) (b := b.cps.toList) with h | h <;> simp [h]
theorem leS_anti (a b : Str) (h1 : leS a b = true) (h2 : leS b a = true) : a = b := by
  unfold leS at *
  simp only [Bool.not_eq_true'] at *
  have := ltCps_anti h2 h1
  cases a; cases b
  simpa using this
theorem risingS_pw : ∀ {ys : List Str} {p : Str}, risingS p ys = true → (p :: ys).Pairwise fun a b => leS a b = true
  | [], p, _ => by simp
  | x :: r, p, h => by
    unfold risingS at h
    rw [Bool.and_eq_true] at h
    have ih := risingS_pw h.2
    have hpx : leS p x = true := h.1
    refine List.pairwise_cons.mpr ⟨fun y hy => ?_, ih⟩
    rcases List.mem_cons.mp hy with rfl | hy
    · exact hpx
    · exact leS_trans _ _ _ hpx ((List.pairwise_cons.mp ih).1 y hy)
theorem sortedS_pw {ys : List Str} (h : sortedS ys = true) : ys.Pairwise fun a b => leS a b = true := by
  cases ys with
  | nil => exact .nil
  | cons x r => exact risingS_pw h
def sortS (l : List Str) : List Str := l.mergeSort leS
theorem sortS_pw (l : List Str) : (sortS l).Pairwise fun a b => leS a b = true := List.pairwise_mergeSort leS_trans leS_total l
theorem sortS_eq {ys ks : List Str} (p : ys.Perm ks) (h : ys.Pairwise fun a b => leS a b = true) : ys = sortS ks :=
  perm_one (fun a b => leS_anti a b) (p.trans (List.mergeSort_perm ks leS).symm) h (sortS_pw ks)
def textsD : List (D × D) → Option (List Str)
  | [] => some []
  | (.str x, _) :: r => (textsD r).map (x :: ·)
  | _ => none
def sortD : List D → Option D
  | [.gd kvs] => (textsD kvs).bind fun ks => if ks.length < 64 then some (.lst ((sortS ks).map .str)) else none
  | _ => none
section
variable {K : PySem.W.Frag} {mg : MG} {w : World} {F H : Hp}
theorem texts_es : ∀ {kvs : List (D × D)} {es : List GD.EnV} {ks : List Str}, DenG K mg w F kvs es → textsD kvs = some ks → ∃ ts : List (Str × V), es = ts.map GD.textE ∧ ts.map (·.1) = ks
  | _, _, _, .nil, h => by cases h; exact ⟨[], rfl, rfl⟩
  | _, _, _, .cons (kd := kd) n k h t, e => by
    cases kd <;> first | (cases e; done) | skip
    rename_i x
    unfold textsD at e
    obtain ⟨ks, h1, rfl⟩ := Option.map_eq_some_iff.mp e
    obtain ⟨ts, rfl, h3⟩ := texts_es t h1
    cases k
    obtain ⟨hk, _⟩ := keyOk_some n
    cases hk
    exact ⟨(x, _) :: ts, rfl, by rw [List.map_cons, h3]⟩
theorem strs_den (ys : List Str) : DenL K mg w F (ys.map D.str) (ys.map V.str) := by
  induction ys with
  | nil => exact .nil
  | cons y r ih => exact .cons (.str y) ih
theorem sortD_ok : CaN K mg w (fun xs H Q => ∃ (a : Addr) (ob : Obj) (kvs : List (Str × V)) (ks : List Str), xs = [.ref a] ∧ Rd H a (GD.gdO w a ob (kvs.map GD.textE)) ∧ kvs.map (·.1) = ks ∧ ks.length < 64 ∧
    ∀ ys p, ys.Perm ks → sortedS ys = true → H p = none → Q (.ref p) (upd H p (.lst (ys.map V.str)))) sortD := by
  intro T W B F e σ H as xs Q c R Ds h P
  unfold sortD at h
  split at h
  · obtain ⟨x, rfl, d⟩ := one_of Ds rfl
    obtain ⟨ks, h1, h2⟩ := bind_some' h
    obtain ⟨h3, rfl⟩ := if_some h2
    cases d with
    | gd hg l =>
      obtain ⟨ts, rfl, h4⟩ := texts_es l h1
      refine ⟨_, _, ts, ks, rfl, R.sub _ _ hg, h4, h3, fun ys p hp hs hn => ?_⟩
      have e := sortS_eq hp (sortedS_pw hs)
      subst e
      exact P.newL R (strs_den _) p hn
  · cases h
end
end L2.PV

set_option Elab.async false
set_option linter.all false
set_option maxRecDepth 100000
set_option autoImplicit false
/-! f-strings by values. -/
namespace L2.PV
open PySem PySem.Spec PyProof.Rows
/-- a text or an int, as a text -/
def fmtD : D → Option D
  | .str y => if y.length ≤ sizeLine then some (.str y) else none
  | .int i => if i.natAbs.log2 < 1920 then some (.str (toString i)) else none
  | _ => none
def fmtG (g : En → Res D) : En → Res D := fun e => (g e).bind fun d e1 => lift (fmtD d) e1
section
variable {X : Cx} {T : Tb} {W : WX} {e : Expr} {g : En → Res D} {pos : Pos}
theorem efmt (h : PE X e (tE X.K X.mg X.w T W g)) : PE X (.FormattedValue e (-1) none pos) (tE X.K X.mg X.w T W (fmtG g)) := conv (pe_fmt h) fun σ H Q ⟨B, F, e, R, h⟩ => ⟨B, F, e, R, h.step fun F1 e1 d x H1 l1 R1 D1 h1 => by
  obtain ⟨c, hc, h2⟩ := h1.lift
  cases D1 with
  | str y =>
    obtain ⟨hl, rfl⟩ := if_some hc
    exact .inl ⟨y, rfl, hl, h2.ret R1 (.str y)⟩
  | int i =>
    obtain ⟨hl, rfl⟩ := if_some hc
    exact .inr ⟨i, rfl, hl, h2.ret R1 (.str _)⟩
  | _ => cases hc⟩
def fJ : List (En → Res D) → Str → En → Res D
  | [], acc, e => .ok (.str acc) e
  | g :: gs, acc, e => (g e).bind fun d e1 => match d with
    | .str y => if (acc ++ y).length ≤ sizeLine then fJ gs (acc ++ y) e1 else .bad
    | _ => .bad
inductive PJs (X : Cx) (T : Tb) (W : WX) : List Expr → List (En → Res D) → Prop where
  | nil : PJs X T W [] []
  | cons {e : Expr} {es : List Expr} {g : En → Res D} {gs : List (En → Res D)} (h : PE X e (tE X.K X.mg X.w T W g)) (t : PJs X T W es gs) : PJs X T W (e :: es) (g :: gs)
theorem PJs.pj {es : List Expr} {gs : List (En → Res D)} (h : PJs X T W es gs) : PJ X es (gs.map fun g => tE X.K X.mg X.w T W g) := by
  induction h with
  | nil => exact .nil
  | cons h _ ih => exact .cons h ih
theorem fj_run {B : Bs T} {σ : St} {Q : VK} : ∀ (gs : List (En → Res D)) (acc : Str) {F H : Hp} {e : En}, Rel X.K X.mg X.w B F e σ H → Post X.K X.mg X.w W B σ (Den X.K X.mg X.w) F (fJ gs acc e) Q → tJs (gs.map fun g => tE X.K X.mg X.w T W g) acc σ H fun out H1 => Q (.str out) H1
  | [], acc, F, H, e, R, h => h F (.str acc) H (Le.refl F) R (.str acc)
  | g :: gs, acc, F, H, e, R, h => ⟨B, F, e, R, Post.step h fun F1 e1 d x H1 l1 R1 D1 h1 => by
    cases D1 with
    | str y =>
      have h1 : Post X.K X.mg X.w W B σ (Den X.K X.mg X.w) F1 (if (acc ++ y).length ≤ sizeLine then fJ gs (acc ++ y) e1 else .bad) Q := h1
      split at h1
      · rename_i hl
        exact ⟨y, rfl, hl, fj_run gs _ R1 h1⟩
      · exact h1.elim
    | _ => exact h1.elim⟩
theorem efstr {v1 v2 : Expr} {rest : List Expr} {gs : List (En → Res D)} (h : PJs X T W (v1 :: v2 :: rest) gs) : PE X (.JoinedStr (v1 :: v2 :: rest) pos) (tE X.K X.mg X.w T W (fJ gs Str.empty)) :=
  conv (pe_joined h.pj) fun σ H Q ⟨B, F, e, R, q⟩ => fj_run gs _ R q
end
end L2.PV

set_option Elab.async false
set_option linter.all false
set_option maxRecDepth 100000
set_option autoImplicit false
/-! Errors as values, instances, isinstance, attributes. -/
namespace L2.PV
open PySem PySem.Spec PyProof.Rows

/-! ### a value's class -/
inductive TyN where | blt (n : String) | er (c : Str) | ob (c : Str)
deriving DecidableEq
def tyN : D → Option TyN
  | .gd _ => some (.blt "dict")
  | .er c _ => some (.er c)
  | .obj c _ => some (.ob c)
  | d => (tyName d).map .blt
/-- a class of errors, for isinstance -/
structure ErT (K : PySem.W.Frag) (mg : MG) (c : Str) : Prop where
  ex : ∃ C : Addr, mg c = some (.ref C) ∧ (PySem.W.clsIn K C).isSome = true ∧ PySem.W.findIn K (.ref C) "__getattribute__" = some (some (.builtin "BaseException.__getattribute__")) ∧ PySem.W.findIn K (.ref C) "__getattr__" = some none ∧
    PySem.W.subIn K (.ref C) (.type "BaseException") = some true ∧ PySem.W.findIn K (.ref C) "__class__" = some (some (.builtin "object.__class__")) ∧ PySem.W.mroIn K C (.type "object") = some true
/-- a plain class -/
structure ObT (K : PySem.W.Frag) (mg : MG) (c : Str) : Prop where
  ex : ∃ C : Addr, mg c = some (.ref C) ∧ Cls K C ∧ PySem.W.findIn K (.ref C) "__class__" = some (some (.builtin "object.__class__")) ∧ PySem.W.mroIn K C (.type "object") = some true
/-- object.__class__ is what it was -/
structure Oc (K : PySem.W.Frag) : Prop where
  hn : PySem.W.specialIn K (.builtin "object.__class__") "__get__" = some (some (.builtin "getset_descriptor.__get__"))
  ht : PySem.W.takesIn K (.builtin "object.__class__") = some true
def KitP (K : PySem.W.Frag) (mg : MG) (cv : Value) : TyN × Bool → Prop
  | (.blt n, b) => PySem.W.kitOne K (.type n) cv = some b
  | (.er c, b) => ErT K mg c ∧ ∃ C : Addr, mg c = some (.ref C) ∧ PySem.W.kitOne K (.ref C) cv = some b
  | (.ob c, b) => ObT K mg c ∧ ∃ C : Addr, mg c = some (.ref C) ∧ PySem.W.kitOne K (.ref C) cv = some b
theorem insOk {P : Program} {w : World} {H : Hp} {h : Heap} {a C dx : Addr} {fs : List (Str × V)} (x : ObjOk P w H h a (.ins C dx fs)) : ∃ mA, ObjM h a dx C mA ∧ ∀ f, RelO (fs.lookup f) (mA f) := by
  obtain ⟨d, z, ne, ob, mA, n, r, q⟩ := x
  exact ⟨mA, ⟨ob, n, ne⟩, r⟩
section
variable {X : Cx} {pins : List (Addr × Obj)} {σ : St} {F H : Hp} {s : Shared}
theorem kit_den {d : D} {x : V} {u cv : Value} {t : TyN} {b : Bool} (oc : Oc X.K) (I : Inv X pins σ H s) (sb : Sub F H) (h : Den X.K X.mg X.w F d x) (rx : RelV x u) (ht : tyN d = some t) (hp : KitP X.K X.mg cv (t, b)) :
    ∃ (tv : Value) (P : Heap → Prop), PySem.W.KitX X.K u tv P ∧ P s.heap ∧ u ≠ .builtin "__main__.__loader__#opaque" ∧ PySem.W.kitOne X.K tv cv = some b := by
  have old : ∀ n, tyName d = some n → t = .blt n → ∃ (tv : Value) (P : Heap → Prop), PySem.W.KitX X.K u tv P ∧ P s.heap ∧ u ≠ .builtin "__main__.__loader__#opaque" ∧ PySem.W.kitOne X.K tv cv = some b := fun n h1 h2 => by
    subst h2
    obtain ⟨P, Z, p, hx⟩ := kit_of I rx (tyX_of sb h h1)
    exact ⟨_, P, Z, p, hx, hp⟩
  cases h with
  | gd h1 l =>
    cases ht
    cases rx
    obtain ⟨⟨o1, _, _, xs, _, o, es, ep, h2, h3, _⟩, _⟩ := (sb _ _ h1).ok I.hok
    exact ⟨_, _, PySem.W.kitx_dict, ⟨o, h2, h3.1⟩, (fun z => nomatch z), hp⟩
  | er0 m h1 =>
    cases ht
    cases rx
    obtain ⟨⟨D, m', e1, e2, e3, e4, e5, e6⟩, C', m2, hk⟩ := hp
    rw [m] at m' m2; cases m'; cases m2
    obtain ⟨⟨oe, vs, h2, hz, hd, _⟩, _⟩ := (sb _ _ h1).ok I.hok
    exact ⟨_, _, PySem.W.kitx_exc (ox := oe) (od := none) e1 e2 e3 e4 e5 oc.hn oc.ht e6, ⟨h2, hz.1, by unfold PySem.W.notCls; rw [hd], by rw [hz.2]; trivial⟩, (fun z => nomatch z), hk⟩
  | @er1 c C a p fs gs m h1 h2 l =>
    cases ht
    cases rx
    obtain ⟨⟨D, m', e1, e2, e3, e4, e5, e6⟩, C', m2, hk⟩ := hp
    rw [m] at m' m2; cases m'; cases m2
    obtain ⟨⟨oe, vs, h3, hz, hd, _⟩, _⟩ := (sb _ _ h1).ok I.hok
    obtain ⟨mA, hns, _⟩ := (sb _ _ h2).ok I.hok
    obtain ⟨od, ho, _⟩ := lookIn_ns hns
    exact ⟨_, _, PySem.W.kitx_exc (ox := oe) (od := some od) e1 e2 e3 e4 e5 oc.hn oc.ht e6, ⟨h3, hz.1, by unfold PySem.W.notCls; rw [hd], by rw [hz.2]; exact ho⟩, (fun z => nomatch z), hk⟩
  | @obj c C dx a fs gs m h1 l =>
    cases ht
    cases rx
    obtain ⟨⟨D, m', cl, e5, e6⟩, C', m2, hk⟩ := hp
    rw [m] at m' m2; cases m'; cases m2
    obtain ⟨mA, O, _⟩ := insOk ((sb _ _ h1).ok I.hok)
    obtain ⟨od, J, _⟩ := O.look
    exact ⟨_, _, PySem.W.kitx_own (cl.get _) cl.hd e5 oc.hn oc.ht e6, J, (fun z => nomatch z), hk⟩
  | non => cases ht; exact old _ rfl rfl
  | bl b => cases ht; exact old _ rfl rfl
  | int i => cases ht; exact old _ rfl rfl
  | str z => cases ht; exact old _ rfl rfl
  | tup h1 l => cases ht; exact old _ rfl rfl
  | lst h1 l => cases ht; exact old _ rfl rfl
  | dct h1 l => cases ht; exact old _ rfl rfl
  | con v => cases ht
  | xn0 a c => cases ht
  | xn1 h1 l => cases ht
  | sob m h1 h2 l => cases ht
end
/-! ### isinstance -/
def isnD (tab : List (TyN × Bool)) (d : D) : Option D := ((tyN d).bind fun t => tab.lookup t).map .bl
def isnG (tab : List (TyN × Bool)) (g : En → Res D) : En → Res D := fun e => (g e).bind fun d e1 => lift (isnD tab d) e1
def KitA (K : PySem.W.Frag) (mg : MG) (cv : Value) (tab : List (TyN × Bool)) : Prop := ∀ p ∈ tab, KitP K mg cv p
theorem lookup_mem {α β : Type} [BEq α] [LawfulBEq α] {k : α} {v : β} : ∀ {l : List (α × β)}, l.lookup k = some v → (k, v) ∈ l
  | [], h => by cases h
  | (a, b) :: l, h => by
    unfold List.lookup at h
    split at h
    · rename_i q
      cases h
      have : k = a := eq_of_beq q
      subst this
      exact List.mem_cons_self
    · exact List.mem_cons_of_mem _ (lookup_mem h)
section
variable {X : Cx} {T : Tb} {W : WX} {a : Expr} {ga : En → Res D} {pos : Pos}
theorem call_isn (oc : Oc X.K) : CallR X (.builtin "isinstance") (fun xs H Q => ∃ (F : Hp) (d : D) (x c : V) (cv : Value) (t : TyN) (b : Bool), xs = [x, c] ∧ Sub F H ∧ Den X.K X.mg X.w F d x ∧ ClsV c cv ∧ tyN d = some t ∧ KitP X.K X.mg cv (t, b) ∧ Q (.bl b) H) := by
  intro pins s σ H xs us Q I r h
  obtain ⟨F, d, x, c, cv, t, b, rfl, sb, hd, k, ht, hp, q⟩ := h
  obtain ⟨u1, u2, rfl, r1, r2⟩ := vals2 r
  have e2 := k.eq r2
  subst e2
  obtain ⟨tv, P, Z, p, hx, e⟩ := kit_den oc I sb hd r1 ht hp
  exact PySem.W.kia_one Z I.kIn p e hx fun tk => ⟨.bl b, H, I.tok tk, rfl, q⟩
theorem eisn {tab : List (TyN × Bool)} {cv : Value} {v : V} {t : Str} {p1 p2 : Pos} (oc : Oc X.K) (ka : KitA X.K X.mg cv tab) (kv : ClsV v cv) (ha : PE X a (tE X.K X.mg X.w T W ga)) (hg : Gl X "isinstance") (hm : X.mg "isinstance" = none) (ht : PE X (.Name t p2) (tC v))
    (he : starEach [a, .Name t p2] X.env = (false, eval a X.env) :: starEach [.Name t p2] X.env := by rfl) (he2 : starEach [.Name t p2] X.env = (false, eval (.Name t p2) X.env) :: starEach [] X.env := by rfl) (hpl : (backTo pos (starEach [.Name t p2] X.env)).any (·.1) = false := by rfl) :
    PE X (.Call (.Name "isinstance" p1) [a, .Name t p2] [] pos) (tE X.K X.mg X.w T W (isnG tab ga)) :=
  conv (pe_callB (call_isn oc) hg hm (by decide +kernel) (pa_cons ha (pa_cons ht pa_nil he2) he) (by decide) (by decide) he hpl) fun σ H Q ⟨B, F, e, R, h⟩ =>
    ⟨B, F, e, R, h.step fun F1 e1 d x H1 l1 R1 D1 h1 => by
      obtain ⟨c, hc, h2⟩ := h1.lift
      unfold isnD at hc
      obtain ⟨b, h3, rfl⟩ := Option.map_eq_some_iff.mp hc
      obtain ⟨ty, h4, h5⟩ := bind_some' h3
      exact ⟨F1, d, x, v, cv, ty, b, rfl, R1.sub, D1, kv, h4, ka _ (lookup_mem h5), h2.ret R1 (.bl _)⟩⟩
end

/-! ### the classes' facts, short -/
def erIn (K : PySem.W.Frag) (C : Addr) : Bool := (PySem.W.clsIn K C).isSome && (PySem.W.findIn K (.ref C) "__getattribute__" == some (some (.builtin "BaseException.__getattribute__"))) && (PySem.W.findIn K (.ref C) "__getattr__" == some none) &&
  (PySem.W.subIn K (.ref C) (.type "BaseException") == some true) && (PySem.W.findIn K (.ref C) "__class__" == some (some (.builtin "object.__class__"))) && (PySem.W.mroIn K C (.type "object") == some true)
def ocIn (K : PySem.W.Frag) : Bool := (PySem.W.specialIn K (.builtin "object.__class__") "__get__" == some (some (.builtin "getset_descriptor.__get__"))) && (PySem.W.takesIn K (.builtin "object.__class__") == some true)
def kitTab (K : PySem.W.Frag) (cv : Value) (l : List (Value × Bool)) : Bool := l.all fun p => PySem.W.kitOne K p.1 cv == some p.2
/-- an own class as the second argument of isinstance -/
structure IsO (K : PySem.W.Frag) (mg : MG) (x : Str) (tab : List (TyN × Bool)) : Prop where
  ex : ∃ C : Addr, mg x = some (.ref C) ∧ KitA K mg (.ref C) tab
section
variable {K : PySem.W.Frag} {mg : MG} {c : Str} {C : Addr} {cv : Value} {b : Bool} {n : String} {l : List (Value × Bool)} {tab : List (TyN × Bool)}
theorem ert_mk (m : mg c = some (.ref C)) (h : erIn K C = true) : ErT K mg c := by
  unfold erIn at h
  simp only [Bool.and_eq_true, beq_iff_eq] at h
  obtain ⟨⟨⟨⟨⟨h1, h2⟩, h3⟩, h4⟩, h5⟩, h6⟩ := h
  exact ⟨C, m, h1, h2, h3, h4, h5, h6⟩
theorem oc_mk (h : ocIn K = true) : Oc K := by
  unfold ocIn at h
  simp only [Bool.and_eq_true, beq_iff_eq] at h
  exact ⟨h.1, h.2⟩
theorem kitTab_cons {t : Value} (h : kitTab K cv ((t, b) :: l) = true) : PySem.W.kitOne K t cv = some b ∧ kitTab K cv l = true := by
  unfold kitTab at h ⊢
  simp only [List.all_cons, Bool.and_eq_true, beq_iff_eq] at h
  exact h
theorem kita_nil : KitA K mg cv [] := fun p h => by cases h
theorem kita_cons {p : TyN × Bool} (h : KitP K mg cv p) (r : KitA K mg cv tab) : KitA K mg cv (p :: tab) := fun q hq => by
  rcases List.mem_cons.mp hq with z | z
  · rw [z]; exact h
  · exact r q z
theorem kita_er (t : ErT K mg c) (m : mg c = some (.ref C)) (h : kitTab K cv ((.ref C, b) :: l) = true) (r : kitTab K cv l = true → KitA K mg cv tab) : KitA K mg cv ((.er c, b) :: tab) := kita_cons ⟨t, C, m, (kitTab_cons h).1⟩ (r (kitTab_cons h).2)
theorem kita_ob (t : ObT K mg c) (m : mg c = some (.ref C)) (h : kitTab K cv ((.ref C, b) :: l) = true) (r : kitTab K cv l = true → KitA K mg cv tab) : KitA K mg cv ((.ob c, b) :: tab) := kita_cons ⟨t, C, m, (kitTab_cons h).1⟩ (r (kitTab_cons h).2)
theorem kita_b (h : kitTab K cv ((.type n, b) :: l) = true) (r : kitTab K cv l = true → KitA K mg cv tab) : KitA K mg cv ((.blt n, b) :: tab) := kita_cons (kitTab_cons h).1 (r (kitTab_cons h).2)
end
section
variable {X : Cx} {T : Tb} {W : WX} {a : Expr} {ga : En → Res D} {pos : Pos}
theorem eisnO {tab : List (TyN × Bool)} {t : Str} {p1 p2 : Pos} (oc : Oc X.K) (io : IsO X.K X.mg t tab) (ha : PE X a (tE X.K X.mg X.w T W ga)) (hg : Gl X "isinstance") (hm : X.mg "isinstance" = none) (hgt : Gl X t) (hdt : (t == ("__debug__" : Str)) = false := by decide)
    (he : starEach [a, .Name t p2] X.env = (false, eval a X.env) :: starEach [.Name t p2] X.env := by rfl) (he2 : starEach [.Name t p2] X.env = (false, eval (.Name t p2) X.env) :: starEach [] X.env := by rfl) (hpl : (backTo pos (starEach [.Name t p2] X.env)).any (·.1) = false := by rfl) :
    PE X (.Call (.Name "isinstance" p1) [a, .Name t p2] [] pos) (tE X.K X.mg X.w T W (isnG tab ga)) := by
  obtain ⟨C, m, ka⟩ := io.ex
  exact eisn oc ka (.own C) ha hg hm (pe_glob hgt m rfl hdt) he he2 hpl
theorem eisnB {tab : List (TyN × Bool)} {t : Str} {n : String} {p1 p2 : Pos} (oc : Oc X.K) (ka : KitA X.K X.mg (.type n) tab) (ha : PE X a (tE X.K X.mg X.w T W ga)) (hg : Gl X "isinstance") (hm : X.mg "isinstance" = none) (hgt : Gl X t) (hmt : X.mg t = none)
    (hvt : bootBuiltins t = some (.type n) := by decide +kernel) (hnt : t ≠ "__name__" := by decide) (hdt : (t == ("__debug__" : Str)) = false := by decide)
    (he : starEach [a, .Name t p2] X.env = (false, eval a X.env) :: starEach [.Name t p2] X.env := by rfl) (he2 : starEach [.Name t p2] X.env = (false, eval (.Name t p2) X.env) :: starEach [] X.env := by rfl) (hpl : (backTo pos (starEach [.Name t p2] X.env)).any (·.1) = false := by rfl) :
    PE X (.Call (.Name "isinstance" p1) [a, .Name t p2] [] pos) (tE X.K X.mg X.w T W (isnG tab ga)) := eisn oc ka (.ty n) ha hg hm (pe_bltn hgt hmt hvt rfl hnt hdt) he he2 hpl
end

/-! ### errors as values -/
def excG (x : Str) (g : En → Res D) : En → Res D := fun e => (g e).bind fun _ e1 => .ok (.er x []) e1
def excVG (x fld : Str) (g : En → Res D) : En → Res D := fun e => (g e).bind fun v e1 => .ok (.er x [(fld, v)]) e1
section
variable {X : L2.Cx} {T : Tb} {W : L2.WX} {k : Nat} {x fld : Str} {p pos : Pos} {e : Expr} {g : En → Res D}
theorem eexc (h : XcV X.K X.mg x) (hg : Gl X x) (he : PE X e (tE X.K X.mg X.w T W g)) (hdb : (x == ("__debug__" : Str)) = false := by decide)
    (hs : starEach [e] X.env = (false, eval e X.env) :: starEach [] X.env := by rfl) : PE X (.Call (.Name x p) [e] [] pos) (tE X.K X.mg X.w T W (excG x g)) := by
  obtain ⟨C, bmB, B, newId, initId, Fb, gC, q, kC, sC, tC⟩ := h.ex
  exact conv (pe_exc1 Fb q gC kC hg he hs hdb) fun σ H Q ⟨B, F, e, R, h⟩ => ⟨B, F, e, R, h.step fun F1 e1 d x H1 l1 R1 D1 h1 a ha => h1.new R1 _ a ha fun _ => .er0 gC upd_same⟩
open PySem.W PySem.Calls in
theorem pe_sup {C fI : Addr} {B newId i : String} {bmB : List Value} {f : Str} {initSt : Stmt} {te : TE} (S : SupC X.prog X.K X.mg C fI B newId i bmB fld f initSt) (Tx : SupT X.prog fld f initSt) (hr : Room (k + 1) X.A) (hg : L2.Gl X x) (hm : X.mg x = some (.ref C)) (he : L2.PE X e te)
    (hdb : (x == ("__debug__" : Str)) = false := by decide) (hs : starEach [e] X.env = (false, eval e X.env) :: starEach [] X.env := by rfl) :
    L2.PE X (.Call (.Name x p) [e] [] pos) (fun σ H Q => te σ H fun v H1 => ∀ d a, H1 d = none → H1 a = none → a ≠ d → Q (.ref a) (L2.upd (L2.upd H1 d (.xd [(fld, v)])) a (ErO (.ref C) (some d) a))) := by
  refine ⟨fun pins s σ H Q I h => ?_⟩
  refine wpAny_Call_Name_kw (ld_glob I hg hm (PySem.W.callWith_K (h₀ := X.base) I.ok.mod.kin S.keep ?_ hs (by rfl)) hdb)
  rw [hs]
  show wpAny _ _ (spliced ((false, eval e X.env) :: backTo pos (starEach [] X.env))) _ _ s
  refine Calls.spliced_cons (thn (he.run pins s σ H _ I h) fun u s1 ⟨v, H1, I1, r1, q1⟩ => Calls.spliced_nil ⟨I1.kIn, ?_⟩)
  show wpAny _ _ (call (.ref C) [u]) _ _ _
  obtain ⟨hp, g, dr, tk, os⟩ := s1
  obtain ⟨nm, N', qn, bs, bm, hdct, sn, sub, ab, col, dd, s0, s1, s2, s3, s5, hC, hT⟩ := excInit_of I1.kIn S.q
  obtain ⟨oI, hoI, hcI⟩ : ∃ oI, hp.get? fI = some oI ∧ oI.cls = .type "function" := by
    obtain ⟨o, ho, hc⟩ := Option.map_eq_some_iff.mp (show (X.K.lookup fI).map (·.cls) = some (.type "function") from beq_iff_eq.mp S.isf)
    exact ⟨o, I1.kIn _ _ ho, hc⟩
  have hz : ([u] : List Value).length ≤ sizeLine := by show 1 ≤ sizeLine; rw [sizeLine_eq]; omega
  have hn : H1 (hp.objs.size + 1) = none := I1.hok.fresh (Nat.le_succ _)
  have kk : ∀ b o, hp.get? b = some o → ((hp.push (PySem.W.kdv_tup [u])).push (PySem.HandSPX.excO C hp.objs.size)).get? b = some o := fun b o e => Heap.get?_push_of_some _ (Heap.get?_push_of_some _ e)
  have hget : ((hp.push (PySem.W.kdv_tup [u])).push (PySem.HandSPX.excO C hp.objs.size)).get? (hp.objs.size + 1) = some (excObj C hp.objs.size none .none) := by heap_get
  have hlt : ∀ {b : Addr} {o : Obj}, hp.get? b = some o → b ≠ hp.objs.size + 1 := fun z => Nat.ne_of_lt (Nat.lt_succ_of_lt (Heap.lt_size z))
  have hKe : X.K.lookup (hp.objs.size + 1) = none := by
    cases z : X.K.lookup (hp.objs.size + 1) with
    | none => rfl
    | some o => exact absurd rfl (hlt (I1.kIn _ _ z))
  refine wpAny_call (S.FB.make hT hC (looks_findIn I1.kIn S.iC) (fun self => exc_bind hoI hcI self) hz (init_run (mg := X.mg) S Tx (mod_here I1 kk) (hr.make C [u] []).depth hget hKe fun h' tk' dx t1 k' hdx he' hn' => ⟨rfl, ?_⟩))
  have hdx' : hp.objs.size ≤ dx := Nat.le_trans (by rw [Heap.size_push, Heap.size_push]; omega) hdx
  have hdn : H1 dx = none := I1.hok.fresh hdx'
  have hde : dx ≠ hp.objs.size + 1 := fun z => by
    obtain ⟨o, es, ep, e1, e2, _⟩ := hn'
    rw [z, he'] at e1
    cases e1; cases e2
  have gk : ∀ b o, b ≠ hp.objs.size + 1 → h'.get? b = some o → (hideAll h' [hp.objs.size + 1]).get? b = some o := fun b o hb z => hideAll_get _ z (by simpa using hb)
  have J := I1.laid (t' := tk') (a := dx) (o := .xd [(fld, v)]) (h' := hideAll h' [hp.objs.size + 1]) (fun b o z => gk b o (hlt z) (k' b o (hlt z) (kk _ _ z))) hdx'
    ⟨_, hn'.at fun o y => gk dx o hde y, fun y => by
      by_cases hy : y = fld
      · subst hy; rw [if_pos rfl]; simp only [List.lookup, beq_self_eq_true]; exact r1
      · rw [if_neg hy]; simp only [List.lookup, beq_eq_false_iff_ne.mpr hy]; exact True.intro⟩
  have hn2 : L2.upd H1 dx (.xd [(fld, v)]) (hp.objs.size + 1) = none := by rw [L2.upd_ne (Ne.symm hde)]; exact hn
  have J2 := J.laidN (t' := tk') (h' := h') (a := hp.objs.size + 1) (o := ErO (.ref C) (some dx) (hp.objs.size + 1)) (fun b o z => of_hideAll _ z) (hideAll_none _ (List.mem_singleton.mpr rfl)) hn2 (erO_ok he' ⟨rfl, rfl⟩ rfl (show 4 < 6 by decide))
  exact ⟨.ref (hp.objs.size + 1), _, J2, rfl, q1 dx _ hdn hn (Ne.symm hde)⟩
theorem eexcV (c : Cc X W (k + 1)) (h : XcS X.prog X.K X.mg x fld) (hg : L2.Gl X x) (he : L2.PE X e (tE X.K X.mg X.w T W g)) (hdb : (x == ("__debug__" : Str)) = false := by decide)
    (hs : starEach [e] X.env = (false, eval e X.env) :: starEach [] X.env := by rfl) : L2.PE X (.Call (.Name x p) [e] [] pos) (tE X.K X.mg X.w T W (excVG x fld g)) := by
  obtain ⟨C, fI, B, newId, i, bmB, f, initSt, S, Tx, gC⟩ := h.ex
  exact conv (pe_sup S Tx c.room hg gC he hdb hs) fun σ H Q ⟨B, F, e, R, h⟩ => ⟨B, F, e, R, h.step fun F1 e1 d x H1 l1 R1 D1 h1 dx a hd ha hne => by
    have R2 := R1.new (o := .xd [(fld, x)]) hd rfl
    have ha2 : L2.upd H1 dx (.xd [(fld, x)]) a = none := by rw [L2.upd_ne hne]; exact ha
    have l2 : Le F1 (L2.upd F1 dx (.xd [(fld, x)])) := .upd (R1.sub.free hd)
    refine (Post.le h1 l2).new R2 _ a ha2 fun l3 => .er1 gC L2.upd_same (by rw [L2.upd_ne (Ne.symm hne)]; exact L2.upd_same) (.cons ((D1.mono l2).mono l3) .nil)⟩
end
/-! ### a call by values, below the running body -/
def callV (f : En → Res D) (ds : List D) : En → Res D := fun e => match f (ds.map .val) with
  | .ok d _ => .ok d e
  | .exc x _ => .exc x e
  | .bad => .bad
theorem slots_vals : ∀ ds : List D, slotsOf (ds.map Ar.v) = []
  | [] => rfl
  | _ :: ds => slots_vals ds
theorem mk_vals {e : En} : ∀ ds : List D, mkArgs e (ds.map Ar.v) = some (ds.map .val)
  | [] => rfl
  | d :: ds => by
    rw [List.map_cons, mkArgs, mk_vals ds]
    rfl
theorem wb_vals : ∀ (ds : List D) (r e : En), wb (ds.map Ar.v) r e = e
  | [], _, _ => rfl
  | _ :: _, [], _ => rfl
  | _ :: ds, _ :: r, e => wb_vals ds r e
theorem args_vals {K : PySem.W.Frag} {mg : MG} {w : World} {σ : St} {F : Hp} : ∀ {ds : List D} {vs : List V}, DenL K mg w F ds vs → ArsOk K mg w σ F (ds.map Ar.v) vs
  | _, _, .nil => trivial
  | _, _, .cons h t => ⟨h, args_vals t⟩
section
variable {X : L2.Cx} {T : Tb} {W : L2.WX} {k j n : Nat} {fa : Addr} {fd : FuncData} {ps : List Str} {f : En → Res D} {B : Bs T} {F H : Hp} {e : En} {σ : L2.St} {pins : List (Addr × Obj)} {s : Shared}
theorem post_vals {ds : List D} {vs : List V} {Q : VK} (hn : vs.length = n) (R : Rel X.K X.mg X.w B F e σ H) (A : DenL X.K X.mg X.w F ds vs) (h : Post X.K X.mg X.w W B σ (Den X.K X.mg X.w) F (callV f ds e) Q) : spV X.K X.mg X.w T n f vs H Q (WE W σ) := by
  refine call_post hn R (args_vals A) (by rw [slots_vals]; exact List.nodup_nil) (mk_vals ds) ?_
  unfold callV at h
  cases q : f (ds.map .val) with
  | ok d r => rw [q] at h; simp only [wb_vals]; exact h
  | exc x r => rw [q] at h; simp only [wb_vals]; exact h
  | bad => rw [q] at h; exact h
/-- such a call, as the machine makes it -/
theorem code_vals (tk : L2.Takes X W) (Fn : FnG X.prog X.w X.K X.mg X.base (L2.CX X.prog X.w) j fa fd ps (spV X.K X.mg X.w T n f)) (hb : L2.Binds X.K fd ps []) {A : Around} (fr : A.frames = X.A.frames) (gd : A.guards = some []) (hr : Room j A)
    {ds : List D} {vs : List V} {us : List Value} {Q : VK} (I : Inv X pins σ H s) (r : Vals vs us) (hn : vs.length = n) (R : Rel X.K X.mg X.w B F e σ H) (D0 : DenL X.K X.mg X.w F ds vs) (h : Post X.K X.mg X.w W B σ (Den X.K X.mg X.w) F (callV f ds e) Q) :
    codeAny (model X.prog X.w) A (.call (.ref fa) ⟨us, []⟩) (fun r s' => match r with | .error er => X.xe er s' | .ok (.ret u) => EP X pins σ Q u s' | _ => False) s := by
  have hsp := post_vals (X := X) (T := T) (W := W) hn R D0 h
  have hl := Fn.len _ _ _ _ hsp
  have b := hb s us I.kIn (by rw [List.append_nil, ← r.length]; exact hl)
  rw [List.append_nil] at b
  have e0 : Env0 X.prog X.w X.K X.mg X.base A X.stack s H := by
    have q := I.env0
    exact ⟨by rw [fr]; exact q.frames, q.mod, q.bs, q.bsz, q.funs, q.frf, q.hok, q.bare⟩
  refine codeAny_mono (Fn.run A X.stack s H ⟨us, []⟩ us vs Q (WE W σ) gd hr e0 b r hsp) fun r s' hq => ?_
  match r, hq with
  | .error er, hq => exact passAt tk σ pins H s er s' I hq
  | .ok (.ret u), hq => exact I.after hq
  | .ok .next, hq => exact hq.elim
  | .ok .brk, hq => exact hq.elim
  | .ok .cont, hq => exact hq.elim
/-- .. that ends well -/
theorem code_vals0 (Fn : FnG X.prog X.w X.K X.mg X.base (L2.CX X.prog X.w) j fa fd ps (spV X.K X.mg X.w T n f)) (hb : L2.Binds X.K fd ps []) {A : Around} (fr : A.frames = X.A.frames) (gd : A.guards = some []) (hr : Room j A)
    {ds : List D} {vs : List V} {us : List Value} {Q : VK} {d : D} (I : Inv X pins σ H s) (r : Vals vs us) (hn : vs.length = n) (R : Rel X.K X.mg X.w B F e σ H) (D0 : DenL X.K X.mg X.w F ds vs) (hd : callV f ds e = .ok d e) (h : Post X.K X.mg X.w W B σ (Den X.K X.mg X.w) F (.ok d e) Q) :
    codeAny (model X.prog X.w) A (.call (.ref fa) ⟨us, []⟩) (fun r s' => match r with | .ok (.ret u) => EP X pins σ Q u s' | _ => False) s := by
  have h' : Post X.K X.mg X.w (fun _ _ _ _ => False) B σ (Den X.K X.mg X.w) F (callV f ds e) Q := by rw [hd]; exact h
  have hsp := post_vals (X := X) (T := T) (W := fun _ _ _ _ => False) hn R D0 h'
  have hl := Fn.len _ _ _ _ hsp
  have b := hb s us I.kIn (by rw [List.append_nil, ← r.length]; exact hl)
  rw [List.append_nil] at b
  have e0 : Env0 X.prog X.w X.K X.mg X.base A X.stack s H := by
    have q := I.env0
    exact ⟨by rw [fr]; exact q.frames, q.mod, q.bs, q.bsz, q.funs, q.frf, q.hok, q.bare⟩
  refine codeAny_mono (Fn.run A X.stack s H ⟨us, []⟩ us vs Q _ gd hr e0 b r hsp) fun r s' hq => ?_
  match r, hq with
  | .error er, hq =>
    obtain ⟨_, _, _, _, _, _, _, _, _, _, _, _, _, _, _, _, z⟩ := XE.of_call (W := fun _ _ _ _ => False) I (fun _ _ _ h => h) hq
    exact z.elim
  | .ok (.ret u), hq => exact I.after hq
  | .ok .next, hq => exact hq.elim
  | .ok .brk, hq => exact hq.elim
  | .ok .cont, hq => exact hq.elim
theorem run_vals (tk : L2.Takes X W) (Fn : FnG X.prog X.w X.K X.mg X.base (L2.CX X.prog X.w) j fa fd ps (spV X.K X.mg X.w T n f)) (hb : L2.Binds X.K fd ps []) {A : Around} (fr : A.frames = X.A.frames) (gd : A.guards = some []) (hr : Room j A)
    {ds : List D} {vs : List V} {us : List Value} {Q : VK} (I : Inv X pins σ H s) (r : Vals vs us) (hn : vs.length = n) (R : Rel X.K X.mg X.w B F e σ H) (D0 : DenL X.K X.mg X.w F ds vs) (h : Post X.K X.mg X.w W B σ (Den X.K X.mg X.w) F (callV f ds e) Q) :
    wpAny (model X.prog X.w) A (call (.ref fa) us) (EP X pins σ Q) X.xe s := wpAny_call (codeAny_mono (code_vals tk Fn hb fr gd hr I r hn R D0 h) fun r s' hq => by
  match r, hq with
  | .error er, hq => exact hq
  | .ok (.ret u), hq => exact hq
  | .ok .next, hq => exact hq.elim
  | .ok .brk, hq => exact hq.elim
  | .ok .cont, hq => exact hq.elim)
end

/-! ### attributes -/
/-- a def of a class, by its object -/
structure ClM (P : Program) (w : World) (K : PySem.W.Frag) (mg : MG) (base : Heap) (T : Tb) (j : Nat) (fa : Addr) (n : Nat) (f : En → Res D) : Prop where
  ex : ∃ (fd : FuncData) (ps : List Str), FnG P w K mg base (L2.CX P w) j fa fd ps (spV K mg w T n f) ∧ PySem.W.keepIn K (.ref fa) = true ∧ PySem.W.isFn K (.ref fa) = true ∧ Binds K fd ps []
/-- what an attribute of a class is -/
inductive AK where | fld | prop (f : En → Res D)
def AkP (P : Program) (w : World) (K : PySem.W.Frag) (mg : MG) (base : Heap) (T : Tb) (k : Nat) (x : Str) : TyN × AK → Prop
  | (.er c, .fld) => ∃ A : Addr, mg c = some (.ref A) ∧ XfC K A ∧ PySem.W.findIn K (.ref A) x = some none
  | (.ob c, .fld) => ∃ C : Addr, mg c = some (.ref C) ∧ Cls K C ∧ NoAttr K C x
  | (.ob c, .prop f) => ∃ (C p g : Addr) (j : Nat), mg c = some (.ref C) ∧ Cls K C ∧ PropOf K C x p g ∧ ClM P w K mg base T j g 1 f ∧ j + 1 ≤ k
  | _ => False
def fldsOf : D → List (Str × D)
  | .er _ fs => fs
  | .obj _ fs => fs
  | _ => []
def attG (x : Str) (tab : List (TyN × AK)) (g : En → Res D) : En → Res D := fun e => (g e).bind fun d e1 => match (tyN d).bind fun t => tab.lookup t with
  | some .fld => lift ((fldsOf d).lookup x) e1
  | some (.prop f) => (match f [.val d] with | .ok r _ => .ok r e1 | _ => .bad)
  | none => .bad
/-- the entries of a table, shown one by one -/
inductive AllP {α : Type} (P : α → Prop) : List α → Prop
  | nil : AllP P []
  | cons {a : α} {l : List α} (h : P a) (t : AllP P l) : AllP P (a :: l)
theorem AllP.mem {α : Type} {P : α → Prop} {a : α} : ∀ {l : List α}, AllP P l → a ∈ l → P a
  | _, .nil, h => by cases h
  | _, .cons h t, q => by
    rcases List.mem_cons.mp q with z | z
    · rw [z]; exact h
    · exact t.mem z
section
variable {X : L2.Cx} {T : Tb} {W : L2.WX} {k : Nat} {x : Str} {pos : Pos} {o : Expr} {g : En → Res D}
theorem eatt {tab : List (TyN × AK)} (c : Cc X W k) (ht : AllP (AkP X.prog X.w X.K X.mg X.base T k x) tab) (ho : L2.PE X o (tE X.K X.mg X.w T W g)) (hb : attributeBase o x X.env (eval o X.env) = eval o X.env := by rfl) :
    L2.PE X (.Attribute o x pos) (tE X.K X.mg X.w T W (attG x tab g)) := ⟨fun pins s σ H Q I ⟨B, F, e, R, h⟩ => by
  refine attr_of hb (thn (ho.run pins s σ H _ I ⟨B, F, e, R, Post.step (KK := fun v H1 => ∃ F1 e1 d, Rel X.K X.mg X.w B F1 e1 σ H1 ∧ Den X.K X.mg X.w F1 d v ∧ Post X.K X.mg X.w W B σ (Den X.K X.mg X.w) F1 (match (tyN d).bind fun t => tab.lookup t with
    | some .fld => lift ((fldsOf d).lookup x) e1
    | some (.prop f) => (match f [.val d] with | .ok r _ => .ok r e1 | _ => .bad)
    | none => .bad) Q) h fun F1 e1 d v H1 l1 R1 D1 h1 => ⟨F1, e1, d, R1, D1, h1⟩⟩) ?_)
  rintro u s1 ⟨v, H1, I1, rv, F1, e1, d, R1, D1, h1⟩
  cases q : (tyN d).bind fun t => tab.lookup t with
  | none => rw [q] at h1; exact h1.elim
  | some ak =>
    rw [q] at h1
    obtain ⟨t, hty, hl⟩ := bind_some' q
    have hk := ht.mem (lookup_mem hl)
    cases D1 with
    | @er1 c0 C a p fs gs m h2 h3 l =>
      cases hty
      cases rv
      cases ak with
      | prop f => exact hk.elim
      | fld =>
        obtain ⟨A, m1, T1, no⟩ := hk
        rw [m] at m1; cases m1
        obtain ⟨r, hr, h1⟩ := Post.lift h1
        obtain ⟨v', l', hD'⟩ := l.look hr
        obtain ⟨⟨oe, vs, h4, hz, hdt, _⟩, _⟩ := (R1.sub _ _ h2).ok I1.hok
        obtain ⟨mA, hns, hr'⟩ := (R1.sub _ _ h3).ok I1.hok
        obtain ⟨od, ho', hlk⟩ := lookIn_ns hns
        obtain ⟨u, hu, ru⟩ := RelO.some_of (v := v') (o := mA x) (by rw [← l']; exact hr' x)
        have J : PySem.W.InstAt s1.heap a oe C (some od) := ⟨h4, hz.1, by unfold PySem.W.notCls; rw [hdt] <;> rfl, by rw [hz.2]; exact ho'⟩
        exact HandSPX.exc_get I1.kIn J T1.ga T1.gg T1.exC (PySem.W.findObj_own T1.hdC no rfl (by rw [hlk, hu])) (handed_of ru) ⟨v', H1, I1.tok _, ru, h1.ret R1 hD'⟩
    | @obj c0 C dx a fs gs m h2 l =>
      cases hty
      cases rv
      obtain ⟨mA, O, hrel⟩ := insOk ((R1.sub _ _ h2).ok I1.hok)
      obtain ⟨od, J, hlk⟩ := O.look
      cases ak with
      | fld =>
        obtain ⟨C', m1, cl, no⟩ := hk
        rw [m] at m1; cases m1
        obtain ⟨r, hr, h1⟩ := Post.lift h1
        obtain ⟨v', l', hD'⟩ := l.look hr
        obtain ⟨u, hu, ru⟩ := RelO.some_of (v := v') (o := mA x) (by rw [← l']; exact hrel x)
        exact get_map I1.kIn O (cl.get x) cl.hd no hu (handed_of ru) ⟨v', H1, I1.tok _, ru, h1.ret R1 hD'⟩
      | prop f =>
        obtain ⟨C', p, g', j, m1, cl, hp, ⟨fd, ps, Fn, kp, ifn, bn⟩, hj⟩ := hk
        rw [m] at m1; cases m1
        obtain ⟨rest, hrec⟩ := hp.rec_
        have I2 := I1.tok (s1.toks + 1)
        have hc : (PySem.W.clsIn X.K C).isSome = true := by
          obtain ⟨cd, hc, _⟩ := PySem.W.any_some cl.hd
          rw [hc]
          rfl
        obtain ⟨r, en, hf, h1⟩ : ∃ r en, f [.val (.obj c0 fs)] = .ok r en ∧ Post X.K X.mg X.w W B σ (Den X.K X.mg X.w) F1 (.ok r e1) Q := by
          cases hf : f [.val (.obj c0 fs)] with
          | ok r en => exact ⟨r, en, rfl, by simp only [hf] at h1; exact h1⟩
          | exc _ _ => simp only [hf] at h1; exact h1.elim
          | bad => simp only [hf] at h1; exact h1.elim
        have hrun := code_vals0 (A := X.A.in1) (W := W) (e := e1) (d := r) (ds := [.obj c0 fs]) Fn bn rfl c.gd ((c.room.mono hj).in1) I2 (vs := [.ref a]) (us := [.ref a]) (.cons rfl .nil) rfl R1 (.cons (Den.obj m h2 l) .nil) (by unfold callV; simp only [List.map_cons, List.map_nil, hf]) h1
        refine PySem.W.get_bind I1.kIn J (PySem.W.plainGet_of (cl.get x)).1 (PySem.W.findObj_data hc hp.at_ hp.get hp.tak) (PySem.W.plainGet_of (cl.get x)).2 (wpAny_call (PySem.W.prop_get (s := { s1 with toks := s1.toks + 1 }) I1.kIn hrec ?_))
        refine codeAny_mono hrun fun r s' hq => ?_
        match r, hq with
        | .error er, hq => exact hq.elim
        | .ok (.ret u), ⟨v', H', I3, rv', q3⟩ =>
          show wpAny _ _ (handedOut u) _ _ _
          rw [PySem.W.handedOut_of (handed_of rv')]
          exact wpAny_pure ⟨v', H', I3, rv', q3⟩
        | .ok .next, hq => exact hq.elim
        | .ok .brk, hq => exact hq.elim
        | .ok .cont, hq => exact hq.elim
    | er0 m h2 =>
      cases hty
      cases ak with
      | prop f => exact hk.elim
      | fld => cases h1
    | _ => cases hty <;> cases ak <;> exact hk.elim⟩
end
end L2.PV

set_option Elab.async false
set_option linter.all false
set_option maxRecDepth 100000
set_option autoImplicit false
/-! repr of data with dicts in it. -/
namespace L2.PV
open PySem PySem.Spec PyProof.Rows
mutual
/-- what a value shows, dicts included -/
def toPyX : D → Option PyData
  | .non => some .none
  | .bl b => some (.bool b)
  | .int i => some (.int i)
  | .str x => some (.str x)
  | .lst xs => (toPyXs xs).map .list
  | .tup xs => (toPyXs xs).map .tuple
  | .dct kvs => (toPyXk kvs).map .dict
  | _ => none
def toPyXs : List D → Option (List PyData)
  | [] => some []
  | d :: ds => (toPyX d).bind fun p => (toPyXs ds).map (p :: ·)
def toPyXk : List (Key × D) → Option (List (PyData × PyData))
  | [] => some []
  | (k, d) :: ds => (toPyX d).bind fun p => (toPyXk ds).map (((match k with | .inl i => PyData.int i | .inr x => PyData.str x), p) :: ·)
end
/-- the table of modules is known -/
def SmK (K : PySem.W.Frag) : Prop := ∃ o, K.lookup sysModules = some o ∧ o.cls = .type "dict"
section
variable {X : Cx} {pins : List (Addr × Obj)} {σ : St} {F H : Hp} {s : Shared}
theorem not_sm (sm : SmK X.K) (I : Inv X pins σ H s) {a : Addr} {o : Obj} (h : s.heap.get? a = some o) (hc : o.cls = .type "list") : a ≠ sysModules := by
  rintro rfl
  obtain ⟨o', h1, h2⟩ := sm
  rw [I.kIn _ _ h1] at h
  cases h
  rw [hc] at h2
  exact absurd h2 (by decide)
theorem AtL.at (I : Inv X pins σ H s) (sb : Sub F H) {a : Addr} {vs : List V} (h : AtL X.K F a vs) : ∃ (its : List Value) (n : Nat), Vals vs its ∧ s.heap.get? a = some { cls := .type "list", data := .seq its.toArray n } := by
  obtain ⟨_, its, n, r, e⟩ := (h.rd sb).ok I.hok
  exact ⟨its, n, r, e⟩
theorem keys_reads {P : Program} {w : World} {h : Heap} : ∀ {es : List DictEntry} {vs : List (Key × Value)} {ds : List (Key × D)} {ps : List (PyData × PyData)}, Pairs (mixKind P w) es vs → vs.map (·.1) = ds.map (·.1) → toPyXk ds = some ps → ReadsAll h (es.map (·.key)) (ps.map (·.1)) []
  | [], _, [], _, .nil, _, h => by cases h; exact .nil
  | [], _, _ :: _, _, .nil, e, _ => by cases e
  | _ :: _, _, [], _, .cons _ _ _, e, _ => by cases e
  | e :: es, (k, v) :: vs, (k', d) :: ds, ps, .cons h1 h2 t, hk, hp => by
    injection hk with hk1 hk2
    have hk1 : k = k' := hk1
    subst hk1
    unfold toPyXk at hp
    obtain ⟨p, _, hp⟩ := bind_some' hp
    obtain ⟨ps', hp', rfl⟩ := Option.map_eq_some_iff.mp hp
    have r := keys_reads (h := h) t hk2 hp'
    rcases keyIs_shape h1 with ⟨i, tk, e1, e2⟩ | ⟨x, tk, e1, e2⟩
    · have e1 : k = .inl i := e1
      subst e1
      show ReadsAll h (e.key :: es.map (·.key)) (.int i :: ps'.map (·.1)) ([] ++ [])
      rw [e2]
      exact .cons (.int i tk) r
    · have e1 : k = .inr x := e1
      subst e1
      show ReadsAll h (e.key :: es.map (·.key)) (.str x :: ps'.map (·.1)) ([] ++ [])
      rw [e2]
      exact .cons (.str x tk) r
theorem kv_keys : ∀ {kvs : List (Key × V)} {vs : List (Key × Value)}, KV kvs vs → vs.map (·.1) = kvs.map (·.1)
  | _, _, .nil => rfl
  | _, _, .cons h t => by rw [List.map_cons, List.map_cons, kv_keys t, h.1]
theorem denK_keys {K : PySem.W.Frag} {mg : MG} {w : World} : ∀ {ds : List (Key × D)} {vs : List (Key × V)}, DenK K mg w F ds vs → vs.map (·.1) = ds.map (·.1)
  | _, _, .nil => rfl
  | _, _, .cons h t => by rw [List.map_cons, List.map_cons, denK_keys t]
theorem pairs_vals {P : Program} {w : World} : ∀ {es : List DictEntry} {vs : List (Key × Value)}, Pairs (mixKind P w) es vs → es.map (·.val) = vs.map (·.2)
  | _, _, .nil => rfl
  | _, _, .cons h1 h2 t => by rw [List.map_cons, List.map_cons, pairs_vals t, h2]
mutual
theorem den_reads (sm : SmK X.K) (I : Inv X pins σ H s) (sb : Sub F H) : ∀ {d : D} {v : V} {u : Value}, Den X.K X.mg X.w F d v → RelV v u → ∀ {p : PyData}, toPyX d = some p → ∃ as, Reads s.heap u p as ∧ sysModules ∉ as
  | _, _, _, .non, r, _, h => by cases h; cases r; exact ⟨_, .none, by simp⟩
  | _, _, _, .bl b, r, _, h => by cases h; cases r; exact ⟨_, .bool b, by simp⟩
  | _, _, _, .int i, r, _, h => by cases h; obtain ⟨t, rfl⟩ := r; exact ⟨_, .int i t, by simp⟩
  | _, _, _, .str x, r, _, h => by cases h; obtain ⟨t, rfl⟩ := r; exact ⟨_, .str x t, by simp⟩
  | _, _, _, .tup h l, r, _, e => by
    unfold toPyX at e
    obtain ⟨ps, h1, rfl⟩ := Option.map_eq_some_iff.mp e
    cases r
    obtain ⟨its, rv, ⟨o, ho, hc, n, hd⟩, _⟩ := I.tuple (h.seq sb)
    obtain ⟨as, h2, h3⟩ := denL_reads sm I sb l rv h1
    exact ⟨as, .tuple ho hc hd h2, h3⟩
  | _, _, _, .lst h l, r, _, e => by
    unfold toPyX at e
    obtain ⟨ps, h1, rfl⟩ := Option.map_eq_some_iff.mp e
    cases r
    obtain ⟨its, n, rv, ho⟩ := h.at I sb
    obtain ⟨as, h2, h3⟩ := denL_reads sm I sb l rv h1
    have hn := not_sm sm I ho rfl
    exact ⟨_, .list ho rfl rfl h2, by simp only [List.mem_cons, not_or]; exact ⟨Ne.symm hn, h3⟩⟩
  | _, _, _, .dct (xs := xs) h l, r, _, e => by
    unfold toPyX at e
    obtain ⟨ps, h1, rfl⟩ := Option.map_eq_some_iff.mp e
    cases r
    obtain ⟨_, hne, vs, kv, o, es, ep, ho, hx, hd, _, pr, _⟩ := (sb _ _ h).ok I.hok
    obtain ⟨bs, h2, h3⟩ := denK_reads sm I sb l kv h1
    refine ⟨_, .dict ho hx.1 hd (keys_reads pr ((kv_keys kv).trans (denK_keys l)) h1) (by rw [pairs_vals pr]; exact h2), ?_⟩
    simp only [List.append_nil, List.cons_append, List.nil_append, List.mem_cons, not_or]
    exact ⟨fun z => by rw [z] at hne; simp at hne, h3⟩
  | _, _, _, .obj _ _ _, _, _, e => by cases e
  | _, _, _, .con _, _, _, e => by cases e
  | _, _, _, .xn0 _ _, _, _, e => by cases e
  | _, _, _, .xn1 _ _, _, _, e => by cases e
  | _, _, _, .gd _ _, _, _, e => by cases e
  | _, _, _, .sob _ _ _ _, _, _, e => by cases e
  | _, _, _, .er0 _ _, _, _, e => by cases e
  | _, _, _, .er1 _ _ _ _, _, _, e => by cases e
theorem denL_reads (sm : SmK X.K) (I : Inv X pins σ H s) (sb : Sub F H) : ∀ {ds : List D} {vs : List V} {us : List Value}, DenL X.K X.mg X.w F ds vs → Vals vs us → ∀ {ps : List PyData}, toPyXs ds = some ps → ∃ as, ReadsAll s.heap us ps as ∧ sysModules ∉ as
  | _, _, _, .nil, r, _, h => by cases h; cases r; exact ⟨_, .nil, by simp⟩
  | _, _, _, .cons h t, .cons r1 r2, _, e => by
    unfold toPyXs at e
    obtain ⟨p, h1, h2⟩ := bind_some' e
    obtain ⟨ps, h3, rfl⟩ := Option.map_eq_some_iff.mp h2
    obtain ⟨as, q1, q2⟩ := den_reads sm I sb h r1 h1
    obtain ⟨bs, q3, q4⟩ := denL_reads sm I sb t r2 h3
    exact ⟨_, .cons q1 q3, by simp only [List.mem_append, not_or]; exact ⟨q2, q4⟩⟩
theorem denK_reads (sm : SmK X.K) (I : Inv X pins σ H s) (sb : Sub F H) : ∀ {ds : List (Key × D)} {vs : List (Key × V)} {us : List (Key × Value)}, DenK X.K X.mg X.w F ds vs → KV vs us → ∀ {ps : List (PyData × PyData)}, toPyXk ds = some ps → ∃ as, ReadsAll s.heap (us.map (·.2)) (ps.map (·.2)) as ∧ sysModules ∉ as
  | _, _, _, .nil, .nil, _, h => by cases h; exact ⟨_, .nil, by simp⟩
  | _, _, _, .cons h t, .cons r1 r2, _, e => by
    unfold toPyXk at e
    obtain ⟨p, h1, h2⟩ := bind_some' e
    obtain ⟨ps, h3, rfl⟩ := Option.map_eq_some_iff.mp h2
    obtain ⟨as, q1, q2⟩ := den_reads sm I sb h r1.2 h1
    obtain ⟨bs, q3, q4⟩ := denK_reads sm I sb t r2 h3
    exact ⟨_, .cons q1 q3, by simp only [List.mem_append, not_or]; exact ⟨q2, q4⟩⟩
end
end
def shOkX (p : PyData) : Bool := p.showable && decide (p.depth ≤ 60) && decide (p.shown.length ≤ sizeLine)
def reprX : List D → Option D
  | [d] => (toPyX d).bind fun p => if shOkX p = true then some (.str p.shown) else none
  | _ => none
section
variable {X : Cx}
def rReprX (X : Cx) : List V → Hp → VK → Prop := fun xs H Q => ∃ (F : Hp) (d : D) (v : V) (p : PyData), xs = [v] ∧ Sub F H ∧ Den X.K X.mg X.w F d v ∧ toPyX d = some p ∧ shOkX p = true ∧ Q (.str p.shown) H
theorem call_reprX (sm : SmK X.K) (g : X.A.guards = some []) (hu : X.A.units + 64 < cLine) : CallR X (.builtin "repr") (rReprX X) := by
  intro pins s σ H xs us Q I r h
  obtain ⟨F, d, v, p, rfl, sb, hd, ht, hp, q⟩ := h
  unfold shOkX at hp
  simp only [Bool.and_eq_true, decide_eq_true_eq] at hp
  obtain ⟨⟨h1, h3⟩, h4⟩ := hp
  cases r with
  | @cons _ u _ us rx rn =>
    cases rn
    obtain ⟨as, hr, hn⟩ := den_reads sm I sb hd rx ht
    have tok : ∀ t', Inv X pins σ H { s with toks := t' } := fun t' => I.tok t'
    cases hr with
    | none => exact PySem.P.repr_of_none ⟨.str _, H, tok _, ⟨_, rfl⟩, by simpa [PyData.shown] using q⟩
    | bool b => exact PySem.P.repr_of_bool ⟨.str _, H, tok _, ⟨_, rfl⟩, by simpa [PyData.shown] using q⟩
    | int i t => exact PySem.P.repr_of_int (by simpa [PyData.showable] using h1) ⟨.str _, H, tok _, ⟨_, rfl⟩, by simpa [PyData.shown] using q⟩
    | str x t => exact PySem.P.repr_of_str ⟨.str _, H, tok _, ⟨_, rfl⟩, by simpa [PyData.shown] using q⟩ (by simpa [PyData.shown] using h4)
    | list e1 e2 e3 e4 => exact repr_of_reads' (.list e1 e2 e3 e4) h1 (fun _ => hn) g (by omega) (fun _ _ e => e) (fun h' u tk hk => ⟨.str _, H, I.kept hk, ⟨_, rfl⟩, q⟩) h4
    | tuple e1 e2 e3 e4 => exact repr_of_reads' (.tuple e1 e2 e3 e4) h1 (fun _ => hn) g (by omega) (fun _ _ e => e) (fun h' u tk hk => ⟨.str _, H, I.kept hk, ⟨_, rfl⟩, q⟩) h4
    | dict e1 e2 e3 e4 e5 => exact repr_of_reads' (.dict e1 e2 e3 e4 e5) h1 (fun _ => hn) g (by omega) (fun _ _ e => e) (fun h' u tk hk => ⟨.str _, H, I.kept hk, ⟨_, rfl⟩, q⟩) h4
theorem reprX_ok : CaD X.K X.mg X.w (rReprX X) reprX := by
  intro T W B F e σ H as xs Q c R Da h P
  unfold reprX at h
  split at h
  · obtain ⟨p, h1, h2⟩ := bind_some' h
    obtain ⟨h3, rfl⟩ := if_some h2
    cases Da with | cons g1 g2 => cases g2; exact ⟨F, _, _, p, rfl, R.sub, g1, h1, h3, P.ret R (.str _)⟩
  · cases h
end
end L2.PV
namespace L2.PV
open PySem PySem.Spec PyProof.Rows
/-! ### == of texts, whatever their signs -/
def eqS (a b : D) : Option D := match a, b with
  | .str x, .str y => some (.bl (decide (x = y)))
  | a, b => eqD a b
def neS (a b : D) : Option D := match a, b with
  | .str x, .str y => some (.bl (!decide (x = y)))
  | a, b => neD a b
def rEqS (K : PySem.W.Frag) : R2 := fun x y H Q => (∃ i j, x = .str i ∧ y = .str j ∧ Q (.bl (decide (i = j))) H) ∨ rEqD K x y H Q
def rNeS (K : PySem.W.Frag) : R2 := fun x y H Q => (∃ i j, x = .str i ∧ y = .str j ∧ Q (.bl (!decide (i = j))) H) ∨ rNeD K x y H Q
section
variable {X : Cx} {T : Tb} {W : WX} {a b : Expr} {ga gb : En → Res D} {pos : Pos} {K : PySem.W.Frag} {mg : MG} {w : World} {k : Nat}
theorem dec_vstr {i j : Str} : decide (V.str i = V.str j) = decide (i = j) := by
  by_cases h : i = j
  · subst h; simp
  · rw [decide_eq_false h, decide_eq_false fun z => h (V.str.inj z)]
theorem op_eqS (hu : X.A.units + 64 < cLine) : OpR X (compareOp .Eq) (rEqS X.K) := OpR.or (fun pins s σ H x y v u Q I rx ry ⟨i, j, hx, hy, q⟩ => by
  subst hx hy
  exact op_eq pins s σ H _ _ v u Q I rx ry ⟨rfl, by rw [dec_vstr]; exact q⟩) (op_eqD hu)
theorem op_neS (hu : X.A.units + 64 < cLine) : OpR X (compareOp .NotEq) (rNeS X.K) := OpR.or (fun pins s σ H x y v u Q I rx ry ⟨i, j, hx, hy, q⟩ => by
  subst hx hy
  exact op_ne pins s σ H _ _ v u Q I rx ry ⟨rfl, by rw [dec_vstr]; exact q⟩) (op_neD hu)
theorem eqS_ok : OpD K mg w (rEqS K) eqS := by
  intro T W B F e σ H a b x y Q c R Da Db h P
  unfold eqS at h
  split at h
  · cases h; cases Da; cases Db; exact .inl ⟨_, _, rfl, rfl, P.ret R (.bl _)⟩
  · exact .inr (eqD_ok T W B F e σ H a b x y Q c R Da Db h P)
theorem neS_ok : OpD K mg w (rNeS K) neS := by
  intro T W B F e σ H a b x y Q c R Da Db h P
  unfold neS at h
  split at h
  · cases h; cases Da; cases Db; exact .inl ⟨_, _, rfl, rfl, P.ret R (.bl _)⟩
  · exact .inr (neD_ok T W B F e σ H a b x y Q c R Da Db h P)
theorem eeqS (c : Cc X W k) (ha : PE X a (tE X.K X.mg X.w T W ga)) (hb : PE X b (tE X.K X.mg X.w T W gb)) (hm : behindInMarks .Eq b = false := by first | exact nobehind _ (by decide) (by decide) | rfl) : PE X (.Compare a [.Eq] [b] pos) (tE X.K X.mg X.w T W (op2G eqS ga gb)) := ecmp (op_eqS c.room.units) eqS_ok ha hb hm
theorem eneS (c : Cc X W k) (ha : PE X a (tE X.K X.mg X.w T W ga)) (hb : PE X b (tE X.K X.mg X.w T W gb)) (hm : behindInMarks .NotEq b = false := by first | exact nobehind _ (by decide) (by decide) | rfl) : PE X (.Compare a [.NotEq] [b] pos) (tE X.K X.mg X.w T W (op2G neS ga gb)) := ecmp (op_neS c.room.units) neS_ok ha hb hm
theorem teqS (c : Cc X W k) (ha : PE X a (tE X.K X.mg X.w T W ga)) (hb : PE X b (tE X.K X.mg X.w T W gb)) (hm : behindInMarks .Eq b = false := by first | exact nobehind _ (by decide) (by decide) | rfl) : PT X (.Compare a [.Eq] [b] pos) (tB X.K X.mg X.w T W (boolG (op2G eqS ga gb))) := tcmp (op_eqS c.room.units) eqS_ok ha hb hm
theorem tneS (c : Cc X W k) (ha : PE X a (tE X.K X.mg X.w T W ga)) (hb : PE X b (tE X.K X.mg X.w T W gb)) (hm : behindInMarks .NotEq b = false := by first | exact nobehind _ (by decide) (by decide) | rfl) : PT X (.Compare a [.NotEq] [b] pos) (tB X.K X.mg X.w T W (boolG (op2G neS ga gb))) := tcmp (op_neS c.room.units) neS_ok ha hb hm
end
end L2.PV

set_option Elab.async false
set_option linter.all false
set_option maxRecDepth 100000
set_option autoImplicit false
/-! What holds behind a value function: rules by the form of the term, no equation of the slots is typed. -/
namespace L2.PV
open PySem
/-- a wall: what stands behind it is not reckoned by chance -/
structure Wall (p : Prop) : Prop where
  out : p
def Res.wp {α : Type} (r : Res α) (P : α → En → Prop) (X : Ex → En → Prop) : Prop := Wall <| match r with
  | .ok a e => P a e
  | .exc x e => X x e
  | .bad => False
def Out.wp (o : Out) (N : En → Prop) (R : D → En → Prop) (X : Ex → En → Prop) (B C : En → Prop) : Prop := Wall <| match o with
  | .nx e => N e
  | .ret d e => R d e
  | .brk e => B e
  | .cnt e => C e
  | .exc x e => X x e
  | .bad => False
abbrev noX : Ex → En → Prop := fun _ _ => False
abbrev noE : En → Prop := fun _ => False
section
variable {α β : Type} {P : α → En → Prop} {X : Ex → En → Prop} {r : Res α} {a : α} {e e' : En} {o : Out} {N : En → Prop} {R : D → En → Prop} {B C : En → Prop}
theorem wp_ok (h : r = .ok a e) (p : P a e) : r.wp P X := by subst h; exact ⟨p⟩
theorem wp_exc {x : Ex} (h : r = .exc x e) (p : X x e) : r.wp P X := by subst h; exact ⟨p⟩
theorem Res.wp.eq (h : r.wp (fun b e1 => b = a ∧ e1 = e) noX) : r = .ok a e := by
  cases r with
  | ok b e1 => obtain ⟨rfl, rfl⟩ := h.out; rfl
  | exc => exact h.out.elim
  | bad => exact h.out.elim
theorem Res.wp.exq {x : Ex} (h : r.wp (fun _ _ => False) (fun y e1 => y = x ∧ e1 = e)) : r = .exc x e := by
  cases r with
  | ok b e1 => exact h.out.elim
  | exc => obtain ⟨rfl, rfl⟩ := h.out; rfl
  | bad => exact h.out.elim
theorem Res.wp.ex (h : r.wp P noX) : ∃ a e, r = .ok a e ∧ P a e := by
  cases r with
  | ok b e1 => exact ⟨b, e1, rfl, h.out⟩
  | exc => exact h.out.elim
  | bad => exact h.out.elim
theorem Res.wp.mono {P' : α → En → Prop} {X' : Ex → En → Prop} (h : r.wp P X) (f : ∀ a e, P a e → P' a e) (g : ∀ x e, X x e → X' x e) : r.wp P' X' := by
  cases r with
  | ok b e1 => exact ⟨f _ _ h.out⟩
  | exc x e => exact ⟨g _ _ h.out⟩
  | bad => exact h.out.elim
theorem Res.wp.m {P' : α → En → Prop} (h : r.wp P noX) (f : ∀ a e, P a e → P' a e) : r.wp P' X := h.mono f fun _ _ h => h.elim
theorem Out.wp.mono {N' : En → Prop} {R' : D → En → Prop} {X' : Ex → En → Prop} {B' C' : En → Prop} (h : o.wp N R X B C) (f1 : ∀ e, N e → N' e) (f2 : ∀ d e, R d e → R' d e) (f3 : ∀ x e, X x e → X' x e) (f4 : ∀ e, B e → B' e) (f5 : ∀ e, C e → C' e) : o.wp N' R' X' B' C' := by
  cases o with
  | nx e => exact ⟨f1 _ h.out⟩
  | ret d e => exact ⟨f2 _ _ h.out⟩
  | exc x e => exact ⟨f3 _ _ h.out⟩
  | brk e => exact ⟨f4 _ h.out⟩
  | cnt e => exact ⟨f5 _ h.out⟩
  | bad => exact h.out.elim
theorem wp_bind {r : Res β} {f : β → En → Res α} (h : r.wp (fun b e => (f b e).wp P X) X) : (r.bind f).wp P X := by cases r <;> first | exact h.out | exact ⟨h.out⟩ | exact h.out.elim
theorem wp_thn {r : Res β} {f : β → En → Out} (h : r.wp (fun b e => (f b e).wp N R X B C) X) : (r.thn f).wp N R X B C := by cases r <;> first | exact h.out | exact ⟨h.out⟩ | exact h.out.elim
theorem wp_lift {c : Option α} (h : c = some a) (p : P a e) : (lift c e).wp P X := by subst h; exact ⟨p⟩
theorem wp_ite {c : Prop} [Decidable c] {A B : Prop} (h : c → A) (h' : ¬ c → B) : if c then A else B := by split; exact h ‹_›; exact h' ‹_›
end
/-! ### slots -/
inductive GetAt : En → Nat → Sl → Prop
  | zero {s : Sl} {e : En} : GetAt (s :: e) 0 s
  | succ {s t : Sl} {e : En} {n : Nat} (h : GetAt e n t) : GetAt (s :: e) (n + 1) t
inductive SetAt : En → Nat → Sl → En → Prop
  | zero {s t : Sl} {e : En} : SetAt (s :: e) 0 t (t :: e)
  | succ {s t : Sl} {e e' : En} {n : Nat} (h : SetAt e n t e') : SetAt (s :: e) (n + 1) t (s :: e')
theorem GetAt.eq {e : En} {n : Nat} {s : Sl} (h : GetAt e n s) : e[n]? = some s := by
  induction h with
  | zero => rfl
  | succ h ih => simpa using ih
theorem SetAt.eq {e e' : En} {n : Nat} {s : Sl} (h : SetAt e n s e') : e.set n s = e' := by
  induction h with
  | zero => rfl
  | succ h ih => rw [List.set_cons_succ, ih]
inductive MkA (e : En) : List Ar → En → Prop
  | nil : MkA e [] []
  | v {d : D} {as : List Ar} {r : En} (h : MkA e as r) : MkA e (.v d :: as) (.val d :: r)
  | s {i : Nat} {s : Sl} {c : D} {as : List Ar} {r : En} (hs : GetAt e i s) (hc : s.cont = some c) (h : MkA e as r) : MkA e (.s i :: as) (.io c :: r)
theorem MkA.eq {e r : En} {as : List Ar} (h : MkA e as r) : mkArgs e as = some r := by
  induction h with
  | nil => rfl
  | v h ih => unfold mkArgs; rw [ih]; rfl
  | s hs hc h ih => unfold mkArgs; rw [hs.eq, ih]; simp [hc]
inductive WbA : List Ar → En → En → En → Prop
  | nil {r e : En} : WbA [] r e e
  | v {d : D} {as : List Ar} {s : Sl} {r e e' : En} (h : WbA as r e e') : WbA (.v d :: as) (s :: r) e e'
  | s {i : Nat} {as : List Ar} {d : D} {s : Sl} {r e e1 e' : En} (hs : GetAt e i s) (ht : SetAt e i (s.put d) e1) (h : WbA as r e1 e') : WbA (.s i :: as) (.io d :: r) e e'
theorem WbA.eq {as : List Ar} {r e e' : En} (h : WbA as r e e') : wb as r e = e' := by
  induction h with
  | nil => unfold wb; rfl
  | v h ih => unfold wb; exact ih
  | s hs ht h ih => unfold wb; rw [hs.eq]; simp only []; rw [ht.eq]; exact ih
inductive ValsA : List Ar → List D → Prop
  | nil : ValsA [] []
  | v {d : D} {as : List Ar} {ds : List D} (h : ValsA as ds) : ValsA (.v d :: as) (d :: ds)
theorem ValsA.eq {as : List Ar} {ds : List D} (h : ValsA as ds) : valsOf as = some ds := by
  induction h with
  | nil => rfl
  | v h ih => unfold valsOf; rw [ih]; rfl
inductive CatA : List Ar → List Ar → List D → List Ar → Prop
  | nil {dfl : List D} (h : dfl = []) : CatA [] [] dfl []
  | dfl {dfl r : List D} {d : D} {l : List Ar} (h : dfl = d :: r) (t : CatA [] [] r l) : CatA [] [] dfl (.v d :: l)
  | kw {a : Ar} {zs l : List Ar} {dfl : List D} (t : CatA [] zs dfl l) : CatA [] (a :: zs) dfl (a :: l)
  | arg {a : Ar} {as zs l : List Ar} {dfl : List D} (t : CatA as zs dfl l) : CatA (a :: as) zs dfl (a :: l)
theorem CatA.eq {as zs l : List Ar} {dfl : List D} (h : CatA as zs dfl l) : as ++ zs ++ dfl.map .v = l := by
  induction h with
  | nil h => subst h; rfl
  | dfl h t ih => subst h; rw [← ih]; rfl
  | kw t ih => rw [← ih]; rfl
  | arg t ih => rw [← ih]; rfl
inductive Pad : Nat → En → En → Prop
  | nil : Pad 0 [] []
  | un {n : Nat} {e : En} (h : Pad n [] e) : Pad (n + 1) [] (.un :: e)
  | cons {n : Nat} {s : Sl} {as e : En} (h : Pad n as e) : Pad (n + 1) (s :: as) (s :: e)
theorem Pad.eq {n : Nat} {as e : En} (h : Pad n as e) : as ++ List.replicate (n - as.length) .un = e := by
  induction h with
  | nil => rfl
  | un h ih => rw [← ih]; rfl
  | cons h ih => rw [← ih]; simp
inductive OutA : En → En → En → Prop
  | nil {e : En} : OutA [] e []
  | io {d d' : D} {as e r : En} (h : OutA as e r) : OutA (.io d :: as) (.io d' :: e) (.io d' :: r)
  | val {d : D} {s : Sl} {as e r : En} (h : OutA as e r) : OutA (.val d :: as) (s :: e) (.val d :: r)
theorem OutA.eq {as e r : En} (h : OutA as e r) : outArgs as e = r := by
  induction h with
  | nil => unfold outArgs; split <;> simp_all
  | io h ih => unfold outArgs; rw [ih]
  | val h ih => unfold outArgs; rw [ih]
inductive WipeA (vs : List Nat) : Nat → En → En → Prop
  | nil {n : Nat} : WipeA vs n [] []
  | hit {n : Nat} {s : Sl} {e e' : En} (hs : vs.elem n = true) (h : WipeA vs (n + 1) e e') : WipeA vs n (s :: e) (.un :: e')
  | miss {n : Nat} {s : Sl} {e e' : En} (hs : vs.elem n = false) (h : WipeA vs (n + 1) e e') : WipeA vs n (s :: e) (s :: e')
inductive BackA (vs : List Nat) : Nat → En → En → En → Prop
  | nil {n : Nat} {e0 : En} : BackA vs n e0 [] []
  | hit {n : Nat} {s s0 : Sl} {e0 e e' : En} (hs : vs.elem n = true) (h : BackA vs (n + 1) e0 e e') : BackA vs n (s0 :: e0) (s :: e) (s0 :: e')
  | miss {n : Nat} {s s0 : Sl} {e0 e e' : En} (hs : vs.elem n = false) (h : BackA vs (n + 1) e0 e e') : BackA vs n (s0 :: e0) (s :: e) (s :: e')
theorem WipeA.eq' {vs : List Nat} {n : Nat} {e e' : En} (h : WipeA vs n e e') : e.mapIdx (fun i s => if i + n ∈ vs then .un else s) = e' := by
  induction h with
  | nil => rfl
  | @hit n s e e' hs h ih =>
    rw [List.mapIdx_cons]
    have : n ∈ vs := by simpa using hs
    simp only [Nat.zero_add, if_pos this]
    congr 1
    rw [← ih]
    congr 1
    funext i s
    rw [show i + 1 + n = i + (n + 1) by omega]
  | @miss n s e e' hs h ih =>
    rw [List.mapIdx_cons]
    have : ¬ n ∈ vs := by simpa using hs
    simp only [Nat.zero_add, if_neg this]
    congr 1
    rw [← ih]
    congr 1
    funext i s
    rw [show i + 1 + n = i + (n + 1) by omega]
theorem WipeA.eq {vs : List Nat} {e e' : En} (h : WipeA vs 0 e e') : wipeE vs e = e' := by rw [← h.eq']; rfl
theorem BackA.eq' {vs : List Nat} {n : Nat} {e0 e e' : En} (h : BackA vs n e0 e e') : e.mapIdx (fun i s => if i + n ∈ vs then e0.getD i .un else s) = e' := by
  induction h with
  | nil => rfl
  | @hit n s s0 e0 e e' hs h ih =>
    rw [List.mapIdx_cons]
    have : n ∈ vs := by simpa using hs
    simp only [Nat.zero_add, if_pos this]
    congr 1
    rw [← ih]
    congr 1
    funext i s
    rw [show i + 1 + n = i + (n + 1) by omega]
    rfl
  | @miss n s s0 e0 e e' hs h ih =>
    rw [List.mapIdx_cons]
    have : ¬ n ∈ vs := by simpa using hs
    simp only [Nat.zero_add, if_neg this]
    congr 1
    rw [← ih]
    congr 1
    funext i s
    rw [show i + 1 + n = i + (n + 1) by omega]
    rfl
theorem BackA.eq {vs : List Nat} {e0 e e' : En} (h : BackA vs 0 e0 e e') : backE vs e0 e = e' := by rw [← h.eq']; rfl
/-! ### expressions -/
section
variable {P : D → En → Prop} {PB : Bool → En → Prop} {PA : List Ar → En → Prop} {X : Ex → En → Prop} {e e' : En} {i : Nat} {d : D} {ga gb gc : En → Res D} {f : D → D → Option D} {f1 : D → Option D} {h g : En → Res Bool} {ka kb : En → Res (List Ar)} {s t : Sl}
theorem wp_var (q : GetAt e i (.val d)) (p : P d e) : (varG i e).wp P X := by unfold varG; rw [q.eq]; exact ⟨p⟩
theorem wp_const (p : P d e) : (constG d e).wp P X := ⟨p⟩
theorem wp_op2 (p : (ga e).wp (fun a e1 => (gb e1).wp (fun b e2 => ∃ c, f a b = some c ∧ P c e2) X) X) : (op2G f ga gb e).wp P X :=
  wp_bind (p.mono (fun a e1 q => wp_bind (q.mono (fun b e2 ⟨c, h1, h2⟩ => wp_lift h1 h2) fun _ _ h => h)) fun _ _ h => h)
theorem wp_op1 (p : (ga e).wp (fun a e1 => ∃ c, f1 a = some c ∧ P c e1) X) : (op1G f1 ga e).wp P X :=
  wp_bind (p.mono (fun a e1 ⟨c, h1, h2⟩ => wp_lift h1 h2) fun _ _ h => h)
theorem wp_boolG (p : (ga e).wp (fun a e1 => ∃ b, a = .bl b ∧ PB b e1) X) : (boolG ga e).wp PB X :=
  wp_bind (p.mono (fun a e1 ⟨b, h1, h2⟩ => by subst h1; exact ⟨h2⟩) fun _ _ h => h)
theorem wp_truthG (p : (ga e).wp (fun a e1 => ∃ b, truth a = some b ∧ PB b e1) X) : (truthG ga e).wp PB X :=
  wp_bind (p.mono (fun a e1 ⟨b, h1, h2⟩ => wp_lift h1 h2) fun _ _ h => h)
theorem wp_notB (p : (h e).wp (fun b e1 => PB (!b) e1) X) : (notB h e).wp PB X := wp_bind (p.mono (fun _ _ q => ⟨q⟩) fun _ _ h => h)
theorem wp_andB (p : (h e).wp (fun b e1 => if b = true then (g e1).wp PB X else PB false e1) X) : (andB h g e).wp PB X :=
  wp_bind (p.mono (fun b e1 q => by cases b <;> first | exact q | exact ⟨q⟩) fun _ _ h => h)
theorem wp_orB (p : (h e).wp (fun b e1 => if b = true then PB true e1 else (g e1).wp PB X) X) : (orB h g e).wp PB X :=
  wp_bind (p.mono (fun b e1 q => by cases b <;> first | exact q | exact ⟨q⟩) fun _ _ h => h)
theorem wp_ifG {α : Type} {P : α → En → Prop} {ga gb : En → Res α} (p : (h e).wp (fun b e1 => if b = true then (ga e1).wp P X else (gb e1).wp P X) X) : (ifG h ga gb e).wp P X :=
  wp_bind (p.mono (fun b e1 q => by cases b <;> first | exact q | exact ⟨q⟩) fun _ _ h => h)
theorem wp_ofB (p : (h e).wp (fun b e1 => P (.bl b) e1) X) : (ofB h e).wp P X := wp_bind (p.mono (fun _ _ q => ⟨q⟩) fun _ _ h => h)
theorem wp_andG (p : (ga e).wp (fun a e1 => ∃ b, a = .bl b ∧ if b = true then (gb e1).wp P X else P (.bl false) e1) X) : (andG ga gb e).wp P X :=
  wp_bind (p.mono (fun a e1 ⟨b, h1, q⟩ => by subst h1; cases b <;> first | exact q | exact ⟨q⟩) fun _ _ h => h)
theorem wp_orG (p : (ga e).wp (fun a e1 => ∃ b, a = .bl b ∧ if b = true then P (.bl true) e1 else (gb e1).wp P X) X) : (orG ga gb e).wp P X :=
  wp_bind (p.mono (fun a e1 ⟨b, h1, q⟩ => by subst h1; cases b <;> first | exact q | exact ⟨q⟩) fun _ _ h => h)
theorem wp_notG (p : (ga e).wp (fun a e1 => ∃ b, a = .bl b ∧ P (.bl (!b)) e1) X) : (notG ga e).wp P X :=
  wp_bind (p.mono (fun a e1 ⟨b, h1, q⟩ => by subst h1; exact ⟨q⟩) fun _ _ h => h)
theorem wp_nilA (p : PA [] e) : (nilA e).wp PA X := ⟨p⟩
theorem wp_consA (p : (ga e).wp (fun d e1 => (ka e1).wp (fun as e2 => PA (.v d :: as) e2) X) X) : (consA ga ka e).wp PA X :=
  wp_bind (p.mono (fun a e1 q => wp_bind (q.mono (fun _ _ q => ⟨q⟩) fun _ _ h => h)) fun _ _ h => h)
theorem wp_slotA (q : GetAt e i s) (ht : s.hot = true) (p : (ka e).wp (fun as e2 => PA (.s i :: as) e2) X) : (slotA i ka e).wp PA X := by
  unfold slotA; rw [q.eq]; simp only [ht, if_true]; exact wp_bind (p.mono (fun _ _ q => ⟨q⟩) fun _ _ h => h)
theorem wp_catA {dfl : List D} (p : (ka e).wp (fun as e1 => (kb e1).wp (fun zs e2 => ∃ l, CatA as zs dfl l ∧ PA l e2) X) X) : (catA dfl ka kb e).wp PA X :=
  wp_bind (p.mono (fun a e1 q => wp_bind (q.mono (fun zs e2 ⟨l, h1, h2⟩ => by rw [← h1.eq] at h2; exact ⟨h2⟩) fun _ _ h => h)) fun _ _ h => h)
theorem wp_call {f : En → Res D} (p : (ka e).wp (fun as e1 => (slotsOf as).Nodup ∧ ∃ args, MkA e1 as args ∧ (f args).wp (fun d r => ∃ e2, WbA as r e1 e2 ∧ P d e2) (fun x r => ∃ e2, WbA as r e1 e2 ∧ X x e2)) X) : (callG f ka e).wp P X :=
  wp_bind (p.mono (fun as e1 ⟨nd, args, hm, q⟩ => by
    show Res.wp (if (slotsOf as).Nodup then _ else _) P X
    rw [if_pos nd, hm.eq]
    simp only []
    cases hf : f args with
    | ok d r => rw [hf] at q; obtain ⟨e2, h1, h2⟩ := q.out; refine ⟨?_⟩; show P d (wb as r e1); rw [h1.eq]; exact h2
    | exc x r => rw [hf] at q; obtain ⟨e2, h1, h2⟩ := q.out; refine ⟨?_⟩; show X x (wb as r e1); rw [h1.eq]; exact h2
    | bad => rw [hf] at q; exact q.out.elim) fun _ _ h => h)
theorem wp_lstG (p : (ka e).wp (fun as e1 => ∃ ds, ValsA as ds ∧ ds.length ≤ sizeLine ∧ P (.lst ds) e1) X) : (lstG ka e).wp P X :=
  wp_bind (p.mono (fun as e1 ⟨ds, h1, h2, h3⟩ => by rw [h1.eq]; refine wp_lift (a := .lst ds) ?_ h3; show (if _ then _ else _) = _; rw [if_pos h2]) fun _ _ h => h)
theorem wp_tupG (p : (ka e).wp (fun as e1 => ∃ ds, ValsA as ds ∧ ds.length ≤ sizeLine ∧ P (.tup ds) e1) X) : (tupG ka e).wp P X :=
  wp_bind (p.mono (fun as e1 ⟨ds, h1, h2, h3⟩ => by rw [h1.eq]; refine wp_lift (a := .tup ds) ?_ h3; show (if _ then _ else _) = _; rw [if_pos h2]) fun _ _ h => h)
theorem wp_bltG {f : List D → Option D} (p : (ka e).wp (fun as e1 => ∃ ds, ValsA as ds ∧ ∃ c, f ds = some c ∧ P c e1) X) : (bltG f ka e).wp P X :=
  wp_bind (p.mono (fun as e1 ⟨ds, h1, c, h2, h3⟩ => by rw [h1.eq]; exact wp_lift (show (some ds).bind f = some c from h2) h3) fun _ _ h => h)
theorem wp_metG {Ty : String} {f : D → List D → Option D} (p : (ga e).wp (fun d e1 => (∀ kvs, d ≠ .dct kvs) ∧ tyD Ty d = true ∧ (ka e1).wp (fun as e2 => ∃ ds, ValsA as ds ∧ ∃ c, f d ds = some c ∧ P c e2) X) X) : (metG Ty f ga ka e).wp P X :=
  wp_bind (p.mono (fun d e1 ⟨n, t, q⟩ => by
    cases d <;> first | exact absurd rfl (n _) | skip
    all_goals
      show Res.wp (if _ then _ else _) P X
      rw [if_pos t]
      exact wp_bind (q.mono (fun as e2 ⟨ds, h1, c, h2, h3⟩ => by rw [h1.eq]; exact wp_lift (show (some ds).bind _ = some c from h2) h3) fun _ _ h => h)) fun _ _ h => h)
theorem wp_metG0 {Ty : String} {f : D → List D → Option D} (p : (ga e).wp (fun d e1 => (∀ kvs, d ≠ .dct kvs) ∧ tyD Ty d = true ∧ ∃ c, f d [] = some c ∧ P c e1) X) : (metG0 Ty f ga e).wp P X :=
  wp_bind (p.mono (fun d e1 ⟨n, t, c, h2, h3⟩ => by
    cases d <;> first | exact absurd rfl (n _) | skip
    all_goals
      show Res.wp (if _ then _ else _) P X
      rw [if_pos t]
      exact wp_lift h2 h3) fun _ _ h => h)
theorem wp_isiG {n : String} (p : (ga e).wp (fun d e1 => ∃ c, isiD n d = some c ∧ P c e1) X) : (isiG n ga e).wp P X :=
  wp_bind (p.mono (fun d e1 ⟨c, h1, h2⟩ => wp_lift h1 h2) fun _ _ h => h)
theorem wp_chainG {f f' : Int → Int → Bool} (p : (ga e).wp (fun x e1 => (gb e1).wp (fun y e2 => ∃ i j, x = .int i ∧ y = .int j ∧ if f i j = true then (gc e2).wp (fun z e3 => ∃ l, z = .int l ∧ P (.bl (f' j l)) e3) X else P (.bl false) e2) X) X) : (chainG f f' ga gb gc e).wp P X :=
  wp_bind (p.mono (fun x e1 q => wp_bind (q.mono (fun y e2 ⟨i, j, h1, h2, q2⟩ => by
    subst h1 h2
    show Res.wp (if _ then _ else _) P X
    split
    · rename_i h; rw [if_pos h] at q2; exact wp_bind (q2.mono (fun z e3 ⟨l, h1, h2⟩ => by subst h1; exact ⟨h2⟩) fun _ _ h => h)
    · rename_i h; rw [if_neg h] at q2; exact ⟨q2⟩) fun _ _ h => h)) fun _ _ h => h)
theorem wp_slotIxG {c : D} (q : GetAt e i s) (hc : s.cont = some c) (p : (ga e).wp (fun d e1 => ∃ s1 c1, GetAt e1 i s1 ∧ s1.cont = some c1 ∧ ∃ y, ixD c1 d = some y ∧ P y e1) X) : (slotIxG i ga e).wp P X := by
  unfold slotIxG
  rw [q.eq]
  simp only [Option.bind, hc]
  exact wp_bind (p.mono (fun d e1 ⟨s1, c1, h1, h2, y, h3, h4⟩ => by rw [h1.eq]; simp only [Option.bind, h2]; exact wp_lift h3 h4) fun _ _ h => h)
theorem wp_slotLenG {c : D} (q : GetAt e i s) (hc : s.cont = some c) (p : ∃ y, lenD [c] = some y ∧ P y e) : (slotLenG i e).wp P X := by
  obtain ⟨y, h1, h2⟩ := p
  unfold slotLenG
  rw [q.eq]
  simp only [Option.bind, hc]
  exact wp_lift h1 h2
theorem wp_mutS {f : D → Option (D × D)} {c c' v : D} {t : Sl} (q : GetAt e i s) (hc : s.cont = some c) (hf : f c = some (c', v)) (hs : SetAt e i (s.put c') e') (p : P v e') : (mutS i f e).wp P X := by
  unfold mutS
  rw [q.eq]
  simp only [hc, hf, hs.eq]
  exact ⟨p⟩
theorem wp_lmutG {f : D → List D → Option (D × D)} {xs : List D} (q : GetAt e i s) (hc : s.cont = some (.lst xs)) (p : (ka e).wp (fun as e1 => ∃ ds s1 c c' v e2, ValsA as ds ∧ GetAt e1 i s1 ∧ s1.cont = some c ∧ f c ds = some (c', v) ∧ SetAt e1 i (s1.put c') e2 ∧ P v e2) X) : (lmutG i f ka e).wp P X := by
  unfold lmutG
  rw [q.eq]
  simp only [Option.bind, hc]
  exact wp_bind (p.mono (fun as e1 ⟨ds, s1, c, c', v, e2, h1, h2, h3, h4, h5, h6⟩ => by rw [h1.eq]; exact wp_mutS (t := s1) h2 h3 h4 h5 h6) fun _ _ h => h)
theorem wp_lmutG0 {f : D → List D → Option (D × D)} {xs : List D} {c' v : D} (q : GetAt e i s) (hc : s.cont = some (.lst xs)) (h4 : f (.lst xs) [] = some (c', v)) (h5 : SetAt e i (s.put c') e') (p : P v e') : (lmutG0 i f e).wp P X := by
  unfold lmutG0
  rw [q.eq]
  simp only [Option.bind, hc]
  exact wp_mutS (t := s) q hc h4 h5 p
theorem wp_toldG {tf : D ⊕ Ex → Option D} (p : (ga e).wp (fun d e1 => ∃ c, tf (.inl d) = some c ∧ P c e1) (fun x e1 => ∃ c, tf (.inr x) = some c ∧ P c e1)) : (toldG tf ga e).wp P X := by
  unfold toldG
  cases hg : ga e with
  | ok d e1 => rw [hg] at p; obtain ⟨c, h1, h2⟩ := p.out; exact wp_lift h1 h2
  | exc x e1 => rw [hg] at p; obtain ⟨c, h1, h2⟩ := p.out; exact wp_lift h1 h2
  | bad => rw [hg] at p; exact p.out.elim
def PairsW : List ((En → Res D) × (En → Res D)) → En → (List (Key × D) → En → Prop) → (Ex → En → Prop) → Prop
  | [], e, Q, X => Q [] e
  | (gk, gv) :: r, e, Q, X => (gk e).wp (fun k e1 => (gv e1).wp (fun v e2 => ∃ key, keyD k = some key ∧ PairsW r e2 (fun kvs e3 => Q ((key, v) :: kvs) e3) X) X) X
theorem PairsW.ok : ∀ {gs : List ((En → Res D) × (En → Res D))} {e : En} {Q : List (Key × D) → En → Prop} {X : Ex → En → Prop}, PairsW gs e Q X → (pairsL gs e).wp Q X
  | [], e, Q, X, p => ⟨p⟩
  | (gk, gv) :: r, e, Q, X, p => by
    unfold pairsL
    unfold PairsW at p
    exact wp_bind (p.mono (fun k e1 q => wp_bind (q.mono (fun v e2 ⟨key, h1, q⟩ => wp_bind (q.ok.mono (fun kvs e3 h => by simp only [h1]; exact ⟨h⟩) fun _ _ h => h)) fun _ _ h => h)) fun _ _ h => h)
theorem pairs_nil {Q : List (Key × D) → En → Prop} (p : Q [] e) : PairsW [] e Q X := p
theorem pairs_cons {gk gv : En → Res D} {r : List ((En → Res D) × (En → Res D))} {Q : List (Key × D) → En → Prop} (p : (gk e).wp (fun k e1 => (gv e1).wp (fun v e2 => ∃ key, keyD k = some key ∧ PairsW r e2 (fun kvs e3 => Q ((key, v) :: kvs) e3) X) X) X) : PairsW ((gk, gv) :: r) e Q X := p
theorem wp_dispG {gs : List ((En → Res D) × (En → Res D))} (p : PairsW gs e (fun kvs e1 => kvs.length ≤ 15 ∧ P (.dct (mergeD [] kvs)) e1) X) : (dispG gs e).wp P X :=
  wp_bind (p.ok.mono (fun kvs e1 ⟨h1, h2⟩ => by show Res.wp (if _ then _ else _) P X; rw [if_pos h1]; exact ⟨h2⟩) fun _ _ h => h)
theorem wp_noP {PO : Option Int → En → Prop} (p : PO none e) : (noP e).wp PO X := ⟨p⟩
theorem wp_someP {PO : Option Int → En → Prop} (p : (ga e).wp (fun d e1 => ∃ i, d = .int i ∧ PO (some i) e1) X) : (someP ga e).wp PO X :=
  wp_bind (p.mono (fun a e1 ⟨b, h1, q⟩ => by subst h1; exact ⟨q⟩) fun _ _ h => h)
theorem wp_sliceG {f : D → Option Int → Option Int → Option D} {gl gh : En → Res (Option Int)} (p : (ga e).wp (fun d e1 => (gl e1).wp (fun lo e2 => (gh e2).wp (fun hi e3 => ∃ c, f d lo hi = some c ∧ P c e3) X) X) X) : (sliceG f ga gl gh e).wp P X :=
  wp_bind (p.mono (fun a e1 q => wp_bind (q.mono (fun b e2 q => wp_bind (q.mono (fun b e2 ⟨c, h1, h2⟩ => wp_lift h1 h2) fun _ _ h => h)) fun _ _ h => h)) fun _ _ h => h)
/-! ### iterables, comprehensions -/
variable {PL : List D → En → Prop} {ds ys : List D}
theorem wp_iterG (p : (ga e).wp (fun d e1 => ∃ ds, iterD d = some ds ∧ PL ds e1) X) : (iterG ga e).wp PL X :=
  wp_bind (p.mono (fun d e1 ⟨c, h1, h2⟩ => wp_lift h1 h2) fun _ _ h => h)
theorem wp_rangeG {f : List Ar → Option (List D)} (p : (ka e).wp (fun as e1 => ∃ ds, f as = some ds ∧ PL ds e1) X) : (rangeG f ka e).wp PL X :=
  wp_bind (p.mono (fun d e1 ⟨c, h1, h2⟩ => wp_lift h1 h2) fun _ _ h => h)
theorem wp_compG {gi : En → Res (List D)} {tg : Tg} {tt : En → Res Bool} {vs : List Nat} (p : (gi e).wp (fun ds e1 => coolAt vs e1 = true ∧ ∃ e0, WipeA vs 0 e1 e0 ∧ (compL tg tt ga vs ds e0 []).wp (fun ys e2 => ∃ e3, BackA vs 0 e1 e2 e3 ∧ P (.lst ys) e3) noX) X) : (compG gi tg tt ga vs e).wp P X :=
  wp_bind (p.mono (fun ds e1 ⟨h1, e0, hw, q⟩ => by
    have hw := hw.eq
    subst hw
    rw [if_pos h1]
    cases hc : compL tg tt ga vs ds (wipeE vs e1) [] with
    | ok ys e2 => rw [hc] at q; obtain ⟨e3, h3, q⟩ := q.out; refine ⟨?_⟩; show P (.lst ys) (backE vs e1 e2); rw [h3.eq]; exact q
    | exc x e2 => rw [hc] at q; exact q.out.elim
    | bad => rw [hc] at q; exact q.out.elim) fun _ _ h => h)
theorem wp_yesT {PB : Bool → En → Prop} (p : PB true e) : (yesT e).wp PB X := ⟨p⟩
/-- a comprehension by an invariant: items taken, items made, slots -/
theorem compL_wp {tg : Tg} {tt : En → Res Bool} {vs : List Nat} {Q : List D → En → Prop} (I : List D → List D → En → Prop)
    (step : ∀ (pre : List D) (d : D) (ys : List D) (e : En), (∃ post, ds = pre ++ d :: post) → I pre ys e → ∃ e1, tg.go d e = some e1 ∧ (tt e1).wp (fun b e2 => if b = true then (ga e2).wp (fun y e3 => coolAt vs e3 = true ∧ ∃ e4, WipeA vs 0 e3 e4 ∧ I (pre ++ [d]) (ys ++ [y]) e4) noX else coolAt vs e2 = true ∧ ∃ e4, WipeA vs 0 e2 e4 ∧ I (pre ++ [d]) ys e4) noX)
    (hl : ds.length < 16777216) (h0 : I [] [] e) (hk : ∀ ys e, I ds ys e → Q ys e) : (compL tg tt ga vs ds e []).wp Q noX := by
  have key : ∀ (post pre ys : List D) (e : En), ds = pre ++ post → ys.length ≤ pre.length → I pre ys e → (compL tg tt ga vs post e ys).wp Q noX := by
    intro post
    induction post with
    | nil => intro pre ys e h1 _ h2; rw [List.append_nil] at h1; subst h1; exact ⟨hk _ _ h2⟩
    | cons d post ih =>
      intro pre ys e h1 hle h2
      obtain ⟨e1, g1, g2⟩ := step pre d ys e ⟨post, h1⟩ h2
      have hsz : ys.length < sizeLine := by rw [sizeLine_eq]; have := congrArg List.length h1; simp at this; omega
      unfold compL
      simp only [g1]
      cases ht : tt e1 with
      | ok b e2 =>
        rw [ht] at g2
        have g2 : if b = true then (ga e2).wp (fun y e3 => coolAt vs e3 = true ∧ ∃ e4, WipeA vs 0 e3 e4 ∧ I (pre ++ [d]) (ys ++ [y]) e4) noX else coolAt vs e2 = true ∧ ∃ e4, WipeA vs 0 e2 e4 ∧ I (pre ++ [d]) ys e4 := g2.out
        simp only []
        cases b with
        | true =>
          rw [if_pos rfl] at g2 ⊢
          cases hg : ga e2 with
          | ok y e3 =>
            rw [hg] at g2
            obtain ⟨c1, e4, hw, c2⟩ := g2.out
            have hw := hw.eq
            subst hw
            simp only []
            rw [if_pos ⟨c1, hsz⟩]
            exact ih _ _ _ (by simp [h1]) (by simp; omega) c2
          | exc x e3 => rw [hg] at g2; exact g2.out.elim
          | bad => rw [hg] at g2; exact g2.out.elim
        | false =>
          rw [if_neg (by decide)] at g2 ⊢
          obtain ⟨c1, e4, hw, c2⟩ := g2
          have hw := hw.eq
          subst hw
          rw [if_pos c1]
          exact ih _ _ _ (by simp [h1]) (by simp; omega) c2
      | exc x e2 => rw [ht] at g2; exact g2.out.elim
      | bad => rw [ht] at g2; exact g2.out.elim
  exact key ds [] [] e rfl (Nat.le_refl _) h0
end
/-- a comprehension whose items hang on the walked item alone -/
theorem comp_pure {t : Tg} {ga : En → Res D} {vs : List Nat} {e : En} {ds : List D} {Q : List D → En → Prop} (f : D → D) (hl : ds.length < 16777216)
    (step : ∀ d ∈ ds, ∃ e1, t.go d e = some e1 ∧ (ga e1).wp (fun y e3 => y = f d ∧ coolAt vs e3 = true ∧ WipeA vs 0 e3 e) noX) (hk : Q (ds.map f) e) : (compL t yesT ga vs ds e []).wp Q noX := by
  refine compL_wp (fun pre ys e' => e' = e ∧ ys = pre.map f) ?_ hl ⟨rfl, rfl⟩ (fun ys e' ⟨h1, h2⟩ => by subst h1 h2; exact hk)
  rintro pre d ys e' ⟨post, hp⟩ ⟨rfl, rfl⟩
  obtain ⟨e1, h1, h2⟩ := step d (by rw [hp]; simp)
  refine ⟨e1, h1, wp_yesT ?_⟩
  rw [if_pos rfl]
  refine h2.m ?_
  rintro y e3 ⟨rfl, h3, h4⟩
  exact ⟨h3, _, h4, rfl, by simp⟩
/-- .. with a test -/
theorem comp_filter {t : Tg} {tt : En → Res Bool} {ga : En → Res D} {vs : List Nat} {e : En} {ds : List D} {Q : List D → En → Prop} (q : D → Bool) (f : D → D) (hl : ds.length < 16777216)
    (step : ∀ d ∈ ds, ∃ e1, t.go d e = some e1 ∧ (tt e1).wp (fun b e2 => b = q d ∧ if b = true then (ga e2).wp (fun y e3 => y = f d ∧ coolAt vs e3 = true ∧ WipeA vs 0 e3 e) noX else coolAt vs e2 = true ∧ WipeA vs 0 e2 e) noX) (hk : Q ((ds.filter q).map f) e) : (compL t tt ga vs ds e []).wp Q noX := by
  refine compL_wp (fun pre ys e' => e' = e ∧ ys = (pre.filter q).map f) ?_ hl ⟨rfl, rfl⟩ (fun ys e' ⟨h1, h2⟩ => by subst h1 h2; exact hk)
  rintro pre d ys e' ⟨post, hp⟩ ⟨rfl, rfl⟩
  obtain ⟨e1, h1, h2⟩ := step d (by rw [hp]; simp)
  refine ⟨e1, h1, h2.m ?_⟩
  rintro b e2 ⟨hq, h3⟩
  cases b with
  | true =>
    rw [if_pos rfl] at h3 ⊢
    refine h3.m ?_
    rintro y e3 ⟨rfl, h3, h4⟩
    exact ⟨h3, _, h4, rfl, by simp [← hq]⟩
  | false =>
    rw [if_neg (by decide)] at h3 ⊢
    exact ⟨h3.1, _, h3.2, rfl, by simp [← hq]⟩
/-! ### statements -/
section
variable {PL : List D → En → Prop} {e e' : En} {N : En → Prop} {R : D → En → Prop} {X : Ex → En → Prop} {B C : En → Prop} {i : Nat} {d : D} {ga gb : En → Res D} {s t : Sl} {g h : En → Out} {c : En → Res Bool} {ka : En → Res (List Ar)} {ds : List D}
theorem wp_seqS (p : (g e).wp (fun e1 => (h e1).wp N R X B C) R X B C) : (seqS g h e).wp N R X B C := by
  unfold seqS
  cases hg : g e <;> (rw [hg] at p; first | exact p.out | exact ⟨p.out⟩ | exact p.out.elim)
theorem wp_seqM (M : En → Prop) (p : (g e).wp M R X B C) (q : ∀ e1, M e1 → (h e1).wp N R X B C) : (seqS g h e).wp N R X B C := wp_seqS (p.mono q (fun _ _ h => h) (fun _ _ h => h) (fun _ h => h) fun _ h => h)
theorem wp_nopS (p : N e) : (nopS e).wp N R X B C := ⟨p⟩
theorem wp_exprS (p : (ga e).wp (fun _ e1 => N e1) X) : (exprS ga e).wp N R X B C := wp_thn (p.mono (fun _ _ q => ⟨q⟩) fun _ _ h => h)
theorem wp_retS (p : (ga e).wp (fun d e1 => R d e1) X) : (retS ga e).wp N R X B C := wp_thn (p.mono (fun _ _ q => ⟨q⟩) fun _ _ h => h)
theorem wp_retNS (p : R .non e) : (retNS e).wp N R X B C := ⟨p⟩
theorem wp_brkS (p : B e) : (brkS e).wp N R X B C := ⟨p⟩
theorem wp_cntS (p : C e) : (cntS e).wp N R X B C := ⟨p⟩
theorem wp_ifS (p : (c e).wp (fun b e1 => if b = true then (g e1).wp N R X B C else (h e1).wp N R X B C) X) : (ifS c g h e).wp N R X B C :=
  wp_thn (p.mono (fun b e1 q => by cases b <;> first | exact q | exact ⟨q⟩) fun _ _ h => h)
/-- name i is given a value there -/
def PutV (i : Nat) (d : D) (e : En) (P : En → Prop) : Prop := ∃ s e1, GetAt e i s ∧ s.isIo = false ∧ SetAt e i (.val d) e1 ∧ P e1
def PutO (i : Nat) (d : D) (e : En) (P : En → Prop) : Prop := ∃ s e1, GetAt e i s ∧ s.isIo = false ∧ SetAt e i (.own d) e1 ∧ P e1
theorem putV_eq {P : En → Prop} (p : PutV i d e P) : ∃ e1, putV i d e = some e1 ∧ P e1 := by
  obtain ⟨s, e1, h1, h2, h3, h4⟩ := p
  refine ⟨e1, ?_, h4⟩
  unfold putV
  rw [h1.eq]
  simp [h2, h3.eq]
theorem putO_eq {P : En → Prop} (p : PutO i d e P) : ∃ e1, putO i d e = some e1 ∧ P e1 := by
  obtain ⟨s, e1, h1, h2, h3, h4⟩ := p
  refine ⟨e1, ?_, h4⟩
  unfold putO
  rw [h1.eq]
  simp [h2, h3.eq]
theorem wp_nxO {o : Option En} (p : ∃ e1, o = some e1 ∧ N e1) : (nxO o).wp N R X B C := by obtain ⟨e1, h1, h2⟩ := p; subst h1; exact ⟨h2⟩
theorem wp_setS (p : (ga e).wp (fun d e1 => PutV i d e1 N) X) : (setS i ga e).wp N R X B C := wp_thn (p.mono (fun d e1 q => wp_nxO (putV_eq q)) fun _ _ h => h)
theorem wp_ownS (p : (ga e).wp (fun d e1 => PutO i d e1 N) X) : (ownS i ga e).wp N R X B C := wp_thn (p.mono (fun d e1 q => wp_nxO (putO_eq q)) fun _ _ h => h)
theorem wp_frzO (q : GetAt e i (.own d)) (hs : SetAt e i (.val d) e') (p : (g e').wp N R X B C) : (frzS i g e).wp N R X B C := by unfold frzS; rw [q.eq]; simp only []; rw [hs.eq]; exact p
theorem wp_frzV (q : GetAt e i (.val d)) (p : (g e).wp N R X B C) : (frzS i g e).wp N R X B C := by unfold frzS; rw [q.eq]; exact p
theorem wp_noR (p : (g e).wp N (fun _ _ => False) X B C) : (noR g e).wp N R X B C := by
  unfold noR
  cases hg : g e <;> (rw [hg] at p; first | exact p | exact p.out.elim | exact ⟨p.out⟩)
theorem wp_retSlot (q : GetAt e i (.own d)) (hs : SetAt e i .un e') (p : R d e') : (retSlot i e).wp N R X B C := by unfold retSlot; rw [q.eq]; simp only []; rw [hs.eq]; exact ⟨p⟩
theorem wp_raiseS {x : Str} (p : X ⟨.own x, none⟩ e) : (raiseS x e).wp N R X B C := ⟨p⟩
theorem wp_raiseVS {x fld : Str} (p : (ga e).wp (fun v e1 => X ⟨.own x, some [(fld, v)]⟩ e1) X) : (raiseVS x fld ga e).wp N R X B C := wp_thn (p.mono (fun _ _ q => ⟨q⟩) fun _ _ h => h)
theorem wp_setIxS {gi ge : En → Res D} (p : (ge e).wp (fun v e1 => ∃ s0 c0, GetAt e1 i s0 ∧ s0.cont = some c0 ∧ (gi e1).wp (fun y e2 => ∃ s1 c1 c2 e3, GetAt e2 i s1 ∧ s1.cont = some c1 ∧ setIxD c1 y v = some c2 ∧ SetAt e2 i (s1.put c2) e3 ∧ N e3) X) X) : (setIxS i gi ge e).wp N R X B C :=
  wp_thn (p.mono (fun v e1 ⟨s0, c0, h1, h2, q⟩ => by
    rw [h1.eq]
    simp only [Option.bind, h2]
    exact wp_thn (q.mono (fun y e2 ⟨s1, c1, c2, e3, g1, g2, g3, g4, g5⟩ => by rw [g1.eq]; simp only [g2, g3, g4.eq]; exact ⟨g5⟩) fun _ _ h => h)) fun _ _ h => h)
theorem wp_nilK {PK : List (Bool × D) → En → Prop} (p : PK [] e) : (nilK e).wp PK X := ⟨p⟩
theorem wp_valK {PK : List (Bool × D) → En → Prop} {kk : En → Res (List (Bool × D))} (p : (ga e).wp (fun d e1 => (kk e1).wp (fun ds e2 => PK ((false, d) :: ds) e2) X) X) : (valK ga kk e).wp PK X :=
  wp_bind (p.mono (fun d e1 q => wp_bind (q.mono (fun _ _ q => ⟨q⟩) fun _ _ h => h)) fun _ _ h => h)
theorem wp_ownK {PK : List (Bool × D) → En → Prop} {kk : En → Res (List (Bool × D))} (p : (ga e).wp (fun d e1 => (kk e1).wp (fun ds e2 => PK ((true, d) :: ds) e2) X) X) : (ownK ga kk e).wp PK X :=
  wp_bind (p.mono (fun d e1 q => wp_bind (q.mono (fun _ _ q => ⟨q⟩) fun _ _ h => h)) fun _ _ h => h)
def PutPar : List Nat → List (Bool × D) → En → (En → Prop) → Prop
  | [], [], e, P => P e
  | i :: is, (false, d) :: r, e, P => PutV i d e fun e1 => PutPar is r e1 P
  | i :: is, (true, d) :: r, e, P => PutO i d e fun e1 => PutPar is r e1 P
  | _, _, _, _ => False
theorem putPar_eq : ∀ {is : List Nat} {r : List (Bool × D)} {e : En} {P : En → Prop}, PutPar is r e P → ∃ e1, putPar is r e = some e1 ∧ P e1
  | [], [], e, P, p => ⟨e, rfl, p⟩
  | i :: is, (false, d) :: r, e, P, p => by
    obtain ⟨e1, h1, h2⟩ := putV_eq p
    obtain ⟨e2, h3, h4⟩ := putPar_eq h2
    exact ⟨e2, by unfold putPar; rw [h1]; exact h3, h4⟩
  | i :: is, (true, d) :: r, e, P, p => by
    obtain ⟨e1, h1, h2⟩ := putO_eq p
    obtain ⟨e2, h3, h4⟩ := putPar_eq h2
    exact ⟨e2, by unfold putPar; rw [h1]; exact h3, h4⟩
  | [], _ :: _, _, _, p => p.elim
  | _ :: _, [], _, _, p => p.elim
theorem wp_parS {is : List Nat} {kk : En → Res (List (Bool × D))} (p : (kk e).wp (fun ds e1 => PutPar is ds e1 N) X) : (parS is kk e).wp N R X B C := wp_thn (p.mono (fun d e1 q => wp_nxO (putPar_eq q)) fun _ _ h => h)
theorem putPar_nil {P : En → Prop} (p : P e) : PutPar [] [] e P := p
theorem putPar_val {is : List Nat} {r : List (Bool × D)} {P : En → Prop} (p : PutV i d e fun e1 => PutPar is r e1 P) : PutPar (i :: is) ((false, d) :: r) e P := p
theorem putPar_own {is : List Nat} {r : List (Bool × D)} {P : En → Prop} (p : PutO i d e fun e1 => PutPar is r e1 P) : PutPar (i :: is) ((true, d) :: r) e P := p
/-- a target takes a value -/
def GoT (t : Tg) (d : D) (e : En) (P : En → Prop) : Prop := ∃ e1, t.go d e = some e1 ∧ P e1
theorem goT_n {P : En → Prop} (p : PutV i d e P) : GoT (tgN i) d e P := putV_eq p
def GoTs : List Tg → List D → En → (En → Prop) → Prop
  | [], [], e, P => P e
  | t :: ts, d :: ds, e, P => GoT t d e fun e1 => GoTs ts ds e1 P
  | _, _, _, _ => False
theorem goTs_eq : ∀ {ts : List Tg} {ds : List D} {e : En} {P : En → Prop}, GoTs ts ds e P → ∃ e1, goTs ts ds e = some e1 ∧ P e1
  | [], [], e, P, p => ⟨e, rfl, p⟩
  | t :: ts, d :: ds, e, P, ⟨e1, h1, h2⟩ => by
    obtain ⟨e2, h3, h4⟩ := goTs_eq h2
    exact ⟨e2, by unfold goTs; rw [h1]; exact h3, h4⟩
  | [], _ :: _, _, _, p => p.elim
  | _ :: _, [], _, _, p => p.elim
theorem goT_t {ts : List Tg} {P : En → Prop} (p : ∃ xs, d = .tup xs ∧ GoTs ts xs e P) : GoT (tgT ts) d e P := by
  obtain ⟨xs, h, p⟩ := p
  subst h
  exact goTs_eq p
theorem goTs_nil {P : En → Prop} (p : P e) : GoTs [] [] e P := p
theorem goTs_cons {t : Tg} {ts : List Tg} {xs : List D} {P : En → Prop} (p : GoT t d e fun e1 => GoTs ts xs e1 P) : GoTs (t :: ts) (d :: xs) e P := p
theorem goT_of {t : Tg} {P : En → Prop} (p : GoT t d e P) : ∃ e1, t.go d e = some e1 ∧ P e1 := p
theorem wp_asgS {t : Tg} (p : (ga e).wp (fun d e1 => GoT t d e1 N) X) : (asgS ga t e).wp N R X B C := wp_thn (p.mono (fun d e1 q => wp_nxO q) fun _ _ h => h)
theorem wp_forS {gi : En → Res (List D)} {t : Tg} (p : (gi e).wp (fun ds e1 => (forL t g ds e1).wp N R X B C) X) : (forS gi t g e).wp N R X B C := wp_thn p
theorem wp_forL {t : Tg} (I : List D → En → Prop) (step : ∀ (pre : List D) (d : D) (e : En), (∃ post, ds = pre ++ d :: post) → I pre e → GoT t d e fun e1 => (g e1).wp (I (pre ++ [d])) R X N (I (pre ++ [d])))
    (h0 : I [] e) (hk : ∀ e, I ds e → N e) : (forL t g ds e).wp N R X B C := by
  have key : ∀ (post pre : List D) (e : En), ds = pre ++ post → I pre e → (forL t g post e).wp N R X B C := by
    intro post
    induction post with
    | nil => intro pre e h1 h2; rw [List.append_nil] at h1; subst h1; exact ⟨hk _ h2⟩
    | cons d post ih =>
      intro pre e h1 h2
      obtain ⟨e1, g1, g2⟩ := step pre d e ⟨post, h1⟩ h2
      unfold forL
      simp only [g1]
      cases hg : g e1 with
      | nx e2 => rw [hg] at g2; exact ih (pre ++ [d]) e2 (by simp [h1]) g2.out
      | cnt e2 => rw [hg] at g2; exact ih (pre ++ [d]) e2 (by simp [h1]) g2.out
      | brk e2 => rw [hg] at g2; exact ⟨g2.out⟩
      | ret d e2 => rw [hg] at g2; exact ⟨g2.out⟩
      | exc x e2 => rw [hg] at g2; exact ⟨g2.out⟩
      | bad => rw [hg] at g2; exact g2.out.elim
  exact key ds [] e rfl h0
theorem wp_whileS {n : Nat} (m : En → Nat) (I : En → Prop) (step : ∀ e, I e → (c e).wp (fun b e1 => if b = true then (g e1).wp (fun e2 => I e2 ∧ m e2 < m e) R X N (fun e2 => I e2 ∧ m e2 < m e) else N e1) X)
    (h0 : I e) (hn : m e < n) : (whileS n c g e).wp N R X B C := by
  unfold whileS
  induction n generalizing e with
  | zero => omega
  | succ n ih =>
    unfold whileL
    refine wp_thn ((step e h0).mono (fun b e1 q => ?_) fun _ _ h => h)
    cases b with
    | false => exact ⟨q⟩
    | true =>
      rw [if_pos rfl] at q ⊢
      cases hg : g e1 with
      | nx e2 => rw [hg] at q; exact ih q.out.1 (by have := q.out.2; omega)
      | cnt e2 => rw [hg] at q; exact ih q.out.1 (by have := q.out.2; omega)
      | brk e2 => rw [hg] at q; exact ⟨q.out⟩
      | ret d e2 => rw [hg] at q; exact ⟨q.out⟩
      | exc x e2 => rw [hg] at q; exact ⟨q.out⟩
      | bad => rw [hg] at q; exact q.out.elim
end
theorem wp_whileU {N : En → Prop} {R : D → En → Prop} {X : Ex → En → Prop} {B C : En → Prop} {e : En} {c : En → Res Bool} {g : En → Out} {n : Nat} (p : (c e).wp (fun b e1 => if b = true then (g e1).wp (fun e2 => (whileS n c g e2).wp N R X B C) R X N (fun e2 => (whileS n c g e2).wp N R X B C) else N e1) X) : (whileS (n + 1) c g e).wp N R X B C := by
  unfold whileS whileL
  refine wp_thn (p.mono (fun b e1 q => ?_) fun _ _ h => h)
  cases b with
  | false => exact ⟨q⟩
  | true =>
    rw [if_pos rfl] at q ⊢
    cases hg : g e1 <;> (rw [hg] at q; first | exact q.out | exact ⟨q.out⟩ | exact q.out.elim)
theorem wp_whileN {N : En → Prop} {R : D → En → Prop} {X : Ex → En → Prop} {B C : En → Prop} {e : En} {c : En → Res Bool} {g : En → Out} {n : Nat} (I : Nat → En → Prop)
    (step : ∀ k e, I k e → (c e).wp (fun b e1 => if b = true then (g e1).wp (fun e2 => ∃ k', k' < k ∧ I k' e2) R X N (fun e2 => ∃ k', k' < k ∧ I k' e2) else N e1) X) (k : Nat) (h0 : I k e) (hn : k < n) : (whileS n c g e).wp N R X B C := by
  induction n generalizing e k with
  | zero => omega
  | succ n ih =>
    refine wp_whileU ((step k e h0).mono (fun b e1 q => ?_) fun _ _ h => h)
    cases b with
    | false => exact q
    | true =>
      rw [if_pos rfl] at q ⊢
      exact q.mono (fun e2 ⟨k', h1, h2⟩ => ih k' h2 (by omega)) (fun _ _ h => h) (fun _ _ h => h) (fun _ h => h) (fun e2 ⟨k', h1, h2⟩ => ih k' h2 (by omega))
/-! ### defs -/
section
variable {N : Nat} {b : En → Out} {as e : En} {P : D → En → Prop} {X : Ex → En → Prop}
theorem wp_defV (hs : Pad N as e) (p : (b e).wp (fun e => ∃ r, OutA as e r ∧ P .non r) (fun d e => ∃ r, OutA as e r ∧ P d r) (fun x e => ∃ r, OutA as e r ∧ X x r) noE noE) : (defV N b as).wp P X := by
  unfold defV
  rw [hs.eq]
  cases hb : b e <;> (rw [hb] at p; first | exact p.out.elim | (obtain ⟨r, h1, h2⟩ := p.out; simp only [h1.eq]; exact ⟨h2⟩))
theorem wp_defO (hs : Pad N as e) (p : (b e).wp noE (fun d e => ∃ r, OutA as e r ∧ P d r) (fun x e => ∃ r, OutA as e r ∧ X x r) noE noE) : (defO N b as).wp P X := by
  unfold defO
  rw [hs.eq]
  cases hb : b e <;> (rw [hb] at p; first | exact p.out.elim | (obtain ⟨r, h1, h2⟩ := p.out; simp only [h1.eq]; exact ⟨h2⟩))
end
/-! ### operators -/
theorem add_int (i j : Int) : addV (.int i) (.int j) = some (.int (i + j)) := rfl
theorem int_f {f : Int → Int → Option Int} {i j l : Int} (h : f i j = some l) : intD f (.int i) (.int j) = some (.int l) := by show (f i j).map D.int = _; rw [h]; rfl
theorem mul_int {i j l : Int} (h : mulI i j = some l) : mulV (.int i) (.int j) = some (.int l) := by show (mulI i j).map D.int = _; rw [h]; rfl
theorem mod_pos {i j : Int} (h : 0 < j) : modI i j = some (i % j) := if_pos h
theorem fdiv_pos {i j : Int} (h : 0 < j ∧ j < 1073741824) : fdivI i j = some (i / j) := if_pos h
theorem mul_l {i j : Int} (h : -18446744073709551616 < i ∧ i < 18446744073709551616) : mulI i j = some (i * j) := if_pos (.inl (by simpa using h))
theorem mul_r {i j : Int} (h : -18446744073709551616 < j ∧ j < 18446744073709551616) : mulI i j = some (i * j) := if_pos (.inr (by simpa using h))
theorem sub_ok (i j : Int) : subI i j = some (i - j) := rfl
theorem divmod_ok {i j : Int} (h : 0 < j ∧ j < 1073741824) : divmodD [.int i, .int j] = some (.tup [.int (i / j), .int (i % j)]) := if_pos h
theorem add_lst {a b : List D} (h : a.length + b.length ≤ 16777216) : addV (.lst a) (.lst b) = some (.lst (a ++ b)) := by
  show (if szOk _ = true then _ else _) = _
  rw [if_pos (by unfold szOk; rw [sizeLine_eq]; simpa using h)]
theorem add_tup {a b : List D} (h : a.length + b.length ≤ 16777216) : addV (.tup a) (.tup b) = some (.tup (a ++ b)) := by
  have : addD (.tup a) (.tup b) = some (.tup (a ++ b)) := by
    show (if szOk (a.length + b.length) = true then _ else _) = _
    rw [if_pos (by unfold szOk; rw [sizeLine_eq]; simpa using h)]
  unfold addV; rw [this]
theorem add_str {a b : Str} (h : a.length + b.length ≤ 16777216) : addV (.str a) (.str b) = some (.str (a ++ b)) := by
  have : addD (.str a) (.str b) = some (.str (a ++ b)) := by
    show (if szOk (a.length + b.length) = true then _ else _) = _
    rw [if_pos (by unfold szOk; rw [sizeLine_eq]; simpa using h)]
  unfold addV; rw [this]
theorem len_str {a : Str} (h : a.length ≤ 16777216) : lenD [.str a] = some (.int a.length) := by
  show (if szOk a.length = true then _ else _) = _
  rw [if_pos (by unfold szOk; rw [sizeLine_eq]; simpa using h)]
theorem opApp {xs : List D} {d : D} (h : xs.length < 16777216) : appD (.lst xs) [d] = some (.lst (xs ++ [d]), .non) := by
  show (if xs.length < sizeLine then _ else _) = _
  rw [if_pos (by rw [sizeLine_eq]; exact h)]
theorem ext_ok {xs ys : List D} (h : xs.length + ys.length ≤ 16777216) : extD (.lst xs) [.lst ys] = some (.lst (xs ++ ys), .non) := by
  show (if szOk (xs.length + ys.length) = true then _ else _) = _
  rw [if_pos (by unfold szOk; rw [sizeLine_eq]; simpa using h)]
theorem sz_ok {n : Nat} (h : n ≤ 16777216) : n ≤ sizeLine := by rw [sizeLine_eq]; exact h
theorem rng1_ok {n : Nat} (h : n < 1000000) : rng1 [.v (.int n)] = some (intsD 0 n) := by
  show (if small62 (n : Int) = true then some (intsD 0 (n : Int).toNat) else none) = _
  rw [if_pos]; rfl
  unfold small62
  have h1 : (2 : Int) ^ 62 = 4611686018427387904 := by decide
  exact decide_eq_true ⟨by rw [h1]; omega, by rw [h1]; omega⟩
theorem rng2_ok {a b : Nat} (h : a < 1000000) (h' : b < 1000000) : rng2 [.v (.int a), .v (.int b)] = some (intsD a (b - a)) := by
  have h1 : (2 : Int) ^ 62 = 4611686018427387904 := by decide
  show (if small62 (a : Int) = true ∧ small62 (b : Int) = true then some (intsD a ((b : Int) - a).toNat) else none) = _
  rw [if_pos]
  · congr 2; omega
  · unfold small62
    exact ⟨decide_eq_true ⟨by rw [h1]; omega, by rw [h1]; omega⟩, decide_eq_true ⟨by rw [h1]; omega, by rw [h1]; omega⟩⟩
theorem ints_len (lo : Int) (n : Nat) : (intsD lo n).length = n := by unfold intsD; simp
/-! ### ends of steps -/
section
variable {α : Type} {P : D → Prop} {e e1 e2 e' : En} {i : Nat} {d c c' v : D} {ds xs : List D} {as : List Ar} {r : En}
theorem wp_mstr {x : Str} {A : Prop} (p : A) : (∀ kvs, D.str x ≠ .dct kvs) ∧ tyD "str" (.str x) = true ∧ A := ⟨fun _ h => (by cases h), rfl, p⟩
theorem wp_mint {x : Int} {A : Prop} (p : A) : (∀ kvs, D.int x ≠ .dct kvs) ∧ tyD "int" (.int x) = true ∧ A := ⟨fun _ h => (by cases h), rfl, p⟩
theorem wp_mlst {x : List D} {A : Prop} (p : A) : (∀ kvs, D.lst x ≠ .dct kvs) ∧ tyD "list" (.lst x) = true ∧ A := ⟨fun _ h => (by cases h), rfl, p⟩
theorem wp_le15 {n : Nat} {A : Prop} (h : Nat.ble n 15 = true) (p : A) : n ≤ 15 ∧ A := ⟨Nat.le_of_ble_eq_true h, p⟩
theorem ndp1 {i : Nat} : List.Nodup [i] := by simp
theorem wp_some {o : Option α} {Q : α → Prop} {a : α} (h : o = some a) (p : Q a) : ∃ c, o = some c ∧ Q c := ⟨a, h, p⟩
theorem wp_bl {b : Bool} {Q : Bool → Prop} (p : Q b) : ∃ c, D.bl b = .bl c ∧ Q c := ⟨b, rfl, p⟩
theorem wp_i1 {i : Int} {Q : Int → Prop} (p : Q i) : ∃ c, D.int i = .int c ∧ Q c := ⟨i, rfl, p⟩
theorem wp_i2 {i j : Int} {Q : Int → Int → Prop} (p : Q i j) : ∃ c b, D.int i = .int c ∧ D.int j = .int b ∧ Q c b := ⟨i, j, rfl, rfl, p⟩
theorem wp_tp {xs : List D} {Q : List D → Prop} (p : Q xs) : ∃ ys, D.tup xs = .tup ys ∧ Q ys := ⟨xs, rfl, p⟩
theorem wp_vals {Q : List D → Prop} (h : ValsA as ds) (p : Q ds) : ∃ ds, ValsA as ds ∧ Q ds := ⟨ds, h, p⟩
theorem wp_sz {n : Nat} {A : Prop} (h : n ≤ 16777216) (p : A) : n ≤ sizeLine ∧ A := ⟨sz_ok h, p⟩
theorem wp_args {Q : En → Prop} (nd : (slotsOf as).Nodup) (h : MkA e as r) (p : Q r) : (slotsOf as).Nodup ∧ ∃ r, MkA e as r ∧ Q r := ⟨nd, r, h, p⟩
theorem wp_cat {zs l : List Ar} {dfl : List D} {Q : List Ar → Prop} (h : CatA as zs dfl l) (p : Q l) : ∃ l, CatA as zs dfl l ∧ Q l := ⟨l, h, p⟩
theorem wp_wb {Q : En → Prop} (h : WbA as r e e') (p : Q e') : ∃ e', WbA as r e e' ∧ Q e' := ⟨e', h, p⟩
theorem wba_io (hs : GetAt e i (.io c)) (ht : SetAt e i (.io d) e1) (h : WbA as r e1 e') : WbA (.s i :: as) (.io d :: r) e e' := .s hs ht h
theorem wba_own (hs : GetAt e i (.own c)) (ht : SetAt e i (.own d) e1) (h : WbA as r e1 e') : WbA (.s i :: as) (.io d :: r) e e' := .s hs ht h
theorem put_v {s : Sl} {Q : En → Prop} (h1 : GetAt e i s) (h2 : s.isIo = false) (h3 : SetAt e i (.val d) e1) (p : Q e1) : PutV i d e Q := ⟨s, e1, h1, h2, h3, p⟩
theorem put_o {s : Sl} {Q : En → Prop} (h1 : GetAt e i s) (h2 : s.isIo = false) (h3 : SetAt e i (.own d) e1) (p : Q e1) : PutO i d e Q := ⟨s, e1, h1, h2, h3, p⟩
theorem wp_out {as e : En} {Q : En → Prop} (h : OutA as e r) (p : Q r) : ∃ r, OutA as e r ∧ Q r := ⟨r, h, p⟩
theorem lm_io {f : D → List D → Option (D × D)} {Q : D → En → Prop} (h1 : ValsA as ds) (h2 : GetAt e i (.io c)) (h3 : f c ds = some (c', v)) (h4 : SetAt e i (.io c') e2) (p : Q v e2) : ∃ ds s1 c c' v e2, ValsA as ds ∧ GetAt e i s1 ∧ s1.cont = some c ∧ f c ds = some (c', v) ∧ SetAt e i (s1.put c') e2 ∧ Q v e2 := ⟨ds, _, c, c', v, e2, h1, h2, rfl, h3, h4, p⟩
theorem lm_own {f : D → List D → Option (D × D)} {Q : D → En → Prop} (h1 : ValsA as ds) (h2 : GetAt e i (.own c)) (h3 : f c ds = some (c', v)) (h4 : SetAt e i (.own c') e2) (p : Q v e2) : ∃ ds s1 c c' v e2, ValsA as ds ∧ GetAt e i s1 ∧ s1.cont = some c ∧ f c ds = some (c', v) ∧ SetAt e i (s1.put c') e2 ∧ Q v e2 := ⟨ds, _, c, c', v, e2, h1, h2, rfl, h3, h4, p⟩
theorem six_any {s : Sl} {Q : D → Prop} (h1 : GetAt e i s) (h2 : s.cont = some c) (p : ∃ y, ixD c d = some y ∧ Q y) : ∃ s1 c1, GetAt e i s1 ∧ s1.cont = some c1 ∧ ∃ y, ixD c1 d = some y ∧ Q y := ⟨s, c, h1, h2, p⟩
theorem sst_any {s : Sl} {Q : Prop} (h1 : GetAt e i s) (h2 : s.cont = some c) (p : Q) : ∃ s1 c1, GetAt e i s1 ∧ s1.cont = some c1 ∧ Q := ⟨s, c, h1, h2, p⟩
theorem st_io {y : D} {Q : En → Prop} (h2 : GetAt e i (.io c)) (h3 : setIxD c y v = some c') (h4 : SetAt e i (.io c') e2) (p : Q e2) : ∃ s1 c c' e2, GetAt e i s1 ∧ s1.cont = some c ∧ setIxD c y v = some c' ∧ SetAt e i (s1.put c') e2 ∧ Q e2 := ⟨_, c, c', e2, h2, rfl, h3, h4, p⟩
theorem st_own {y : D} {Q : En → Prop} (h2 : GetAt e i (.own c)) (h3 : setIxD c y v = some c') (h4 : SetAt e i (.own c') e2) (p : Q e2) : ∃ s1 c c' e2, GetAt e i s1 ∧ s1.cont = some c ∧ setIxD c y v = some c' ∧ SetAt e i (s1.put c') e2 ∧ Q e2 := ⟨_, c, c', e2, h2, rfl, h3, h4, p⟩
theorem wp_wipe {vs : List Nat} {Q : En → Prop} (hc : coolAt vs e = true) (h : WipeA vs 0 e e') (p : Q e') : coolAt vs e = true ∧ ∃ e0, WipeA vs 0 e e0 ∧ Q e0 := ⟨hc, e', h, p⟩
theorem wp_back {vs : List Nat} {Q : En → Prop} (h : BackA vs 0 e e1 e') (p : Q e') : ∃ e0, BackA vs 0 e e1 e0 ∧ Q e0 := ⟨e', h, p⟩
theorem if_t {A B : Prop} (p : A) : if true = true then A else B := by rw [if_pos rfl]; exact p
theorem if_f {A B : Prop} (p : B) : if false = true then A else B := by rw [if_neg (by decide)]; exact p
theorem if_rt {b : Bool} {A B : Prop} (h : b = true) (p : A) : if b = true then A else B := by rw [if_pos h]; exact p
theorem if_rf {b : Bool} {A B : Prop} (h : b = false) (p : B) : if b = true then A else B := by rw [if_neg (by rw [h]; decide)]; exact p
theorem if_dec {c : Prop} [Decidable c] {A B : Prop} (h : c → A) (h' : ¬ c → B) : if decide c = true then A else B := by
  by_cases q : c
  · rw [if_pos (decide_eq_true q)]; exact h q
  · rw [if_neg (by rw [decide_eq_false q]; decide)]; exact h' q
theorem if_yes {c : Prop} [Decidable c] {A B : Prop} (q : c) (h : A) : if decide c = true then A else B := if_dec (fun _ => h) fun n => absurd q n
theorem if_no {c : Prop} [Decidable c] {A B : Prop} (q : ¬ c) (h : B) : if decide c = true then A else B := if_dec (fun n => absurd n q) fun _ => h
theorem if_not {b : Bool} {A B : Prop} (h : if b = true then B else A) : if (!b) = true then A else B := by cases b <;> exact h
theorem if_b {b : Bool} {A B : Prop} (h : b = true → A) (h' : b = false → B) : if b = true then A else B := by cases b; exact h' rfl; exact h rfl
theorem if_ne0 {i : Int} {A B : Prop} (h : i ≠ 0 → A) (h' : i = 0 → B) : if (i != 0) = true then A else B := by
  by_cases q : i = 0
  · subst q; exact h' rfl
  · rw [if_pos (by simpa using q)]; exact h q
end
end L2.PV

set_option linter.all false
set_option maxRecDepth 100000
set_option maxHeartbeats 4000000
set_option autoImplicit false
namespace L2.PV
open PySem
/-! ### texts, equality -/
theorem str_ext {x y : Str} (h : x.cps.toList = y.cps.toList) : x = y := by cases x; cases y; congr 1; exact Array.ext' h
theorem cps_len (x : Str) : x.cps.toList.length = x.length := by simp [Str.length]
theorem all_or_split (g : Nat → Bool) : ∀ l : List Nat, l.all g = true ∨ ∃ a c b, l = a ++ c :: b ∧ (∀ x ∈ a, g x = true) ∧ g c = false
  | [] => .inl rfl
  | x :: l => by
    cases hx : g x with
    | false => exact .inr ⟨[], x, l, rfl, by simp, hx⟩
    | true =>
      rcases all_or_split g l with h | ⟨a, c, b, rfl, h1, h2⟩
      · exact .inl (by simp [hx] at h ⊢; exact h)
      · exact .inr ⟨x :: a, c, b, rfl, by intro z hz; rcases List.mem_cons.mp hz with rfl | hz; exact hx; exact h1 z hz, h2⟩
theorem tw_pre (g : Nat → Bool) : ∀ (a b : List Nat), (∀ x ∈ a, g x = true) → (a ++ b).takeWhile g = a ++ b.takeWhile g
  | [], _, _ => rfl
  | x :: a, b, h => by
    rw [List.cons_append, List.takeWhile_cons_of_pos (h x List.mem_cons_self), tw_pre g a b fun z hz => h z (List.mem_cons_of_mem _ hz), List.cons_append]
theorem tw_end (g : Nat → Bool) (c : Nat) (hc : g c = false) : ∀ l : List Nat, ((l ++ [c]).takeWhile g).length ≤ l.length
  | [] => by simp [List.takeWhile, hc]
  | x :: l => by
    rw [List.cons_append]
    cases hx : g x with
    | false => rw [List.takeWhile_cons_of_neg (by simp [hx])]; simp
    | true => rw [List.takeWhile_cons_of_pos hx]; have := tw_end g c hc l; simp; omega
theorem strip_empty (x y : Str) : Txt.stripChars x y = "" ↔ x.cps.toList.all y.cps.contains = true := by
  have hl := cps_len x
  have emp : ∀ z : Str, z = "" ↔ z.length = 0 := fun z => ⟨fun h => by subst h; rfl, fun h => str_ext (by have := cps_len z; rw [h] at this; exact List.eq_nil_of_length_eq_zero this)⟩
  rw [emp]
  let g := y.cps.contains
  have hlo : PySem.stripLo g true x = (x.cps.toList.takeWhile g).length := rfl
  have hhi : ∀ lo, PySem.stripHi g true x lo = x.length - ((x.cps.toList.drop lo).reverse.takeWhile g).length := fun _ => rfl
  have hun : Txt.stripChars x y = if PySem.stripSame g true true x = true then x else PySem.stripped g true true x := rfl
  have hsm : PySem.stripSame g true true x = (PySem.stripLo g true x == 0 && PySem.stripHi g true x (PySem.stripLo g true x) == x.length) := rfl
  have hst : (PySem.stripped g true true x).length = min (PySem.stripHi g true x (PySem.stripLo g true x)) x.length - PySem.stripLo g true x := by
    show (x.cps.extract _ _).size = _
    rw [Array.size_extract]; rfl
  constructor
  · intro h
    rcases all_or_split g x.cps.toList with hall | ⟨a, c, b, hx, h1, h2⟩
    · exact hall
    · have hlo2 : PySem.stripLo g true x = a.length := by
        rw [hlo, hx, tw_pre g _ _ h1, List.takeWhile_cons_of_neg (by simp [h2]), List.append_nil]
      have hhi2 := hhi a.length
      rw [hx, List.drop_left' rfl, List.reverse_cons] at hhi2
      have h3 := tw_end g c h2 b.reverse
      rw [List.length_reverse] at h3
      have h4 : x.length = a.length + (b.length + 1) := by rw [← hl, hx]; simp
      rw [hun] at h
      split at h
      · omega
      · rw [hst, hlo2, hhi2] at h
        omega
  · intro h
    have hall : ∀ c ∈ x.cps.toList, g c = true := List.all_eq_true.mp h
    have htw : x.cps.toList.takeWhile g = x.cps.toList := by
      have := tw_pre g x.cps.toList [] hall
      simpa using this
    rw [htw, hl] at hlo
    rw [hun]
    split
    · rename_i hs
      rw [hsm, hlo] at hs
      simp at hs
      exact hs.1
    · rw [hst, hlo]; omega
/-! ### equality of plain values -/
theorem py_str (x : Str) : toPy (.str x) = some (.str x) := rfl
def strF (x : Str) : Bool := PySem.PyData.strOk x
theorem shaped_str {x : Str} (h : strF x = true) : SeqAt.shaped (.str x) = true := by
  show (PySem.PyData.strOk x && decide (0 ≤ 64)) = true
  have : PySem.PyData.strOk x = true := h
  rw [this]; rfl
theorem eq_strs {x y : Str} (hx : strF x = true) (hy : strF y = true) : eqD (.str x) (.str y) = some (.bl (decide (x = y))) := by
  show (if SeqAt.shaped (.str x) = true ∧ SeqAt.shaped (.str y) = true then some (PyData.eqv (.str x) (.str y)) else none).map D.bl = _
  rw [if_pos ⟨shaped_str hx, shaped_str hy⟩]
  show some (D.bl (PyData.eqv (.str x) (.str y))) = _
  rw [show PyData.eqv (.str x) (.str y) = (x == y) from by unfold PyData.eqv; rfl]
  congr 2
theorem ne_of_eq {a b : D} {k : Bool} (h : eqD a b = some (.bl k)) : neD a b = some (.bl (!k)) := by
  unfold eqD at h
  unfold neD
  cases q : eqB a b with
  | none => rw [q] at h; cases h
  | some j => rw [q] at h; cases h; rfl
theorem ne_strs {x y : Str} (hx : strF x = true) (hy : strF y = true) : neD (.str x) (.str y) = some (.bl (!decide (x = y))) := ne_of_eq (eq_strs hx hy)
theorem eq_ints (i j : Int) : eqD (.int i) (.int j) = some (.bl (decide (i = j))) := by
  show (if SeqAt.shaped (.int i) = true ∧ SeqAt.shaped (.int j) = true then some (PyData.eqv (.int i) (.int j)) else none).map D.bl = _
  rw [if_pos ⟨rfl, rfl⟩]
  show some (D.bl (PyData.eqv (.int i) (.int j))) = _
  rw [show PyData.eqv (.int i) (.int j) = (i == j) from by unfold PyData.eqv; rfl]
  congr 2
theorem ne_ints (i j : Int) : neD (.int i) (.int j) = some (.bl (!decide (i = j))) := ne_of_eq (eq_ints i j)
def memS (ws : List Str) : D → Bool
  | .str x => decide (x ∈ ws)
  | _ => false
/-- any value against texts -/
theorem mem_strs_any {d : D} {p : PyData} {ws : List Str} (mk : List PyData → PyData) (hm : ∀ ds, SeqAt.shaped (mk ds) = SeqAt.shaped (.list ds)) (h1 : toPy d = some p) (h2 : SeqAt.shaped p = true) (hw : ∀ w ∈ ws, strF w = true) :
    memB d (ws.map .str) mk = some (memS ws d) := by
  have hp : ∀ ws : List Str, toPys (ws.map .str) = some (ws.map .str) := by
    intro ws
    induction ws with
    | nil => rfl
    | cons w ws ih => show (toPy (.str w)).bind _ = _; rw [List.map_cons, ih]; rfl
  have hs : SeqAt.shaped (mk (ws.map .str)) = true := by
    rw [hm]
    have ha : ∀ ws : List Str, (∀ w ∈ ws, strF w = true) → PyData.canLayAll0 (ws.map .str) = true ∧ PyData.depthAll (ws.map .str) = 0 := by
      intro ws
      induction ws with
      | nil => intro _; exact ⟨rfl, rfl⟩
      | cons w ws ih =>
        intro h
        obtain ⟨a1, a2⟩ := ih fun z hz => h z (List.mem_cons_of_mem _ hz)
        constructor
        · show (PySem.PyData.strOk w && PyData.canLayAll0 (ws.map .str)) = true
          rw [a1, show PySem.PyData.strOk w = true from h w List.mem_cons_self]; rfl
        · show max 0 (PyData.depthAll (ws.map .str)) = 0
          rw [a2]; rfl
    obtain ⟨a1, a2⟩ := ha ws hw
    show (PyData.canLayAll0 (ws.map .str) && decide (PyData.depthAll (ws.map .str) + 1 ≤ 64)) = true
    rw [a1, a2]; rfl
  show ((toPy d).bind fun d => (toPys (ws.map .str)).bind fun ds => if SeqAt.shaped d = true ∧ SeqAt.shaped (mk ds) = true then some (ds.any fun z => PyData.eqv z d) else none) = _
  rw [h1, hp]
  show (if SeqAt.shaped p = true ∧ SeqAt.shaped (mk (ws.map .str)) = true then some ((ws.map PyData.str).any fun z => PyData.eqv z p) else none) = _
  rw [if_pos ⟨h2, hs⟩]
  congr 1
  have no : (∀ w : Str, PyData.eqv (.str w) p = false) → (ws.map PyData.str).any (fun z => PyData.eqv z p) = false := by
    intro h
    rw [List.any_map, List.any_eq_false]
    intro w _
    show ¬ PyData.eqv (.str w) p = true
    rw [h]; decide
  cases d with
  | str x =>
    cases h1
    show _ = decide (x ∈ ws)
    have he : ∀ w : Str, PyData.eqv (.str w) (.str x) = (w == x) := fun w => by unfold PyData.eqv; rfl
    rw [List.any_map, Bool.eq_iff_iff, List.any_eq_true, decide_eq_true_iff]
    constructor
    · rintro ⟨w, hw, h⟩
      have h : PyData.eqv (.str w) (.str x) = true := h
      rw [he] at h
      rw [← eq_of_beq h]; exact hw
    · exact fun h => ⟨x, h, by show PyData.eqv (.str x) (.str x) = true; rw [he]; exact beq_self_eq_true x⟩
  | non => cases h1; exact no fun w => by unfold PyData.eqv; rfl
  | bl b => cases h1; exact no fun w => by unfold PyData.eqv; rfl
  | int b => cases h1; exact no fun w => by unfold PyData.eqv; rfl
  | tup xs =>
    obtain ⟨q, hq, rfl⟩ := Option.map_eq_some_iff.mp h1
    exact no fun w => by unfold PyData.eqv; rfl
  | lst xs =>
    obtain ⟨q, hq, rfl⟩ := Option.map_eq_some_iff.mp h1
    exact no fun w => by unfold PyData.eqv; rfl
  | _ => cases h1
theorem in_lst_any {d : D} {p : PyData} {ws : List Str} (h1 : toPy d = some p) (h2 : SeqAt.shaped p = true) (hw : ∀ w ∈ ws, strF w = true) : inD d (.lst (ws.map .str)) = some (.bl (memS ws d)) := by
  show (memB d (ws.map .str) .list).map D.bl = _
  rw [mem_strs_any _ (fun _ => rfl) h1 h2 hw]; rfl
theorem in_tup_any {d : D} {p : PyData} {ws : List Str} (h1 : toPy d = some p) (h2 : SeqAt.shaped p = true) (hw : ∀ w ∈ ws, strF w = true) : inD d (.tup (ws.map .str)) = some (.bl (memS ws d)) := by
  show (memB d (ws.map .str) .tuple).map D.bl = _
  rw [mem_strs_any .tuple (fun _ => rfl) h1 h2 hw]; rfl
theorem nin_tup_any {d : D} {p : PyData} {ws : List Str} (h1 : toPy d = some p) (h2 : SeqAt.shaped p = true) (hw : ∀ w ∈ ws, strF w = true) : notInD d (.tup (ws.map .str)) = some (.bl (!memS ws d)) := by
  show (memB d (ws.map .str) .tuple).map (fun k => D.bl (!k)) = _
  rw [mem_strs_any .tuple (fun _ => rfl) h1 h2 hw]; rfl
theorem in_lst_strs {x : Str} {ws : List Str} (hx : strF x = true) (hw : ∀ w ∈ ws, strF w = true) : inD (.str x) (.lst (ws.map .str)) = some (.bl (decide (x ∈ ws))) := by
  exact in_lst_any rfl (shaped_str hx) hw
theorem in_tup_strs {x : Str} {ws : List Str} (hx : strF x = true) (hw : ∀ w ∈ ws, strF w = true) : inD (.str x) (.tup (ws.map .str)) = some (.bl (decide (x ∈ ws))) := by
  exact in_tup_any rfl (shaped_str hx) hw
theorem nin_tup_strs {x : Str} {ws : List Str} (hx : strF x = true) (hw : ∀ w ∈ ws, strF w = true) : notInD (.str x) (.tup (ws.map .str)) = some (.bl (!decide (x ∈ ws))) := by
  exact nin_tup_any rfl (shaped_str hx) hw
theorem bools_map : ∀ bs : List Bool, bools (bs.map .bl) = some bs
  | [] => rfl
  | b :: bs => by show (bools (bs.map .bl)).map (b :: ·) = _; rw [bools_map bs]; rfl
theorem all_map (bs : List Bool) : allD [.lst (bs.map .bl)] = some (.bl (bs.all id)) := by
  show ((bools _).map fun bs => D.bl (bs.all id)) = _
  rw [bools_map]; rfl
theorem any_map (bs : List Bool) : anyD [.lst (bs.map .bl)] = some (.bl (bs.any id)) := by
  show ((bools _).map fun bs => D.bl (bs.any id)) = _
  rw [bools_map]; rfl
theorem all_mapf {α : Type} (f : α → Bool) (xs : List α) : allD [.lst (xs.map fun x => .bl (f x))] = some (.bl (xs.all f)) := by
  have := all_map (xs.map f)
  rw [List.map_map] at this
  rw [show (fun x => D.bl (f x)) = D.bl ∘ f from rfl, this, List.all_map]; rfl
theorem any_mapf {α : Type} (f : α → Bool) (xs : List α) : anyD [.lst (xs.map fun x => .bl (f x))] = some (.bl (xs.any f)) := by
  have := any_map (xs.map f)
  rw [List.map_map] at this
  rw [show (fun x => D.bl (f x)) = D.bl ∘ f from rfl, this, List.any_map]; rfl
theorem strF_of {x : Str} (h : ∀ c ∈ x.cps.toList, c < 1114112) : strF x = true := by
  unfold strF PySem.PyData.strOk
  rw [Array.all_eq_true']
  intro c hc
  exact decide_eq_true (h c (by simpa using hc))
theorem strF_mem {x : Str} (h : strF x = true) {c : Nat} (hc : c ∈ x.cps.toList) : c < 1114112 := by
  unfold strF PySem.PyData.strOk at h
  rw [Array.all_eq_true'] at h
  exact of_decide_eq_true (h c (by simpa using hc))
theorem strip_F {x y : Str} (h : strF x = true) : strF (Txt.stripChars x y) = true := by
  refine strF_of fun c hc => strF_mem h ?_
  have hun : Txt.stripChars x y = if PySem.stripSame y.cps.contains true true x = true then x else ⟨x.cps.extract (PySem.stripLo y.cps.contains true x) (PySem.stripHi y.cps.contains true x (PySem.stripLo y.cps.contains true x))⟩ := rfl
  rw [hun] at hc
  split at hc
  · exact hc
  · have := (by simpa [Array.toList_extract, List.extract_eq_drop_take] using hc : c ∈ List.take _ (List.drop (PySem.stripLo y.cps.contains true x) x.cps.toList))
    exact List.mem_of_mem_drop (List.mem_of_mem_take this)
/-! ### plain values: texts, numbers, nested lists and tuples -/
def Pl (n : Nat) (d : D) : Prop := ∃ p, toPy d = some p ∧ p.canLay0 = true ∧ p.depth ≤ n
theorem Pl.shaped {n : Nat} {d : D} (h : Pl n d) (hn : n ≤ 64) : ∃ p, toPy d = some p ∧ SeqAt.shaped p = true := by
  obtain ⟨p, h1, h2, h3⟩ := h
  refine ⟨p, h1, ?_⟩
  show (p.canLay0 && decide (p.depth ≤ 64)) = true
  rw [h2, decide_eq_true (Nat.le_trans h3 hn)]; rfl
theorem Pl.mono {n m : Nat} {d : D} (h : Pl n d) (hn : n ≤ m) : Pl m d := let ⟨p, h1, h2, h3⟩ := h; ⟨p, h1, h2, Nat.le_trans h3 hn⟩
theorem pl_str {n : Nat} {x : Str} (h : strF x = true) : Pl n (.str x) := ⟨.str x, rfl, h, Nat.zero_le _⟩
theorem pl_int {n : Nat} {i : Int} : Pl n (.int i) := ⟨.int i, rfl, rfl, Nat.zero_le _⟩
theorem pl_non {n : Nat} : Pl n .non := ⟨.none, rfl, rfl, Nat.zero_le _⟩
theorem pl_bl {n : Nat} {b : Bool} : Pl n (.bl b) := ⟨.bool b, rfl, rfl, Nat.zero_le _⟩
theorem pls {n : Nat} : ∀ {ys : List D}, (∀ y ∈ ys, Pl n y) → ∃ ps, toPys ys = some ps ∧ PyData.canLayAll0 ps = true ∧ PyData.depthAll ps ≤ n ∧ ps.length = ys.length
  | [], _ => ⟨[], rfl, rfl, Nat.zero_le _, rfl⟩
  | y :: ys, h => by
    obtain ⟨p, h1, h2, h3⟩ := h y List.mem_cons_self
    obtain ⟨ps, g1, g2, g3, g4⟩ := pls (ys := ys) fun z hz => h z (List.mem_cons_of_mem _ hz)
    refine ⟨p :: ps, ?_, ?_, ?_, by simp [g4]⟩
    · show (toPy y).bind _ = _; rw [h1]; show (toPys ys).map (p :: ·) = _; rw [g1]; rfl
    · show (p.canLay0 && PyData.canLayAll0 ps) = true; rw [h2, g2]; rfl
    · show max p.depth (PyData.depthAll ps) ≤ n; omega
theorem pl_lst {n : Nat} {ys : List D} (h : ∀ y ∈ ys, Pl n y) : Pl (n + 1) (.lst ys) := by
  obtain ⟨ps, g1, g2, g3, g4⟩ := pls h
  refine ⟨.list ps, ?_, g2, ?_⟩
  · show (toPys ys).map _ = _; rw [g1]; rfl
  · show PyData.depthAll ps + 1 ≤ n + 1; omega
theorem pl_tup {n : Nat} {ys : List D} (h : ∀ y ∈ ys, Pl n y) : Pl (n + 1) (.tup ys) := by
  obtain ⟨ps, g1, g2, g3, g4⟩ := pls h
  refine ⟨.tuple ps, ?_, g2, ?_⟩
  · show (toPys ys).map _ = _; rw [g1]; rfl
  · show PyData.depthAll ps + 1 ≤ n + 1; omega
theorem eq_of_py {a b : D} {p q : PyData} (ha : toPy a = some p) (hb : toPy b = some q) (sa : SeqAt.shaped p = true) (sb : SeqAt.shaped q = true) : eqD a b = some (.bl (PyData.eqv p q)) := by
  show ((toPy a).bind fun p => (toPy b).bind fun q => if SeqAt.shaped p = true ∧ SeqAt.shaped q = true then some (PyData.eqv p q) else none).map D.bl = _
  rw [ha, hb]
  show (if SeqAt.shaped p = true ∧ SeqAt.shaped q = true then some (PyData.eqv p q) else none).map D.bl = _
  rw [if_pos ⟨sa, sb⟩]; rfl
theorem eq_nil_lst {n : Nat} {ys : List D} (h : ∀ y ∈ ys, Pl n y) (hn : n ≤ 63) : eqD (.lst ys) (.lst []) = some (.bl ys.isEmpty) := by
  obtain ⟨ps, g1, g2, g3, g4⟩ := pls h
  have h1 : toPy (.lst ys) = some (.list ps) := by show (toPys ys).map _ = _; rw [g1]; rfl
  rw [eq_of_py h1 (show toPy (.lst []) = some (.list []) from rfl) ?_ rfl]
  · congr 2
    cases ps with
    | nil => cases ys with
      | nil => unfold PyData.eqv PyData.eqvAll; rfl
      | cons y ys => cases g4
    | cons p ps => cases ys with
      | nil => cases g4
      | cons y ys => unfold PyData.eqv PyData.eqvAll; rfl
  · show (PyData.canLayAll0 ps && decide (PyData.depthAll ps + 1 ≤ 64)) = true
    rw [g2, decide_eq_true (by omega)]; rfl
theorem ne_nil_lst {n : Nat} {ys : List D} (h : ∀ y ∈ ys, Pl n y) (hn : n ≤ 63) : neD (.lst ys) (.lst []) = some (.bl (!ys.isEmpty)) := ne_of_eq (eq_nil_lst h hn)
theorem filter_not_empty {α : Type} (p : α → Bool) : ∀ l : List α, (l.filter fun d => !p d).isEmpty = l.all p
  | [] => rfl
  | x :: l => by
    rw [List.filter_cons, List.all_cons]
    cases h : p x with
    | true => simp only [Bool.not_true, Bool.false_eq_true, if_false, Bool.true_and]; exact filter_not_empty p l
    | false => rfl
theorem eq_self {n : Nat} {d : D} (h : Pl n d) (hn : n ≤ 64) : eqD d d = some (.bl true) := by
  obtain ⟨p, h1, h2, h3⟩ := h
  have hs : SeqAt.shaped p = true := by
    show (p.canLay0 && decide (p.depth ≤ 64)) = true
    rw [h2, decide_eq_true (Nat.le_trans h3 hn)]; rfl
  rw [eq_of_py h1 h1 hs hs, SeqAt.eqv_refl p h2]
theorem ne_self {n : Nat} {d : D} (h : Pl n d) (hn : n ≤ 64) : neD d d = some (.bl false) := ne_of_eq (eq_self h hn)
theorem pl_2 {n : Nat} {a b : D} (ha : Pl n a) (hb : Pl n b) : Pl (n + 1) (.tup [a, b]) := pl_tup (by
  intro y hy
  simp only [List.mem_cons, List.not_mem_nil, or_false] at hy
  rcases hy with rfl | rfl; exact ha; exact hb)
end L2.PV
namespace L2.PV
open PySem
theorem eqS_ints (i j : Int) : eqS (.int i) (.int j) = some (.bl (decide (i = j))) := eq_ints i j
theorem neS_ints (i j : Int) : neS (.int i) (.int j) = some (.bl (!decide (i = j))) := ne_ints i j
theorem eqS_strs (x y : Str) : eqS (.str x) (.str y) = some (.bl (decide (x = y))) := rfl
theorem neS_strs (x y : Str) : neS (.str x) (.str y) = some (.bl (!decide (x = y))) := rfl
theorem neS_str_self (x : Str) : neS (.str x) (.str x) = some (.bl false) := by
  show some (D.bl (!decide (x = x))) = _
  rw [decide_eq_true rfl]; rfl
theorem eqS_str_self (x : Str) : eqS (.str x) (.str x) = some (.bl true) := by
  show some (D.bl (decide (x = x))) = _
  rw [decide_eq_true rfl]
theorem eqS_self {n : Nat} {d : D} (h : Pl n d) (hn : n ≤ 64) : eqS d d = some (.bl true) := by
  cases d with
  | str x => exact eqS_str_self x
  | _ => exact eq_self h hn
theorem neS_self {n : Nat} {d : D} (h : Pl n d) (hn : n ≤ 64) : neS d d = some (.bl false) := by
  cases d with
  | str x => exact neS_str_self x
  | _ => exact ne_self h hn
end L2.PV

set_option Elab.async false
set_option linter.all false
set_option maxRecDepth 100000
set_option maxHeartbeats 4000000
set_option autoImplicit false
namespace LR
open PySem PySem.Spec PyProof.Rows L2 L2.PV
def top (i : Nat) : Stmt := PySem.Challenge.pw_letterrules_k00_errors.main.body.getD i (.Pass ⟨0, 0, 0, 0⟩)
structure Bl (mg : MG) : Prop where
  ArithmeticError : mg "ArithmeticError" = none
  IndexError : mg "IndexError" = none
  KeyError : mg "KeyError" = none
  LookupError : mg "LookupError" = none
  OverflowError : mg "OverflowError" = none
  RuntimeError : mg "RuntimeError" = none
  ValueError : mg "ValueError" = none
  abs : mg "abs" = none
  int : mg "int" = none
  isinstance : mg "isinstance" = none
  len : mg "len" = none
  max : mg "max" = none
  min : mg "min" = none
  range : mg "range" = none
  repr : mg "repr" = none
structure Gc (K : PySem.W.Frag) (mg : MG) (w : World) : Prop where
  triv : True
/-- is the first class a subclass of the second -/
def subC (x c : Str) : Option Bool :=
  none
def it_ArithmeticError : List (TyN × Bool) := [(.er "Held", false), (.er "InvalidCommand", false), (.er "InvalidMarking", false), (.er "InvalidName", false), (.er "InvalidNumber", false), (.er "InvalidOperation", false), (.er "InvalidOrder", false), (.er "InvalidPattern", false), (.er "InvalidRule", false), (.er "InvalidRun", false), (.er "InvalidTransport", false), (.er "LetterError", false), (.er "NoOrder", true), (.er "NothingToUndo", false), (.er "ParseError", false), (.er "TooMany", true), (.er "UnknownName", false)]
def it_Held : List (TyN × Bool) := [(.er "Held", true), (.er "InvalidCommand", false), (.er "InvalidMarking", false), (.er "InvalidName", false), (.er "InvalidNumber", false), (.er "InvalidOperation", false), (.er "InvalidOrder", false), (.er "InvalidPattern", false), (.er "InvalidRule", false), (.er "InvalidRun", false), (.er "InvalidTransport", false), (.er "LetterError", false), (.er "NoOrder", false), (.er "NothingToUndo", false), (.er "ParseError", false), (.er "TooMany", false), (.er "UnknownName", false)]
def it_IndexError : List (TyN × Bool) := [(.er "Held", false), (.er "InvalidCommand", false), (.er "InvalidMarking", false), (.er "InvalidName", false), (.er "InvalidNumber", true), (.er "InvalidOperation", false), (.er "InvalidOrder", false), (.er "InvalidPattern", false), (.er "InvalidRule", false), (.er "InvalidRun", false), (.er "InvalidTransport", false), (.er "LetterError", false), (.er "NoOrder", false), (.er "NothingToUndo", false), (.er "ParseError", false), (.er "TooMany", false), (.er "UnknownName", false)]
def it_InvalidCommand : List (TyN × Bool) := [(.er "Held", false), (.er "InvalidCommand", true), (.er "InvalidMarking", false), (.er "InvalidName", false), (.er "InvalidNumber", false), (.er "InvalidOperation", false), (.er "InvalidOrder", false), (.er "InvalidPattern", false), (.er "InvalidRule", false), (.er "InvalidRun", false), (.er "InvalidTransport", false), (.er "LetterError", false), (.er "NoOrder", false), (.er "NothingToUndo", false), (.er "ParseError", false), (.er "TooMany", false), (.er "UnknownName", false)]
def it_InvalidMarking : List (TyN × Bool) := [(.er "Held", false), (.er "InvalidCommand", false), (.er "InvalidMarking", true), (.er "InvalidName", false), (.er "InvalidNumber", false), (.er "InvalidOperation", false), (.er "InvalidOrder", false), (.er "InvalidPattern", false), (.er "InvalidRule", false), (.er "InvalidRun", false), (.er "InvalidTransport", false), (.er "LetterError", false), (.er "NoOrder", false), (.er "NothingToUndo", false), (.er "ParseError", false), (.er "TooMany", false), (.er "UnknownName", false)]
def it_InvalidName : List (TyN × Bool) := [(.er "Held", false), (.er "InvalidCommand", false), (.er "InvalidMarking", false), (.er "InvalidName", true), (.er "InvalidNumber", false), (.er "InvalidOperation", false), (.er "InvalidOrder", false), (.er "InvalidPattern", false), (.er "InvalidRule", false), (.er "InvalidRun", false), (.er "InvalidTransport", false), (.er "LetterError", false), (.er "NoOrder", false), (.er "NothingToUndo", false), (.er "ParseError", false), (.er "TooMany", false), (.er "UnknownName", false)]
def it_InvalidNumber : List (TyN × Bool) := [(.er "Held", false), (.er "InvalidCommand", false), (.er "InvalidMarking", false), (.er "InvalidName", false), (.er "InvalidNumber", true), (.er "InvalidOperation", false), (.er "InvalidOrder", false), (.er "InvalidPattern", false), (.er "InvalidRule", false), (.er "InvalidRun", false), (.er "InvalidTransport", false), (.er "LetterError", false), (.er "NoOrder", false), (.er "NothingToUndo", false), (.er "ParseError", false), (.er "TooMany", false), (.er "UnknownName", false)]
def it_InvalidOperation : List (TyN × Bool) := [(.er "Held", false), (.er "InvalidCommand", false), (.er "InvalidMarking", false), (.er "InvalidName", false), (.er "InvalidNumber", false), (.er "InvalidOperation", true), (.er "InvalidOrder", false), (.er "InvalidPattern", false), (.er "InvalidRule", false), (.er "InvalidRun", false), (.er "InvalidTransport", false), (.er "LetterError", false), (.er "NoOrder", false), (.er "NothingToUndo", false), (.er "ParseError", false), (.er "TooMany", false), (.er "UnknownName", false)]
def it_InvalidOrder : List (TyN × Bool) := [(.er "Held", false), (.er "InvalidCommand", false), (.er "InvalidMarking", false), (.er "InvalidName", false), (.er "InvalidNumber", false), (.er "InvalidOperation", false), (.er "InvalidOrder", true), (.er "InvalidPattern", false), (.er "InvalidRule", false), (.er "InvalidRun", false), (.er "InvalidTransport", false), (.er "LetterError", false), (.er "NoOrder", false), (.er "NothingToUndo", false), (.er "ParseError", false), (.er "TooMany", false), (.er "UnknownName", false)]
def it_InvalidPattern : List (TyN × Bool) := [(.er "Held", false), (.er "InvalidCommand", false), (.er "InvalidMarking", false), (.er "InvalidName", false), (.er "InvalidNumber", false), (.er "InvalidOperation", false), (.er "InvalidOrder", false), (.er "InvalidPattern", true), (.er "InvalidRule", false), (.er "InvalidRun", false), (.er "InvalidTransport", false), (.er "LetterError", false), (.er "NoOrder", false), (.er "NothingToUndo", false), (.er "ParseError", false), (.er "TooMany", false), (.er "UnknownName", false)]
def it_InvalidRule : List (TyN × Bool) := [(.er "Held", false), (.er "InvalidCommand", false), (.er "InvalidMarking", false), (.er "InvalidName", false), (.er "InvalidNumber", false), (.er "InvalidOperation", false), (.er "InvalidOrder", false), (.er "InvalidPattern", false), (.er "InvalidRule", true), (.er "InvalidRun", false), (.er "InvalidTransport", false), (.er "LetterError", false), (.er "NoOrder", false), (.er "NothingToUndo", false), (.er "ParseError", false), (.er "TooMany", false), (.er "UnknownName", false)]
def it_InvalidRun : List (TyN × Bool) := [(.er "Held", false), (.er "InvalidCommand", false), (.er "InvalidMarking", false), (.er "InvalidName", false), (.er "InvalidNumber", false), (.er "InvalidOperation", false), (.er "InvalidOrder", false), (.er "InvalidPattern", false), (.er "InvalidRule", false), (.er "InvalidRun", true), (.er "InvalidTransport", false), (.er "LetterError", false), (.er "NoOrder", false), (.er "NothingToUndo", false), (.er "ParseError", false), (.er "TooMany", false), (.er "UnknownName", false)]
def it_InvalidTransport : List (TyN × Bool) := [(.er "Held", false), (.er "InvalidCommand", false), (.er "InvalidMarking", false), (.er "InvalidName", false), (.er "InvalidNumber", false), (.er "InvalidOperation", false), (.er "InvalidOrder", false), (.er "InvalidPattern", false), (.er "InvalidRule", false), (.er "InvalidRun", false), (.er "InvalidTransport", true), (.er "LetterError", false), (.er "NoOrder", false), (.er "NothingToUndo", false), (.er "ParseError", false), (.er "TooMany", false), (.er "UnknownName", false)]
def it_KeyError : List (TyN × Bool) := [(.er "Held", false), (.er "InvalidCommand", false), (.er "InvalidMarking", false), (.er "InvalidName", false), (.er "InvalidNumber", false), (.er "InvalidOperation", false), (.er "InvalidOrder", false), (.er "InvalidPattern", false), (.er "InvalidRule", false), (.er "InvalidRun", false), (.er "InvalidTransport", false), (.er "LetterError", false), (.er "NoOrder", false), (.er "NothingToUndo", false), (.er "ParseError", false), (.er "TooMany", false), (.er "UnknownName", true)]
def it_LetterError : List (TyN × Bool) := [(.er "Held", false), (.er "InvalidCommand", true), (.er "InvalidMarking", true), (.er "InvalidName", true), (.er "InvalidNumber", false), (.er "InvalidOperation", true), (.er "InvalidOrder", true), (.er "InvalidPattern", true), (.er "InvalidRule", true), (.er "InvalidRun", true), (.er "InvalidTransport", true), (.er "LetterError", true), (.er "NoOrder", false), (.er "NothingToUndo", false), (.er "ParseError", true), (.er "TooMany", false), (.er "UnknownName", false)]
def it_LookupError : List (TyN × Bool) := [(.er "Held", false), (.er "InvalidCommand", false), (.er "InvalidMarking", false), (.er "InvalidName", false), (.er "InvalidNumber", true), (.er "InvalidOperation", false), (.er "InvalidOrder", false), (.er "InvalidPattern", false), (.er "InvalidRule", false), (.er "InvalidRun", false), (.er "InvalidTransport", false), (.er "LetterError", false), (.er "NoOrder", false), (.er "NothingToUndo", true), (.er "ParseError", false), (.er "TooMany", false), (.er "UnknownName", true)]
def it_NoOrder : List (TyN × Bool) := [(.er "Held", false), (.er "InvalidCommand", false), (.er "InvalidMarking", false), (.er "InvalidName", false), (.er "InvalidNumber", false), (.er "InvalidOperation", false), (.er "InvalidOrder", false), (.er "InvalidPattern", false), (.er "InvalidRule", false), (.er "InvalidRun", false), (.er "InvalidTransport", false), (.er "LetterError", false), (.er "NoOrder", true), (.er "NothingToUndo", false), (.er "ParseError", false), (.er "TooMany", false), (.er "UnknownName", false)]
def it_NothingToUndo : List (TyN × Bool) := [(.er "Held", false), (.er "InvalidCommand", false), (.er "InvalidMarking", false), (.er "InvalidName", false), (.er "InvalidNumber", false), (.er "InvalidOperation", false), (.er "InvalidOrder", false), (.er "InvalidPattern", false), (.er "InvalidRule", false), (.er "InvalidRun", false), (.er "InvalidTransport", false), (.er "LetterError", false), (.er "NoOrder", false), (.er "NothingToUndo", true), (.er "ParseError", false), (.er "TooMany", false), (.er "UnknownName", false)]
def it_OverflowError : List (TyN × Bool) := [(.er "Held", false), (.er "InvalidCommand", false), (.er "InvalidMarking", false), (.er "InvalidName", false), (.er "InvalidNumber", false), (.er "InvalidOperation", false), (.er "InvalidOrder", false), (.er "InvalidPattern", false), (.er "InvalidRule", false), (.er "InvalidRun", false), (.er "InvalidTransport", false), (.er "LetterError", false), (.er "NoOrder", false), (.er "NothingToUndo", false), (.er "ParseError", false), (.er "TooMany", true), (.er "UnknownName", false)]
def it_ParseError : List (TyN × Bool) := [(.er "Held", false), (.er "InvalidCommand", false), (.er "InvalidMarking", false), (.er "InvalidName", false), (.er "InvalidNumber", false), (.er "InvalidOperation", false), (.er "InvalidOrder", false), (.er "InvalidPattern", false), (.er "InvalidRule", false), (.er "InvalidRun", false), (.er "InvalidTransport", false), (.er "LetterError", false), (.er "NoOrder", false), (.er "NothingToUndo", false), (.er "ParseError", true), (.er "TooMany", false), (.er "UnknownName", false)]
def it_RuntimeError : List (TyN × Bool) := [(.er "Held", true), (.er "InvalidCommand", false), (.er "InvalidMarking", false), (.er "InvalidName", false), (.er "InvalidNumber", false), (.er "InvalidOperation", false), (.er "InvalidOrder", false), (.er "InvalidPattern", false), (.er "InvalidRule", false), (.er "InvalidRun", false), (.er "InvalidTransport", false), (.er "LetterError", false), (.er "NoOrder", false), (.er "NothingToUndo", false), (.er "ParseError", false), (.er "TooMany", false), (.er "UnknownName", false)]
def it_TooMany : List (TyN × Bool) := [(.er "Held", false), (.er "InvalidCommand", false), (.er "InvalidMarking", false), (.er "InvalidName", false), (.er "InvalidNumber", false), (.er "InvalidOperation", false), (.er "InvalidOrder", false), (.er "InvalidPattern", false), (.er "InvalidRule", false), (.er "InvalidRun", false), (.er "InvalidTransport", false), (.er "LetterError", false), (.er "NoOrder", false), (.er "NothingToUndo", false), (.er "ParseError", false), (.er "TooMany", true), (.er "UnknownName", false)]
def it_UnknownName : List (TyN × Bool) := [(.er "Held", false), (.er "InvalidCommand", false), (.er "InvalidMarking", false), (.er "InvalidName", false), (.er "InvalidNumber", false), (.er "InvalidOperation", false), (.er "InvalidOrder", false), (.er "InvalidPattern", false), (.er "InvalidRule", false), (.er "InvalidRun", false), (.er "InvalidTransport", false), (.er "LetterError", false), (.er "NoOrder", false), (.er "NothingToUndo", false), (.er "ParseError", false), (.er "TooMany", false), (.er "UnknownName", true)]
def it_ValueError : List (TyN × Bool) := [(.er "Held", false), (.er "InvalidCommand", true), (.er "InvalidMarking", true), (.er "InvalidName", true), (.er "InvalidNumber", false), (.er "InvalidOperation", true), (.er "InvalidOrder", true), (.er "InvalidPattern", true), (.er "InvalidRule", true), (.er "InvalidRun", true), (.er "InvalidTransport", true), (.er "LetterError", true), (.er "NoOrder", false), (.er "NothingToUndo", false), (.er "ParseError", true), (.er "TooMany", false), (.er "UnknownName", false)]
structure Exs (P : Program) (K : PySem.W.Frag) (mg : MG) : Prop where
  v_InvalidCommand : XcV K mg "InvalidCommand"
  v_InvalidMarking : XcV K mg "InvalidMarking"
  v_InvalidName : XcV K mg "InvalidName"
  v_InvalidOperation : XcV K mg "InvalidOperation"
  v_InvalidOrder : XcV K mg "InvalidOrder"
  v_InvalidPattern : XcV K mg "InvalidPattern"
  v_InvalidRule : XcV K mg "InvalidRule"
  v_InvalidRun : XcV K mg "InvalidRun"
  v_InvalidTransport : XcV K mg "InvalidTransport"
  v_LetterError : XcV K mg "LetterError"
  v_ParseError : XcV K mg "ParseError"
  s_Held : XcS P K mg "Held" "step"
  s_InvalidNumber : XcS P K mg "InvalidNumber" "value"
  s_NoOrder : XcS P K mg "NoOrder" "ring"
  s_NothingToUndo : XcS P K mg "NothingToUndo" "many"
  s_TooMany : XcS P K mg "TooMany" "limit"
  s_UnknownName : XcS P K mg "UnknownName" "name"
  t_Held : ErT K mg "Held"
  t_InvalidCommand : ErT K mg "InvalidCommand"
  t_InvalidMarking : ErT K mg "InvalidMarking"
  t_InvalidName : ErT K mg "InvalidName"
  t_InvalidNumber : ErT K mg "InvalidNumber"
  t_InvalidOperation : ErT K mg "InvalidOperation"
  t_InvalidOrder : ErT K mg "InvalidOrder"
  t_InvalidPattern : ErT K mg "InvalidPattern"
  t_InvalidRule : ErT K mg "InvalidRule"
  t_InvalidRun : ErT K mg "InvalidRun"
  t_InvalidTransport : ErT K mg "InvalidTransport"
  t_LetterError : ErT K mg "LetterError"
  t_NoOrder : ErT K mg "NoOrder"
  t_NothingToUndo : ErT K mg "NothingToUndo"
  t_ParseError : ErT K mg "ParseError"
  t_TooMany : ErT K mg "TooMany"
  t_UnknownName : ErT K mg "UnknownName"
  f_Held_step : ∃ A : Addr, mg "Held" = some (.ref A) ∧ XfC K A ∧ PySem.W.findIn K (.ref A) "step" = some none
  f_InvalidNumber_value : ∃ A : Addr, mg "InvalidNumber" = some (.ref A) ∧ XfC K A ∧ PySem.W.findIn K (.ref A) "value" = some none
  f_NoOrder_ring : ∃ A : Addr, mg "NoOrder" = some (.ref A) ∧ XfC K A ∧ PySem.W.findIn K (.ref A) "ring" = some none
  f_NothingToUndo_many : ∃ A : Addr, mg "NothingToUndo" = some (.ref A) ∧ XfC K A ∧ PySem.W.findIn K (.ref A) "many" = some none
  f_TooMany_limit : ∃ A : Addr, mg "TooMany" = some (.ref A) ∧ XfC K A ∧ PySem.W.findIn K (.ref A) "limit" = some none
  f_UnknownName_name : ∃ A : Addr, mg "UnknownName" = some (.ref A) ∧ XfC K A ∧ PySem.W.findIn K (.ref A) "name" = some none
  oc : Oc K
  sm : SmK K
  i_ArithmeticError : KitA K mg (.type "ArithmeticError") it_ArithmeticError
  i_Held : IsO K mg "Held" it_Held
  i_IndexError : KitA K mg (.type "IndexError") it_IndexError
  i_InvalidCommand : IsO K mg "InvalidCommand" it_InvalidCommand
  i_InvalidMarking : IsO K mg "InvalidMarking" it_InvalidMarking
  i_InvalidName : IsO K mg "InvalidName" it_InvalidName
  i_InvalidNumber : IsO K mg "InvalidNumber" it_InvalidNumber
  i_InvalidOperation : IsO K mg "InvalidOperation" it_InvalidOperation
  i_InvalidOrder : IsO K mg "InvalidOrder" it_InvalidOrder
  i_InvalidPattern : IsO K mg "InvalidPattern" it_InvalidPattern
  i_InvalidRule : IsO K mg "InvalidRule" it_InvalidRule
  i_InvalidRun : IsO K mg "InvalidRun" it_InvalidRun
  i_InvalidTransport : IsO K mg "InvalidTransport" it_InvalidTransport
  i_KeyError : KitA K mg (.type "KeyError") it_KeyError
  i_LetterError : IsO K mg "LetterError" it_LetterError
  i_LookupError : KitA K mg (.type "LookupError") it_LookupError
  i_NoOrder : IsO K mg "NoOrder" it_NoOrder
  i_NothingToUndo : IsO K mg "NothingToUndo" it_NothingToUndo
  i_OverflowError : KitA K mg (.type "OverflowError") it_OverflowError
  i_ParseError : IsO K mg "ParseError" it_ParseError
  i_RuntimeError : KitA K mg (.type "RuntimeError") it_RuntimeError
  i_TooMany : IsO K mg "TooMany" it_TooMany
  i_UnknownName : IsO K mg "UnknownName" it_UnknownName
  i_ValueError : KitA K mg (.type "ValueError") it_ValueError
  sub : SubT K mg subC
section
variable {P : Program} {w : World} {K : PySem.W.Frag} {mg : MG} {base : Heap} {T : Tb}
/-! ### _law_dice -/
abbrev s_L_dice : Stmt := top 19
abbrev N_L_dice : List Str := ["_law_script", "_law_at", "_law_cell", "_law_great", "_law_mixed"]
theorem sc_L_dice : FnScope N_L_dice ["_law_script", "_law_at"] (defScope s_L_dice) := ⟨rfl, rfl, rfl, by decide +kernel, rfl, by decide +kernel, by decide +kernel⟩
def b_L_dice : En → Out := (seqS (noR (setS 2 (op2G addV (op2G mulV (constG (.int 19)) (varG 1)) (constG (.int 6)))))
    (seqS (noR (ifS (boolG (op2G (cmpD fun i j => decide (i < j)) (varG 1) (bltG lenD (consA (varG 0) nilA)))) (setS 2 (op2G ixD (varG 0) (varG 1))) nopS))
    (seqS (noR (setS 3 (op2G (intD modI) (bltG toInt (consA (bltG absD (consA (varG 2) nilA)) nilA)) (op2G (intD powI) (op2G (intD powI) (constG (.int 10)) (constG (.int 60))) (constG (.int 12))))))
    (seqS (noR (setS 4 (op2G addV (op2G addV (op2G addV (op2G mulV (op2G (intD modI) (bltG toInt (consA (varG 3) nilA)) (constG (.int 2147483543))) (constG (.int 46021))) (op2G mulV (constG (.int 1021)) (varG 1))) (op2G mulV (constG (.int 11)) (bltG toInt (consA (op2G (cmpD fun i j => decide (i < j)) (varG 2) (constG (.int 0))) nilA)))) (constG (.int 43)))))
    (retS (lstG (consA (bltG (int2 maxI) (consA (constG (.int 0)) (consA (op2G (intD subI) (varG 3) (op2G (intD powI) (constG (.int 10)) (constG (.int 18)))) nilA))) (consA (op2G (intD modI) (bltG toInt (consA (varG 4) nilA)) (constG (.int 2147483489))) (consA (constG (.int 0)) nilA)))))))))
def f_L_dice : En → Res D := defO 5 b_L_dice
theorem cl_L_dice (bl : Bl mg) (gc : Gc K mg w) (ex : Exs P K mg) (F : Fd K mg "_law_dice" s_L_dice)  : ClO P w K mg base T 1 "_law_dice" 2 f_L_dice :=
  clO (k := 0) F sc_L_dice rfl (fun _ _ _ _ _ _ us hl => match us, hl with | [_, _], _ => rfl) fun f cdv A outer s H E c =>
    (oconsR (sset 2 (eaddV (emulV eint (ev 1)) eint) c.nd)
    (oconsR (sif (tlt (ev 1) (ecallB call_lenA lenD_ok (by rfl) bl.len (acons (ev 0) anil))) (sone (sset 2 (eix c (ev 0) (ev 1)) c.nd)) snil)
    (oconsR (sset 3 (emod (ecallTy call_int1 toInt_ok (by rfl) bl.int (acons (ecallB call_abs absD_ok (by rfl) bl.abs (acons (ev 2) anil)) anil)) (epow (epow eint eint) eint)) c.nd)
    (oconsR (sset 4 (eaddV (eaddV (eaddV (emulV (emod (ecallTy call_int1 toInt_ok (by rfl) bl.int (acons (ev 3) anil)) eint) eint) (emulV eint (ev 1))) (emulV eint (ecallTy call_int1 toInt_ok (by rfl) bl.int (acons (elt (ev 2) eint) anil)))) eint) c.nd)
    (oone (oret (nlst (acons (ecallB (call_max2 c.calm) (int2_ok (f := maxI)) (by rfl) bl.max (acons eint (acons (esub (ev 3) (epow eint eint)) anil))) (acons (emod (ecallTy call_int1 toInt_ok (by rfl) bl.int (acons (ev 4) anil)) eint) (acons eint anil))))))))))
/-! ### _law_pull -/
abbrev s_L_pull : Stmt := top 20
abbrev N_L_pull : List Str := ["_law_dice_here", "_law_total", "_law_found", "_law_one", "_law_two"]
theorem sc_L_pull : FnScope N_L_pull ["_law_dice_here", "_law_total"] (defScope s_L_pull) := ⟨rfl, rfl, rfl, by decide +kernel, rfl, by decide +kernel, by decide +kernel⟩
def b_L_pull : En → Out := (seqS (ifS (boolG (op2G (cmpD fun i j => decide (j < i)) (slotIxG 0 (constG (.int 0))) (constG (.int 0)))) (seqS (setS 2 (op2G (intD modI) (bltG toInt (consA (slotIxG 0 (constG (.int 0))) nilA)) (varG 1)))
    (seqS (setIxS 0 (constG (.int 0)) (op2G (intD fdivI) (slotIxG 0 (constG (.int 0))) (varG 1)))
    (retS (varG 2)))) nopS)
    (seqS (setIxS 0 (constG (.int 2)) (op2G addV (slotIxG 0 (constG (.int 2))) (constG (.int 1))))
    (seqS (setS 3 (op2G (intD modI) (bltG toInt (consA (op2G addV (slotIxG 0 (constG (.int 1))) (op2G mulV (constG (.int 1000159)) (slotIxG 0 (constG (.int 2))))) nilA)) (constG (.int 2305843009213693951))))
    (seqS (setS 4 (op2G mulV (op2G (intD modI) (bltG toInt (consA (op2G mulV (varG 3) (varG 3)) nilA)) (constG (.int 2305843009213693907))) (varG 3)))
    (retS (op2G (intD modI) (bltG toInt (consA (op2G (intD fdivI) (op2G (intD modI) (bltG toInt (consA (op2G addV (varG 4) (op2G mulV (constG (.int 7121)) (slotIxG 0 (constG (.int 2))))) nilA)) (constG (.int 2305843009213693921))) (constG (.int 8192))) nilA)) (varG 1)))))))
def f_L_pull : En → Res D := defV 5 b_L_pull
theorem cl_L_pull (bl : Bl mg) (gc : Gc K mg w) (ex : Exs P K mg) (F : Fd K mg "_law_pull" s_L_pull)  : Cl P w K mg base T 1 "_law_pull" 2 f_L_pull :=
  clV (k := 0) F sc_L_pull rfl (fun _ _ _ _ _ _ us hl => match us, hl with | [_, _], _ => rfl) fun f cdv A outer s H E c =>
    (scons (sif (tgt (eslotIx 0 c eint) eint) (scons (sset 2 (emod (ecallTy call_int1 toInt_ok (by rfl) bl.int (acons (eslotIx 0 c eint) anil)) (ev 1)) c.nd)
    (scons (ssetIx 0 c eint (efdiv (eslotIx 0 c eint) (ev 1)))
    (sone (sret (ev 2))))) snil)
    (scons (ssetIx 0 c eint (eaddV (eslotIx 0 c eint) eint))
    (scons (sset 3 (emod (ecallTy call_int1 toInt_ok (by rfl) bl.int (acons (eaddV (eslotIx 0 c eint) (emulV eint (eslotIx 0 c eint))) anil)) eint) c.nd)
    (scons (sset 4 (emulV (emod (ecallTy call_int1 toInt_ok (by rfl) bl.int (acons (emulV (ev 3) (ev 3)) anil)) eint) (ev 3)) c.nd)
    (sone (sret (emod (ecallTy call_int1 toInt_ok (by rfl) bl.int (acons (efdiv (emod (ecallTy call_int1 toInt_ok (by rfl) bl.int (acons (eaddV (ev 4) (emulV eint (eslotIx 0 c eint))) anil)) eint) eint) anil)) (ev 1))))))))
/-! ### _law_pick -/
abbrev s_L_pick : Stmt := top 21
abbrev N_L_pick : List Str := ["_law_dice_here", "_law_items"]
theorem sc_L_pick : FnScope N_L_pick ["_law_dice_here", "_law_items"] (defScope s_L_pick) := ⟨rfl, rfl, rfl, by decide +kernel, rfl, by decide +kernel, by decide +kernel⟩
def b_L_pick : En → Out := (retS (op2G ixD (varG 1) (callG f_L_pull (slotA 0 (consA (bltG lenD (consA (varG 1) nilA)) nilA)))))
def f_L_pick : En → Res D := defV 2 b_L_pick
theorem cl_L_pick (bl : Bl mg) (gc : Gc K mg w) (ex : Exs P K mg) (F : Fd K mg "_law_pick" s_L_pick) (h_L_pull : Cl P w K mg base T 1 "_law_pull" 2 f_L_pull) : Cl P w K mg base T 2 "_law_pick" 2 f_L_pick :=
  clV (k := 1) F sc_L_pick rfl (fun _ _ _ _ _ _ us hl => match us, hl with | [_, _], _ => rfl) fun f cdv A outer s H E c =>
    (sone (sret (eix c (ev 1) (ecl c h_L_pull (by decide) (by rfl) (aslot 0 (acons (ecallB call_lenA lenD_ok (by rfl) bl.len (acons (ev 1) anil)) anil)) (slotA_len (consA_len (fun _ _ _ h => nilA_len h)))))))
/-! ### _law_classes -/
abbrev s_L_classes : Stmt := top 23
abbrev N_L_classes : List Str := ["_law_error", "_law_found"]
theorem sc_L_classes : FnScope N_L_classes ["_law_error"] (defScope s_L_classes) := ⟨rfl, rfl, rfl, by decide +kernel, rfl, by decide +kernel, by decide +kernel⟩
def b_L_classes : En → Out := (seqS (setS 1 (lstG (consA (isnG it_InvalidName (varG 0)) (consA (isnG it_InvalidOrder (varG 0)) (consA (isnG it_InvalidRun (varG 0)) nilA)))))
    (seqS (setS 1 (op2G addV (varG 1) (lstG (consA (isnG it_InvalidPattern (varG 0)) (consA (isnG it_InvalidRule (varG 0)) nilA)))))
    (seqS (setS 1 (op2G addV (varG 1) (lstG (consA (isnG it_InvalidMarking (varG 0)) (consA (isnG it_InvalidTransport (varG 0)) nilA)))))
    (seqS (setS 1 (op2G addV (varG 1) (lstG (consA (isnG it_InvalidOperation (varG 0)) (consA (isnG it_ParseError (varG 0)) nilA)))))
    (seqS (setS 1 (op2G addV (varG 1) (lstG (consA (isnG it_InvalidCommand (varG 0)) (consA (isnG it_InvalidNumber (varG 0)) nilA)))))
    (seqS (setS 1 (op2G addV (varG 1) (lstG (consA (isnG it_UnknownName (varG 0)) (consA (isnG it_TooMany (varG 0)) (consA (isnG it_NoOrder (varG 0)) nilA))))))
    (retS (op2G addV (varG 1) (lstG (consA (isnG it_Held (varG 0)) (consA (isnG it_NothingToUndo (varG 0)) nilA)))))))))))
def f_L_classes : En → Res D := defV 2 b_L_classes
theorem cl_L_classes (bl : Bl mg) (gc : Gc K mg w) (ex : Exs P K mg) (F : Fd K mg "_law_classes" s_L_classes)  : Cl P w K mg base T 1 "_law_classes" 1 f_L_classes :=
  clV (k := 0) F sc_L_classes rfl (fun _ _ _ _ _ _ us hl => match us, hl with | [_], _ => rfl) fun f cdv A outer s H E c =>
    (scons (sset 1 (nE (nlst (acons (eisnO ex.oc ex.i_InvalidName (ev 0) (by rfl) bl.isinstance (by rfl)) (acons (eisnO ex.oc ex.i_InvalidOrder (ev 0) (by rfl) bl.isinstance (by rfl)) (acons (eisnO ex.oc ex.i_InvalidRun (ev 0) (by rfl) bl.isinstance (by rfl)) anil))))) c.nd)
    (scons (sset 1 (eaddV (ev 1) (nE (nlst (acons (eisnO ex.oc ex.i_InvalidPattern (ev 0) (by rfl) bl.isinstance (by rfl)) (acons (eisnO ex.oc ex.i_InvalidRule (ev 0) (by rfl) bl.isinstance (by rfl)) anil))))) c.nd)
    (scons (sset 1 (eaddV (ev 1) (nE (nlst (acons (eisnO ex.oc ex.i_InvalidMarking (ev 0) (by rfl) bl.isinstance (by rfl)) (acons (eisnO ex.oc ex.i_InvalidTransport (ev 0) (by rfl) bl.isinstance (by rfl)) anil))))) c.nd)
    (scons (sset 1 (eaddV (ev 1) (nE (nlst (acons (eisnO ex.oc ex.i_InvalidOperation (ev 0) (by rfl) bl.isinstance (by rfl)) (acons (eisnO ex.oc ex.i_ParseError (ev 0) (by rfl) bl.isinstance (by rfl)) anil))))) c.nd)
    (scons (sset 1 (eaddV (ev 1) (nE (nlst (acons (eisnO ex.oc ex.i_InvalidCommand (ev 0) (by rfl) bl.isinstance (by rfl)) (acons (eisnO ex.oc ex.i_InvalidNumber (ev 0) (by rfl) bl.isinstance (by rfl)) anil))))) c.nd)
    (scons (sset 1 (eaddV (ev 1) (nE (nlst (acons (eisnO ex.oc ex.i_UnknownName (ev 0) (by rfl) bl.isinstance (by rfl)) (acons (eisnO ex.oc ex.i_TooMany (ev 0) (by rfl) bl.isinstance (by rfl)) (acons (eisnO ex.oc ex.i_NoOrder (ev 0) (by rfl) bl.isinstance (by rfl)) anil)))))) c.nd)
    (sone (sret (eaddV (ev 1) (nE (nlst (acons (eisnO ex.oc ex.i_Held (ev 0) (by rfl) bl.isinstance (by rfl)) (acons (eisnO ex.oc ex.i_NothingToUndo (ev 0) (by rfl) bl.isinstance (by rfl)) anil)))))))))))))
/-! ### _law_bases -/
abbrev s_L_bases : Stmt := top 24
abbrev N_L_bases : List Str := ["_law_error", "_law_found"]
theorem sc_L_bases : FnScope N_L_bases ["_law_error"] (defScope s_L_bases) := ⟨rfl, rfl, rfl, by decide +kernel, rfl, by decide +kernel, by decide +kernel⟩
def b_L_bases : En → Out := (seqS (setS 1 (lstG (consA (isnG it_LetterError (varG 0)) (consA (isnG it_ValueError (varG 0)) (consA (isnG it_IndexError (varG 0)) nilA)))))
    (seqS (setS 1 (op2G addV (varG 1) (lstG (consA (isnG it_KeyError (varG 0)) (consA (isnG it_OverflowError (varG 0)) (consA (isnG it_RuntimeError (varG 0)) nilA))))))
    (retS (op2G addV (varG 1) (lstG (consA (isnG it_ArithmeticError (varG 0)) (consA (isnG it_LookupError (varG 0)) nilA)))))))
def f_L_bases : En → Res D := defV 2 b_L_bases
theorem cl_L_bases (bl : Bl mg) (gc : Gc K mg w) (ex : Exs P K mg) (F : Fd K mg "_law_bases" s_L_bases)  : Cl P w K mg base T 1 "_law_bases" 1 f_L_bases :=
  clV (k := 0) F sc_L_bases rfl (fun _ _ _ _ _ _ us hl => match us, hl with | [_], _ => rfl) fun f cdv A outer s H E c =>
    (scons (sset 1 (nE (nlst (acons (eisnO ex.oc ex.i_LetterError (ev 0) (by rfl) bl.isinstance (by rfl)) (acons (eisnB ex.oc ex.i_ValueError (ev 0) (by rfl) bl.isinstance (by rfl) bl.ValueError) (acons (eisnB ex.oc ex.i_IndexError (ev 0) (by rfl) bl.isinstance (by rfl) bl.IndexError) anil))))) c.nd)
    (scons (sset 1 (eaddV (ev 1) (nE (nlst (acons (eisnB ex.oc ex.i_KeyError (ev 0) (by rfl) bl.isinstance (by rfl) bl.KeyError) (acons (eisnB ex.oc ex.i_OverflowError (ev 0) (by rfl) bl.isinstance (by rfl) bl.OverflowError) (acons (eisnB ex.oc ex.i_RuntimeError (ev 0) (by rfl) bl.isinstance (by rfl) bl.RuntimeError) anil)))))) c.nd)
    (sone (sret (eaddV (ev 1) (nE (nlst (acons (eisnB ex.oc ex.i_ArithmeticError (ev 0) (by rfl) bl.isinstance (by rfl) bl.ArithmeticError) (acons (eisnB ex.oc ex.i_LookupError (ev 0) (by rfl) bl.isinstance (by rfl) bl.LookupError) anil)))))))))
/-! ### _law_messages_right -/
abbrev s_L_messages_right : Stmt := top 25
abbrev N_L_messages_right : List Str := ["_law_text", "_law_made", "_law_at", "_law_place"]
theorem sc_L_messages_right : FnScope N_L_messages_right ["_law_text"] (defScope s_L_messages_right) := ⟨rfl, rfl, rfl, by decide +kernel, rfl, by decide +kernel, by decide +kernel⟩
def b_L_messages_right : En → Out := (seqS (setS 1 (lstG (consA (excG "InvalidName" (varG 0)) (consA (excG "InvalidOrder" (varG 0)) (consA (excG "InvalidRun" (varG 0)) (consA (excG "InvalidPattern" (varG 0)) (consA (excG "InvalidRule" (varG 0)) nilA)))))))
    (seqS (setS 1 (op2G addV (varG 1) (lstG (consA (excG "InvalidMarking" (varG 0)) (consA (excG "InvalidTransport" (varG 0)) (consA (excG "InvalidOperation" (varG 0)) nilA))))))
    (seqS (setS 1 (op2G addV (varG 1) (lstG (consA (excG "ParseError" (varG 0)) (consA (excG "InvalidCommand" (varG 0)) nilA)))))
    (seqS (forS (rangeG rng1 (consA (constG (.int 10)) nilA)) (tgN 2) (seqS (ifS (boolG (op2G neS (callG f_L_classes (consA (op2G ixD (varG 1) (varG 2)) nilA)) (compG (rangeG rng1 (consA (constG (.int 16)) nilA)) (tgN 3) yesT (op2G eqS (varG 3) (varG 2)) [3]))) (retS (constG (.bl false))) nopS)
    (ifS (boolG (op2G neS (callG f_L_bases (consA (op2G ixD (varG 1) (varG 2)) nilA)) (op2G addV (lstG (consA (constG (.bl true)) (consA (constG (.bl true)) nilA))) (op2G mulV (lstG (consA (constG (.bl false)) nilA)) (constG (.int 6)))))) (retS (constG (.bl false))) nopS)))
    (seqS (ifS (boolG (op2G neS (callG f_L_classes (consA (excG "LetterError" (varG 0)) nilA)) (op2G mulV (lstG (consA (constG (.bl false)) nilA)) (constG (.int 16))))) (retS (constG (.bl false))) nopS)
    (retS (op2G eqS (callG f_L_bases (consA (excG "LetterError" (varG 0)) nilA)) (op2G addV (lstG (consA (constG (.bl true)) (consA (constG (.bl true)) nilA))) (op2G mulV (lstG (consA (constG (.bl false)) nilA)) (constG (.int 6)))))))))))
def f_L_messages_right : En → Res D := defV 4 b_L_messages_right
theorem cl_L_messages_right (bl : Bl mg) (gc : Gc K mg w) (ex : Exs P K mg) (F : Fd K mg "_law_messages_right" s_L_messages_right) (h_L_bases : Cl P w K mg base T 1 "_law_bases" 1 f_L_bases) (h_L_classes : Cl P w K mg base T 1 "_law_classes" 1 f_L_classes) : Cl P w K mg base T 2 "_law_messages_right" 1 f_L_messages_right :=
  clV (k := 1) F sc_L_messages_right rfl (fun _ _ _ _ _ _ us hl => match us, hl with | [_], _ => rfl) fun f cdv A outer s H E c =>
    (scons (sset 1 (nE (nlst (acons (eexc ex.v_InvalidName (by rfl) (ev 0)) (acons (eexc ex.v_InvalidOrder (by rfl) (ev 0)) (acons (eexc ex.v_InvalidRun (by rfl) (ev 0)) (acons (eexc ex.v_InvalidPattern (by rfl) (ev 0)) (acons (eexc ex.v_InvalidRule (by rfl) (ev 0)) anil))))))) c.nd)
    (scons (sset 1 (eaddV (ev 1) (nE (nlst (acons (eexc ex.v_InvalidMarking (by rfl) (ev 0)) (acons (eexc ex.v_InvalidTransport (by rfl) (ev 0)) (acons (eexc ex.v_InvalidOperation (by rfl) (ev 0)) anil)))))) c.nd)
    (scons (sset 1 (eaddV (ev 1) (nE (nlst (acons (eexc ex.v_ParseError (by rfl) (ev 0)) (acons (eexc ex.v_InvalidCommand (by rfl) (ev 0)) anil))))) c.nd)
    (scons (sfor c (irange1 (by rfl) bl.range (acons eint anil)) (gname 2 c.nd) (scons (sif (tneS c (ecl c h_L_classes (by decide) (by rfl) (acons (eix c (ev 1) (ev 2)) anil) (consA_len (fun _ _ _ h => nilA_len h))) (nE (nlc c (irange1 (by rfl) bl.range (acons eint anil)) (blkOk_by (N := N_L_messages_right) (sc := defScope s_L_messages_right) (own := [("_law_place", 3)]) (by decide +kernel)) (by decide) (fun _ _ _ _ _ c1 => (gname 3 c1.nd)) (fun _ _ _ _ _ c1 => tsnil) (fun _ _ _ _ _ c1 => (eeqS c1 (ev 3) (ev 2)))))) (sone (sret ebl)) snil)
    (sone (sif (tneS c (ecl c h_L_bases (by decide) (by rfl) (acons (eix c (ev 1) (ev 2)) anil) (consA_len (fun _ _ _ h => nilA_len h))) (eaddV (nE (nlst (acons ebl (acons ebl anil)))) (emulV (nE (nlst (acons ebl anil))) eint))) (sone (sret ebl)) snil))))
    (scons (sif (tneS c (ecl c h_L_classes (by decide) (by rfl) (acons (eexc ex.v_LetterError (by rfl) (ev 0)) anil) (consA_len (fun _ _ _ h => nilA_len h))) (emulV (nE (nlst (acons ebl anil))) eint)) (sone (sret ebl)) snil)
    (sone (sret (eeqS c (ecl c h_L_bases (by decide) (by rfl) (acons (eexc ex.v_LetterError (by rfl) (ev 0)) anil) (consA_len (fun _ _ _ h => nilA_len h))) (eaddV (nE (nlst (acons ebl (acons ebl anil)))) (emulV (nE (nlst (acons ebl anil))) eint))))))))))
/-! ### _law_values_right -/
abbrev s_L_values_right : Stmt := top 26
abbrev N_L_values_right : List Str := ["_law_kept", "_law_other", "_law_made", "_law_told", "_law_due", "_law_at", "_law_place"]
theorem sc_L_values_right : FnScope N_L_values_right ["_law_kept", "_law_other"] (defScope s_L_values_right) := ⟨rfl, rfl, rfl, by decide +kernel, rfl, by decide +kernel, by decide +kernel⟩
def b_L_values_right : En → Out := (seqS (setS 2 (lstG (consA (excVG "InvalidNumber" "value" (varG 0)) (consA (excVG "UnknownName" "name" (varG 1)) (consA (excVG "TooMany" "limit" (varG 0)) (consA (excVG "NoOrder" "ring" (varG 1)) (consA (excVG "Held" "step" (varG 0)) (consA (excVG "NothingToUndo" "many" (varG 1)) nilA))))))))
    (seqS (setS 3 (lstG (consA (attG "value" [(.er "InvalidNumber", .fld)] (op2G ixD (varG 2) (constG (.int 0)))) (consA (attG "name" [(.er "UnknownName", .fld)] (op2G ixD (varG 2) (constG (.int 1)))) (consA (attG "limit" [(.er "TooMany", .fld)] (op2G ixD (varG 2) (constG (.int 2)))) (consA (attG "ring" [(.er "NoOrder", .fld)] (op2G ixD (varG 2) (constG (.int 3)))) (consA (attG "step" [(.er "Held", .fld)] (op2G ixD (varG 2) (constG (.int 4)))) (consA (attG "many" [(.er "NothingToUndo", .fld)] (op2G ixD (varG 2) (constG (.int 5)))) nilA))))))))
    (seqS (ifS (boolG (op2G neS (bltG reprX (consA (varG 3) nilA)) (bltG reprX (consA (op2G mulV (lstG (consA (varG 0) (consA (varG 1) nilA))) (constG (.int 3))) nilA)))) (retS (constG (.bl false))) nopS)
    (seqS (setS 4 (lstG (consA (lstG (consA (constG (.int 2)) (consA (constG (.int 7)) nilA))) (consA (lstG (consA (constG (.int 3)) (consA (constG (.int 7)) nilA))) (consA (lstG (consA (constG (.int 4)) (consA (constG (.int 6)) nilA))) (consA (lstG (consA (constG (.int 6)) nilA)) (consA (lstG (consA (constG (.int 5)) nilA)) (consA (lstG (consA (constG (.int 7)) nilA)) nilA))))))))
    (seqS (forS (rangeG rng1 (consA (constG (.int 6)) nilA)) (tgN 5) (seqS (ifS (boolG (op2G neS (callG f_L_classes (consA (op2G ixD (varG 2) (varG 5)) nilA)) (compG (rangeG rng1 (consA (constG (.int 16)) nilA)) (tgN 6) yesT (op2G eqS (varG 6) (op2G addV (constG (.int 10)) (varG 5))) [6]))) (retS (constG (.bl false))) nopS)
    (ifS (boolG (op2G neS (callG f_L_bases (consA (op2G ixD (varG 2) (varG 5)) nilA)) (compG (rangeG rng1 (consA (constG (.int 8)) nilA)) (tgN 6) yesT (op2G inD (varG 6) (op2G ixD (varG 4) (varG 5))) [6]))) (retS (constG (.bl false))) nopS)))
    (retS (constG (.bl true))))))))
def f_L_values_right : En → Res D := defV 7 b_L_values_right
theorem cl_L_values_right (bl : Bl mg) (gc : Gc K mg w) (ex : Exs P K mg) (F : Fd K mg "_law_values_right" s_L_values_right) (h_L_bases : Cl P w K mg base T 1 "_law_bases" 1 f_L_bases) (h_L_classes : Cl P w K mg base T 1 "_law_classes" 1 f_L_classes) : Cl P w K mg base T 2 "_law_values_right" 2 f_L_values_right :=
  clV (k := 1) F sc_L_values_right rfl (fun _ _ _ _ _ _ us hl => match us, hl with | [_, _], _ => rfl) fun f cdv A outer s H E c =>
    (scons (sset 2 (nE (nlst (acons (eexcV c ex.s_InvalidNumber (by rfl) (ev 0)) (acons (eexcV c ex.s_UnknownName (by rfl) (ev 1)) (acons (eexcV c ex.s_TooMany (by rfl) (ev 0)) (acons (eexcV c ex.s_NoOrder (by rfl) (ev 1)) (acons (eexcV c ex.s_Held (by rfl) (ev 0)) (acons (eexcV c ex.s_NothingToUndo (by rfl) (ev 1)) anil)))))))) c.nd)
    (scons (sset 3 (nE (nlst (acons (eatt c (.cons ex.f_InvalidNumber_value .nil) (eix c (ev 2) eint)) (acons (eatt c (.cons ex.f_UnknownName_name .nil) (eix c (ev 2) eint)) (acons (eatt c (.cons ex.f_TooMany_limit .nil) (eix c (ev 2) eint)) (acons (eatt c (.cons ex.f_NoOrder_ring .nil) (eix c (ev 2) eint)) (acons (eatt c (.cons ex.f_Held_step .nil) (eix c (ev 2) eint)) (acons (eatt c (.cons ex.f_NothingToUndo_many .nil) (eix c (ev 2) eint)) anil)))))))) c.nd)
    (scons (sif (tneS c (ecallB (call_reprX ex.sm c.gd (hu64 c.room)) reprX_ok (by rfl) bl.repr (acons (ev 3) anil)) (ecallB (call_reprX ex.sm c.gd (hu64 c.room)) reprX_ok (by rfl) bl.repr (acons (emulV (nE (nlst (acons (ev 0) (acons (ev 1) anil)))) eint) anil))) (sone (sret ebl)) snil)
    (scons (sset 4 (nE (nlst (acons (nE (nlst (acons eint (acons eint anil)))) (acons (nE (nlst (acons eint (acons eint anil)))) (acons (nE (nlst (acons eint (acons eint anil)))) (acons (nE (nlst (acons eint anil))) (acons (nE (nlst (acons eint anil))) (acons (nE (nlst (acons eint anil))) anil)))))))) c.nd)
    (scons (sfor c (irange1 (by rfl) bl.range (acons eint anil)) (gname 5 c.nd) (scons (sif (tneS c (ecl c h_L_classes (by decide) (by rfl) (acons (eix c (ev 2) (ev 5)) anil) (consA_len (fun _ _ _ h => nilA_len h))) (nE (nlc c (irange1 (by rfl) bl.range (acons eint anil)) (blkOk_by (N := N_L_values_right) (sc := defScope s_L_values_right) (own := [("_law_place", 6)]) (by decide +kernel)) (by decide) (fun _ _ _ _ _ c1 => (gname 6 c1.nd)) (fun _ _ _ _ _ c1 => tsnil) (fun _ _ _ _ _ c1 => (eeqS c1 (ev 6) (eaddV eint (ev 5))))))) (sone (sret ebl)) snil)
    (sone (sif (tneS c (ecl c h_L_bases (by decide) (by rfl) (acons (eix c (ev 2) (ev 5)) anil) (consA_len (fun _ _ _ h => nilA_len h))) (nE (nlc c (irange1 (by rfl) bl.range (acons eint anil)) (blkOk_by (N := N_L_values_right) (sc := defScope s_L_values_right) (own := [("_law_place", 6)]) (by decide +kernel)) (by decide) (fun _ _ _ _ _ c1 => (gname 6 c1.nd)) (fun _ _ _ _ _ c1 => tsnil) (fun _ _ _ _ _ c1 => (ein c1 (ev 6) (eix c1 (ev 4) (ev 5))))))) (sone (sret ebl)) snil))))
    (sone (sret ebl)))))))
/-! ### _law_value -/
abbrev s_L_value : Stmt := top 22
abbrev N_L_value : List Str := ["_law_dice_here", "_law_number", "_law_found"]
theorem sc_L_value : FnScope N_L_value ["_law_dice_here"] (defScope s_L_value) := ⟨rfl, rfl, rfl, by decide +kernel, rfl, by decide +kernel, by decide +kernel⟩
def b_L_value : En → Out := (seqS (setS 1 (op2G (intD subI) (callG f_L_pull (slotA 0 (consA (constG (.int 1000)) nilA))) (constG (.int 500))))
    (seqS (setS 2 (lstG (consA (varG 1) (consA (op2G (intD powI) (varG 1) (constG (.int 9))) (consA (constG .non) (consA (op2G (cmpD fun i j => decide (j < i)) (varG 1) (constG (.int 0))) (consA (op2G mulV (constG (.str "n")) (bltG toInt (consA (bltG absD (consA (varG 1) nilA)) nilA))) (consA (tupG (consA (varG 1) (consA (constG (.str "x")) nilA))) (consA (lstG (consA (varG 1) nilA)) (consA (dispG [((varG 1), (constG (.str "x")))]) nilA))))))))))
    (retS (callG f_L_pick (slotA 0 (consA (varG 2) nilA))))))
def f_L_value : En → Res D := defV 3 b_L_value
theorem cl_L_value (bl : Bl mg) (gc : Gc K mg w) (ex : Exs P K mg) (F : Fd K mg "_law_value" s_L_value) (h_L_pick : Cl P w K mg base T 2 "_law_pick" 2 f_L_pick) (h_L_pull : Cl P w K mg base T 1 "_law_pull" 2 f_L_pull) : Cl P w K mg base T 3 "_law_value" 1 f_L_value :=
  clV (k := 2) F sc_L_value rfl (fun _ _ _ _ _ _ us hl => match us, hl with | [_], _ => rfl) fun f cdv A outer s H E c =>
    (scons (sset 1 (esub (ecl c h_L_pull (by decide) (by rfl) (aslot 0 (acons eint anil)) (slotA_len (consA_len (fun _ _ _ h => nilA_len h)))) eint) c.nd)
    (scons (sset 2 (nE (nlst (acons (ev 1) (acons (epow (ev 1) eint) (acons enon (acons (egt (ev 1) eint) (acons (emulV estr (ecallTy call_int1 toInt_ok (by rfl) bl.int (acons (ecallB call_abs absD_ok (by rfl) bl.abs (acons (ev 1) anil)) anil))) (acons (etup (acons (ev 1) (acons estr anil))) (acons (nE (nlst (acons (ev 1) anil))) (acons (nE (ndisp (.cons (ev 1) estr .nil))) anil)))))))))) c.nd)
    (sone (sret (ecl c h_L_pick (by decide) (by rfl) (aslot 0 (acons (ev 2) anil)) (slotA_len (consA_len (fun _ _ _ h => nilA_len h))))))))
/-! ### law -/
abbrev s_law : Stmt := top 27
abbrev N_law : List Str := ["_law_script", "_law_at", "_law_dice_here", "_law_word"]
theorem sc_law : FnScope N_law ["_law_script"] (defScope s_law) := ⟨rfl, rfl, rfl, by decide +kernel, rfl, by decide +kernel, by decide +kernel⟩
def b_law : En → Out := (seqS (forS (rangeG rng1 (consA (bltG (int2 maxI) (consA (constG (.int 1)) (consA (bltG (int2 minI) (consA (constG (.int 6)) (consA (bltG lenD (consA (varG 0) nilA)) nilA))) nilA))) nilA)) (tgN 1) (seqS (ownS 2 (callG f_L_dice (consA (varG 0) (consA (varG 1) nilA))))
    (seqS (setS 3 (callG f_L_pick (slotA 2 (consA (lstG (consA (constG (.str "")) (consA (constG (.str "text")) (consA (constG (.str "two words")) (consA (op2G mulV (constG (.str "x")) (constG (.int 300))) nilA))))) nilA))))
    (ifS (orB (notB (truthG (callG f_L_messages_right (consA (varG 3) nilA)))) (notB (truthG (callG f_L_values_right (consA (callG f_L_value (slotA 2 nilA)) (consA (callG f_L_value (slotA 2 nilA)) nilA)))))) (retS (constG (.bl false))) nopS))))
    (retS (constG (.bl true))))
def f_law : En → Res D := defV 4 b_law
theorem ok_law {fa : Addr} {fd : FuncData} (bl : Bl mg) (gc : Gc K mg w) (ex : Exs P K mg) (F : L2.Fun K "law" "law" s_law fa fd) (h_L_dice : ClO P w K mg base T 1 "_law_dice" 2 f_L_dice) (h_L_messages_right : Cl P w K mg base T 2 "_law_messages_right" 1 f_L_messages_right) (h_L_pick : Cl P w K mg base T 2 "_law_pick" 2 f_L_pick) (h_L_value : Cl P w K mg base T 3 "_law_value" 1 f_L_value) (h_L_values_right : Cl P w K mg base T 2 "_law_values_right" 2 f_L_values_right) : FnG P w K mg base (L2.CX P w) 4 fa fd ["_law_script"] (spV K mg w T 1 f_law) :=
  okV (k := 3) F sc_law rfl fun cdv A outer s H E c =>
    (scons (sfor c (irange1 (by rfl) bl.range (acons (ecallB (call_max2 c.calm) (int2_ok (f := maxI)) (by rfl) bl.max (acons eint (acons (ecallB (call_min2 c.calm) (int2_ok (f := minI)) (by rfl) bl.min (acons eint (acons (ecallB call_lenA lenD_ok (by rfl) bl.len (acons (ev 0) anil)) anil))) anil))) anil)) (gname 1 c.nd) (scons (sown 2 (nclO c h_L_dice (by decide) (by rfl) (acons (ev 0) (acons (ev 1) anil)) (consA_len (consA_len (fun _ _ _ h => nilA_len h)))) c.nd)
    (scons (sset 3 (ecl c h_L_pick (by decide) (by rfl) (aslot 2 (acons (nE (nlst (acons estr (acons estr (acons estr (acons (emulV estr eint) anil)))))) anil)) (slotA_len (consA_len (fun _ _ _ h => nilA_len h)))) c.nd)
    (sone (sif (PW.pt (tor (tnot (ttruth (ecl c h_L_messages_right (by decide) (by rfl) (acons (ev 3) anil) (consA_len (fun _ _ _ h => nilA_len h))))) (tor1 (tnot (ttruth (ecl c h_L_values_right (by decide) (by rfl) (acons (ecl c h_L_value (by decide) (by rfl) (aslot 2 anil) (slotA_len (fun _ _ _ h => nilA_len h))) (acons (ecl c h_L_value (by decide) (by rfl) (aslot 2 anil) (slotA_len (fun _ _ _ h => nilA_len h))) anil)) (consA_len (consA_len (fun _ _ _ h => nilA_len h))))))))) (sone (sret ebl)) snil)))))
    (sone (sret ebl)))
end
end LR

set_option linter.all false
set_option maxRecDepth 100000
set_option maxHeartbeats 4000000
set_option autoImplicit false
namespace LR
open PySem L2 L2.PV
/-! ### the dice -/
abbrev dz (a b c : Int) : D := .lst [.int a, .int b, .int c]
theorem at0 {x y z : D} : atI [x, y, z] 0 = some x := rfl
theorem at1 {x y z : D} : atI [x, y, z] 1 = some y := rfl
theorem at2 {x y z : D} : atI [x, y, z] 2 = some z := rfl
theorem modI_pos {i j : Int} (h : 0 < j) : modI i j = some (i % j) := if_pos h
theorem fdivI_pos {i j : Int} (h : 0 < j) (h' : j < 1073741824) : fdivI i j = some (i / j) := if_pos ⟨h, h'⟩
theorem mulI_l {i j : Int} (h : -(2 ^ 64) < i) (h' : i < 2 ^ 64) : mulI i j = some (i * j) := if_pos (.inl ⟨h, h'⟩)
theorem mulI_r {i j : Int} (h : -(2 ^ 64) < j) (h' : j < 2 ^ 64) : mulI i j = some (i * j) := if_pos (.inr ⟨h, h'⟩)
theorem pull_ok (a b c t : Int) (h0 : 0 < t) (h1 : t < 1073741824) : ∃ r a' c', 0 ≤ r ∧ r < t ∧ f_L_pull [.io (dz a b c), .val (.int t)] = .ok (.int r) [.io (dz a' b c'), .val (.int t)] := by
  by_cases ha : 0 < a
  · refine ⟨a % t, a / t, c, Int.emod_nonneg _ (by omega), Int.emod_lt_of_pos _ h0, ?_⟩
    simp [defV, defO, seqS, noR, ifS, boolG, truthG, notB, op2G, slotIxG, constG, varG, setS, ownS, retS, retSlot, nopS, bltG, consA, slotA, nilA, Res.bind, Res.thn, lift, Sl.cont, Sl.hot, ixD, at0, at1, at2, cmpD, toInt, valsOf, intD, modI_pos, fdivI_pos, setIxS, setIxD, Sl.put, outArgs, putV, putO, nxO, Sl.isIo, addV, addD, mulV, callG, slotsOf, mkArgs, wb, sizeLine_eq, f_L_pull, b_L_pull, ha, h0, h1]
  · have e1 : ∀ x : Int, mulI 1000159 x = some (1000159 * x) := fun x => mulI_l (by decide) (by decide)
    have e2 : ∀ x : Int, mulI 7121 x = some (7121 * x) := fun x => mulI_l (by decide) (by decide)
    let one := (b + 1000159 * (c + 1)) % 2305843009213693951
    have o0 : 0 ≤ one := Int.emod_nonneg _ (by decide)
    have o1 : one < 2305843009213693951 := Int.emod_lt_of_pos _ (by decide)
    have e3 : ∀ x : Int, mulI x one = some (x * one) := fun x => mulI_r (by omega) (by omega)
    refine ⟨((one * one % 2305843009213693907 * one + 7121 * (c + 1)) % 2305843009213693921 / 8192) % t, a, c + 1, Int.emod_nonneg _ (by omega), Int.emod_lt_of_pos _ h0, ?_⟩
    simp [defV, defO, seqS, noR, ifS, boolG, truthG, notB, op2G, slotIxG, constG, varG, setS, ownS, retS, retSlot, nopS, bltG, consA, slotA, nilA, Res.bind, Res.thn, lift, Sl.cont, Sl.hot, ixD, at0, at1, at2, cmpD, toInt, valsOf, intD, modI_pos, fdivI_pos, setIxS, setIxD, Sl.put, outArgs, putV, putO, nxO, Sl.isIo, addV, addD, mulV, callG, slotsOf, mkArgs, wb, sizeLine_eq, f_L_pull, b_L_pull, ha, h0, h1, e1, e2]
    rw [show (b + 1000159 * (c + 1)) % 2305843009213693951 = one from rfl]
    simp [defV, defO, seqS, noR, ifS, boolG, truthG, notB, op2G, slotIxG, constG, varG, setS, ownS, retS, retSlot, nopS, bltG, consA, slotA, nilA, Res.bind, Res.thn, lift, Sl.cont, Sl.hot, ixD, at0, at1, at2, cmpD, toInt, valsOf, intD, modI_pos, fdivI_pos, setIxS, setIxD, Sl.put, outArgs, putV, putO, nxO, Sl.isIo, addV, addD, mulV, callG, slotsOf, mkArgs, wb, sizeLine_eq, e3, e2, h0]
def T60 : Int := 10 ^ 60
def T720 : Int := T60 ^ 12
def T18 : Int := 10 ^ 18
theorem pow60 : powI 10 60 = some T60 := by decide +kernel
theorem pow720 : powI T60 12 = some T720 := by decide +kernel
theorem pow18 : powI 10 18 = some T18 := by decide +kernel
theorem T720_pos : 0 < T720 := by decide +kernel
theorem exT : ∃ t60 t720 t18, powI 10 60 = some t60 ∧ powI t60 12 = some t720 ∧ 0 < t720 ∧ powI 10 18 = some t18 := ⟨T60, T720, T18, pow60, pow720, T720_pos, pow18⟩
theorem seq_nx {g h : En → Out} {e e1 : En} (h1 : g e = .nx e1) : seqS g h e = h e1 := by unfold seqS; rw [h1]
theorem defO_ret {N : Nat} {b : En → Out} {as e : En} {d : D} (h : b (as ++ List.replicate (N - as.length) .un) = .ret d e) : defO N b as = .ok d (outArgs as e) := by unfold defO; rw [h]
theorem defV_ret {N : Nat} {b : En → Out} {as e : En} {d : D} (h : b (as ++ List.replicate (N - as.length) .un) = .ret d e) : defV N b as = .ok d (outArgs as e) := by unfold defV; rw [h]
theorem atI_nat {α : Type} {xs : List α} {n : Nat} {x : α} (h : xs[n]? = some x) : atI xs (n : Int) = some x := by
  have hn : n < xs.length := (List.getElem?_eq_some_iff.mp h).1
  unfold atI ixN
  rw [if_pos (by omega), if_pos (by omega)]
  simpa using h
def absI (i : Int) : Int := if i < 0 then -i else i
def mixI (g cell : Int) (n : Nat) : Int := g % 2147483543 * 46021 + 1021 * n + 11 * (if cell < 0 then 1 else 0) + 43
theorem dice_ok (ns : List Int) (n : Nat) : ∃ a b, f_L_dice [.val (.lst (ns.map .int)), .val (.int n)] = .ok (dz a b 0) [.val (.lst (ns.map .int)), .val (.int n)] := by
  have m1 : ∀ x : Int, mulI 19 x = some (19 * x) := fun x => mulI_l (by decide) (by decide)
  have m2 : ∀ x : Int, mulI 1021 x = some (1021 * x) := fun x => mulI_l (by decide) (by decide)
  have m3 : ∀ x : Int, mulI 11 x = some (11 * x) := fun x => mulI_l (by decide) (by decide)
  have m4 : ∀ x : Int, mulI x 46021 = some (x * 46021) := fun x => mulI_r (by decide) (by decide)
  obtain ⟨t60, t720, t18, h60, h720, hp, h18⟩ := exT
  have e10 : ∀ x : Int, modI x t720 = some (x % t720) := fun x => modI_pos hp
  have fin : ∀ cell : Int, ∃ a b e', (seqS (noR (ifS (boolG (op2G (cmpD fun i j => decide (i < j)) (varG 1) (bltG lenD (consA (varG 0) nilA)))) (setS 2 (op2G ixD (varG 0) (varG 1))) nopS)) fun e => .nx e) [.val (.lst (ns.map .int)), .val (.int n), .val (.int (19 * n + 6)), .un, .un] = .nx [.val (.lst (ns.map .int)), .val (.int n), .val (.int cell), .un, .un] →
      b_L_dice [.val (.lst (ns.map .int)), .val (.int n), .un, .un, .un] = .ret (dz a b 0) e' ∧ outArgs [.val (.lst (ns.map .int)), .val (.int n)] e' = [.val (.lst (ns.map .int)), .val (.int n)] := fun cell => by
    refine ⟨maxI 0 (absI cell % t720 - t18), mixI (absI cell % t720) cell n % 2147483489, [.val (.lst (ns.map .int)), .val (.int n), .val (.int cell), .val (.int (absI cell % t720)), .val (.int (mixI (absI cell % t720) cell n))], fun hc => ⟨?_, rfl⟩⟩
    unfold b_L_dice
    rw [seq_nx (e1 := [.val (.lst (ns.map .int)), .val (.int n), .val (.int (19 * n + 6)), .un, .un]) (by simp [defV, defO, seqS, noR, ifS, boolG, truthG, notB, op2G, slotIxG, constG, varG, setS, ownS, retS, retSlot, nopS, bltG, consA, slotA, nilA, Res.bind, Res.thn, lift, Sl.cont, Sl.hot, ixD, at0, at1, at2, cmpD, toInt, valsOf, intD, modI_pos, fdivI_pos, setIxS, setIxD, Sl.put, outArgs, putV, putO, nxO, Sl.isIo, addV, addD, mulV, callG, slotsOf, mkArgs, wb, sizeLine_eq, m1])]
    rw [seq_nx (e1 := [.val (.lst (ns.map .int)), .val (.int n), .val (.int cell), .un, .un])]
    · rw [seq_nx (e1 := [.val (.lst (ns.map .int)), .val (.int n), .val (.int cell), .val (.int (absI cell % t720)), .un]) (by simp [defV, defO, seqS, noR, ifS, boolG, truthG, notB, op2G, slotIxG, constG, varG, setS, ownS, retS, retSlot, nopS, bltG, consA, slotA, nilA, Res.bind, Res.thn, lift, Sl.cont, Sl.hot, ixD, at0, at1, at2, cmpD, toInt, valsOf, intD, modI_pos, fdivI_pos, setIxS, setIxD, Sl.put, outArgs, putV, putO, nxO, Sl.isIo, addV, addD, mulV, callG, slotsOf, mkArgs, wb, sizeLine_eq, h60, h720, e10, absD, absI])]
      rw [seq_nx (e1 := [.val (.lst (ns.map .int)), .val (.int n), .val (.int cell), .val (.int (absI cell % t720)), .val (.int (mixI (absI cell % t720) cell n))]) (by simp [defV, defO, seqS, noR, ifS, boolG, truthG, notB, op2G, slotIxG, constG, varG, setS, ownS, retS, retSlot, nopS, bltG, consA, slotA, nilA, Res.bind, Res.thn, lift, Sl.cont, Sl.hot, ixD, at0, at1, at2, cmpD, toInt, valsOf, intD, modI_pos, fdivI_pos, setIxS, setIxD, Sl.put, outArgs, putV, putO, nxO, Sl.isIo, addV, addD, mulV, callG, slotsOf, mkArgs, wb, sizeLine_eq, m1, m2, m3, m4, mixI])]
      simp [defV, defO, seqS, noR, ifS, boolG, truthG, notB, op2G, slotIxG, constG, varG, setS, ownS, retS, retSlot, nopS, bltG, consA, slotA, nilA, Res.bind, Res.thn, lift, Sl.cont, Sl.hot, ixD, at0, at1, at2, cmpD, toInt, valsOf, intD, modI_pos, fdivI_pos, setIxS, setIxD, Sl.put, outArgs, putV, putO, nxO, Sl.isIo, addV, addD, mulV, callG, slotsOf, mkArgs, wb, sizeLine_eq, h18, lstG, int2, subI]
    · unfold seqS at hc
      split at hc
      · rename_i e1 he; cases hc; exact he
      · rename_i r hr; exact (hr _ hc).elim
  by_cases h : n < ns.length
  · have hx : (ns.map D.int)[n]? = some (.int ns[n]) := by rw [List.getElem?_map, List.getElem?_eq_getElem h]; rfl
    have hi := atI_nat hx
    obtain ⟨a, b, e', hf⟩ := fin ns[n]
    obtain ⟨h1, h2⟩ := hf (by simp [defV, defO, seqS, noR, ifS, boolG, truthG, notB, op2G, slotIxG, constG, varG, setS, ownS, retS, retSlot, nopS, bltG, consA, slotA, nilA, Res.bind, Res.thn, lift, Sl.cont, Sl.hot, ixD, at0, at1, at2, cmpD, toInt, valsOf, intD, modI_pos, fdivI_pos, setIxS, setIxD, Sl.put, outArgs, putV, putO, nxO, Sl.isIo, addV, addD, mulV, callG, slotsOf, mkArgs, wb, sizeLine_eq, lenD, h, hi])
    exact ⟨a, b, (defO_ret (as := [.val (.lst (ns.map .int)), .val (.int n)]) h1).trans (by rw [h2])⟩
  · obtain ⟨a, b, e', hf⟩ := fin (19 * n + 6)
    obtain ⟨h1, h2⟩ := hf (by simp [defV, defO, seqS, noR, ifS, boolG, truthG, notB, op2G, slotIxG, constG, varG, setS, ownS, retS, retSlot, nopS, bltG, consA, slotA, nilA, Res.bind, Res.thn, lift, Sl.cont, Sl.hot, ixD, at0, at1, at2, cmpD, toInt, valsOf, intD, modI_pos, fdivI_pos, setIxS, setIxD, Sl.put, outArgs, putV, putO, nxO, Sl.isIo, addV, addD, mulV, callG, slotsOf, mkArgs, wb, sizeLine_eq, lenD, h])
    exact ⟨a, b, (defO_ret (as := [.val (.lst (ns.map .int)), .val (.int n)]) h1).trans (by rw [h2])⟩
theorem pick_lst (a b c : Int) (xs : List D) (h0 : 0 < xs.length) (h1 : xs.length < 1073741824) : ∃ x a' c', x ∈ xs ∧ f_L_pick [.io (dz a b c), .val (.lst xs)] = .ok x [.io (dz a' b c'), .val (.lst xs)] := by
  obtain ⟨r, a', c', r0, r1, hp⟩ := pull_ok a b c xs.length (by omega) (by omega)
  obtain ⟨k, rfl⟩ := Int.eq_ofNat_of_zero_le r0
  have hk : k < xs.length := by omega
  refine ⟨xs[k], a', c', List.getElem_mem hk, ?_⟩
  have hx := atI_nat (List.getElem?_eq_getElem hk)
  have h2 : b_L_pick [.io (dz a b c), .val (.lst xs)] = .ret xs[k] [.io (dz a' b c'), .val (.lst xs)] := by
    simp [defV, defO, seqS, noR, ifS, boolG, truthG, notB, op2G, slotIxG, constG, varG, setS, ownS, retS, retSlot, nopS, bltG, consA, slotA, nilA, Res.bind, Res.thn, lift, Sl.cont, Sl.hot, ixD, at0, at1, at2, cmpD, toInt, valsOf, intD, modI_pos, fdivI_pos, setIxS, setIxD, Sl.put, outArgs, putV, putO, nxO, Sl.isIo, addV, addD, mulV, callG, slotsOf, mkArgs, wb, sizeLine_eq, b_L_pick, lenD, hp, hx]
  exact (defV_ret (N := 2) (as := [.io (dz a b c), .val (.lst xs)]) h2)
theorem pick_str (a b c : Int) (z : Str) (h0 : 0 < z.length) (h1 : z.length ≤ 1000) : ∃ k a' c', k ∈ z.cps.toList ∧ f_L_pick [.io (dz a b c), .val (.str z)] = .ok (.str (sgn k)) [.io (dz a' b c'), .val (.str z)] := by
  obtain ⟨r, a', c', r0, r1, hp⟩ := pull_ok a b c z.length (by omega) (by omega)
  obtain ⟨k, rfl⟩ := Int.eq_ofNat_of_zero_le r0
  have hk : k < z.cps.toList.length := by have : z.cps.toList.length = z.length := by simp [Str.length]
                                          omega
  refine ⟨z.cps.toList[k], a', c', List.getElem_mem hk, ?_⟩
  have hx := atI_nat (List.getElem?_eq_getElem hk)
  have hz : szOk z.length = true := by unfold szOk; simp [sizeLine_eq]; omega
  have h2 : b_L_pick [.io (dz a b c), .val (.str z)] = .ret (.str (sgn z.cps.toList[k])) [.io (dz a' b c'), .val (.str z)] := by
    simp [defV, defO, seqS, noR, ifS, boolG, truthG, notB, op2G, slotIxG, constG, varG, setS, ownS, retS, retSlot, nopS, bltG, consA, slotA, nilA, Res.bind, Res.thn, lift, Sl.cont, Sl.hot, ixD, at0, at1, at2, cmpD, toInt, valsOf, intD, modI_pos, fdivI_pos, setIxS, setIxD, Sl.put, outArgs, putV, putO, nxO, Sl.isIo, addV, addD, mulV, callG, slotsOf, mkArgs, wb, sizeLine_eq, b_L_pick, lenD, hp, hx, hz]
  exact (defV_ret (N := 2) (as := [.io (dz a b c), .val (.str z)]) h2)
end LR

set_option linter.all false
set_option maxRecDepth 100000
set_option maxHeartbeats 4000000
set_option autoImplicit false
namespace LR
open PySem L2 L2.PV
local macro_rules | `(tactic| walk_at "ga") => `(tactic| ((repeat (with_reducible apply GetAt.succ)); with_reducible exact GetAt.zero))
local macro_rules | `(tactic| walk_at "sa") => `(tactic| ((repeat (with_reducible apply SetAt.succ)); with_reducible exact SetAt.zero))
local macro_rules | `(tactic| walk_at "va") => `(tactic| ((repeat (with_reducible apply ValsA.v)); with_reducible exact ValsA.nil))
local macro_rules | `(tactic| walk_at "mk") => `(tactic| ((repeat (first | (with_reducible apply MkA.v) | ((with_reducible apply MkA.s); (walk_at "ga"); (exact rfl)))); with_reducible exact MkA.nil))
local macro_rules | `(tactic| walk_at "wb") => `(tactic| ((repeat (first | (with_reducible apply WbA.v) | ((with_reducible apply wba_io); (walk_at "ga"); (walk_at "sa")) | ((with_reducible apply wba_own); (walk_at "ga"); (walk_at "sa")))); with_reducible exact WbA.nil))
local macro_rules | `(tactic| walk_at "cat") => `(tactic| ((repeat (first | (with_reducible apply CatA.arg) | (with_reducible apply CatA.kw) | ((with_reducible apply CatA.dfl); (exact rfl)))); ((with_reducible apply CatA.nil); (exact rfl))))
local macro_rules | `(tactic| walk_at "pad") => `(tactic| ((repeat (first | (with_reducible apply Pad.cons) | (with_reducible apply Pad.un))); with_reducible exact Pad.nil))
local macro_rules | `(tactic| walk_at "out") => `(tactic| ((repeat (first | (with_reducible apply OutA.io) | (with_reducible apply OutA.val))); with_reducible exact OutA.nil))
local macro_rules | `(tactic| walk_at "wip") => `(tactic| ((repeat (first | ((with_reducible apply WipeA.hit); (exact rfl)) | ((with_reducible apply WipeA.miss); (exact rfl)))); with_reducible exact WipeA.nil))
local macro_rules | `(tactic| walk_at "bck") => `(tactic| ((repeat (first | ((with_reducible apply BackA.hit); (exact rfl)) | ((with_reducible apply BackA.miss); (exact rfl)))); with_reducible exact BackA.nil))
local macro_rules | `(tactic| walk_at "ndp") => `(tactic| first | exact List.nodup_nil | exact ndp1 | (focus (simp [slotsOf]; done)))
local macro_rules | `(tactic| walk_at "sz") => `(tactic| first | ((with_reducible show List.length (_ :: _) ≤ _); (exact Nat.le_of_ble_eq_true rfl)) | ((with_reducible show List.length [] ≤ _); (exact Nat.zero_le _)) | assumption | omega | (focus (simp; done)) | (focus (simp; omega)))
local macro_rules | `(tactic| walk_at "op") => `(tactic| first
  | with_reducible exact add_int _ _
  | with_reducible exact eq_ints _ _
  | with_reducible exact ne_ints _ _
  | with_reducible exact eqS_ints _ _
  | with_reducible exact neS_ints _ _
  | with_reducible exact eqS_str_self _
  | with_reducible exact neS_str_self _
  | with_reducible exact int_f (sub_ok _ _)
  | ((with_reducible apply int_f (mod_pos _)); first | decide | assumption | omega)
  | ((with_reducible refine' int_f (fdiv_pos ?_)); first | decide | assumption | omega)
  | ((with_reducible refine' mul_int (mul_l ?_)); first | decide | assumption | omega)
  | ((with_reducible refine' mul_int (mul_r ?_)); first | decide | assumption | omega)
  | ((with_reducible apply divmod_ok); first | decide | assumption | omega)
  | ((with_reducible apply add_lst); (walk_at "sz"))
  | ((with_reducible apply add_tup); (walk_at "sz"))
  | ((with_reducible apply add_str); (walk_at "sz"))
  | ((with_reducible apply len_str); (walk_at "sz"))
  | ((with_reducible apply opApp); (walk_at "sz"))
  | ((with_reducible apply ext_ok); (walk_at "sz"))
  | with_reducible assumption
  | ((with_reducible apply rng1_ok); (walk_at "sz"))
  | exact rfl)
local macro_rules | `(tactic| walk_at "w1") => `(tactic| first
  | ((with_reducible apply wp_var); (walk_at "ga"))
  | with_reducible apply wp_const
  | with_reducible apply wp_seqS
  | with_reducible apply wp_setS
  | with_reducible apply wp_ownS
  | with_reducible apply wp_retS
  | with_reducible apply wp_ifS
  | with_reducible apply wp_nopS
  | with_reducible apply wp_exprS
  | with_reducible apply wp_noR
  | ((with_reducible apply put_v); (walk_at "ga"); (first | exact rfl | assumption); (walk_at "sa"))
  | ((with_reducible apply put_o); (walk_at "ga"); (first | exact rfl | assumption); (walk_at "sa"))
  | with_reducible apply wp_op2
  | with_reducible apply wp_op1
  | with_reducible apply wp_consA
  | with_reducible apply wp_nilA
  | with_reducible apply wp_yesT
  | ((with_reducible apply wp_slotA); (walk_at "ga"); (exact rfl))
  | with_reducible apply wp_boolG
  | with_reducible apply wp_truthG
  | with_reducible apply wp_notB
  | with_reducible apply wp_andB
  | with_reducible apply wp_orB
  | with_reducible apply wp_ifG
  | with_reducible apply wp_ofB
  | with_reducible apply wp_andG
  | with_reducible apply wp_orG
  | with_reducible apply wp_notG
  | with_reducible apply wp_call
  | ((with_reducible apply wp_args); (walk_at "ndp"); (walk_at "mk"))
  | ((with_reducible apply wp_wb); (walk_at "wb"))
  | with_reducible apply wp_bl
  | with_reducible apply wp_i1
  | with_reducible apply wp_i2
  | with_reducible apply wp_tp
  | ((with_reducible apply wp_vals); (walk_at "va"))
  | ((with_reducible apply wp_sz); (walk_at "sz"))
  | with_reducible apply wp_lstG
  | with_reducible apply wp_tupG
  | with_reducible apply wp_bltG
  | with_reducible apply wp_isiG
  | with_reducible apply wp_chainG
  | with_reducible apply wp_metG
  | with_reducible apply wp_metG0
  | with_reducible apply wp_mstr
  | with_reducible apply wp_mint
  | with_reducible apply wp_mlst
  | ((with_reducible apply wp_slotIxG); (walk_at "ga"); (exact rfl))
  | ((with_reducible apply six_any); (walk_at "ga"); (exact rfl))
  | ((with_reducible apply sst_any); (walk_at "ga"); (exact rfl))
  | ((with_reducible apply wp_slotLenG); (walk_at "ga"); (exact rfl))
  | ((with_reducible apply wp_lmutG); (walk_at "ga"); (exact rfl))
  | ((with_reducible apply lm_io); (walk_at "va"); (walk_at "ga"); (walk_at "op"); (walk_at "sa"))
  | ((with_reducible apply lm_own); (walk_at "va"); (walk_at "ga"); (walk_at "op"); (walk_at "sa"))
  | with_reducible apply wp_setIxS
  | ((with_reducible apply st_io); (walk_at "ga"); (walk_at "op"); (walk_at "sa"))
  | ((with_reducible apply st_own); (walk_at "ga"); (walk_at "op"); (walk_at "sa"))
  | with_reducible apply wp_catA
  | ((with_reducible apply wp_cat); (walk_at "cat"))
  | with_reducible apply wp_toldG
  | with_reducible apply wp_dispG
  | with_reducible apply pairs_cons
  | with_reducible apply pairs_nil
  | ((with_reducible apply wp_le15); (exact rfl))
  | with_reducible apply wp_iterG
  | with_reducible apply wp_rangeG
  | with_reducible apply wp_forS
  | with_reducible apply wp_asgS
  | with_reducible apply wp_parS
  | with_reducible apply wp_valK
  | with_reducible apply wp_ownK
  | with_reducible apply wp_nilK
  | with_reducible apply putPar_nil
  | with_reducible apply putPar_val
  | with_reducible apply putPar_own
  | with_reducible apply goT_n
  | with_reducible apply goT_t
  | with_reducible apply goT_of
  | with_reducible apply goTs_nil
  | with_reducible apply goTs_cons
  | ((with_reducible apply wp_frzO); (walk_at "ga"); (walk_at "sa"))
  | ((with_reducible apply wp_frzV); (walk_at "ga"))
  | ((with_reducible apply wp_retSlot); (walk_at "ga"); (walk_at "sa"))
  | with_reducible apply wp_retNS
  | with_reducible apply wp_brkS
  | with_reducible apply wp_cntS
  | with_reducible apply wp_raiseS
  | with_reducible apply wp_raiseVS
  | with_reducible apply wp_noP
  | with_reducible apply wp_someP
  | with_reducible apply wp_sliceG
  | with_reducible apply if_t
  | with_reducible apply if_f
  | with_reducible apply if_not
  | ((with_reducible apply if_rt); (exact rfl))
  | ((with_reducible apply if_rf); (exact rfl))
  | with_reducible apply wp_compG
  | ((with_reducible apply wp_wipe); (exact rfl); (walk_at "wip"))
  | ((with_reducible apply wp_back); (walk_at "bck"))
  | ((with_reducible apply wp_out); (walk_at "out"))
  | ((with_reducible apply wp_defV); (walk_at "pad"))
  | ((with_reducible apply wp_defO); (walk_at "pad"))
  | ((with_reducible apply wp_some); (walk_at "op")))
local macro_rules | `(tactic| walk_at "w") => `(tactic| repeat (walk_at "w1"))
/-! ### the errors -/
theorem msg_ok (x : Str) : f_L_messages_right [.val (.str x)] = .ok (.bl true) [.val (.str x)] := by kernel_rfl
/-- a value that repr shows -/
def okK (d : D) : Bool := match toPyX d with
  | some p => p.showable && decide (p.depth ≤ 3) && decide (p.shown.length ≤ 6000)
  | none => false
def vals (n : Int) : List D := [.int n, .int (n ^ 9), .non, .bl (decide (0 < n)), .str (repS "n" (absI n).toNat), .tup [.int n, .str "x"], .lst [.int n], .dct [(.inl n, .str "x")]]
theorem rep_n (k : Nat) : (repS "n" k).cps.toList = List.replicate k 110 := by
  unfold repS
  show ((List.replicate k [110]).flatten).toArray.toList = _
  induction k with
  | zero => rfl
  | succ k ih => rw [List.replicate_succ, List.flatten_cons, List.replicate_succ]; simp
theorem rep_ok {k : Nat} (h : k ≤ 500) : okK (.str (repS "n" k)) = true := by
  have hl : (reprText (repS "n" k)).length ≤ 10 * (repS "n" k).length + 2 := StrLaws.reprText_len _ fun c hc => by
    rw [rep_n] at hc
    rw [(List.mem_replicate.mp hc).2]; decide
  have h2 : (repS "n" k).length = k := by
    show (repS "n" k).cps.size = k
    rw [← Array.length_toList, rep_n, List.length_replicate]
  show (PyData.showable (.str (repS "n" k)) && decide (PyData.depth (.str (repS "n" k)) ≤ 3) && decide ((PyData.shown (.str (repS "n" k))).length ≤ 6000)) = true
  rw [decide_eq_true (show (PyData.shown (.str (repS "n" k))).length ≤ 6000 by simp only [PyData.shown]; omega)]
  rfl
theorem cat_len (a b : Str) : (a ++ b).length = a.length + b.length := PySem.size_cat a b
theorem from_len : ∀ (ts : List Str) (k : Nat) (acc : Str), (textFrom k acc ts).length ≤ acc.length + piled ts
  | [], _, acc => Nat.le_add_right _ _
  | t :: ts, k, acc => by
    have h := from_len ts (k + 1) (acc ++ (if k > 0 then ", " else "" : String) ++ t)
    have h2 : ((if k > 0 then ", " else "" : String) : Str).length ≤ 2 := by split <;> decide
    rw [cat_len, cat_len] at h
    rw [piled_cons]
    show (textFrom (k + 1) _ ts).length ≤ _
    omega
theorem list_len (ts : List Str) : (listText ts).length ≤ piled ts + 2 := by
  have h := from_len ts 0 "["
  show (textFrom 0 "[" ts ++ ("]" : Str)).length ≤ _
  rw [cat_len]
  have h1 : ("[" : Str).length = 1 := rfl
  have h2 : ("]" : Str).length = 1 := rfl
  omega
theorem tup_len {ts : List Str} (h : ts ≠ []) : (tupleText ts).length ≤ piled ts + 3 := by
  unfold tupleText
  rw [cat_len, cat_len]
  have h0 := join_length_add ts h
  have h1 : ("(" : Str).length = 1 := rfl
  have h2 : ((if ts.length == 1 then ",)" else ")" : String) : Str).length ≤ 2 := by split <;> decide
  omega
theorem dict_len {ts : List Str} (h : ts ≠ []) : (dictText ts).length ≤ piled ts + 2 := by
  unfold dictText
  rw [cat_len, cat_len]
  have h0 := join_length_add ts h
  have h1 : ("{" : Str).length = 1 := rfl
  have h2 : ("}" : Str).length = 1 := rfl
  omega
theorem log_lt {m k : Nat} (h : m < 2 ^ k) (hk : 0 < k := by decide) : m.log2 < k := by
  by_cases hm : m = 0
  · subst hm; simpa using hk
  · exact (Nat.log2_lt hm).mpr h
theorem int_len {n : Int} (h : n.natAbs < 2 ^ 1920) : (toString n : Str).length ≤ 1921 := PyProof.Rows.int_text_len_1921 ((log_lt h))
theorem sh_int {n : Int} (h : n.natAbs < 2 ^ 1920) : PyData.showable (.int n) = true := by
  simp only [PyData.showable]
  exact decide_eq_true (log_lt h)
theorem ok_of {d : D} {p : PyData} (h : toPyX d = some p) (h1 : p.showable = true) (h2 : p.depth ≤ 3) (h3 : p.shown.length ≤ 6000) : okK d = true := by
  unfold okK
  rw [h]
  simp [h1, h2, h3]
theorem ok_get {d : D} (h : okK d = true) : ∃ p, toPyX d = some p ∧ p.showable = true ∧ p.depth ≤ 3 ∧ p.shown.length ≤ 6000 := by
  unfold okK at h
  split at h
  · rename_i p hp
    simp only [Bool.and_eq_true, decide_eq_true_eq] at h
    exact ⟨p, hp, h.1.1, h.1.2, h.2⟩
  · cases h
theorem vals_ok {n : Int} (h0 : -500 ≤ n) (h1 : n < 500) : ∀ d ∈ vals n, okK d = true := by
  intro d hd
  simp only [vals, List.mem_cons, List.not_mem_nil, or_false] at hd
  have b1 : n.natAbs < 2 ^ 64 := by omega
  have b9 : (n ^ 9).natAbs < 2 ^ 600 := by
    rw [Int.natAbs_pow]
    exact Nat.lt_of_lt_of_le (Nat.pow_lt_pow_left b1 (by decide)) (by decide +kernel)
  have c1 : n.natAbs < 2 ^ 1920 := Nat.lt_trans b1 (by decide +kernel)
  have c9 : (n ^ 9).natAbs < 2 ^ 1920 := Nat.lt_trans b9 (by decide +kernel)
  have s1 := sh_int c1
  have l1 := int_len c1
  have s2 : decide (n.natAbs.log2 < 1920) = true := by simpa only [PyData.showable] using s1
  have x1 : (PyData.shown (.str "x")).length = 3 := by decide +kernel
  have col : ((": " : String) : Str).length = 2 := rfl
  rcases hd with h | h | h | h | h | h | h | h <;> subst h
  · exact ok_of (p := .int n) rfl s1 (by simp [PyData.depth]) (by simp only [PyData.shown]; omega)
  · exact ok_of (p := .int (n ^ 9)) rfl (sh_int c9) (by simp [PyData.depth]) (by have := int_len c9; simp only [PyData.shown]; omega)
  · decide +kernel
  · by_cases h : 0 < n
    · rw [decide_eq_true h]; decide +kernel
    · rw [decide_eq_false h]; decide +kernel
  · exact rep_ok (by unfold absI; split <;> omega)
  · refine ok_of (p := .tuple [.int n, .str "x"]) rfl (by simp only [PyData.showable, PyData.showableAll, s2]; rfl) (by simp [PyData.depth, PyData.depthAll]) ?_
    have h := tup_len (ts := PyData.shownAll [.int n, .str "x"]) (by simp [PyData.shownAll])
    simp only [PyData.shownAll, piled_cons, piled_nil, x1] at h
    simp only [PyData.shown, PyData.shownAll] at h ⊢
    omega
  · refine ok_of (p := .list [.int n]) rfl (by simp only [PyData.showable, PyData.showableAll, s2]; rfl) (by simp [PyData.depth, PyData.depthAll]) ?_
    have h := list_len (PyData.shownAll [.int n])
    simp only [PyData.shownAll, piled_cons, piled_nil] at h
    simp only [PyData.shown, PyData.shownAll] at h ⊢
    omega
  · refine ok_of (p := .dict [(.int n, .str "x")]) rfl (by simp only [PyData.showable, PyData.showableKv, s2]; rfl) (by simp [PyData.depth, PyData.depthKv]) ?_
    have h := dict_len (ts := PyData.shownKv [(.int n, .str "x")]) (by simp [PyData.shownKv])
    simp only [PyData.shownKv, piled_cons, piled_nil, cat_len, x1, col] at h
    simp only [PyData.shown, PyData.shownKv] at h ⊢
    omega
theorem value_ok (a b c : Int) : ∃ v a' c', f_L_value [.io (dz a b c)] = .ok v [.io (dz a' b c')] ∧ okK v = true := by
  obtain ⟨r, a1, c1, r0, r1, hp⟩ := pull_ok a b c 1000 (by decide) (by decide)
  obtain ⟨v, a2, c2, hv, hk⟩ := pick_lst a1 b c1 (vals (r - 500)) (by show 0 < 8; decide) (by show 8 < _; decide)
  refine ⟨v, a2, c2, ?_, vals_ok (by omega) (by omega) v hv⟩
  apply Res.wp.eq
  unfold f_L_value
  walk_at "w"
  unfold b_L_value
  walk_at "w"
  refine wp_ok hp ?_
  walk_at "w"
  refine wp_some (a := .int ((r - 500) ^ 9)) ?_ ?_
  · show (powI (r - 500) 9).map D.int = _
    rw [powI, if_pos ⟨by decide, by decide, by omega⟩]
    rfl
  walk_at "w"
  refine wp_some (a := .str (repS "n" (absI (r - 500)).toNat)) ?_ ?_
  · show (if CRepS "n" (absI (r - 500)) then some (D.str (repS "n" (absI (r - 500)).toNat)) else none) = _
    have ha : absI (r - 500) ≤ 500 := by unfold absI; split <;> omega
    have hb : 0 ≤ absI (r - 500) := by unfold absI; split <;> omega
    refine if_pos ⟨by omega, by omega, ?_⟩
    show 1 * _ ≤ sizeLine
    rw [sizeLine_eq]; omega
  walk_at "w"
  refine wp_ok hk ?_
  walk_at "w"
  exact ⟨rfl, rfl⟩
theorem op2_ok {f : D → D → Option D} {ga gb : En → Res D} {e e1 e2 : En} {a b c : D} (h1 : ga e = .ok a e1) (h2 : gb e1 = .ok b e2) (h3 : f a b = some c) : op2G f ga gb e = .ok c e2 := by
  unfold op2G
  rw [h1]
  show (gb e1).bind _ = _
  rw [h2]
  show lift (f a b) e2 = _
  rw [h3]
  rfl
/-! ### the values -/
def six (k o : D) : D := .lst [k, o, k, o, k, o]
theorem six_shown {k o : D} (hk : okK k = true) (ho : okK o = true) : ∃ x, reprX [six k o] = some (.str x) := by
  obtain ⟨p, p1, p2, p3, p4⟩ := ok_get hk
  obtain ⟨q, q1, q2, q3, q4⟩ := ok_get ho
  have e : toPyX (six k o) = some (.list [p, q, p, q, p, q]) := by simp [six, toPyX, toPyXs, p1, q1]
  have h : shOkX (.list [p, q, p, q, p, q]) = true := by
    unfold shOkX
    have l := list_len [p.shown, q.shown, p.shown, q.shown, p.shown, q.shown]
    simp only [piled_cons, piled_nil] at l
    simp only [Bool.and_eq_true, decide_eq_true_eq]
    refine ⟨⟨by simp only [PyData.showable, PyData.showableAll, p2, q2]; rfl, by simp only [PyData.depth, PyData.depthAll]; omega⟩, ?_⟩
    simp only [PyData.shown, PyData.shownAll, sizeLine_eq]
    omega
  exact ⟨_, by show ((toPyX (six k o)).bind fun p => if shOkX p = true then some (D.str p.shown) else none) = _; rw [e, Option.bind_some, if_pos h]⟩
def made (k o : D) : D := .lst [.er "InvalidNumber" [("value", k)], .er "UnknownName" [("name", o)], .er "TooMany" [("limit", k)], .er "NoOrder" [("ring", o)], .er "Held" [("step", k)], .er "NothingToUndo" [("many", o)]]
theorem values_ok {k o : D} (hk : okK k = true) (ho : okK o = true) : f_L_values_right [.val k, .val o] = .ok (.bl true) [.val k, .val o] := by
  obtain ⟨x, hx⟩ := six_shown hk ho
  have e3 : (op2G neS (bltG reprX (consA (varG 3) nilA)) (bltG reprX (consA (op2G mulV (lstG (consA (varG 0) (consA (varG 1) nilA))) (constG (.int 3))) nilA))) [.val k, .val o, .val (made k o), .val (six k o), .un, .un, .un] = .ok (.bl false) [.val k, .val o, .val (made k o), .val (six k o), .un, .un, .un] := by
    have h1 : (bltG reprX (consA (varG 3) nilA)) [.val k, .val o, .val (made k o), .val (six k o), .un, .un, .un] = lift (reprX [six k o]) [.val k, .val o, .val (made k o), .val (six k o), .un, .un, .un] := by kernel_rfl
    have h2 : (bltG reprX (consA (op2G mulV (lstG (consA (varG 0) (consA (varG 1) nilA))) (constG (.int 3))) nilA)) [.val k, .val o, .val (made k o), .val (six k o), .un, .un, .un] = lift (reprX [six k o]) [.val k, .val o, .val (made k o), .val (six k o), .un, .un, .un] := by kernel_rfl
    rw [hx] at h1 h2
    exact op2_ok h1 h2 (neS_str_self x)
  have h : b_L_values_right [.val k, .val o, .un, .un, .un, .un, .un] = .ret (.bl true) [.val k, .val o, .val (made k o), .val (six k o), .val (.lst [.lst [.int 2, .int 7], .lst [.int 3, .int 7], .lst [.int 4, .int 6], .lst [.int 6], .lst [.int 5], .lst [.int 7]]), .val (.int 5), .un] := by
    unfold b_L_values_right
    rw [seq_nx (e1 := [.val k, .val o, .val (made k o), .un, .un, .un, .un]) (by kernel_rfl)]
    rw [seq_nx (e1 := [.val k, .val o, .val (made k o), .val (six k o), .un, .un, .un]) (by kernel_rfl)]
    rw [seq_nx (e1 := [.val k, .val o, .val (made k o), .val (six k o), .un, .un, .un])]
    · kernel_rfl
    · unfold ifS boolG
      rw [e3]
      rfl
  exact defV_ret (N := 7) (as := [.val k, .val o]) h
end LR

set_option linter.all false
set_option maxRecDepth 100000
set_option maxHeartbeats 4000000
set_option autoImplicit false
namespace LR
open PySem L2 L2.PV
local macro_rules | `(tactic| walk_at "ga") => `(tactic| ((repeat (with_reducible apply GetAt.succ)); with_reducible exact GetAt.zero))
local macro_rules | `(tactic| walk_at "sa") => `(tactic| ((repeat (with_reducible apply SetAt.succ)); with_reducible exact SetAt.zero))
local macro_rules | `(tactic| walk_at "va") => `(tactic| ((repeat (with_reducible apply ValsA.v)); with_reducible exact ValsA.nil))
local macro_rules | `(tactic| walk_at "mk") => `(tactic| ((repeat (first | (with_reducible apply MkA.v) | ((with_reducible apply MkA.s); (walk_at "ga"); (exact rfl)))); with_reducible exact MkA.nil))
local macro_rules | `(tactic| walk_at "wb") => `(tactic| ((repeat (first | (with_reducible apply WbA.v) | ((with_reducible apply wba_io); (walk_at "ga"); (walk_at "sa")) | ((with_reducible apply wba_own); (walk_at "ga"); (walk_at "sa")))); with_reducible exact WbA.nil))
local macro_rules | `(tactic| walk_at "cat") => `(tactic| ((repeat (first | (with_reducible apply CatA.arg) | (with_reducible apply CatA.kw) | ((with_reducible apply CatA.dfl); (exact rfl)))); ((with_reducible apply CatA.nil); (exact rfl))))
local macro_rules | `(tactic| walk_at "pad") => `(tactic| ((repeat (first | (with_reducible apply Pad.cons) | (with_reducible apply Pad.un))); with_reducible exact Pad.nil))
local macro_rules | `(tactic| walk_at "out") => `(tactic| ((repeat (first | (with_reducible apply OutA.io) | (with_reducible apply OutA.val))); with_reducible exact OutA.nil))
local macro_rules | `(tactic| walk_at "wip") => `(tactic| ((repeat (first | ((with_reducible apply WipeA.hit); (exact rfl)) | ((with_reducible apply WipeA.miss); (exact rfl)))); with_reducible exact WipeA.nil))
local macro_rules | `(tactic| walk_at "bck") => `(tactic| ((repeat (first | ((with_reducible apply BackA.hit); (exact rfl)) | ((with_reducible apply BackA.miss); (exact rfl)))); with_reducible exact BackA.nil))
local macro_rules | `(tactic| walk_at "ndp") => `(tactic| first | exact List.nodup_nil | exact ndp1 | (focus (simp [slotsOf]; done)))
local macro_rules | `(tactic| walk_at "sz") => `(tactic| first | ((with_reducible show List.length (_ :: _) ≤ _); (exact Nat.le_of_ble_eq_true rfl)) | ((with_reducible show List.length [] ≤ _); (exact Nat.zero_le _)) | assumption | omega | (focus (simp; done)) | (focus (simp; omega)))
local macro_rules | `(tactic| walk_at "op") => `(tactic| first
  | with_reducible exact add_int _ _
  | with_reducible exact eq_ints _ _
  | with_reducible exact ne_ints _ _
  | with_reducible exact eqS_ints _ _
  | with_reducible exact neS_ints _ _
  | with_reducible exact eqS_str_self _
  | with_reducible exact neS_str_self _
  | with_reducible exact int_f (sub_ok _ _)
  | ((with_reducible apply int_f (mod_pos _)); first | decide | assumption | omega)
  | ((with_reducible refine' int_f (fdiv_pos ?_)); first | decide | assumption | omega)
  | ((with_reducible refine' mul_int (mul_l ?_)); first | decide | assumption | omega)
  | ((with_reducible refine' mul_int (mul_r ?_)); first | decide | assumption | omega)
  | ((with_reducible apply divmod_ok); first | decide | assumption | omega)
  | ((with_reducible apply add_lst); (walk_at "sz"))
  | ((with_reducible apply add_tup); (walk_at "sz"))
  | ((with_reducible apply add_str); (walk_at "sz"))
  | ((with_reducible apply len_str); (walk_at "sz"))
  | ((with_reducible apply opApp); (walk_at "sz"))
  | ((with_reducible apply ext_ok); (walk_at "sz"))
  | with_reducible assumption
  | ((with_reducible apply rng1_ok); (walk_at "sz"))
  | exact rfl)
local macro_rules | `(tactic| walk_at "w1") => `(tactic| first
  | ((with_reducible apply wp_var); (walk_at "ga"))
  | with_reducible apply wp_const
  | with_reducible apply wp_seqS
  | with_reducible apply wp_setS
  | with_reducible apply wp_ownS
  | with_reducible apply wp_retS
  | with_reducible apply wp_ifS
  | with_reducible apply wp_nopS
  | with_reducible apply wp_exprS
  | with_reducible apply wp_noR
  | ((with_reducible apply put_v); (walk_at "ga"); (first | exact rfl | assumption); (walk_at "sa"))
  | ((with_reducible apply put_o); (walk_at "ga"); (first | exact rfl | assumption); (walk_at "sa"))
  | with_reducible apply wp_op2
  | with_reducible apply wp_op1
  | with_reducible apply wp_consA
  | with_reducible apply wp_nilA
  | with_reducible apply wp_yesT
  | ((with_reducible apply wp_slotA); (walk_at "ga"); (exact rfl))
  | with_reducible apply wp_boolG
  | with_reducible apply wp_truthG
  | with_reducible apply wp_notB
  | with_reducible apply wp_andB
  | with_reducible apply wp_orB
  | with_reducible apply wp_ifG
  | with_reducible apply wp_ofB
  | with_reducible apply wp_andG
  | with_reducible apply wp_orG
  | with_reducible apply wp_notG
  | with_reducible apply wp_call
  | ((with_reducible apply wp_args); (walk_at "ndp"); (walk_at "mk"))
  | ((with_reducible apply wp_wb); (walk_at "wb"))
  | with_reducible apply wp_bl
  | with_reducible apply wp_i1
  | with_reducible apply wp_i2
  | with_reducible apply wp_tp
  | ((with_reducible apply wp_vals); (walk_at "va"))
  | ((with_reducible apply wp_sz); (walk_at "sz"))
  | with_reducible apply wp_lstG
  | with_reducible apply wp_tupG
  | with_reducible apply wp_bltG
  | with_reducible apply wp_isiG
  | with_reducible apply wp_chainG
  | with_reducible apply wp_metG
  | with_reducible apply wp_metG0
  | with_reducible apply wp_mstr
  | with_reducible apply wp_mint
  | with_reducible apply wp_mlst
  | ((with_reducible apply wp_slotIxG); (walk_at "ga"); (exact rfl))
  | ((with_reducible apply six_any); (walk_at "ga"); (exact rfl))
  | ((with_reducible apply sst_any); (walk_at "ga"); (exact rfl))
  | ((with_reducible apply wp_slotLenG); (walk_at "ga"); (exact rfl))
  | ((with_reducible apply wp_lmutG); (walk_at "ga"); (exact rfl))
  | ((with_reducible apply lm_io); (walk_at "va"); (walk_at "ga"); (walk_at "op"); (walk_at "sa"))
  | ((with_reducible apply lm_own); (walk_at "va"); (walk_at "ga"); (walk_at "op"); (walk_at "sa"))
  | with_reducible apply wp_setIxS
  | ((with_reducible apply st_io); (walk_at "ga"); (walk_at "op"); (walk_at "sa"))
  | ((with_reducible apply st_own); (walk_at "ga"); (walk_at "op"); (walk_at "sa"))
  | with_reducible apply wp_catA
  | ((with_reducible apply wp_cat); (walk_at "cat"))
  | with_reducible apply wp_toldG
  | with_reducible apply wp_dispG
  | with_reducible apply pairs_cons
  | with_reducible apply pairs_nil
  | ((with_reducible apply wp_le15); (exact rfl))
  | with_reducible apply wp_iterG
  | with_reducible apply wp_rangeG
  | with_reducible apply wp_forS
  | with_reducible apply wp_asgS
  | with_reducible apply wp_parS
  | with_reducible apply wp_valK
  | with_reducible apply wp_ownK
  | with_reducible apply wp_nilK
  | with_reducible apply putPar_nil
  | with_reducible apply putPar_val
  | with_reducible apply putPar_own
  | with_reducible apply goT_n
  | with_reducible apply goT_t
  | with_reducible apply goT_of
  | with_reducible apply goTs_nil
  | with_reducible apply goTs_cons
  | ((with_reducible apply wp_frzO); (walk_at "ga"); (walk_at "sa"))
  | ((with_reducible apply wp_frzV); (walk_at "ga"))
  | ((with_reducible apply wp_retSlot); (walk_at "ga"); (walk_at "sa"))
  | with_reducible apply wp_retNS
  | with_reducible apply wp_brkS
  | with_reducible apply wp_cntS
  | with_reducible apply wp_raiseS
  | with_reducible apply wp_raiseVS
  | with_reducible apply wp_noP
  | with_reducible apply wp_someP
  | with_reducible apply wp_sliceG
  | with_reducible apply if_t
  | with_reducible apply if_f
  | with_reducible apply if_not
  | ((with_reducible apply if_rt); (exact rfl))
  | ((with_reducible apply if_rf); (exact rfl))
  | with_reducible apply wp_compG
  | ((with_reducible apply wp_wipe); (exact rfl); (walk_at "wip"))
  | ((with_reducible apply wp_back); (walk_at "bck"))
  | ((with_reducible apply wp_out); (walk_at "out"))
  | ((with_reducible apply wp_defV); (walk_at "pad"))
  | ((with_reducible apply wp_defO); (walk_at "pad"))
  | ((with_reducible apply wp_some); (walk_at "op")))
local macro_rules | `(tactic| walk_at "w") => `(tactic| repeat (walk_at "w1"))
theorem pick_strs (a b c : Int) (ws : List Str) (z : List D) (hz : z = ws.map .str) (h0 : 0 < ws.length) (h1 : ws.length < 1000) : ∃ w a' c', f_L_pick [.io (dz a b c), .val (.lst z)] = .ok (.str w) [.io (dz a' b c'), .val (.lst z)] := by
  subst hz
  obtain ⟨x, a', c', hx, hp⟩ := pick_lst a b c (ws.map .str) (by rw [List.length_map]; exact h0) (by rw [List.length_map]; omega)
  obtain ⟨w, hw, rfl⟩ := List.mem_map.mp hx
  exact ⟨w, a', c', hp⟩
theorem mem_ints {n : Nat} {d : D} (h : d ∈ intsD 0 n) : ∃ i : Nat, i < n ∧ d = .int i := by
  unfold intsD at h
  obtain ⟨i, hi, rfl⟩ := List.mem_map.mp h
  exact ⟨i, List.mem_range.mp hi, by simp⟩
theorem law_right (ns : List Int) (hn : ns.length ≤ 63) (_ : ∀ z ∈ ns, Builtin.Int.intBits z ≤ 1048576) : ∃ e', f_law [.val (.lst (ns.map .int))] = .ok (.bl true) e' := by
  have key : (f_law [.val (.lst (ns.map .int))]).wp (fun d _ => d = .bl true) noX := by
    obtain ⟨k, hk, he⟩ : ∃ k : Nat, k ≤ 6 ∧ maxI 1 (minI 6 ((ns.map D.int).length : Nat)) = k := by
      refine ⟨(maxI 1 (minI 6 ((ns.map D.int).length : Nat))).toNat, ?_, ?_⟩ <;> (unfold maxI minI; split <;> split <;> omega)
    unfold f_law
    walk_at "w1"
    unfold b_law
    walk_at "w"
    rw [he]
    refine wp_some (rng1_ok (by omega)) ?_
    refine wp_forL (fun pre e => ∃ s1 s2 s3, s1.isIo = false ∧ s2.isIo = false ∧ s3.isIo = false ∧ e = [.val (.lst (ns.map .int)), s1, s2, s3]) ?_ ⟨_, _, _, rfl, rfl, rfl, rfl⟩ ?_
    · rintro pre d e ⟨post, hp⟩ ⟨s1, s2, s3, g1, g2, g3, rfl⟩
      obtain ⟨i, hi, rfl⟩ := mem_ints (n := k) (d := d) (by rw [hp]; simp)
      walk_at "w"
      obtain ⟨a, b, hd⟩ := dice_ok ns i
      refine wp_ok hd ?_
      walk_at "w"
      obtain ⟨t, a1, c1, hp1⟩ := pick_strs a b 0 ["", "text", "two words", repS "x" (Int.toNat 300)] _ rfl (by decide) (by decide)
      refine wp_ok hp1 ?_
      walk_at "w"
      refine wp_ok (msg_ok t) ?_
      walk_at "w"
      obtain ⟨v, a2, c2, hv, kv⟩ := value_ok a1 b c1
      refine wp_ok hv ?_
      walk_at "w"
      obtain ⟨o, a3, c3, ho, ko⟩ := value_ok a2 b c2
      refine wp_ok ho ?_
      walk_at "w"
      refine wp_ok (values_ok kv ko) ?_
      walk_at "w"
      exact ⟨_, _, _, rfl, rfl, rfl, rfl⟩
    · rintro e ⟨s1, s2, s3, g1, g2, g3, rfl⟩
      walk_at "w"
      rfl
  obtain ⟨d, e, h, rfl⟩ := key.ex
  exact ⟨e, h⟩
end LR

set_option Elab.async false
set_option linter.all false
set_option maxRecDepth 100000
set_option maxHeartbeats 4000000
set_option autoImplicit false
namespace LR
open PySem PySem.Spec PyProof.Rows L2 L2.PV
abbrev si_Held : Stmt := inClass (top 16) 0
theorem st_Held : SupT PySem.Challenge.pw_letterrules_k00_errors "step" "step" si_Held where
  body := ⟨_, _, _, _, _, _, _, _, _, _, rfl, fun _ _ _ _ _ _ _ _ _ _ => ⟨rfl, rfl, ⟨_, rfl⟩, rfl⟩⟩
  head := ⟨_, rfl, rfl⟩
  bind := fun _ _ _ _ _ _ _ _ _ _ => rfl
  kind := rfl
  co := rfl
  gen := rfl
  cell := by decide +kernel
  nS := rfl
  nC := rfl
  nself := rfl
  nf := rfl
  ne := by decide
  dbg := by decide
  top := by rfl
abbrev si_InvalidNumber : Stmt := inClass (top 12) 0
theorem st_InvalidNumber : SupT PySem.Challenge.pw_letterrules_k00_errors "value" "value" si_InvalidNumber where
  body := ⟨_, _, _, _, _, _, _, _, _, _, rfl, fun _ _ _ _ _ _ _ _ _ _ => ⟨rfl, rfl, ⟨_, rfl⟩, rfl⟩⟩
  head := ⟨_, rfl, rfl⟩
  bind := fun _ _ _ _ _ _ _ _ _ _ => rfl
  kind := rfl
  co := rfl
  gen := rfl
  cell := by decide +kernel
  nS := rfl
  nC := rfl
  nself := rfl
  nf := rfl
  ne := by decide
  dbg := by decide
  top := by rfl
abbrev si_NoOrder : Stmt := inClass (top 15) 0
theorem st_NoOrder : SupT PySem.Challenge.pw_letterrules_k00_errors "ring" "ring" si_NoOrder where
  body := ⟨_, _, _, _, _, _, _, _, _, _, rfl, fun _ _ _ _ _ _ _ _ _ _ => ⟨rfl, rfl, ⟨_, rfl⟩, rfl⟩⟩
  head := ⟨_, rfl, rfl⟩
  bind := fun _ _ _ _ _ _ _ _ _ _ => rfl
  kind := rfl
  co := rfl
  gen := rfl
  cell := by decide +kernel
  nS := rfl
  nC := rfl
  nself := rfl
  nf := rfl
  ne := by decide
  dbg := by decide
  top := by rfl
abbrev si_NothingToUndo : Stmt := inClass (top 17) 0
theorem st_NothingToUndo : SupT PySem.Challenge.pw_letterrules_k00_errors "many" "many" si_NothingToUndo where
  body := ⟨_, _, _, _, _, _, _, _, _, _, rfl, fun _ _ _ _ _ _ _ _ _ _ => ⟨rfl, rfl, ⟨_, rfl⟩, rfl⟩⟩
  head := ⟨_, rfl, rfl⟩
  bind := fun _ _ _ _ _ _ _ _ _ _ => rfl
  kind := rfl
  co := rfl
  gen := rfl
  cell := by decide +kernel
  nS := rfl
  nC := rfl
  nself := rfl
  nf := rfl
  ne := by decide
  dbg := by decide
  top := by rfl
abbrev si_TooMany : Stmt := inClass (top 14) 0
theorem st_TooMany : SupT PySem.Challenge.pw_letterrules_k00_errors "limit" "limit" si_TooMany where
  body := ⟨_, _, _, _, _, _, _, _, _, _, rfl, fun _ _ _ _ _ _ _ _ _ _ => ⟨rfl, rfl, ⟨_, rfl⟩, rfl⟩⟩
  head := ⟨_, rfl, rfl⟩
  bind := fun _ _ _ _ _ _ _ _ _ _ => rfl
  kind := rfl
  co := rfl
  gen := rfl
  cell := by decide +kernel
  nS := rfl
  nC := rfl
  nself := rfl
  nf := rfl
  ne := by decide
  dbg := by decide
  top := by rfl
abbrev si_UnknownName : Stmt := inClass (top 13) 0
theorem st_UnknownName : SupT PySem.Challenge.pw_letterrules_k00_errors "name" "name" si_UnknownName where
  body := ⟨_, _, _, _, _, _, _, _, _, _, rfl, fun _ _ _ _ _ _ _ _ _ _ => ⟨rfl, rfl, ⟨_, rfl⟩, rfl⟩⟩
  head := ⟨_, rfl, rfl⟩
  bind := fun _ _ _ _ _ _ _ _ _ _ => rfl
  kind := rfl
  co := rfl
  gen := rfl
  cell := by decide +kernel
  nS := rfl
  nC := rfl
  nself := rfl
  nf := rfl
  ne := by decide
  dbg := by decide
  top := by rfl
theorem mk_law {q : Program} {l : PySem.W.OpenLaw} (hl : l.prog = PySem.Challenge.pw_letterrules_k00_errors) {w : World} {K : PySem.W.Frag} {h : Heap} {mg : MG} {fa : Addr} {C_Held : Addr} {C_InvalidCommand : Addr} {C_InvalidMarking : Addr} {C_InvalidName : Addr} {C_InvalidNumber : Addr} {C_InvalidOperation : Addr} {C_InvalidOrder : Addr} {C_InvalidPattern : Addr} {C_InvalidRule : Addr} {C_InvalidRun : Addr} {C_InvalidTransport : Addr} {C_LetterError : Addr} {C_NoOrder : Addr} {C_NothingToUndo : Addr} {C_ParseError : Addr} {C_TooMany : Addr} {C_UnknownName : Addr} {I_Held ca_Held cc_Held : Addr} {oI_Held kI_Held dI_Held mI_Held tI_Held lI_Held nI_Held : Value} {pI_Held qI_Held rI_Held sI_Held : Option Addr} {uI_Held vI_Held wI_Held : Array (Option Value)} {us_Held : Array Value} {fl_Held : Str} {ft_Held : Tok} {I_InvalidNumber ca_InvalidNumber cc_InvalidNumber : Addr} {oI_InvalidNumber kI_InvalidNumber dI_InvalidNumber mI_InvalidNumber tI_InvalidNumber lI_InvalidNumber nI_InvalidNumber : Value} {pI_InvalidNumber qI_InvalidNumber rI_InvalidNumber sI_InvalidNumber : Option Addr} {uI_InvalidNumber vI_InvalidNumber wI_InvalidNumber : Array (Option Value)} {us_InvalidNumber : Array Value} {fl_InvalidNumber : Str} {ft_InvalidNumber : Tok} {I_NoOrder ca_NoOrder cc_NoOrder : Addr} {oI_NoOrder kI_NoOrder dI_NoOrder mI_NoOrder tI_NoOrder lI_NoOrder nI_NoOrder : Value} {pI_NoOrder qI_NoOrder rI_NoOrder sI_NoOrder : Option Addr} {uI_NoOrder vI_NoOrder wI_NoOrder : Array (Option Value)} {us_NoOrder : Array Value} {fl_NoOrder : Str} {ft_NoOrder : Tok} {I_NothingToUndo ca_NothingToUndo cc_NothingToUndo : Addr} {oI_NothingToUndo kI_NothingToUndo dI_NothingToUndo mI_NothingToUndo tI_NothingToUndo lI_NothingToUndo nI_NothingToUndo : Value} {pI_NothingToUndo qI_NothingToUndo rI_NothingToUndo sI_NothingToUndo : Option Addr} {uI_NothingToUndo vI_NothingToUndo wI_NothingToUndo : Array (Option Value)} {us_NothingToUndo : Array Value} {fl_NothingToUndo : Str} {ft_NothingToUndo : Tok} {I_TooMany ca_TooMany cc_TooMany : Addr} {oI_TooMany kI_TooMany dI_TooMany mI_TooMany tI_TooMany lI_TooMany nI_TooMany : Value} {pI_TooMany qI_TooMany rI_TooMany sI_TooMany : Option Addr} {uI_TooMany vI_TooMany wI_TooMany : Array (Option Value)} {us_TooMany : Array Value} {fl_TooMany : Str} {ft_TooMany : Tok} {I_UnknownName ca_UnknownName cc_UnknownName : Addr} {oI_UnknownName kI_UnknownName dI_UnknownName mI_UnknownName tI_UnknownName lI_UnknownName nI_UnknownName : Value} {pI_UnknownName qI_UnknownName rI_UnknownName sI_UnknownName : Option Addr} {uI_UnknownName vI_UnknownName wI_UnknownName : Array (Option Value)} {us_UnknownName : Array Value} {fl_UnknownName : Str} {ft_UnknownName : Tok} {oSM : Option Addr} {dSM : Data} {uSM : Array (Option Value)} {F_L_dice : Addr} {oF_L_dice dF_L_dice mF_L_dice tF_L_dice : Value} {pF_L_dice qF_L_dice : Option Addr} {uF_L_dice : Array (Option Value)} {cF_L_dice kF_L_dice : Value} {F_L_pull : Addr} {oF_L_pull dF_L_pull mF_L_pull tF_L_pull : Value} {pF_L_pull qF_L_pull : Option Addr} {uF_L_pull : Array (Option Value)} {cF_L_pull kF_L_pull : Value} {F_L_pick : Addr} {oF_L_pick dF_L_pick mF_L_pick tF_L_pick : Value} {pF_L_pick qF_L_pick : Option Addr} {uF_L_pick : Array (Option Value)} {cF_L_pick kF_L_pick : Value} {F_L_classes : Addr} {oF_L_classes dF_L_classes mF_L_classes tF_L_classes : Value} {pF_L_classes qF_L_classes : Option Addr} {uF_L_classes : Array (Option Value)} {cF_L_classes kF_L_classes : Value} {F_L_bases : Addr} {oF_L_bases dF_L_bases mF_L_bases tF_L_bases : Value} {pF_L_bases qF_L_bases : Option Addr} {uF_L_bases : Array (Option Value)} {cF_L_bases kF_L_bases : Value} {F_L_messages_right : Addr} {oF_L_messages_right dF_L_messages_right mF_L_messages_right tF_L_messages_right : Value} {pF_L_messages_right qF_L_messages_right : Option Addr} {uF_L_messages_right : Array (Option Value)} {cF_L_messages_right kF_L_messages_right : Value} {F_L_values_right : Addr} {oF_L_values_right dF_L_values_right mF_L_values_right tF_L_values_right : Value} {pF_L_values_right qF_L_values_right : Option Addr} {uF_L_values_right : Array (Option Value)} {cF_L_values_right kF_L_values_right : Value} {F_L_value : Addr} {oF_L_value dF_L_value mF_L_value tF_L_value : Value} {pF_L_value qF_L_value : Option Addr} {uF_L_value : Array (Option Value)} {cF_L_value kF_L_value : Value} {F_law : Addr} {oF_law dF_law mF_law tF_law : Value} {pF_law qF_law : Option Addr} {uF_law : Array (Option Value)} {cF_law kF_law : Value}
    (KX : K.In h) (G : h.Ns mainGlobals mg) (hfa : mg "law" = some (.ref fa))
    (z_ArithmeticError : PySem.W.nsIn K mainGlobals "ArithmeticError" = some none)
    (z_IndexError : PySem.W.nsIn K mainGlobals "IndexError" = some none)
    (z_KeyError : PySem.W.nsIn K mainGlobals "KeyError" = some none)
    (z_LookupError : PySem.W.nsIn K mainGlobals "LookupError" = some none)
    (z_OverflowError : PySem.W.nsIn K mainGlobals "OverflowError" = some none)
    (z_RuntimeError : PySem.W.nsIn K mainGlobals "RuntimeError" = some none)
    (z_ValueError : PySem.W.nsIn K mainGlobals "ValueError" = some none)
    (z_abs : PySem.W.nsIn K mainGlobals "abs" = some none)
    (z_int : PySem.W.nsIn K mainGlobals "int" = some none)
    (z_isinstance : PySem.W.nsIn K mainGlobals "isinstance" = some none)
    (z_len : PySem.W.nsIn K mainGlobals "len" = some none)
    (z_max : PySem.W.nsIn K mainGlobals "max" = some none)
    (z_min : PySem.W.nsIn K mainGlobals "min" = some none)
    (z_range : PySem.W.nsIn K mainGlobals "range" = some none)
    (z_repr : PySem.W.nsIn K mainGlobals "repr" = some none)
    (a_Held : PySem.W.nsIn K mainGlobals "Held" = some (some (.ref C_Held)))
    (e_Held : PySem.W.subIn K (.ref C_Held) (.type "BaseException") = some true)
    (y_Held : PySem.W.typeIn K (.ref C_Held) = some (.type "type"))
    (d_h_Held : PySem.W.hasDictIn K C_Held = true)
    (k_Held : PySem.W.keepIn K (.ref C_Held) = true)
    (a_InvalidCommand : PySem.W.nsIn K mainGlobals "InvalidCommand" = some (some (.ref C_InvalidCommand)))
    (e_InvalidCommand : PySem.W.subIn K (.ref C_InvalidCommand) (.type "BaseException") = some true)
    (y_InvalidCommand : PySem.W.typeIn K (.ref C_InvalidCommand) = some (.type "type"))
    (d_h_InvalidCommand : PySem.W.hasDictIn K C_InvalidCommand = true)
    (k_InvalidCommand : PySem.W.keepIn K (.ref C_InvalidCommand) = true)
    (a_InvalidMarking : PySem.W.nsIn K mainGlobals "InvalidMarking" = some (some (.ref C_InvalidMarking)))
    (e_InvalidMarking : PySem.W.subIn K (.ref C_InvalidMarking) (.type "BaseException") = some true)
    (y_InvalidMarking : PySem.W.typeIn K (.ref C_InvalidMarking) = some (.type "type"))
    (d_h_InvalidMarking : PySem.W.hasDictIn K C_InvalidMarking = true)
    (k_InvalidMarking : PySem.W.keepIn K (.ref C_InvalidMarking) = true)
    (a_InvalidName : PySem.W.nsIn K mainGlobals "InvalidName" = some (some (.ref C_InvalidName)))
    (e_InvalidName : PySem.W.subIn K (.ref C_InvalidName) (.type "BaseException") = some true)
    (y_InvalidName : PySem.W.typeIn K (.ref C_InvalidName) = some (.type "type"))
    (d_h_InvalidName : PySem.W.hasDictIn K C_InvalidName = true)
    (k_InvalidName : PySem.W.keepIn K (.ref C_InvalidName) = true)
    (a_InvalidNumber : PySem.W.nsIn K mainGlobals "InvalidNumber" = some (some (.ref C_InvalidNumber)))
    (e_InvalidNumber : PySem.W.subIn K (.ref C_InvalidNumber) (.type "BaseException") = some true)
    (y_InvalidNumber : PySem.W.typeIn K (.ref C_InvalidNumber) = some (.type "type"))
    (d_h_InvalidNumber : PySem.W.hasDictIn K C_InvalidNumber = true)
    (k_InvalidNumber : PySem.W.keepIn K (.ref C_InvalidNumber) = true)
    (a_InvalidOperation : PySem.W.nsIn K mainGlobals "InvalidOperation" = some (some (.ref C_InvalidOperation)))
    (e_InvalidOperation : PySem.W.subIn K (.ref C_InvalidOperation) (.type "BaseException") = some true)
    (y_InvalidOperation : PySem.W.typeIn K (.ref C_InvalidOperation) = some (.type "type"))
    (d_h_InvalidOperation : PySem.W.hasDictIn K C_InvalidOperation = true)
    (k_InvalidOperation : PySem.W.keepIn K (.ref C_InvalidOperation) = true)
    (a_InvalidOrder : PySem.W.nsIn K mainGlobals "InvalidOrder" = some (some (.ref C_InvalidOrder)))
    (e_InvalidOrder : PySem.W.subIn K (.ref C_InvalidOrder) (.type "BaseException") = some true)
    (y_InvalidOrder : PySem.W.typeIn K (.ref C_InvalidOrder) = some (.type "type"))
    (d_h_InvalidOrder : PySem.W.hasDictIn K C_InvalidOrder = true)
    (k_InvalidOrder : PySem.W.keepIn K (.ref C_InvalidOrder) = true)
    (a_InvalidPattern : PySem.W.nsIn K mainGlobals "InvalidPattern" = some (some (.ref C_InvalidPattern)))
    (e_InvalidPattern : PySem.W.subIn K (.ref C_InvalidPattern) (.type "BaseException") = some true)
    (y_InvalidPattern : PySem.W.typeIn K (.ref C_InvalidPattern) = some (.type "type"))
    (d_h_InvalidPattern : PySem.W.hasDictIn K C_InvalidPattern = true)
    (k_InvalidPattern : PySem.W.keepIn K (.ref C_InvalidPattern) = true)
    (a_InvalidRule : PySem.W.nsIn K mainGlobals "InvalidRule" = some (some (.ref C_InvalidRule)))
    (e_InvalidRule : PySem.W.subIn K (.ref C_InvalidRule) (.type "BaseException") = some true)
    (y_InvalidRule : PySem.W.typeIn K (.ref C_InvalidRule) = some (.type "type"))
    (d_h_InvalidRule : PySem.W.hasDictIn K C_InvalidRule = true)
    (k_InvalidRule : PySem.W.keepIn K (.ref C_InvalidRule) = true)
    (a_InvalidRun : PySem.W.nsIn K mainGlobals "InvalidRun" = some (some (.ref C_InvalidRun)))
    (e_InvalidRun : PySem.W.subIn K (.ref C_InvalidRun) (.type "BaseException") = some true)
    (y_InvalidRun : PySem.W.typeIn K (.ref C_InvalidRun) = some (.type "type"))
    (d_h_InvalidRun : PySem.W.hasDictIn K C_InvalidRun = true)
    (k_InvalidRun : PySem.W.keepIn K (.ref C_InvalidRun) = true)
    (a_InvalidTransport : PySem.W.nsIn K mainGlobals "InvalidTransport" = some (some (.ref C_InvalidTransport)))
    (e_InvalidTransport : PySem.W.subIn K (.ref C_InvalidTransport) (.type "BaseException") = some true)
    (y_InvalidTransport : PySem.W.typeIn K (.ref C_InvalidTransport) = some (.type "type"))
    (d_h_InvalidTransport : PySem.W.hasDictIn K C_InvalidTransport = true)
    (k_InvalidTransport : PySem.W.keepIn K (.ref C_InvalidTransport) = true)
    (a_LetterError : PySem.W.nsIn K mainGlobals "LetterError" = some (some (.ref C_LetterError)))
    (e_LetterError : PySem.W.subIn K (.ref C_LetterError) (.type "BaseException") = some true)
    (y_LetterError : PySem.W.typeIn K (.ref C_LetterError) = some (.type "type"))
    (d_h_LetterError : PySem.W.hasDictIn K C_LetterError = true)
    (k_LetterError : PySem.W.keepIn K (.ref C_LetterError) = true)
    (a_NoOrder : PySem.W.nsIn K mainGlobals "NoOrder" = some (some (.ref C_NoOrder)))
    (e_NoOrder : PySem.W.subIn K (.ref C_NoOrder) (.type "BaseException") = some true)
    (y_NoOrder : PySem.W.typeIn K (.ref C_NoOrder) = some (.type "type"))
    (d_h_NoOrder : PySem.W.hasDictIn K C_NoOrder = true)
    (k_NoOrder : PySem.W.keepIn K (.ref C_NoOrder) = true)
    (a_NothingToUndo : PySem.W.nsIn K mainGlobals "NothingToUndo" = some (some (.ref C_NothingToUndo)))
    (e_NothingToUndo : PySem.W.subIn K (.ref C_NothingToUndo) (.type "BaseException") = some true)
    (y_NothingToUndo : PySem.W.typeIn K (.ref C_NothingToUndo) = some (.type "type"))
    (d_h_NothingToUndo : PySem.W.hasDictIn K C_NothingToUndo = true)
    (k_NothingToUndo : PySem.W.keepIn K (.ref C_NothingToUndo) = true)
    (a_ParseError : PySem.W.nsIn K mainGlobals "ParseError" = some (some (.ref C_ParseError)))
    (e_ParseError : PySem.W.subIn K (.ref C_ParseError) (.type "BaseException") = some true)
    (y_ParseError : PySem.W.typeIn K (.ref C_ParseError) = some (.type "type"))
    (d_h_ParseError : PySem.W.hasDictIn K C_ParseError = true)
    (k_ParseError : PySem.W.keepIn K (.ref C_ParseError) = true)
    (a_TooMany : PySem.W.nsIn K mainGlobals "TooMany" = some (some (.ref C_TooMany)))
    (e_TooMany : PySem.W.subIn K (.ref C_TooMany) (.type "BaseException") = some true)
    (y_TooMany : PySem.W.typeIn K (.ref C_TooMany) = some (.type "type"))
    (d_h_TooMany : PySem.W.hasDictIn K C_TooMany = true)
    (k_TooMany : PySem.W.keepIn K (.ref C_TooMany) = true)
    (a_UnknownName : PySem.W.nsIn K mainGlobals "UnknownName" = some (some (.ref C_UnknownName)))
    (e_UnknownName : PySem.W.subIn K (.ref C_UnknownName) (.type "BaseException") = some true)
    (y_UnknownName : PySem.W.typeIn K (.ref C_UnknownName) = some (.type "type"))
    (d_h_UnknownName : PySem.W.hasDictIn K C_UnknownName = true)
    (k_UnknownName : PySem.W.keepIn K (.ref C_UnknownName) = true)
    (x_InvalidCommand : PySem.W.excIn K C_InvalidCommand [.type "ValueError", .type "Exception", .type "BaseException", .type "object"] "ValueError.__new__" = true)
    (x_InvalidMarking : PySem.W.excIn K C_InvalidMarking [.type "ValueError", .type "Exception", .type "BaseException", .type "object"] "ValueError.__new__" = true)
    (x_InvalidName : PySem.W.excIn K C_InvalidName [.type "ValueError", .type "Exception", .type "BaseException", .type "object"] "ValueError.__new__" = true)
    (x_InvalidOperation : PySem.W.excIn K C_InvalidOperation [.type "ValueError", .type "Exception", .type "BaseException", .type "object"] "ValueError.__new__" = true)
    (x_InvalidOrder : PySem.W.excIn K C_InvalidOrder [.type "ValueError", .type "Exception", .type "BaseException", .type "object"] "ValueError.__new__" = true)
    (x_InvalidPattern : PySem.W.excIn K C_InvalidPattern [.type "ValueError", .type "Exception", .type "BaseException", .type "object"] "ValueError.__new__" = true)
    (x_InvalidRule : PySem.W.excIn K C_InvalidRule [.type "ValueError", .type "Exception", .type "BaseException", .type "object"] "ValueError.__new__" = true)
    (x_InvalidRun : PySem.W.excIn K C_InvalidRun [.type "ValueError", .type "Exception", .type "BaseException", .type "object"] "ValueError.__new__" = true)
    (x_InvalidTransport : PySem.W.excIn K C_InvalidTransport [.type "ValueError", .type "Exception", .type "BaseException", .type "object"] "ValueError.__new__" = true)
    (x_LetterError : PySem.W.excIn K C_LetterError [.type "ValueError", .type "Exception", .type "BaseException", .type "object"] "ValueError.__new__" = true)
    (x_ParseError : PySem.W.excIn K C_ParseError [.type "ValueError", .type "Exception", .type "BaseException", .type "object"] "ValueError.__new__" = true)
    (q_Held : PySem.W.excInitIn K C_Held [.type "RuntimeError", .type "Exception", .type "BaseException", .type "object"] "RuntimeError.__new__" = true)
    (o_Held : PySem.W.excOver K C_Held [.type "RuntimeError", .type "Exception", .type "BaseException", .type "object"] = true)
    (i_Held : PySem.W.findIn K (.ref C_Held) "__init__" = some (some (.ref I_Held)))
    (f_Held_ : PySem.W.isFn K (.ref I_Held) = true)
    (m_Held : PySem.W.ks_superIn K C_Held C_Held "__init__" = some (some (.builtin "RuntimeError.__init__")))
    (b_Held_ : PySem.W.subIn K (.ref C_Held) (.type "RuntimeError") = some true)
    (s_Held_ : PySem.W.mroIn K C_Held (.ref C_Held) = some true)
    (w_Held : PySem.W.findIn K (.ref C_Held) "__setattr__" = some (some (.builtin "object.__setattr__")))
    (t_Held : PySem.W.findIn K (.ref C_Held) "step" = some none)
    (l_Held : K.lookup I_Held = some ⟨oI_Held, pI_Held, .func (PySem.W.ksFn "__init__" "Held.__init__" (defArgs si_Held) (defBody si_Held) (defScope si_Held) .none kI_Held dI_Held mI_Held qI_Held (.ref ca_Held) tI_Held cc_Held), uI_Held⟩)
    (c_Held_ : PySem.W.codeIn K (.ref ca_Held) "Held.__init__" = true)
    (lc_Held : K.lookup ca_Held = some ⟨lI_Held, rI_Held, .fields us_Held, vI_Held⟩)
    (lf_Held : us_Held[2]? = some (.str fl_Held ft_Held))
    (le_Held : ((PySem.Challenge.pw_letterrules_k00_errors.main.file : Str) == fl_Held) = true)
    (ll_Held : K.lookup cc_Held = some ⟨nI_Held, sI_Held, .cell (some (.ref C_Held)), wI_Held⟩)
    (q_InvalidNumber : PySem.W.excInitIn K C_InvalidNumber [.type "IndexError", .type "LookupError", .type "Exception", .type "BaseException", .type "object"] "IndexError.__new__" = true)
    (o_InvalidNumber : PySem.W.excOver K C_InvalidNumber [.type "IndexError", .type "LookupError", .type "Exception", .type "BaseException", .type "object"] = true)
    (i_InvalidNumber : PySem.W.findIn K (.ref C_InvalidNumber) "__init__" = some (some (.ref I_InvalidNumber)))
    (f_InvalidNumber_ : PySem.W.isFn K (.ref I_InvalidNumber) = true)
    (m_InvalidNumber : PySem.W.ks_superIn K C_InvalidNumber C_InvalidNumber "__init__" = some (some (.builtin "IndexError.__init__")))
    (b_InvalidNumber_ : PySem.W.subIn K (.ref C_InvalidNumber) (.type "IndexError") = some true)
    (s_InvalidNumber_ : PySem.W.mroIn K C_InvalidNumber (.ref C_InvalidNumber) = some true)
    (w_InvalidNumber : PySem.W.findIn K (.ref C_InvalidNumber) "__setattr__" = some (some (.builtin "object.__setattr__")))
    (t_InvalidNumber : PySem.W.findIn K (.ref C_InvalidNumber) "value" = some none)
    (l_InvalidNumber : K.lookup I_InvalidNumber = some ⟨oI_InvalidNumber, pI_InvalidNumber, .func (PySem.W.ksFn "__init__" "InvalidNumber.__init__" (defArgs si_InvalidNumber) (defBody si_InvalidNumber) (defScope si_InvalidNumber) .none kI_InvalidNumber dI_InvalidNumber mI_InvalidNumber qI_InvalidNumber (.ref ca_InvalidNumber) tI_InvalidNumber cc_InvalidNumber), uI_InvalidNumber⟩)
    (c_InvalidNumber_ : PySem.W.codeIn K (.ref ca_InvalidNumber) "InvalidNumber.__init__" = true)
    (lc_InvalidNumber : K.lookup ca_InvalidNumber = some ⟨lI_InvalidNumber, rI_InvalidNumber, .fields us_InvalidNumber, vI_InvalidNumber⟩)
    (lf_InvalidNumber : us_InvalidNumber[2]? = some (.str fl_InvalidNumber ft_InvalidNumber))
    (le_InvalidNumber : ((PySem.Challenge.pw_letterrules_k00_errors.main.file : Str) == fl_InvalidNumber) = true)
    (ll_InvalidNumber : K.lookup cc_InvalidNumber = some ⟨nI_InvalidNumber, sI_InvalidNumber, .cell (some (.ref C_InvalidNumber)), wI_InvalidNumber⟩)
    (q_NoOrder : PySem.W.excInitIn K C_NoOrder [.type "ArithmeticError", .type "Exception", .type "BaseException", .type "object"] "ArithmeticError.__new__" = true)
    (o_NoOrder : PySem.W.excOver K C_NoOrder [.type "ArithmeticError", .type "Exception", .type "BaseException", .type "object"] = true)
    (i_NoOrder : PySem.W.findIn K (.ref C_NoOrder) "__init__" = some (some (.ref I_NoOrder)))
    (f_NoOrder_ : PySem.W.isFn K (.ref I_NoOrder) = true)
    (m_NoOrder : PySem.W.ks_superIn K C_NoOrder C_NoOrder "__init__" = some (some (.builtin "ArithmeticError.__init__")))
    (b_NoOrder_ : PySem.W.subIn K (.ref C_NoOrder) (.type "ArithmeticError") = some true)
    (s_NoOrder_ : PySem.W.mroIn K C_NoOrder (.ref C_NoOrder) = some true)
    (w_NoOrder : PySem.W.findIn K (.ref C_NoOrder) "__setattr__" = some (some (.builtin "object.__setattr__")))
    (t_NoOrder : PySem.W.findIn K (.ref C_NoOrder) "ring" = some none)
    (l_NoOrder : K.lookup I_NoOrder = some ⟨oI_NoOrder, pI_NoOrder, .func (PySem.W.ksFn "__init__" "NoOrder.__init__" (defArgs si_NoOrder) (defBody si_NoOrder) (defScope si_NoOrder) .none kI_NoOrder dI_NoOrder mI_NoOrder qI_NoOrder (.ref ca_NoOrder) tI_NoOrder cc_NoOrder), uI_NoOrder⟩)
    (c_NoOrder_ : PySem.W.codeIn K (.ref ca_NoOrder) "NoOrder.__init__" = true)
    (lc_NoOrder : K.lookup ca_NoOrder = some ⟨lI_NoOrder, rI_NoOrder, .fields us_NoOrder, vI_NoOrder⟩)
    (lf_NoOrder : us_NoOrder[2]? = some (.str fl_NoOrder ft_NoOrder))
    (le_NoOrder : ((PySem.Challenge.pw_letterrules_k00_errors.main.file : Str) == fl_NoOrder) = true)
    (ll_NoOrder : K.lookup cc_NoOrder = some ⟨nI_NoOrder, sI_NoOrder, .cell (some (.ref C_NoOrder)), wI_NoOrder⟩)
    (q_NothingToUndo : PySem.W.excInitIn K C_NothingToUndo [.type "LookupError", .type "Exception", .type "BaseException", .type "object"] "LookupError.__new__" = true)
    (o_NothingToUndo : PySem.W.excOver K C_NothingToUndo [.type "LookupError", .type "Exception", .type "BaseException", .type "object"] = true)
    (i_NothingToUndo : PySem.W.findIn K (.ref C_NothingToUndo) "__init__" = some (some (.ref I_NothingToUndo)))
    (f_NothingToUndo_ : PySem.W.isFn K (.ref I_NothingToUndo) = true)
    (m_NothingToUndo : PySem.W.ks_superIn K C_NothingToUndo C_NothingToUndo "__init__" = some (some (.builtin "LookupError.__init__")))
    (b_NothingToUndo_ : PySem.W.subIn K (.ref C_NothingToUndo) (.type "LookupError") = some true)
    (s_NothingToUndo_ : PySem.W.mroIn K C_NothingToUndo (.ref C_NothingToUndo) = some true)
    (w_NothingToUndo : PySem.W.findIn K (.ref C_NothingToUndo) "__setattr__" = some (some (.builtin "object.__setattr__")))
    (t_NothingToUndo : PySem.W.findIn K (.ref C_NothingToUndo) "many" = some none)
    (l_NothingToUndo : K.lookup I_NothingToUndo = some ⟨oI_NothingToUndo, pI_NothingToUndo, .func (PySem.W.ksFn "__init__" "NothingToUndo.__init__" (defArgs si_NothingToUndo) (defBody si_NothingToUndo) (defScope si_NothingToUndo) .none kI_NothingToUndo dI_NothingToUndo mI_NothingToUndo qI_NothingToUndo (.ref ca_NothingToUndo) tI_NothingToUndo cc_NothingToUndo), uI_NothingToUndo⟩)
    (c_NothingToUndo_ : PySem.W.codeIn K (.ref ca_NothingToUndo) "NothingToUndo.__init__" = true)
    (lc_NothingToUndo : K.lookup ca_NothingToUndo = some ⟨lI_NothingToUndo, rI_NothingToUndo, .fields us_NothingToUndo, vI_NothingToUndo⟩)
    (lf_NothingToUndo : us_NothingToUndo[2]? = some (.str fl_NothingToUndo ft_NothingToUndo))
    (le_NothingToUndo : ((PySem.Challenge.pw_letterrules_k00_errors.main.file : Str) == fl_NothingToUndo) = true)
    (ll_NothingToUndo : K.lookup cc_NothingToUndo = some ⟨nI_NothingToUndo, sI_NothingToUndo, .cell (some (.ref C_NothingToUndo)), wI_NothingToUndo⟩)
    (q_TooMany : PySem.W.excInitIn K C_TooMany [.type "OverflowError", .type "ArithmeticError", .type "Exception", .type "BaseException", .type "object"] "OverflowError.__new__" = true)
    (o_TooMany : PySem.W.excOver K C_TooMany [.type "OverflowError", .type "ArithmeticError", .type "Exception", .type "BaseException", .type "object"] = true)
    (i_TooMany : PySem.W.findIn K (.ref C_TooMany) "__init__" = some (some (.ref I_TooMany)))
    (f_TooMany_ : PySem.W.isFn K (.ref I_TooMany) = true)
    (m_TooMany : PySem.W.ks_superIn K C_TooMany C_TooMany "__init__" = some (some (.builtin "OverflowError.__init__")))
    (b_TooMany_ : PySem.W.subIn K (.ref C_TooMany) (.type "OverflowError") = some true)
    (s_TooMany_ : PySem.W.mroIn K C_TooMany (.ref C_TooMany) = some true)
    (w_TooMany : PySem.W.findIn K (.ref C_TooMany) "__setattr__" = some (some (.builtin "object.__setattr__")))
    (t_TooMany : PySem.W.findIn K (.ref C_TooMany) "limit" = some none)
    (l_TooMany : K.lookup I_TooMany = some ⟨oI_TooMany, pI_TooMany, .func (PySem.W.ksFn "__init__" "TooMany.__init__" (defArgs si_TooMany) (defBody si_TooMany) (defScope si_TooMany) .none kI_TooMany dI_TooMany mI_TooMany qI_TooMany (.ref ca_TooMany) tI_TooMany cc_TooMany), uI_TooMany⟩)
    (c_TooMany_ : PySem.W.codeIn K (.ref ca_TooMany) "TooMany.__init__" = true)
    (lc_TooMany : K.lookup ca_TooMany = some ⟨lI_TooMany, rI_TooMany, .fields us_TooMany, vI_TooMany⟩)
    (lf_TooMany : us_TooMany[2]? = some (.str fl_TooMany ft_TooMany))
    (le_TooMany : ((PySem.Challenge.pw_letterrules_k00_errors.main.file : Str) == fl_TooMany) = true)
    (ll_TooMany : K.lookup cc_TooMany = some ⟨nI_TooMany, sI_TooMany, .cell (some (.ref C_TooMany)), wI_TooMany⟩)
    (q_UnknownName : PySem.W.excInitIn K C_UnknownName [.type "KeyError", .type "LookupError", .type "Exception", .type "BaseException", .type "object"] "LookupError.__new__" = true)
    (o_UnknownName : PySem.W.excOver K C_UnknownName [.type "KeyError", .type "LookupError", .type "Exception", .type "BaseException", .type "object"] = true)
    (i_UnknownName : PySem.W.findIn K (.ref C_UnknownName) "__init__" = some (some (.ref I_UnknownName)))
    (f_UnknownName_ : PySem.W.isFn K (.ref I_UnknownName) = true)
    (m_UnknownName : PySem.W.ks_superIn K C_UnknownName C_UnknownName "__init__" = some (some (.builtin "KeyError.__init__")))
    (b_UnknownName_ : PySem.W.subIn K (.ref C_UnknownName) (.type "KeyError") = some true)
    (s_UnknownName_ : PySem.W.mroIn K C_UnknownName (.ref C_UnknownName) = some true)
    (w_UnknownName : PySem.W.findIn K (.ref C_UnknownName) "__setattr__" = some (some (.builtin "object.__setattr__")))
    (t_UnknownName : PySem.W.findIn K (.ref C_UnknownName) "name" = some none)
    (l_UnknownName : K.lookup I_UnknownName = some ⟨oI_UnknownName, pI_UnknownName, .func (PySem.W.ksFn "__init__" "UnknownName.__init__" (defArgs si_UnknownName) (defBody si_UnknownName) (defScope si_UnknownName) .none kI_UnknownName dI_UnknownName mI_UnknownName qI_UnknownName (.ref ca_UnknownName) tI_UnknownName cc_UnknownName), uI_UnknownName⟩)
    (c_UnknownName_ : PySem.W.codeIn K (.ref ca_UnknownName) "UnknownName.__init__" = true)
    (lc_UnknownName : K.lookup ca_UnknownName = some ⟨lI_UnknownName, rI_UnknownName, .fields us_UnknownName, vI_UnknownName⟩)
    (lf_UnknownName : us_UnknownName[2]? = some (.str fl_UnknownName ft_UnknownName))
    (le_UnknownName : ((PySem.Challenge.pw_letterrules_k00_errors.main.file : Str) == fl_UnknownName) = true)
    (ll_UnknownName : K.lookup cc_UnknownName = some ⟨nI_UnknownName, sI_UnknownName, .cell (some (.ref C_UnknownName)), wI_UnknownName⟩)
    (su : PySem.W.nsIn K mainGlobals "super" = some none)
    (tp : PySem.W.nsIn K cStatics "thirdparty.any" = some none)
    (er_Held : erIn K C_Held = true)
    (er_InvalidCommand : erIn K C_InvalidCommand = true)
    (er_InvalidMarking : erIn K C_InvalidMarking = true)
    (er_InvalidName : erIn K C_InvalidName = true)
    (er_InvalidNumber : erIn K C_InvalidNumber = true)
    (er_InvalidOperation : erIn K C_InvalidOperation = true)
    (er_InvalidOrder : erIn K C_InvalidOrder = true)
    (er_InvalidPattern : erIn K C_InvalidPattern = true)
    (er_InvalidRule : erIn K C_InvalidRule = true)
    (er_InvalidRun : erIn K C_InvalidRun = true)
    (er_InvalidTransport : erIn K C_InvalidTransport = true)
    (er_LetterError : erIn K C_LetterError = true)
    (er_NoOrder : erIn K C_NoOrder = true)
    (er_NothingToUndo : erIn K C_NothingToUndo = true)
    (er_ParseError : erIn K C_ParseError = true)
    (er_TooMany : erIn K C_TooMany = true)
    (er_UnknownName : erIn K C_UnknownName = true)
    (xb_Held : xfB K C_Held = true)
    (xb_InvalidNumber : xfB K C_InvalidNumber = true)
    (xb_NoOrder : xfB K C_NoOrder = true)
    (xb_NothingToUndo : xfB K C_NothingToUndo = true)
    (xb_TooMany : xfB K C_TooMany = true)
    (xb_UnknownName : xfB K C_UnknownName = true)
    (oc : ocIn K = true)
    (sm : K.lookup sysModules = some ⟨.type "dict", oSM, dSM, uSM⟩)
    (kt_ArithmeticError : kitTab K (.type "ArithmeticError") [(.ref C_Held, false), (.ref C_InvalidCommand, false), (.ref C_InvalidMarking, false), (.ref C_InvalidName, false), (.ref C_InvalidNumber, false), (.ref C_InvalidOperation, false), (.ref C_InvalidOrder, false), (.ref C_InvalidPattern, false), (.ref C_InvalidRule, false), (.ref C_InvalidRun, false), (.ref C_InvalidTransport, false), (.ref C_LetterError, false), (.ref C_NoOrder, true), (.ref C_NothingToUndo, false), (.ref C_ParseError, false), (.ref C_TooMany, true), (.ref C_UnknownName, false)] = true)
    (kt_Held : kitTab K (.ref C_Held) [(.ref C_Held, true), (.ref C_InvalidCommand, false), (.ref C_InvalidMarking, false), (.ref C_InvalidName, false), (.ref C_InvalidNumber, false), (.ref C_InvalidOperation, false), (.ref C_InvalidOrder, false), (.ref C_InvalidPattern, false), (.ref C_InvalidRule, false), (.ref C_InvalidRun, false), (.ref C_InvalidTransport, false), (.ref C_LetterError, false), (.ref C_NoOrder, false), (.ref C_NothingToUndo, false), (.ref C_ParseError, false), (.ref C_TooMany, false), (.ref C_UnknownName, false)] = true)
    (kt_IndexError : kitTab K (.type "IndexError") [(.ref C_Held, false), (.ref C_InvalidCommand, false), (.ref C_InvalidMarking, false), (.ref C_InvalidName, false), (.ref C_InvalidNumber, true), (.ref C_InvalidOperation, false), (.ref C_InvalidOrder, false), (.ref C_InvalidPattern, false), (.ref C_InvalidRule, false), (.ref C_InvalidRun, false), (.ref C_InvalidTransport, false), (.ref C_LetterError, false), (.ref C_NoOrder, false), (.ref C_NothingToUndo, false), (.ref C_ParseError, false), (.ref C_TooMany, false), (.ref C_UnknownName, false)] = true)
    (kt_InvalidCommand : kitTab K (.ref C_InvalidCommand) [(.ref C_Held, false), (.ref C_InvalidCommand, true), (.ref C_InvalidMarking, false), (.ref C_InvalidName, false), (.ref C_InvalidNumber, false), (.ref C_InvalidOperation, false), (.ref C_InvalidOrder, false), (.ref C_InvalidPattern, false), (.ref C_InvalidRule, false), (.ref C_InvalidRun, false), (.ref C_InvalidTransport, false), (.ref C_LetterError, false), (.ref C_NoOrder, false), (.ref C_NothingToUndo, false), (.ref C_ParseError, false), (.ref C_TooMany, false), (.ref C_UnknownName, false)] = true)
    (kt_InvalidMarking : kitTab K (.ref C_InvalidMarking) [(.ref C_Held, false), (.ref C_InvalidCommand, false), (.ref C_InvalidMarking, true), (.ref C_InvalidName, false), (.ref C_InvalidNumber, false), (.ref C_InvalidOperation, false), (.ref C_InvalidOrder, false), (.ref C_InvalidPattern, false), (.ref C_InvalidRule, false), (.ref C_InvalidRun, false), (.ref C_InvalidTransport, false), (.ref C_LetterError, false), (.ref C_NoOrder, false), (.ref C_NothingToUndo, false), (.ref C_ParseError, false), (.ref C_TooMany, false), (.ref C_UnknownName, false)] = true)
    (kt_InvalidName : kitTab K (.ref C_InvalidName) [(.ref C_Held, false), (.ref C_InvalidCommand, false), (.ref C_InvalidMarking, false), (.ref C_InvalidName, true), (.ref C_InvalidNumber, false), (.ref C_InvalidOperation, false), (.ref C_InvalidOrder, false), (.ref C_InvalidPattern, false), (.ref C_InvalidRule, false), (.ref C_InvalidRun, false), (.ref C_InvalidTransport, false), (.ref C_LetterError, false), (.ref C_NoOrder, false), (.ref C_NothingToUndo, false), (.ref C_ParseError, false), (.ref C_TooMany, false), (.ref C_UnknownName, false)] = true)
    (kt_InvalidNumber : kitTab K (.ref C_InvalidNumber) [(.ref C_Held, false), (.ref C_InvalidCommand, false), (.ref C_InvalidMarking, false), (.ref C_InvalidName, false), (.ref C_InvalidNumber, true), (.ref C_InvalidOperation, false), (.ref C_InvalidOrder, false), (.ref C_InvalidPattern, false), (.ref C_InvalidRule, false), (.ref C_InvalidRun, false), (.ref C_InvalidTransport, false), (.ref C_LetterError, false), (.ref C_NoOrder, false), (.ref C_NothingToUndo, false), (.ref C_ParseError, false), (.ref C_TooMany, false), (.ref C_UnknownName, false)] = true)
    (kt_InvalidOperation : kitTab K (.ref C_InvalidOperation) [(.ref C_Held, false), (.ref C_InvalidCommand, false), (.ref C_InvalidMarking, false), (.ref C_InvalidName, false), (.ref C_InvalidNumber, false), (.ref C_InvalidOperation, true), (.ref C_InvalidOrder, false), (.ref C_InvalidPattern, false), (.ref C_InvalidRule, false), (.ref C_InvalidRun, false), (.ref C_InvalidTransport, false), (.ref C_LetterError, false), (.ref C_NoOrder, false), (.ref C_NothingToUndo, false), (.ref C_ParseError, false), (.ref C_TooMany, false), (.ref C_UnknownName, false)] = true)
    (kt_InvalidOrder : kitTab K (.ref C_InvalidOrder) [(.ref C_Held, false), (.ref C_InvalidCommand, false), (.ref C_InvalidMarking, false), (.ref C_InvalidName, false), (.ref C_InvalidNumber, false), (.ref C_InvalidOperation, false), (.ref C_InvalidOrder, true), (.ref C_InvalidPattern, false), (.ref C_InvalidRule, false), (.ref C_InvalidRun, false), (.ref C_InvalidTransport, false), (.ref C_LetterError, false), (.ref C_NoOrder, false), (.ref C_NothingToUndo, false), (.ref C_ParseError, false), (.ref C_TooMany, false), (.ref C_UnknownName, false)] = true)
    (kt_InvalidPattern : kitTab K (.ref C_InvalidPattern) [(.ref C_Held, false), (.ref C_InvalidCommand, false), (.ref C_InvalidMarking, false), (.ref C_InvalidName, false), (.ref C_InvalidNumber, false), (.ref C_InvalidOperation, false), (.ref C_InvalidOrder, false), (.ref C_InvalidPattern, true), (.ref C_InvalidRule, false), (.ref C_InvalidRun, false), (.ref C_InvalidTransport, false), (.ref C_LetterError, false), (.ref C_NoOrder, false), (.ref C_NothingToUndo, false), (.ref C_ParseError, false), (.ref C_TooMany, false), (.ref C_UnknownName, false)] = true)
    (kt_InvalidRule : kitTab K (.ref C_InvalidRule) [(.ref C_Held, false), (.ref C_InvalidCommand, false), (.ref C_InvalidMarking, false), (.ref C_InvalidName, false), (.ref C_InvalidNumber, false), (.ref C_InvalidOperation, false), (.ref C_InvalidOrder, false), (.ref C_InvalidPattern, false), (.ref C_InvalidRule, true), (.ref C_InvalidRun, false), (.ref C_InvalidTransport, false), (.ref C_LetterError, false), (.ref C_NoOrder, false), (.ref C_NothingToUndo, false), (.ref C_ParseError, false), (.ref C_TooMany, false), (.ref C_UnknownName, false)] = true)
    (kt_InvalidRun : kitTab K (.ref C_InvalidRun) [(.ref C_Held, false), (.ref C_InvalidCommand, false), (.ref C_InvalidMarking, false), (.ref C_InvalidName, false), (.ref C_InvalidNumber, false), (.ref C_InvalidOperation, false), (.ref C_InvalidOrder, false), (.ref C_InvalidPattern, false), (.ref C_InvalidRule, false), (.ref C_InvalidRun, true), (.ref C_InvalidTransport, false), (.ref C_LetterError, false), (.ref C_NoOrder, false), (.ref C_NothingToUndo, false), (.ref C_ParseError, false), (.ref C_TooMany, false), (.ref C_UnknownName, false)] = true)
    (kt_InvalidTransport : kitTab K (.ref C_InvalidTransport) [(.ref C_Held, false), (.ref C_InvalidCommand, false), (.ref C_InvalidMarking, false), (.ref C_InvalidName, false), (.ref C_InvalidNumber, false), (.ref C_InvalidOperation, false), (.ref C_InvalidOrder, false), (.ref C_InvalidPattern, false), (.ref C_InvalidRule, false), (.ref C_InvalidRun, false), (.ref C_InvalidTransport, true), (.ref C_LetterError, false), (.ref C_NoOrder, false), (.ref C_NothingToUndo, false), (.ref C_ParseError, false), (.ref C_TooMany, false), (.ref C_UnknownName, false)] = true)
    (kt_KeyError : kitTab K (.type "KeyError") [(.ref C_Held, false), (.ref C_InvalidCommand, false), (.ref C_InvalidMarking, false), (.ref C_InvalidName, false), (.ref C_InvalidNumber, false), (.ref C_InvalidOperation, false), (.ref C_InvalidOrder, false), (.ref C_InvalidPattern, false), (.ref C_InvalidRule, false), (.ref C_InvalidRun, false), (.ref C_InvalidTransport, false), (.ref C_LetterError, false), (.ref C_NoOrder, false), (.ref C_NothingToUndo, false), (.ref C_ParseError, false), (.ref C_TooMany, false), (.ref C_UnknownName, true)] = true)
    (kt_LetterError : kitTab K (.ref C_LetterError) [(.ref C_Held, false), (.ref C_InvalidCommand, true), (.ref C_InvalidMarking, true), (.ref C_InvalidName, true), (.ref C_InvalidNumber, false), (.ref C_InvalidOperation, true), (.ref C_InvalidOrder, true), (.ref C_InvalidPattern, true), (.ref C_InvalidRule, true), (.ref C_InvalidRun, true), (.ref C_InvalidTransport, true), (.ref C_LetterError, true), (.ref C_NoOrder, false), (.ref C_NothingToUndo, false), (.ref C_ParseError, true), (.ref C_TooMany, false), (.ref C_UnknownName, false)] = true)
    (kt_LookupError : kitTab K (.type "LookupError") [(.ref C_Held, false), (.ref C_InvalidCommand, false), (.ref C_InvalidMarking, false), (.ref C_InvalidName, false), (.ref C_InvalidNumber, true), (.ref C_InvalidOperation, false), (.ref C_InvalidOrder, false), (.ref C_InvalidPattern, false), (.ref C_InvalidRule, false), (.ref C_InvalidRun, false), (.ref C_InvalidTransport, false), (.ref C_LetterError, false), (.ref C_NoOrder, false), (.ref C_NothingToUndo, true), (.ref C_ParseError, false), (.ref C_TooMany, false), (.ref C_UnknownName, true)] = true)
    (kt_NoOrder : kitTab K (.ref C_NoOrder) [(.ref C_Held, false), (.ref C_InvalidCommand, false), (.ref C_InvalidMarking, false), (.ref C_InvalidName, false), (.ref C_InvalidNumber, false), (.ref C_InvalidOperation, false), (.ref C_InvalidOrder, false), (.ref C_InvalidPattern, false), (.ref C_InvalidRule, false), (.ref C_InvalidRun, false), (.ref C_InvalidTransport, false), (.ref C_LetterError, false), (.ref C_NoOrder, true), (.ref C_NothingToUndo, false), (.ref C_ParseError, false), (.ref C_TooMany, false), (.ref C_UnknownName, false)] = true)
    (kt_NothingToUndo : kitTab K (.ref C_NothingToUndo) [(.ref C_Held, false), (.ref C_InvalidCommand, false), (.ref C_InvalidMarking, false), (.ref C_InvalidName, false), (.ref C_InvalidNumber, false), (.ref C_InvalidOperation, false), (.ref C_InvalidOrder, false), (.ref C_InvalidPattern, false), (.ref C_InvalidRule, false), (.ref C_InvalidRun, false), (.ref C_InvalidTransport, false), (.ref C_LetterError, false), (.ref C_NoOrder, false), (.ref C_NothingToUndo, true), (.ref C_ParseError, false), (.ref C_TooMany, false), (.ref C_UnknownName, false)] = true)
    (kt_OverflowError : kitTab K (.type "OverflowError") [(.ref C_Held, false), (.ref C_InvalidCommand, false), (.ref C_InvalidMarking, false), (.ref C_InvalidName, false), (.ref C_InvalidNumber, false), (.ref C_InvalidOperation, false), (.ref C_InvalidOrder, false), (.ref C_InvalidPattern, false), (.ref C_InvalidRule, false), (.ref C_InvalidRun, false), (.ref C_InvalidTransport, false), (.ref C_LetterError, false), (.ref C_NoOrder, false), (.ref C_NothingToUndo, false), (.ref C_ParseError, false), (.ref C_TooMany, true), (.ref C_UnknownName, false)] = true)
    (kt_ParseError : kitTab K (.ref C_ParseError) [(.ref C_Held, false), (.ref C_InvalidCommand, false), (.ref C_InvalidMarking, false), (.ref C_InvalidName, false), (.ref C_InvalidNumber, false), (.ref C_InvalidOperation, false), (.ref C_InvalidOrder, false), (.ref C_InvalidPattern, false), (.ref C_InvalidRule, false), (.ref C_InvalidRun, false), (.ref C_InvalidTransport, false), (.ref C_LetterError, false), (.ref C_NoOrder, false), (.ref C_NothingToUndo, false), (.ref C_ParseError, true), (.ref C_TooMany, false), (.ref C_UnknownName, false)] = true)
    (kt_RuntimeError : kitTab K (.type "RuntimeError") [(.ref C_Held, true), (.ref C_InvalidCommand, false), (.ref C_InvalidMarking, false), (.ref C_InvalidName, false), (.ref C_InvalidNumber, false), (.ref C_InvalidOperation, false), (.ref C_InvalidOrder, false), (.ref C_InvalidPattern, false), (.ref C_InvalidRule, false), (.ref C_InvalidRun, false), (.ref C_InvalidTransport, false), (.ref C_LetterError, false), (.ref C_NoOrder, false), (.ref C_NothingToUndo, false), (.ref C_ParseError, false), (.ref C_TooMany, false), (.ref C_UnknownName, false)] = true)
    (kt_TooMany : kitTab K (.ref C_TooMany) [(.ref C_Held, false), (.ref C_InvalidCommand, false), (.ref C_InvalidMarking, false), (.ref C_InvalidName, false), (.ref C_InvalidNumber, false), (.ref C_InvalidOperation, false), (.ref C_InvalidOrder, false), (.ref C_InvalidPattern, false), (.ref C_InvalidRule, false), (.ref C_InvalidRun, false), (.ref C_InvalidTransport, false), (.ref C_LetterError, false), (.ref C_NoOrder, false), (.ref C_NothingToUndo, false), (.ref C_ParseError, false), (.ref C_TooMany, true), (.ref C_UnknownName, false)] = true)
    (kt_UnknownName : kitTab K (.ref C_UnknownName) [(.ref C_Held, false), (.ref C_InvalidCommand, false), (.ref C_InvalidMarking, false), (.ref C_InvalidName, false), (.ref C_InvalidNumber, false), (.ref C_InvalidOperation, false), (.ref C_InvalidOrder, false), (.ref C_InvalidPattern, false), (.ref C_InvalidRule, false), (.ref C_InvalidRun, false), (.ref C_InvalidTransport, false), (.ref C_LetterError, false), (.ref C_NoOrder, false), (.ref C_NothingToUndo, false), (.ref C_ParseError, false), (.ref C_TooMany, false), (.ref C_UnknownName, true)] = true)
    (kt_ValueError : kitTab K (.type "ValueError") [(.ref C_Held, false), (.ref C_InvalidCommand, true), (.ref C_InvalidMarking, true), (.ref C_InvalidName, true), (.ref C_InvalidNumber, false), (.ref C_InvalidOperation, true), (.ref C_InvalidOrder, true), (.ref C_InvalidPattern, true), (.ref C_InvalidRule, true), (.ref C_InvalidRun, true), (.ref C_InvalidTransport, true), (.ref C_LetterError, true), (.ref C_NoOrder, false), (.ref C_NothingToUndo, false), (.ref C_ParseError, true), (.ref C_TooMany, false), (.ref C_UnknownName, false)] = true)
    (a_L_dice : PySem.W.nsIn K mainGlobals "_law_dice" = some (some (.ref F_L_dice)))
    (l_L_dice : K.lookup F_L_dice = some ⟨oF_L_dice, pF_L_dice, .func (PySem.W.fnOf "_law_dice" "_law_dice" (defArgs s_L_dice) (defBody s_L_dice) (defScope s_L_dice) .none kF_L_dice dF_L_dice mF_L_dice qF_L_dice cF_L_dice tF_L_dice), uF_L_dice⟩)
    (c_L_dice : PySem.W.codeIn K cF_L_dice "_law_dice" = true)
    (k_L_dice : PySem.W.keepIn K (.ref F_L_dice) = true)
    (a_L_pull : PySem.W.nsIn K mainGlobals "_law_pull" = some (some (.ref F_L_pull)))
    (l_L_pull : K.lookup F_L_pull = some ⟨oF_L_pull, pF_L_pull, .func (PySem.W.fnOf "_law_pull" "_law_pull" (defArgs s_L_pull) (defBody s_L_pull) (defScope s_L_pull) .none kF_L_pull dF_L_pull mF_L_pull qF_L_pull cF_L_pull tF_L_pull), uF_L_pull⟩)
    (c_L_pull : PySem.W.codeIn K cF_L_pull "_law_pull" = true)
    (k_L_pull : PySem.W.keepIn K (.ref F_L_pull) = true)
    (a_L_pick : PySem.W.nsIn K mainGlobals "_law_pick" = some (some (.ref F_L_pick)))
    (l_L_pick : K.lookup F_L_pick = some ⟨oF_L_pick, pF_L_pick, .func (PySem.W.fnOf "_law_pick" "_law_pick" (defArgs s_L_pick) (defBody s_L_pick) (defScope s_L_pick) .none kF_L_pick dF_L_pick mF_L_pick qF_L_pick cF_L_pick tF_L_pick), uF_L_pick⟩)
    (c_L_pick : PySem.W.codeIn K cF_L_pick "_law_pick" = true)
    (k_L_pick : PySem.W.keepIn K (.ref F_L_pick) = true)
    (a_L_classes : PySem.W.nsIn K mainGlobals "_law_classes" = some (some (.ref F_L_classes)))
    (l_L_classes : K.lookup F_L_classes = some ⟨oF_L_classes, pF_L_classes, .func (PySem.W.fnOf "_law_classes" "_law_classes" (defArgs s_L_classes) (defBody s_L_classes) (defScope s_L_classes) .none kF_L_classes dF_L_classes mF_L_classes qF_L_classes cF_L_classes tF_L_classes), uF_L_classes⟩)
    (c_L_classes : PySem.W.codeIn K cF_L_classes "_law_classes" = true)
    (k_L_classes : PySem.W.keepIn K (.ref F_L_classes) = true)
    (a_L_bases : PySem.W.nsIn K mainGlobals "_law_bases" = some (some (.ref F_L_bases)))
    (l_L_bases : K.lookup F_L_bases = some ⟨oF_L_bases, pF_L_bases, .func (PySem.W.fnOf "_law_bases" "_law_bases" (defArgs s_L_bases) (defBody s_L_bases) (defScope s_L_bases) .none kF_L_bases dF_L_bases mF_L_bases qF_L_bases cF_L_bases tF_L_bases), uF_L_bases⟩)
    (c_L_bases : PySem.W.codeIn K cF_L_bases "_law_bases" = true)
    (k_L_bases : PySem.W.keepIn K (.ref F_L_bases) = true)
    (a_L_messages_right : PySem.W.nsIn K mainGlobals "_law_messages_right" = some (some (.ref F_L_messages_right)))
    (l_L_messages_right : K.lookup F_L_messages_right = some ⟨oF_L_messages_right, pF_L_messages_right, .func (PySem.W.fnOf "_law_messages_right" "_law_messages_right" (defArgs s_L_messages_right) (defBody s_L_messages_right) (defScope s_L_messages_right) .none kF_L_messages_right dF_L_messages_right mF_L_messages_right qF_L_messages_right cF_L_messages_right tF_L_messages_right), uF_L_messages_right⟩)
    (c_L_messages_right : PySem.W.codeIn K cF_L_messages_right "_law_messages_right" = true)
    (k_L_messages_right : PySem.W.keepIn K (.ref F_L_messages_right) = true)
    (a_L_values_right : PySem.W.nsIn K mainGlobals "_law_values_right" = some (some (.ref F_L_values_right)))
    (l_L_values_right : K.lookup F_L_values_right = some ⟨oF_L_values_right, pF_L_values_right, .func (PySem.W.fnOf "_law_values_right" "_law_values_right" (defArgs s_L_values_right) (defBody s_L_values_right) (defScope s_L_values_right) .none kF_L_values_right dF_L_values_right mF_L_values_right qF_L_values_right cF_L_values_right tF_L_values_right), uF_L_values_right⟩)
    (c_L_values_right : PySem.W.codeIn K cF_L_values_right "_law_values_right" = true)
    (k_L_values_right : PySem.W.keepIn K (.ref F_L_values_right) = true)
    (a_L_value : PySem.W.nsIn K mainGlobals "_law_value" = some (some (.ref F_L_value)))
    (l_L_value : K.lookup F_L_value = some ⟨oF_L_value, pF_L_value, .func (PySem.W.fnOf "_law_value" "_law_value" (defArgs s_L_value) (defBody s_L_value) (defScope s_L_value) .none kF_L_value dF_L_value mF_L_value qF_L_value cF_L_value tF_L_value), uF_L_value⟩)
    (c_L_value : PySem.W.codeIn K cF_L_value "_law_value" = true)
    (k_L_value : PySem.W.keepIn K (.ref F_L_value) = true)
    (a_law : PySem.W.nsIn K mainGlobals "law" = some (some (.ref F_law)))
    (l_law : K.lookup F_law = some ⟨oF_law, pF_law, .func (PySem.W.fnOf "law" "law" (defArgs s_law) (defBody s_law) (defScope s_law) .none kF_law dF_law mF_law qF_law cF_law tF_law), uF_law⟩)
    (c_law : PySem.W.codeIn K cF_law "law" = true)
    (k_law : PySem.W.keepIn K (.ref F_law) = true)
    (nl : noLists K = true) :
    ∃ cs T, LawG q l w K mg 63 4 "_law_script" fa cs T f_law := by
  have e := hfa.symm.trans (PySem.W.mg_of KX G a_law)
  cases e
  have bl : Bl mg := ⟨PySem.W.mg_none_of KX G z_ArithmeticError, PySem.W.mg_none_of KX G z_IndexError, PySem.W.mg_none_of KX G z_KeyError, PySem.W.mg_none_of KX G z_LookupError, PySem.W.mg_none_of KX G z_OverflowError, PySem.W.mg_none_of KX G z_RuntimeError, PySem.W.mg_none_of KX G z_ValueError, PySem.W.mg_none_of KX G z_abs, PySem.W.mg_none_of KX G z_int, PySem.W.mg_none_of KX G z_isinstance, PySem.W.mg_none_of KX G z_len, PySem.W.mg_none_of KX G z_max, PySem.W.mg_none_of KX G z_min, PySem.W.mg_none_of KX G z_range, PySem.W.mg_none_of KX G z_repr⟩
  have gc : Gc K mg w := ⟨trivial⟩
  have sub : SubT K mg subC := by
    intro x c b u v hs hu hv
    unfold subC at hs
    cases hs
  have ex : Exs l.prog K mg := ⟨⟨C_InvalidCommand, _, "ValueError", "ValueError.__new__", "ValueError.__init__", PySem.F.excBase_ValueError, PySem.W.mg_of KX G a_InvalidCommand, x_InvalidCommand, k_InvalidCommand, e_InvalidCommand, y_InvalidCommand⟩, ⟨C_InvalidMarking, _, "ValueError", "ValueError.__new__", "ValueError.__init__", PySem.F.excBase_ValueError, PySem.W.mg_of KX G a_InvalidMarking, x_InvalidMarking, k_InvalidMarking, e_InvalidMarking, y_InvalidMarking⟩, ⟨C_InvalidName, _, "ValueError", "ValueError.__new__", "ValueError.__init__", PySem.F.excBase_ValueError, PySem.W.mg_of KX G a_InvalidName, x_InvalidName, k_InvalidName, e_InvalidName, y_InvalidName⟩, ⟨C_InvalidOperation, _, "ValueError", "ValueError.__new__", "ValueError.__init__", PySem.F.excBase_ValueError, PySem.W.mg_of KX G a_InvalidOperation, x_InvalidOperation, k_InvalidOperation, e_InvalidOperation, y_InvalidOperation⟩, ⟨C_InvalidOrder, _, "ValueError", "ValueError.__new__", "ValueError.__init__", PySem.F.excBase_ValueError, PySem.W.mg_of KX G a_InvalidOrder, x_InvalidOrder, k_InvalidOrder, e_InvalidOrder, y_InvalidOrder⟩, ⟨C_InvalidPattern, _, "ValueError", "ValueError.__new__", "ValueError.__init__", PySem.F.excBase_ValueError, PySem.W.mg_of KX G a_InvalidPattern, x_InvalidPattern, k_InvalidPattern, e_InvalidPattern, y_InvalidPattern⟩, ⟨C_InvalidRule, _, "ValueError", "ValueError.__new__", "ValueError.__init__", PySem.F.excBase_ValueError, PySem.W.mg_of KX G a_InvalidRule, x_InvalidRule, k_InvalidRule, e_InvalidRule, y_InvalidRule⟩, ⟨C_InvalidRun, _, "ValueError", "ValueError.__new__", "ValueError.__init__", PySem.F.excBase_ValueError, PySem.W.mg_of KX G a_InvalidRun, x_InvalidRun, k_InvalidRun, e_InvalidRun, y_InvalidRun⟩, ⟨C_InvalidTransport, _, "ValueError", "ValueError.__new__", "ValueError.__init__", PySem.F.excBase_ValueError, PySem.W.mg_of KX G a_InvalidTransport, x_InvalidTransport, k_InvalidTransport, e_InvalidTransport, y_InvalidTransport⟩, ⟨C_LetterError, _, "ValueError", "ValueError.__new__", "ValueError.__init__", PySem.F.excBase_ValueError, PySem.W.mg_of KX G a_LetterError, x_LetterError, k_LetterError, e_LetterError, y_LetterError⟩, ⟨C_ParseError, _, "ValueError", "ValueError.__new__", "ValueError.__init__", PySem.F.excBase_ValueError, PySem.W.mg_of KX G a_ParseError, x_ParseError, k_ParseError, e_ParseError, y_ParseError⟩, ⟨C_Held, I_Held, "RuntimeError", "RuntimeError.__new__", "RuntimeError.__init__", _, "step", si_Held, ⟨.of PySem.F.excBase_RuntimeError, PySem.W.kxs_RuntimeError, PySem.F.store_RuntimeError, q_Held, o_Held, i_Held, f_Held_, m_Held, b_Held_, s_Held_, su, tp, w_Held, taker_no t_Held, d_h_Held, e_Held, y_Held, k_Held, ⟨_, _, _, _, _, _, _, _, _, _, _, _, _, _, _, _, _, _, _, _, l_Held, c_Held_, lc_Held, lf_Held, hl ▸ le_Held, ll_Held⟩⟩, hl ▸ st_Held, PySem.W.mg_of KX G a_Held⟩, ⟨C_InvalidNumber, I_InvalidNumber, "IndexError", "IndexError.__new__", "IndexError.__init__", _, "value", si_InvalidNumber, ⟨.of PySem.F.excBase_IndexError, PySem.W.kxs_IndexError, PySem.F.store_IndexError, q_InvalidNumber, o_InvalidNumber, i_InvalidNumber, f_InvalidNumber_, m_InvalidNumber, b_InvalidNumber_, s_InvalidNumber_, su, tp, w_InvalidNumber, taker_no t_InvalidNumber, d_h_InvalidNumber, e_InvalidNumber, y_InvalidNumber, k_InvalidNumber, ⟨_, _, _, _, _, _, _, _, _, _, _, _, _, _, _, _, _, _, _, _, l_InvalidNumber, c_InvalidNumber_, lc_InvalidNumber, lf_InvalidNumber, hl ▸ le_InvalidNumber, ll_InvalidNumber⟩⟩, hl ▸ st_InvalidNumber, PySem.W.mg_of KX G a_InvalidNumber⟩, ⟨C_NoOrder, I_NoOrder, "ArithmeticError", "ArithmeticError.__new__", "ArithmeticError.__init__", _, "ring", si_NoOrder, ⟨.of PySem.F.excBase_ArithmeticError, PySem.W.kxs_ArithmeticError, PySem.F.store_ArithmeticError, q_NoOrder, o_NoOrder, i_NoOrder, f_NoOrder_, m_NoOrder, b_NoOrder_, s_NoOrder_, su, tp, w_NoOrder, taker_no t_NoOrder, d_h_NoOrder, e_NoOrder, y_NoOrder, k_NoOrder, ⟨_, _, _, _, _, _, _, _, _, _, _, _, _, _, _, _, _, _, _, _, l_NoOrder, c_NoOrder_, lc_NoOrder, lf_NoOrder, hl ▸ le_NoOrder, ll_NoOrder⟩⟩, hl ▸ st_NoOrder, PySem.W.mg_of KX G a_NoOrder⟩, ⟨C_NothingToUndo, I_NothingToUndo, "LookupError", "LookupError.__new__", "LookupError.__init__", _, "many", si_NothingToUndo, ⟨.of PySem.F.excBase_LookupError, PySem.W.kxs_LookupError, PySem.F.store_LookupError, q_NothingToUndo, o_NothingToUndo, i_NothingToUndo, f_NothingToUndo_, m_NothingToUndo, b_NothingToUndo_, s_NothingToUndo_, su, tp, w_NothingToUndo, taker_no t_NothingToUndo, d_h_NothingToUndo, e_NothingToUndo, y_NothingToUndo, k_NothingToUndo, ⟨_, _, _, _, _, _, _, _, _, _, _, _, _, _, _, _, _, _, _, _, l_NothingToUndo, c_NothingToUndo_, lc_NothingToUndo, lf_NothingToUndo, hl ▸ le_NothingToUndo, ll_NothingToUndo⟩⟩, hl ▸ st_NothingToUndo, PySem.W.mg_of KX G a_NothingToUndo⟩, ⟨C_TooMany, I_TooMany, "OverflowError", "OverflowError.__new__", "OverflowError.__init__", _, "limit", si_TooMany, ⟨.of PySem.F.excBase_OverflowError, PySem.W.kxs_OverflowError, PySem.F.store_OverflowError, q_TooMany, o_TooMany, i_TooMany, f_TooMany_, m_TooMany, b_TooMany_, s_TooMany_, su, tp, w_TooMany, taker_no t_TooMany, d_h_TooMany, e_TooMany, y_TooMany, k_TooMany, ⟨_, _, _, _, _, _, _, _, _, _, _, _, _, _, _, _, _, _, _, _, l_TooMany, c_TooMany_, lc_TooMany, lf_TooMany, hl ▸ le_TooMany, ll_TooMany⟩⟩, hl ▸ st_TooMany, PySem.W.mg_of KX G a_TooMany⟩, ⟨C_UnknownName, I_UnknownName, "KeyError", "LookupError.__new__", "KeyError.__init__", _, "name", si_UnknownName, ⟨excMk_KeyError, kxs_KeyError, store_KeyError, q_UnknownName, o_UnknownName, i_UnknownName, f_UnknownName_, m_UnknownName, b_UnknownName_, s_UnknownName_, su, tp, w_UnknownName, taker_no t_UnknownName, d_h_UnknownName, e_UnknownName, y_UnknownName, k_UnknownName, ⟨_, _, _, _, _, _, _, _, _, _, _, _, _, _, _, _, _, _, _, _, l_UnknownName, c_UnknownName_, lc_UnknownName, lf_UnknownName, hl ▸ le_UnknownName, ll_UnknownName⟩⟩, hl ▸ st_UnknownName, PySem.W.mg_of KX G a_UnknownName⟩, ert_mk (PySem.W.mg_of KX G a_Held) er_Held, ert_mk (PySem.W.mg_of KX G a_InvalidCommand) er_InvalidCommand, ert_mk (PySem.W.mg_of KX G a_InvalidMarking) er_InvalidMarking, ert_mk (PySem.W.mg_of KX G a_InvalidName) er_InvalidName, ert_mk (PySem.W.mg_of KX G a_InvalidNumber) er_InvalidNumber, ert_mk (PySem.W.mg_of KX G a_InvalidOperation) er_InvalidOperation, ert_mk (PySem.W.mg_of KX G a_InvalidOrder) er_InvalidOrder, ert_mk (PySem.W.mg_of KX G a_InvalidPattern) er_InvalidPattern, ert_mk (PySem.W.mg_of KX G a_InvalidRule) er_InvalidRule, ert_mk (PySem.W.mg_of KX G a_InvalidRun) er_InvalidRun, ert_mk (PySem.W.mg_of KX G a_InvalidTransport) er_InvalidTransport, ert_mk (PySem.W.mg_of KX G a_LetterError) er_LetterError, ert_mk (PySem.W.mg_of KX G a_NoOrder) er_NoOrder, ert_mk (PySem.W.mg_of KX G a_NothingToUndo) er_NothingToUndo, ert_mk (PySem.W.mg_of KX G a_ParseError) er_ParseError, ert_mk (PySem.W.mg_of KX G a_TooMany) er_TooMany, ert_mk (PySem.W.mg_of KX G a_UnknownName) er_UnknownName, ⟨C_Held, PySem.W.mg_of KX G a_Held, xfB_ok xb_Held, t_Held⟩, ⟨C_InvalidNumber, PySem.W.mg_of KX G a_InvalidNumber, xfB_ok xb_InvalidNumber, t_InvalidNumber⟩, ⟨C_NoOrder, PySem.W.mg_of KX G a_NoOrder, xfB_ok xb_NoOrder, t_NoOrder⟩, ⟨C_NothingToUndo, PySem.W.mg_of KX G a_NothingToUndo, xfB_ok xb_NothingToUndo, t_NothingToUndo⟩, ⟨C_TooMany, PySem.W.mg_of KX G a_TooMany, xfB_ok xb_TooMany, t_TooMany⟩, ⟨C_UnknownName, PySem.W.mg_of KX G a_UnknownName, xfB_ok xb_UnknownName, t_UnknownName⟩, oc_mk oc, ⟨_, sm, rfl⟩, (fun h => kita_er (ert_mk (PySem.W.mg_of KX G a_Held) er_Held) (PySem.W.mg_of KX G a_Held) h (fun h => kita_er (ert_mk (PySem.W.mg_of KX G a_InvalidCommand) er_InvalidCommand) (PySem.W.mg_of KX G a_InvalidCommand) h (fun h => kita_er (ert_mk (PySem.W.mg_of KX G a_InvalidMarking) er_InvalidMarking) (PySem.W.mg_of KX G a_InvalidMarking) h (fun h => kita_er (ert_mk (PySem.W.mg_of KX G a_InvalidName) er_InvalidName) (PySem.W.mg_of KX G a_InvalidName) h (fun h => kita_er (ert_mk (PySem.W.mg_of KX G a_InvalidNumber) er_InvalidNumber) (PySem.W.mg_of KX G a_InvalidNumber) h (fun h => kita_er (ert_mk (PySem.W.mg_of KX G a_InvalidOperation) er_InvalidOperation) (PySem.W.mg_of KX G a_InvalidOperation) h (fun h => kita_er (ert_mk (PySem.W.mg_of KX G a_InvalidOrder) er_InvalidOrder) (PySem.W.mg_of KX G a_InvalidOrder) h (fun h => kita_er (ert_mk (PySem.W.mg_of KX G a_InvalidPattern) er_InvalidPattern) (PySem.W.mg_of KX G a_InvalidPattern) h (fun h => kita_er (ert_mk (PySem.W.mg_of KX G a_InvalidRule) er_InvalidRule) (PySem.W.mg_of KX G a_InvalidRule) h (fun h => kita_er (ert_mk (PySem.W.mg_of KX G a_InvalidRun) er_InvalidRun) (PySem.W.mg_of KX G a_InvalidRun) h (fun h => kita_er (ert_mk (PySem.W.mg_of KX G a_InvalidTransport) er_InvalidTransport) (PySem.W.mg_of KX G a_InvalidTransport) h (fun h => kita_er (ert_mk (PySem.W.mg_of KX G a_LetterError) er_LetterError) (PySem.W.mg_of KX G a_LetterError) h (fun h => kita_er (ert_mk (PySem.W.mg_of KX G a_NoOrder) er_NoOrder) (PySem.W.mg_of KX G a_NoOrder) h (fun h => kita_er (ert_mk (PySem.W.mg_of KX G a_NothingToUndo) er_NothingToUndo) (PySem.W.mg_of KX G a_NothingToUndo) h (fun h => kita_er (ert_mk (PySem.W.mg_of KX G a_ParseError) er_ParseError) (PySem.W.mg_of KX G a_ParseError) h (fun h => kita_er (ert_mk (PySem.W.mg_of KX G a_TooMany) er_TooMany) (PySem.W.mg_of KX G a_TooMany) h (fun h => kita_er (ert_mk (PySem.W.mg_of KX G a_UnknownName) er_UnknownName) (PySem.W.mg_of KX G a_UnknownName) h fun _ => kita_nil))))))))))))))))) kt_ArithmeticError, ⟨C_Held, PySem.W.mg_of KX G a_Held, (fun h => kita_er (ert_mk (PySem.W.mg_of KX G a_Held) er_Held) (PySem.W.mg_of KX G a_Held) h (fun h => kita_er (ert_mk (PySem.W.mg_of KX G a_InvalidCommand) er_InvalidCommand) (PySem.W.mg_of KX G a_InvalidCommand) h (fun h => kita_er (ert_mk (PySem.W.mg_of KX G a_InvalidMarking) er_InvalidMarking) (PySem.W.mg_of KX G a_InvalidMarking) h (fun h => kita_er (ert_mk (PySem.W.mg_of KX G a_InvalidName) er_InvalidName) (PySem.W.mg_of KX G a_InvalidName) h (fun h => kita_er (ert_mk (PySem.W.mg_of KX G a_InvalidNumber) er_InvalidNumber) (PySem.W.mg_of KX G a_InvalidNumber) h (fun h => kita_er (ert_mk (PySem.W.mg_of KX G a_InvalidOperation) er_InvalidOperation) (PySem.W.mg_of KX G a_InvalidOperation) h (fun h => kita_er (ert_mk (PySem.W.mg_of KX G a_InvalidOrder) er_InvalidOrder) (PySem.W.mg_of KX G a_InvalidOrder) h (fun h => kita_er (ert_mk (PySem.W.mg_of KX G a_InvalidPattern) er_InvalidPattern) (PySem.W.mg_of KX G a_InvalidPattern) h (fun h => kita_er (ert_mk (PySem.W.mg_of KX G a_InvalidRule) er_InvalidRule) (PySem.W.mg_of KX G a_InvalidRule) h (fun h => kita_er (ert_mk (PySem.W.mg_of KX G a_InvalidRun) er_InvalidRun) (PySem.W.mg_of KX G a_InvalidRun) h (fun h => kita_er (ert_mk (PySem.W.mg_of KX G a_InvalidTransport) er_InvalidTransport) (PySem.W.mg_of KX G a_InvalidTransport) h (fun h => kita_er (ert_mk (PySem.W.mg_of KX G a_LetterError) er_LetterError) (PySem.W.mg_of KX G a_LetterError) h (fun h => kita_er (ert_mk (PySem.W.mg_of KX G a_NoOrder) er_NoOrder) (PySem.W.mg_of KX G a_NoOrder) h (fun h => kita_er (ert_mk (PySem.W.mg_of KX G a_NothingToUndo) er_NothingToUndo) (PySem.W.mg_of KX G a_NothingToUndo) h (fun h => kita_er (ert_mk (PySem.W.mg_of KX G a_ParseError) er_ParseError) (PySem.W.mg_of KX G a_ParseError) h (fun h => kita_er (ert_mk (PySem.W.mg_of KX G a_TooMany) er_TooMany) (PySem.W.mg_of KX G a_TooMany) h (fun h => kita_er (ert_mk (PySem.W.mg_of KX G a_UnknownName) er_UnknownName) (PySem.W.mg_of KX G a_UnknownName) h fun _ => kita_nil))))))))))))))))) kt_Held⟩, (fun h => kita_er (ert_mk (PySem.W.mg_of KX G a_Held) er_Held) (PySem.W.mg_of KX G a_Held) h (fun h => kita_er (ert_mk (PySem.W.mg_of KX G a_InvalidCommand) er_InvalidCommand) (PySem.W.mg_of KX G a_InvalidCommand) h (fun h => kita_er (ert_mk (PySem.W.mg_of KX G a_InvalidMarking) er_InvalidMarking) (PySem.W.mg_of KX G a_InvalidMarking) h (fun h => kita_er (ert_mk (PySem.W.mg_of KX G a_InvalidName) er_InvalidName) (PySem.W.mg_of KX G a_InvalidName) h (fun h => kita_er (ert_mk (PySem.W.mg_of KX G a_InvalidNumber) er_InvalidNumber) (PySem.W.mg_of KX G a_InvalidNumber) h (fun h => kita_er (ert_mk (PySem.W.mg_of KX G a_InvalidOperation) er_InvalidOperation) (PySem.W.mg_of KX G a_InvalidOperation) h (fun h => kita_er (ert_mk (PySem.W.mg_of KX G a_InvalidOrder) er_InvalidOrder) (PySem.W.mg_of KX G a_InvalidOrder) h (fun h => kita_er (ert_mk (PySem.W.mg_of KX G a_InvalidPattern) er_InvalidPattern) (PySem.W.mg_of KX G a_InvalidPattern) h (fun h => kita_er (ert_mk (PySem.W.mg_of KX G a_InvalidRule) er_InvalidRule) (PySem.W.mg_of KX G a_InvalidRule) h (fun h => kita_er (ert_mk (PySem.W.mg_of KX G a_InvalidRun) er_InvalidRun) (PySem.W.mg_of KX G a_InvalidRun) h (fun h => kita_er (ert_mk (PySem.W.mg_of KX G a_InvalidTransport) er_InvalidTransport) (PySem.W.mg_of KX G a_InvalidTransport) h (fun h => kita_er (ert_mk (PySem.W.mg_of KX G a_LetterError) er_LetterError) (PySem.W.mg_of KX G a_LetterError) h (fun h => kita_er (ert_mk (PySem.W.mg_of KX G a_NoOrder) er_NoOrder) (PySem.W.mg_of KX G a_NoOrder) h (fun h => kita_er (ert_mk (PySem.W.mg_of KX G a_NothingToUndo) er_NothingToUndo) (PySem.W.mg_of KX G a_NothingToUndo) h (fun h => kita_er (ert_mk (PySem.W.mg_of KX G a_ParseError) er_ParseError) (PySem.W.mg_of KX G a_ParseError) h (fun h => kita_er (ert_mk (PySem.W.mg_of KX G a_TooMany) er_TooMany) (PySem.W.mg_of KX G a_TooMany) h (fun h => kita_er (ert_mk (PySem.W.mg_of KX G a_UnknownName) er_UnknownName) (PySem.W.mg_of KX G a_UnknownName) h fun _ => kita_nil))))))))))))))))) kt_IndexError, ⟨C_InvalidCommand, PySem.W.mg_of KX G a_InvalidCommand, (fun h => kita_er (ert_mk (PySem.W.mg_of KX G a_Held) er_Held) (PySem.W.mg_of KX G a_Held) h (fun h => kita_er (ert_mk (PySem.W.mg_of KX G a_InvalidCommand) er_InvalidCommand) (PySem.W.mg_of KX G a_InvalidCommand) h (fun h => kita_er (ert_mk (PySem.W.mg_of KX G a_InvalidMarking) er_InvalidMarking) (PySem.W.mg_of KX G a_InvalidMarking) h (fun h => kita_er (ert_mk (PySem.W.mg_of KX G a_InvalidName) er_InvalidName) (PySem.W.mg_of KX G a_InvalidName) h (fun h => kita_er (ert_mk (PySem.W.mg_of KX G a_InvalidNumber) er_InvalidNumber) (PySem.W.mg_of KX G a_InvalidNumber) h (fun h => kita_er (ert_mk (PySem.W.mg_of KX G a_InvalidOperation) er_InvalidOperation) (PySem.W.mg_of KX G a_InvalidOperation) h (fun h => kita_er (ert_mk (PySem.W.mg_of KX G a_InvalidOrder) er_InvalidOrder) (PySem.W.mg_of KX G a_InvalidOrder) h (fun h => kita_er (ert_mk (PySem.W.mg_of KX G a_InvalidPattern) er_InvalidPattern) (PySem.W.mg_of KX G a_InvalidPattern) h (fun h => kita_er (ert_mk (PySem.W.mg_of KX G a_InvalidRule) er_InvalidRule) (PySem.W.mg_of KX G a_InvalidRule) h (fun h => kita_er (ert_mk (PySem.W.mg_of KX G a_InvalidRun) er_InvalidRun) (PySem.W.mg_of KX G a_InvalidRun) h (fun h => kita_er (ert_mk (PySem.W.mg_of KX G a_InvalidTransport) er_InvalidTransport) (PySem.W.mg_of KX G a_InvalidTransport) h (fun h => kita_er (ert_mk (PySem.W.mg_of KX G a_LetterError) er_LetterError) (PySem.W.mg_of KX G a_LetterError) h (fun h => kita_er (ert_mk (PySem.W.mg_of KX G a_NoOrder) er_NoOrder) (PySem.W.mg_of KX G a_NoOrder) h (fun h => kita_er (ert_mk (PySem.W.mg_of KX G a_NothingToUndo) er_NothingToUndo) (PySem.W.mg_of KX G a_NothingToUndo) h (fun h => kita_er (ert_mk (PySem.W.mg_of KX G a_ParseError) er_ParseError) (PySem.W.mg_of KX G a_ParseError) h (fun h => kita_er (ert_mk (PySem.W.mg_of KX G a_TooMany) er_TooMany) (PySem.W.mg_of KX G a_TooMany) h (fun h => kita_er (ert_mk (PySem.W.mg_of KX G a_UnknownName) er_UnknownName) (PySem.W.mg_of KX G a_UnknownName) h fun _ => kita_nil))))))))))))))))) kt_InvalidCommand⟩, ⟨C_InvalidMarking, PySem.W.mg_of KX G a_InvalidMarking, (fun h => kita_er (ert_mk (PySem.W.mg_of KX G a_Held) er_Held) (PySem.W.mg_of KX G a_Held) h (fun h => kita_er (ert_mk (PySem.W.mg_of KX G a_InvalidCommand) er_InvalidCommand) (PySem.W.mg_of KX G a_InvalidCommand) h (fun h => kita_er (ert_mk (PySem.W.mg_of KX G a_InvalidMarking) er_InvalidMarking) (PySem.W.mg_of KX G a_InvalidMarking) h (fun h => kita_er (ert_mk (PySem.W.mg_of KX G a_InvalidName) er_InvalidName) (PySem.W.mg_of KX G a_InvalidName) h (fun h => kita_er (ert_mk (PySem.W.mg_of KX G a_InvalidNumber) er_InvalidNumber) (PySem.W.mg_of KX G a_InvalidNumber) h (fun h => kita_er (ert_mk (PySem.W.mg_of KX G a_InvalidOperation) er_InvalidOperation) (PySem.W.mg_of KX G a_InvalidOperation) h (fun h => kita_er (ert_mk (PySem.W.mg_of KX G a_InvalidOrder) er_InvalidOrder) (PySem.W.mg_of KX G a_InvalidOrder) h (fun h => kita_er (ert_mk (PySem.W.mg_of KX G a_InvalidPattern) er_InvalidPattern) (PySem.W.mg_of KX G a_InvalidPattern) h (fun h => kita_er (ert_mk (PySem.W.mg_of KX G a_InvalidRule) er_InvalidRule) (PySem.W.mg_of KX G a_InvalidRule) h (fun h => kita_er (ert_mk (PySem.W.mg_of KX G a_InvalidRun) er_InvalidRun) (PySem.W.mg_of KX G a_InvalidRun) h (fun h => kita_er (ert_mk (PySem.W.mg_of KX G a_InvalidTransport) er_InvalidTransport) (PySem.W.mg_of KX G a_InvalidTransport) h (fun h => kita_er (ert_mk (PySem.W.mg_of KX G a_LetterError) er_LetterError) (PySem.W.mg_of KX G a_LetterError) h (fun h => kita_er (ert_mk (PySem.W.mg_of KX G a_NoOrder) er_NoOrder) (PySem.W.mg_of KX G a_NoOrder) h (fun h => kita_er (ert_mk (PySem.W.mg_of KX G a_NothingToUndo) er_NothingToUndo) (PySem.W.mg_of KX G a_NothingToUndo) h (fun h => kita_er (ert_mk (PySem.W.mg_of KX G a_ParseError) er_ParseError) (PySem.W.mg_of KX G a_ParseError) h (fun h => kita_er (ert_mk (PySem.W.mg_of KX G a_TooMany) er_TooMany) (PySem.W.mg_of KX G a_TooMany) h (fun h => kita_er (ert_mk (PySem.W.mg_of KX G a_UnknownName) er_UnknownName) (PySem.W.mg_of KX G a_UnknownName) h fun _ => kita_nil))))))))))))))))) kt_InvalidMarking⟩, ⟨C_InvalidName, PySem.W.mg_of KX G a_InvalidName, (fun h => kita_er (ert_mk (PySem.W.mg_of KX G a_Held) er_Held) (PySem.W.mg_of KX G a_Held) h (fun h => kita_er (ert_mk (PySem.W.mg_of KX G a_InvalidCommand) er_InvalidCommand) (PySem.W.mg_of KX G a_InvalidCommand) h (fun h => kita_er (ert_mk (PySem.W.mg_of KX G a_InvalidMarking) er_InvalidMarking) (PySem.W.mg_of KX G a_InvalidMarking) h (fun h => kita_er (ert_mk (PySem.W.mg_of KX G a_InvalidName) er_InvalidName) (PySem.W.mg_of KX G a_InvalidName) h (fun h => kita_er (ert_mk (PySem.W.mg_of KX G a_InvalidNumber) er_InvalidNumber) (PySem.W.mg_of KX G a_InvalidNumber) h (fun h => kita_er (ert_mk (PySem.W.mg_of KX G a_InvalidOperation) er_InvalidOperation) (PySem.W.mg_of KX G a_InvalidOperation) h (fun h => kita_er (ert_mk (PySem.W.mg_of KX G a_InvalidOrder) er_InvalidOrder) (PySem.W.mg_of KX G a_InvalidOrder) h (fun h => kita_er (ert_mk (PySem.W.mg_of KX G a_InvalidPattern) er_InvalidPattern) (PySem.W.mg_of KX G a_InvalidPattern) h (fun h => kita_er (ert_mk (PySem.W.mg_of KX G a_InvalidRule) er_InvalidRule) (PySem.W.mg_of KX G a_InvalidRule) h (fun h => kita_er (ert_mk (PySem.W.mg_of KX G a_InvalidRun) er_InvalidRun) (PySem.W.mg_of KX G a_InvalidRun) h (fun h => kita_er (ert_mk (PySem.W.mg_of KX G a_InvalidTransport) er_InvalidTransport) (PySem.W.mg_of KX G a_InvalidTransport) h (fun h => kita_er (ert_mk (PySem.W.mg_of KX G a_LetterError) er_LetterError) (PySem.W.mg_of KX G a_LetterError) h (fun h => kita_er (ert_mk (PySem.W.mg_of KX G a_NoOrder) er_NoOrder) (PySem.W.mg_of KX G a_NoOrder) h (fun h => kita_er (ert_mk (PySem.W.mg_of KX G a_NothingToUndo) er_NothingToUndo) (PySem.W.mg_of KX G a_NothingToUndo) h (fun h => kita_er (ert_mk (PySem.W.mg_of KX G a_ParseError) er_ParseError) (PySem.W.mg_of KX G a_ParseError) h (fun h => kita_er (ert_mk (PySem.W.mg_of KX G a_TooMany) er_TooMany) (PySem.W.mg_of KX G a_TooMany) h (fun h => kita_er (ert_mk (PySem.W.mg_of KX G a_UnknownName) er_UnknownName) (PySem.W.mg_of KX G a_UnknownName) h fun _ => kita_nil))))))))))))))))) kt_InvalidName⟩, ⟨C_InvalidNumber, PySem.W.mg_of KX G a_InvalidNumber, (fun h => kita_er (ert_mk (PySem.W.mg_of KX G a_Held) er_Held) (PySem.W.mg_of KX G a_Held) h (fun h => kita_er (ert_mk (PySem.W.mg_of KX G a_InvalidCommand) er_InvalidCommand) (PySem.W.mg_of KX G a_InvalidCommand) h (fun h => kita_er (ert_mk (PySem.W.mg_of KX G a_InvalidMarking) er_InvalidMarking) (PySem.W.mg_of KX G a_InvalidMarking) h (fun h => kita_er (ert_mk (PySem.W.mg_of KX G a_InvalidName) er_InvalidName) (PySem.W.mg_of KX G a_InvalidName) h (fun h => kita_er (ert_mk (PySem.W.mg_of KX G a_InvalidNumber) er_InvalidNumber) (PySem.W.mg_of KX G a_InvalidNumber) h (fun h => kita_er (ert_mk (PySem.W.mg_of KX G a_InvalidOperation) er_InvalidOperation) (PySem.W.mg_of KX G a_InvalidOperation) h (fun h => kita_er (ert_mk (PySem.W.mg_of KX G a_InvalidOrder) er_InvalidOrder) (PySem.W.mg_of KX G a_InvalidOrder) h (fun h => kita_er (ert_mk (PySem.W.mg_of KX G a_InvalidPattern) er_InvalidPattern) (PySem.W.mg_of KX G a_InvalidPattern) h (fun h => kita_er (ert_mk (PySem.W.mg_of KX G a_InvalidRule) er_InvalidRule) (PySem.W.mg_of KX G a_InvalidRule) h (fun h => kita_er (ert_mk (PySem.W.mg_of KX G a_InvalidRun) er_InvalidRun) (PySem.W.mg_of KX G a_InvalidRun) h (fun h => kita_er (ert_mk (PySem.W.mg_of KX G a_InvalidTransport) er_InvalidTransport) (PySem.W.mg_of KX G a_InvalidTransport) h (fun h => kita_er (ert_mk (PySem.W.mg_of KX G a_LetterError) er_LetterError) (PySem.W.mg_of KX G a_LetterError) h (fun h => kita_er (ert_mk (PySem.W.mg_of KX G a_NoOrder) er_NoOrder) (PySem.W.mg_of KX G a_NoOrder) h (fun h => kita_er (ert_mk (PySem.W.mg_of KX G a_NothingToUndo) er_NothingToUndo) (PySem.W.mg_of KX G a_NothingToUndo) h (fun h => kita_er (ert_mk (PySem.W.mg_of KX G a_ParseError) er_ParseError) (PySem.W.mg_of KX G a_ParseError) h (fun h => kita_er (ert_mk (PySem.W.mg_of KX G a_TooMany) er_TooMany) (PySem.W.mg_of KX G a_TooMany) h (fun h => kita_er (ert_mk (PySem.W.mg_of KX G a_UnknownName) er_UnknownName) (PySem.W.mg_of KX G a_UnknownName) h fun _ => kita_nil))))))))))))))))) kt_InvalidNumber⟩, ⟨C_InvalidOperation, PySem.W.mg_of KX G a_InvalidOperation, (fun h => kita_er (ert_mk (PySem.W.mg_of KX G a_Held) er_Held) (PySem.W.mg_of KX G a_Held) h (fun h => kita_er (ert_mk (PySem.W.mg_of KX G a_InvalidCommand) er_InvalidCommand) (PySem.W.mg_of KX G a_InvalidCommand) h (fun h => kita_er (ert_mk (PySem.W.mg_of KX G a_InvalidMarking) er_InvalidMarking) (PySem.W.mg_of KX G a_InvalidMarking) h (fun h => kita_er (ert_mk (PySem.W.mg_of KX G a_InvalidName) er_InvalidName) (PySem.W.mg_of KX G a_InvalidName) h (fun h => kita_er (ert_mk (PySem.W.mg_of KX G a_InvalidNumber) er_InvalidNumber) (PySem.W.mg_of KX G a_InvalidNumber) h (fun h => kita_er (ert_mk (PySem.W.mg_of KX G a_InvalidOperation) er_InvalidOperation) (PySem.W.mg_of KX G a_InvalidOperation) h (fun h => kita_er (ert_mk (PySem.W.mg_of KX G a_InvalidOrder) er_InvalidOrder) (PySem.W.mg_of KX G a_InvalidOrder) h (fun h => kita_er (ert_mk (PySem.W.mg_of KX G a_InvalidPattern) er_InvalidPattern) (PySem.W.mg_of KX G a_InvalidPattern) h (fun h => kita_er (ert_mk (PySem.W.mg_of KX G a_InvalidRule) er_InvalidRule) (PySem.W.mg_of KX G a_InvalidRule) h (fun h => kita_er (ert_mk (PySem.W.mg_of KX G a_InvalidRun) er_InvalidRun) (PySem.W.mg_of KX G a_InvalidRun) h (fun h => kita_er (ert_mk (PySem.W.mg_of KX G a_InvalidTransport) er_InvalidTransport) (PySem.W.mg_of KX G a_InvalidTransport) h (fun h => kita_er (ert_mk (PySem.W.mg_of KX G a_LetterError) er_LetterError) (PySem.W.mg_of KX G a_LetterError) h (fun h => kita_er (ert_mk (PySem.W.mg_of KX G a_NoOrder) er_NoOrder) (PySem.W.mg_of KX G a_NoOrder) h (fun h => kita_er (ert_mk (PySem.W.mg_of KX G a_NothingToUndo) er_NothingToUndo) (PySem.W.mg_of KX G a_NothingToUndo) h (fun h => kita_er (ert_mk (PySem.W.mg_of KX G a_ParseError) er_ParseError) (PySem.W.mg_of KX G a_ParseError) h (fun h => kita_er (ert_mk (PySem.W.mg_of KX G a_TooMany) er_TooMany) (PySem.W.mg_of KX G a_TooMany) h (fun h => kita_er (ert_mk (PySem.W.mg_of KX G a_UnknownName) er_UnknownName) (PySem.W.mg_of KX G a_UnknownName) h fun _ => kita_nil))))))))))))))))) kt_InvalidOperation⟩, ⟨C_InvalidOrder, PySem.W.mg_of KX G a_InvalidOrder, (fun h => kita_er (ert_mk (PySem.W.mg_of KX G a_Held) er_Held) (PySem.W.mg_of KX G a_Held) h (fun h => kita_er (ert_mk (PySem.W.mg_of KX G a_InvalidCommand) er_InvalidCommand) (PySem.W.mg_of KX G a_InvalidCommand) h (fun h => kita_er (ert_mk (PySem.W.mg_of KX G a_InvalidMarking) er_InvalidMarking) (PySem.W.mg_of KX G a_InvalidMarking) h (fun h => kita_er (ert_mk (PySem.W.mg_of KX G a_InvalidName) er_InvalidName) (PySem.W.mg_of KX G a_InvalidName) h (fun h => kita_er (ert_mk (PySem.W.mg_of KX G a_InvalidNumber) er_InvalidNumber) (PySem.W.mg_of KX G a_InvalidNumber) h (fun h => kita_er (ert_mk (PySem.W.mg_of KX G a_InvalidOperation) er_InvalidOperation) (PySem.W.mg_of KX G a_InvalidOperation) h (fun h => kita_er (ert_mk (PySem.W.mg_of KX G a_InvalidOrder) er_InvalidOrder) (PySem.W.mg_of KX G a_InvalidOrder) h (fun h => kita_er (ert_mk (PySem.W.mg_of KX G a_InvalidPattern) er_InvalidPattern) (PySem.W.mg_of KX G a_InvalidPattern) h (fun h => kita_er (ert_mk (PySem.W.mg_of KX G a_InvalidRule) er_InvalidRule) (PySem.W.mg_of KX G a_InvalidRule) h (fun h => kita_er (ert_mk (PySem.W.mg_of KX G a_InvalidRun) er_InvalidRun) (PySem.W.mg_of KX G a_InvalidRun) h (fun h => kita_er (ert_mk (PySem.W.mg_of KX G a_InvalidTransport) er_InvalidTransport) (PySem.W.mg_of KX G a_InvalidTransport) h (fun h => kita_er (ert_mk (PySem.W.mg_of KX G a_LetterError) er_LetterError) (PySem.W.mg_of KX G a_LetterError) h (fun h => kita_er (ert_mk (PySem.W.mg_of KX G a_NoOrder) er_NoOrder) (PySem.W.mg_of KX G a_NoOrder) h (fun h => kita_er (ert_mk (PySem.W.mg_of KX G a_NothingToUndo) er_NothingToUndo) (PySem.W.mg_of KX G a_NothingToUndo) h (fun h => kita_er (ert_mk (PySem.W.mg_of KX G a_ParseError) er_ParseError) (PySem.W.mg_of KX G a_ParseError) h (fun h => kita_er (ert_mk (PySem.W.mg_of KX G a_TooMany) er_TooMany) (PySem.W.mg_of KX G a_TooMany) h (fun h => kita_er (ert_mk (PySem.W.mg_of KX G a_UnknownName) er_UnknownName) (PySem.W.mg_of KX G a_UnknownName) h fun _ => kita_nil))))))))))))))))) kt_InvalidOrder⟩, ⟨C_InvalidPattern, PySem.W.mg_of KX G a_InvalidPattern, (fun h => kita_er (ert_mk (PySem.W.mg_of KX G a_Held) er_Held) (PySem.W.mg_of KX G a_Held) h (fun h => kita_er (ert_mk (PySem.W.mg_of KX G a_InvalidCommand) er_InvalidCommand) (PySem.W.mg_of KX G a_InvalidCommand) h (fun h => kita_er (ert_mk (PySem.W.mg_of KX G a_InvalidMarking) er_InvalidMarking) (PySem.W.mg_of KX G a_InvalidMarking) h (fun h => kita_er (ert_mk (PySem.W.mg_of KX G a_InvalidName) er_InvalidName) (PySem.W.mg_of KX G a_InvalidName) h (fun h => kita_er (ert_mk (PySem.W.mg_of KX G a_InvalidNumber) er_InvalidNumber) (PySem.W.mg_of KX G a_InvalidNumber) h (fun h => kita_er (ert_mk (PySem.W.mg_of KX G a_InvalidOperation) er_InvalidOperation) (PySem.W.mg_of KX G a_InvalidOperation) h (fun h => kita_er (ert_mk (PySem.W.mg_of KX G a_InvalidOrder) er_InvalidOrder) (PySem.W.mg_of KX G a_InvalidOrder) h (fun h => kita_er (ert_mk (PySem.W.mg_of KX G a_InvalidPattern) er_InvalidPattern) (PySem.W.mg_of KX G a_InvalidPattern) h (fun h => kita_er (ert_mk (PySem.W.mg_of KX G a_InvalidRule) er_InvalidRule) (PySem.W.mg_of KX G a_InvalidRule) h (fun h => kita_er (ert_mk (PySem.W.mg_of KX G a_InvalidRun) er_InvalidRun) (PySem.W.mg_of KX G a_InvalidRun) h (fun h => kita_er (ert_mk (PySem.W.mg_of KX G a_InvalidTransport) er_InvalidTransport) (PySem.W.mg_of KX G a_InvalidTransport) h (fun h => kita_er (ert_mk (PySem.W.mg_of KX G a_LetterError) er_LetterError) (PySem.W.mg_of KX G a_LetterError) h (fun h => kita_er (ert_mk (PySem.W.mg_of KX G a_NoOrder) er_NoOrder) (PySem.W.mg_of KX G a_NoOrder) h (fun h => kita_er (ert_mk (PySem.W.mg_of KX G a_NothingToUndo) er_NothingToUndo) (PySem.W.mg_of KX G a_NothingToUndo) h (fun h => kita_er (ert_mk (PySem.W.mg_of KX G a_ParseError) er_ParseError) (PySem.W.mg_of KX G a_ParseError) h (fun h => kita_er (ert_mk (PySem.W.mg_of KX G a_TooMany) er_TooMany) (PySem.W.mg_of KX G a_TooMany) h (fun h => kita_er (ert_mk (PySem.W.mg_of KX G a_UnknownName) er_UnknownName) (PySem.W.mg_of KX G a_UnknownName) h fun _ => kita_nil))))))))))))))))) kt_InvalidPattern⟩, ⟨C_InvalidRule, PySem.W.mg_of KX G a_InvalidRule, (fun h => kita_er (ert_mk (PySem.W.mg_of KX G a_Held) er_Held) (PySem.W.mg_of KX G a_Held) h (fun h => kita_er (ert_mk (PySem.W.mg_of KX G a_InvalidCommand) er_InvalidCommand) (PySem.W.mg_of KX G a_InvalidCommand) h (fun h => kita_er (ert_mk (PySem.W.mg_of KX G a_InvalidMarking) er_InvalidMarking) (PySem.W.mg_of KX G a_InvalidMarking) h (fun h => kita_er (ert_mk (PySem.W.mg_of KX G a_InvalidName) er_InvalidName) (PySem.W.mg_of KX G a_InvalidName) h (fun h => kita_er (ert_mk (PySem.W.mg_of KX G a_InvalidNumber) er_InvalidNumber) (PySem.W.mg_of KX G a_InvalidNumber) h (fun h => kita_er (ert_mk (PySem.W.mg_of KX G a_InvalidOperation) er_InvalidOperation) (PySem.W.mg_of KX G a_InvalidOperation) h (fun h => kita_er (ert_mk (PySem.W.mg_of KX G a_InvalidOrder) er_InvalidOrder) (PySem.W.mg_of KX G a_InvalidOrder) h (fun h => kita_er (ert_mk (PySem.W.mg_of KX G a_InvalidPattern) er_InvalidPattern) (PySem.W.mg_of KX G a_InvalidPattern) h (fun h => kita_er (ert_mk (PySem.W.mg_of KX G a_InvalidRule) er_InvalidRule) (PySem.W.mg_of KX G a_InvalidRule) h (fun h => kita_er (ert_mk (PySem.W.mg_of KX G a_InvalidRun) er_InvalidRun) (PySem.W.mg_of KX G a_InvalidRun) h (fun h => kita_er (ert_mk (PySem.W.mg_of KX G a_InvalidTransport) er_InvalidTransport) (PySem.W.mg_of KX G a_InvalidTransport) h (fun h => kita_er (ert_mk (PySem.W.mg_of KX G a_LetterError) er_LetterError) (PySem.W.mg_of KX G a_LetterError) h (fun h => kita_er (ert_mk (PySem.W.mg_of KX G a_NoOrder) er_NoOrder) (PySem.W.mg_of KX G a_NoOrder) h (fun h => kita_er (ert_mk (PySem.W.mg_of KX G a_NothingToUndo) er_NothingToUndo) (PySem.W.mg_of KX G a_NothingToUndo) h (fun h => kita_er (ert_mk (PySem.W.mg_of KX G a_ParseError) er_ParseError) (PySem.W.mg_of KX G a_ParseError) h (fun h => kita_er (ert_mk (PySem.W.mg_of KX G a_TooMany) er_TooMany) (PySem.W.mg_of KX G a_TooMany) h (fun h => kita_er (ert_mk (PySem.W.mg_of KX G a_UnknownName) er_UnknownName) (PySem.W.mg_of KX G a_UnknownName) h fun _ => kita_nil))))))))))))))))) kt_InvalidRule⟩, ⟨C_InvalidRun, PySem.W.mg_of KX G a_InvalidRun, (fun h => kita_er (ert_mk (PySem.W.mg_of KX G a_Held) er_Held) (PySem.W.mg_of KX G a_Held) h (fun h => kita_er (ert_mk (PySem.W.mg_of KX G a_InvalidCommand) er_InvalidCommand) (PySem.W.mg_of KX G a_InvalidCommand) h (fun h => kita_er (ert_mk (PySem.W.mg_of KX G a_InvalidMarking) er_InvalidMarking) (PySem.W.mg_of KX G a_InvalidMarking) h (fun h => kita_er (ert_mk (PySem.W.mg_of KX G a_InvalidName) er_InvalidName) (PySem.W.mg_of KX G a_InvalidName) h (fun h => kita_er (ert_mk (PySem.W.mg_of KX G a_InvalidNumber) er_InvalidNumber) (PySem.W.mg_of KX G a_InvalidNumber) h (fun h => kita_er (ert_mk (PySem.W.mg_of KX G a_InvalidOperation) er_InvalidOperation) (PySem.W.mg_of KX G a_InvalidOperation) h (fun h => kita_er (ert_mk (PySem.W.mg_of KX G a_InvalidOrder) er_InvalidOrder) (PySem.W.mg_of KX G a_InvalidOrder) h (fun h => kita_er (ert_mk (PySem.W.mg_of KX G a_InvalidPattern) er_InvalidPattern) (PySem.W.mg_of KX G a_InvalidPattern) h (fun h => kita_er (ert_mk (PySem.W.mg_of KX G a_InvalidRule) er_InvalidRule) (PySem.W.mg_of KX G a_InvalidRule) h (fun h => kita_er (ert_mk (PySem.W.mg_of KX G a_InvalidRun) er_InvalidRun) (PySem.W.mg_of KX G a_InvalidRun) h (fun h => kita_er (ert_mk (PySem.W.mg_of KX G a_InvalidTransport) er_InvalidTransport) (PySem.W.mg_of KX G a_InvalidTransport) h (fun h => kita_er (ert_mk (PySem.W.mg_of KX G a_LetterError) er_LetterError) (PySem.W.mg_of KX G a_LetterError) h (fun h => kita_er (ert_mk (PySem.W.mg_of KX G a_NoOrder) er_NoOrder) (PySem.W.mg_of KX G a_NoOrder) h (fun h => kita_er (ert_mk (PySem.W.mg_of KX G a_NothingToUndo) er_NothingToUndo) (PySem.W.mg_of KX G a_NothingToUndo) h (fun h => kita_er (ert_mk (PySem.W.mg_of KX G a_ParseError) er_ParseError) (PySem.W.mg_of KX G a_ParseError) h (fun h => kita_er (ert_mk (PySem.W.mg_of KX G a_TooMany) er_TooMany) (PySem.W.mg_of KX G a_TooMany) h (fun h => kita_er (ert_mk (PySem.W.mg_of KX G a_UnknownName) er_UnknownName) (PySem.W.mg_of KX G a_UnknownName) h fun _ => kita_nil))))))))))))))))) kt_InvalidRun⟩, ⟨C_InvalidTransport, PySem.W.mg_of KX G a_InvalidTransport, (fun h => kita_er (ert_mk (PySem.W.mg_of KX G a_Held) er_Held) (PySem.W.mg_of KX G a_Held) h (fun h => kita_er (ert_mk (PySem.W.mg_of KX G a_InvalidCommand) er_InvalidCommand) (PySem.W.mg_of KX G a_InvalidCommand) h (fun h => kita_er (ert_mk (PySem.W.mg_of KX G a_InvalidMarking) er_InvalidMarking) (PySem.W.mg_of KX G a_InvalidMarking) h (fun h => kita_er (ert_mk (PySem.W.mg_of KX G a_InvalidName) er_InvalidName) (PySem.W.mg_of KX G a_InvalidName) h (fun h => kita_er (ert_mk (PySem.W.mg_of KX G a_InvalidNumber) er_InvalidNumber) (PySem.W.mg_of KX G a_InvalidNumber) h (fun h => kita_er (ert_mk (PySem.W.mg_of KX G a_InvalidOperation) er_InvalidOperation) (PySem.W.mg_of KX G a_InvalidOperation) h (fun h => kita_er (ert_mk (PySem.W.mg_of KX G a_InvalidOrder) er_InvalidOrder) (PySem.W.mg_of KX G a_InvalidOrder) h (fun h => kita_er (ert_mk (PySem.W.mg_of KX G a_InvalidPattern) er_InvalidPattern) (PySem.W.mg_of KX G a_InvalidPattern) h (fun h => kita_er (ert_mk (PySem.W.mg_of KX G a_InvalidRule) er_InvalidRule) (PySem.W.mg_of KX G a_InvalidRule) h (fun h => kita_er (ert_mk (PySem.W.mg_of KX G a_InvalidRun) er_InvalidRun) (PySem.W.mg_of KX G a_InvalidRun) h (fun h => kita_er (ert_mk (PySem.W.mg_of KX G a_InvalidTransport) er_InvalidTransport) (PySem.W.mg_of KX G a_InvalidTransport) h (fun h => kita_er (ert_mk (PySem.W.mg_of KX G a_LetterError) er_LetterError) (PySem.W.mg_of KX G a_LetterError) h (fun h => kita_er (ert_mk (PySem.W.mg_of KX G a_NoOrder) er_NoOrder) (PySem.W.mg_of KX G a_NoOrder) h (fun h => kita_er (ert_mk (PySem.W.mg_of KX G a_NothingToUndo) er_NothingToUndo) (PySem.W.mg_of KX G a_NothingToUndo) h (fun h => kita_er (ert_mk (PySem.W.mg_of KX G a_ParseError) er_ParseError) (PySem.W.mg_of KX G a_ParseError) h (fun h => kita_er (ert_mk (PySem.W.mg_of KX G a_TooMany) er_TooMany) (PySem.W.mg_of KX G a_TooMany) h (fun h => kita_er (ert_mk (PySem.W.mg_of KX G a_UnknownName) er_UnknownName) (PySem.W.mg_of KX G a_UnknownName) h fun _ => kita_nil))))))))))))))))) kt_InvalidTransport⟩, (fun h => kita_er (ert_mk (PySem.W.mg_of KX G a_Held) er_Held) (PySem.W.mg_of KX G a_Held) h (fun h => kita_er (ert_mk (PySem.W.mg_of KX G a_InvalidCommand) er_InvalidCommand) (PySem.W.mg_of KX G a_InvalidCommand) h (fun h => kita_er (ert_mk (PySem.W.mg_of KX G a_InvalidMarking) er_InvalidMarking) (PySem.W.mg_of KX G a_InvalidMarking) h (fun h => kita_er (ert_mk (PySem.W.mg_of KX G a_InvalidName) er_InvalidName) (PySem.W.mg_of KX G a_InvalidName) h (fun h => kita_er (ert_mk (PySem.W.mg_of KX G a_InvalidNumber) er_InvalidNumber) (PySem.W.mg_of KX G a_InvalidNumber) h (fun h => kita_er (ert_mk (PySem.W.mg_of KX G a_InvalidOperation) er_InvalidOperation) (PySem.W.mg_of KX G a_InvalidOperation) h (fun h => kita_er (ert_mk (PySem.W.mg_of KX G a_InvalidOrder) er_InvalidOrder) (PySem.W.mg_of KX G a_InvalidOrder) h (fun h => kita_er (ert_mk (PySem.W.mg_of KX G a_InvalidPattern) er_InvalidPattern) (PySem.W.mg_of KX G a_InvalidPattern) h (fun h => kita_er (ert_mk (PySem.W.mg_of KX G a_InvalidRule) er_InvalidRule) (PySem.W.mg_of KX G a_InvalidRule) h (fun h => kita_er (ert_mk (PySem.W.mg_of KX G a_InvalidRun) er_InvalidRun) (PySem.W.mg_of KX G a_InvalidRun) h (fun h => kita_er (ert_mk (PySem.W.mg_of KX G a_InvalidTransport) er_InvalidTransport) (PySem.W.mg_of KX G a_InvalidTransport) h (fun h => kita_er (ert_mk (PySem.W.mg_of KX G a_LetterError) er_LetterError) (PySem.W.mg_of KX G a_LetterError) h (fun h => kita_er (ert_mk (PySem.W.mg_of KX G a_NoOrder) er_NoOrder) (PySem.W.mg_of KX G a_NoOrder) h (fun h => kita_er (ert_mk (PySem.W.mg_of KX G a_NothingToUndo) er_NothingToUndo) (PySem.W.mg_of KX G a_NothingToUndo) h (fun h => kita_er (ert_mk (PySem.W.mg_of KX G a_ParseError) er_ParseError) (PySem.W.mg_of KX G a_ParseError) h (fun h => kita_er (ert_mk (PySem.W.mg_of KX G a_TooMany) er_TooMany) (PySem.W.mg_of KX G a_TooMany) h (fun h => kita_er (ert_mk (PySem.W.mg_of KX G a_UnknownName) er_UnknownName) (PySem.W.mg_of KX G a_UnknownName) h fun _ => kita_nil))))))))))))))))) kt_KeyError, ⟨C_LetterError, PySem.W.mg_of KX G a_LetterError, (fun h => kita_er (ert_mk (PySem.W.mg_of KX G a_Held) er_Held) (PySem.W.mg_of KX G a_Held) h (fun h => kita_er (ert_mk (PySem.W.mg_of KX G a_InvalidCommand) er_InvalidCommand) (PySem.W.mg_of KX G a_InvalidCommand) h (fun h => kita_er (ert_mk (PySem.W.mg_of KX G a_InvalidMarking) er_InvalidMarking) (PySem.W.mg_of KX G a_InvalidMarking) h (fun h => kita_er (ert_mk (PySem.W.mg_of KX G a_InvalidName) er_InvalidName) (PySem.W.mg_of KX G a_InvalidName) h (fun h => kita_er (ert_mk (PySem.W.mg_of KX G a_InvalidNumber) er_InvalidNumber) (PySem.W.mg_of KX G a_InvalidNumber) h (fun h => kita_er (ert_mk (PySem.W.mg_of KX G a_InvalidOperation) er_InvalidOperation) (PySem.W.mg_of KX G a_InvalidOperation) h (fun h => kita_er (ert_mk (PySem.W.mg_of KX G a_InvalidOrder) er_InvalidOrder) (PySem.W.mg_of KX G a_InvalidOrder) h (fun h => kita_er (ert_mk (PySem.W.mg_of KX G a_InvalidPattern) er_InvalidPattern) (PySem.W.mg_of KX G a_InvalidPattern) h (fun h => kita_er (ert_mk (PySem.W.mg_of KX G a_InvalidRule) er_InvalidRule) (PySem.W.mg_of KX G a_InvalidRule) h (fun h => kita_er (ert_mk (PySem.W.mg_of KX G a_InvalidRun) er_InvalidRun) (PySem.W.mg_of KX G a_InvalidRun) h (fun h => kita_er (ert_mk (PySem.W.mg_of KX G a_InvalidTransport) er_InvalidTransport) (PySem.W.mg_of KX G a_InvalidTransport) h (fun h => kita_er (ert_mk (PySem.W.mg_of KX G a_LetterError) er_LetterError) (PySem.W.mg_of KX G a_LetterError) h (fun h => kita_er (ert_mk (PySem.W.mg_of KX G a_NoOrder) er_NoOrder) (PySem.W.mg_of KX G a_NoOrder) h (fun h => kita_er (ert_mk (PySem.W.mg_of KX G a_NothingToUndo) er_NothingToUndo) (PySem.W.mg_of KX G a_NothingToUndo) h (fun h => kita_er (ert_mk (PySem.W.mg_of KX G a_ParseError) er_ParseError) (PySem.W.mg_of KX G a_ParseError) h (fun h => kita_er (ert_mk (PySem.W.mg_of KX G a_TooMany) er_TooMany) (PySem.W.mg_of KX G a_TooMany) h (fun h => kita_er (ert_mk (PySem.W.mg_of KX G a_UnknownName) er_UnknownName) (PySem.W.mg_of KX G a_UnknownName) h fun _ => kita_nil))))))))))))))))) kt_LetterError⟩, (fun h => kita_er (ert_mk (PySem.W.mg_of KX G a_Held) er_Held) (PySem.W.mg_of KX G a_Held) h (fun h => kita_er (ert_mk (PySem.W.mg_of KX G a_InvalidCommand) er_InvalidCommand) (PySem.W.mg_of KX G a_InvalidCommand) h (fun h => kita_er (ert_mk (PySem.W.mg_of KX G a_InvalidMarking) er_InvalidMarking) (PySem.W.mg_of KX G a_InvalidMarking) h (fun h => kita_er (ert_mk (PySem.W.mg_of KX G a_InvalidName) er_InvalidName) (PySem.W.mg_of KX G a_InvalidName) h (fun h => kita_er (ert_mk (PySem.W.mg_of KX G a_InvalidNumber) er_InvalidNumber) (PySem.W.mg_of KX G a_InvalidNumber) h (fun h => kita_er (ert_mk (PySem.W.mg_of KX G a_InvalidOperation) er_InvalidOperation) (PySem.W.mg_of KX G a_InvalidOperation) h (fun h => kita_er (ert_mk (PySem.W.mg_of KX G a_InvalidOrder) er_InvalidOrder) (PySem.W.mg_of KX G a_InvalidOrder) h (fun h => kita_er (ert_mk (PySem.W.mg_of KX G a_InvalidPattern) er_InvalidPattern) (PySem.W.mg_of KX G a_InvalidPattern) h (fun h => kita_er (ert_mk (PySem.W.mg_of KX G a_InvalidRule) er_InvalidRule) (PySem.W.mg_of KX G a_InvalidRule) h (fun h => kita_er (ert_mk (PySem.W.mg_of KX G a_InvalidRun) er_InvalidRun) (PySem.W.mg_of KX G a_InvalidRun) h (fun h => kita_er (ert_mk (PySem.W.mg_of KX G a_InvalidTransport) er_InvalidTransport) (PySem.W.mg_of KX G a_InvalidTransport) h (fun h => kita_er (ert_mk (PySem.W.mg_of KX G a_LetterError) er_LetterError) (PySem.W.mg_of KX G a_LetterError) h (fun h => kita_er (ert_mk (PySem.W.mg_of KX G a_NoOrder) er_NoOrder) (PySem.W.mg_of KX G a_NoOrder) h (fun h => kita_er (ert_mk (PySem.W.mg_of KX G a_NothingToUndo) er_NothingToUndo) (PySem.W.mg_of KX G a_NothingToUndo) h (fun h => kita_er (ert_mk (PySem.W.mg_of KX G a_ParseError) er_ParseError) (PySem.W.mg_of KX G a_ParseError) h (fun h => kita_er (ert_mk (PySem.W.mg_of KX G a_TooMany) er_TooMany) (PySem.W.mg_of KX G a_TooMany) h (fun h => kita_er (ert_mk (PySem.W.mg_of KX G a_UnknownName) er_UnknownName) (PySem.W.mg_of KX G a_UnknownName) h fun _ => kita_nil))))))))))))))))) kt_LookupError, ⟨C_NoOrder, PySem.W.mg_of KX G a_NoOrder, (fun h => kita_er (ert_mk (PySem.W.mg_of KX G a_Held) er_Held) (PySem.W.mg_of KX G a_Held) h (fun h => kita_er (ert_mk (PySem.W.mg_of KX G a_InvalidCommand) er_InvalidCommand) (PySem.W.mg_of KX G a_InvalidCommand) h (fun h => kita_er (ert_mk (PySem.W.mg_of KX G a_InvalidMarking) er_InvalidMarking) (PySem.W.mg_of KX G a_InvalidMarking) h (fun h => kita_er (ert_mk (PySem.W.mg_of KX G a_InvalidName) er_InvalidName) (PySem.W.mg_of KX G a_InvalidName) h (fun h => kita_er (ert_mk (PySem.W.mg_of KX G a_InvalidNumber) er_InvalidNumber) (PySem.W.mg_of KX G a_InvalidNumber) h (fun h => kita_er (ert_mk (PySem.W.mg_of KX G a_InvalidOperation) er_InvalidOperation) (PySem.W.mg_of KX G a_InvalidOperation) h (fun h => kita_er (ert_mk (PySem.W.mg_of KX G a_InvalidOrder) er_InvalidOrder) (PySem.W.mg_of KX G a_InvalidOrder) h (fun h => kita_er (ert_mk (PySem.W.mg_of KX G a_InvalidPattern) er_InvalidPattern) (PySem.W.mg_of KX G a_InvalidPattern) h (fun h => kita_er (ert_mk (PySem.W.mg_of KX G a_InvalidRule) er_InvalidRule) (PySem.W.mg_of KX G a_InvalidRule) h (fun h => kita_er (ert_mk (PySem.W.mg_of KX G a_InvalidRun) er_InvalidRun) (PySem.W.mg_of KX G a_InvalidRun) h (fun h => kita_er (ert_mk (PySem.W.mg_of KX G a_InvalidTransport) er_InvalidTransport) (PySem.W.mg_of KX G a_InvalidTransport) h (fun h => kita_er (ert_mk (PySem.W.mg_of KX G a_LetterError) er_LetterError) (PySem.W.mg_of KX G a_LetterError) h (fun h => kita_er (ert_mk (PySem.W.mg_of KX G a_NoOrder) er_NoOrder) (PySem.W.mg_of KX G a_NoOrder) h (fun h => kita_er (ert_mk (PySem.W.mg_of KX G a_NothingToUndo) er_NothingToUndo) (PySem.W.mg_of KX G a_NothingToUndo) h (fun h => kita_er (ert_mk (PySem.W.mg_of KX G a_ParseError) er_ParseError) (PySem.W.mg_of KX G a_ParseError) h (fun h => kita_er (ert_mk (PySem.W.mg_of KX G a_TooMany) er_TooMany) (PySem.W.mg_of KX G a_TooMany) h (fun h => kita_er (ert_mk (PySem.W.mg_of KX G a_UnknownName) er_UnknownName) (PySem.W.mg_of KX G a_UnknownName) h fun _ => kita_nil))))))))))))))))) kt_NoOrder⟩, ⟨C_NothingToUndo, PySem.W.mg_of KX G a_NothingToUndo, (fun h => kita_er (ert_mk (PySem.W.mg_of KX G a_Held) er_Held) (PySem.W.mg_of KX G a_Held) h (fun h => kita_er (ert_mk (PySem.W.mg_of KX G a_InvalidCommand) er_InvalidCommand) (PySem.W.mg_of KX G a_InvalidCommand) h (fun h => kita_er (ert_mk (PySem.W.mg_of KX G a_InvalidMarking) er_InvalidMarking) (PySem.W.mg_of KX G a_InvalidMarking) h (fun h => kita_er (ert_mk (PySem.W.mg_of KX G a_InvalidName) er_InvalidName) (PySem.W.mg_of KX G a_InvalidName) h (fun h => kita_er (ert_mk (PySem.W.mg_of KX G a_InvalidNumber) er_InvalidNumber) (PySem.W.mg_of KX G a_InvalidNumber) h (fun h => kita_er (ert_mk (PySem.W.mg_of KX G a_InvalidOperation) er_InvalidOperation) (PySem.W.mg_of KX G a_InvalidOperation) h (fun h => kita_er (ert_mk (PySem.W.mg_of KX G a_InvalidOrder) er_InvalidOrder) (PySem.W.mg_of KX G a_InvalidOrder) h (fun h => kita_er (ert_mk (PySem.W.mg_of KX G a_InvalidPattern) er_InvalidPattern) (PySem.W.mg_of KX G a_InvalidPattern) h (fun h => kita_er (ert_mk (PySem.W.mg_of KX G a_InvalidRule) er_InvalidRule) (PySem.W.mg_of KX G a_InvalidRule) h (fun h => kita_er (ert_mk (PySem.W.mg_of KX G a_InvalidRun) er_InvalidRun) (PySem.W.mg_of KX G a_InvalidRun) h (fun h => kita_er (ert_mk (PySem.W.mg_of KX G a_InvalidTransport) er_InvalidTransport) (PySem.W.mg_of KX G a_InvalidTransport) h (fun h => kita_er (ert_mk (PySem.W.mg_of KX G a_LetterError) er_LetterError) (PySem.W.mg_of KX G a_LetterError) h (fun h => kita_er (ert_mk (PySem.W.mg_of KX G a_NoOrder) er_NoOrder) (PySem.W.mg_of KX G a_NoOrder) h (fun h => kita_er (ert_mk (PySem.W.mg_of KX G a_NothingToUndo) er_NothingToUndo) (PySem.W.mg_of KX G a_NothingToUndo) h (fun h => kita_er (ert_mk (PySem.W.mg_of KX G a_ParseError) er_ParseError) (PySem.W.mg_of KX G a_ParseError) h (fun h => kita_er (ert_mk (PySem.W.mg_of KX G a_TooMany) er_TooMany) (PySem.W.mg_of KX G a_TooMany) h (fun h => kita_er (ert_mk (PySem.W.mg_of KX G a_UnknownName) er_UnknownName) (PySem.W.mg_of KX G a_UnknownName) h fun _ => kita_nil))))))))))))))))) kt_NothingToUndo⟩, (fun h => kita_er (ert_mk (PySem.W.mg_of KX G a_Held) er_Held) (PySem.W.mg_of KX G a_Held) h (fun h => kita_er (ert_mk (PySem.W.mg_of KX G a_InvalidCommand) er_InvalidCommand) (PySem.W.mg_of KX G a_InvalidCommand) h (fun h => kita_er (ert_mk (PySem.W.mg_of KX G a_InvalidMarking) er_InvalidMarking) (PySem.W.mg_of KX G a_InvalidMarking) h (fun h => kita_er (ert_mk (PySem.W.mg_of KX G a_InvalidName) er_InvalidName) (PySem.W.mg_of KX G a_InvalidName) h (fun h => kita_er (ert_mk (PySem.W.mg_of KX G a_InvalidNumber) er_InvalidNumber) (PySem.W.mg_of KX G a_InvalidNumber) h (fun h => kita_er (ert_mk (PySem.W.mg_of KX G a_InvalidOperation) er_InvalidOperation) (PySem.W.mg_of KX G a_InvalidOperation) h (fun h => kita_er (ert_mk (PySem.W.mg_of KX G a_InvalidOrder) er_InvalidOrder) (PySem.W.mg_of KX G a_InvalidOrder) h (fun h => kita_er (ert_mk (PySem.W.mg_of KX G a_InvalidPattern) er_InvalidPattern) (PySem.W.mg_of KX G a_InvalidPattern) h (fun h => kita_er (ert_mk (PySem.W.mg_of KX G a_InvalidRule) er_InvalidRule) (PySem.W.mg_of KX G a_InvalidRule) h (fun h => kita_er (ert_mk (PySem.W.mg_of KX G a_InvalidRun) er_InvalidRun) (PySem.W.mg_of KX G a_InvalidRun) h (fun h => kita_er (ert_mk (PySem.W.mg_of KX G a_InvalidTransport) er_InvalidTransport) (PySem.W.mg_of KX G a_InvalidTransport) h (fun h => kita_er (ert_mk (PySem.W.mg_of KX G a_LetterError) er_LetterError) (PySem.W.mg_of KX G a_LetterError) h (fun h => kita_er (ert_mk (PySem.W.mg_of KX G a_NoOrder) er_NoOrder) (PySem.W.mg_of KX G a_NoOrder) h (fun h => kita_er (ert_mk (PySem.W.mg_of KX G a_NothingToUndo) er_NothingToUndo) (PySem.W.mg_of KX G a_NothingToUndo) h (fun h => kita_er (ert_mk (PySem.W.mg_of KX G a_ParseError) er_ParseError) (PySem.W.mg_of KX G a_ParseError) h (fun h => kita_er (ert_mk (PySem.W.mg_of KX G a_TooMany) er_TooMany) (PySem.W.mg_of KX G a_TooMany) h (fun h => kita_er (ert_mk (PySem.W.mg_of KX G a_UnknownName) er_UnknownName) (PySem.W.mg_of KX G a_UnknownName) h fun _ => kita_nil))))))))))))))))) kt_OverflowError, ⟨C_ParseError, PySem.W.mg_of KX G a_ParseError, (fun h => kita_er (ert_mk (PySem.W.mg_of KX G a_Held) er_Held) (PySem.W.mg_of KX G a_Held) h (fun h => kita_er (ert_mk (PySem.W.mg_of KX G a_InvalidCommand) er_InvalidCommand) (PySem.W.mg_of KX G a_InvalidCommand) h (fun h => kita_er (ert_mk (PySem.W.mg_of KX G a_InvalidMarking) er_InvalidMarking) (PySem.W.mg_of KX G a_InvalidMarking) h (fun h => kita_er (ert_mk (PySem.W.mg_of KX G a_InvalidName) er_InvalidName) (PySem.W.mg_of KX G a_InvalidName) h (fun h => kita_er (ert_mk (PySem.W.mg_of KX G a_InvalidNumber) er_InvalidNumber) (PySem.W.mg_of KX G a_InvalidNumber) h (fun h => kita_er (ert_mk (PySem.W.mg_of KX G a_InvalidOperation) er_InvalidOperation) (PySem.W.mg_of KX G a_InvalidOperation) h (fun h => kita_er (ert_mk (PySem.W.mg_of KX G a_InvalidOrder) er_InvalidOrder) (PySem.W.mg_of KX G a_InvalidOrder) h (fun h => kita_er (ert_mk (PySem.W.mg_of KX G a_InvalidPattern) er_InvalidPattern) (PySem.W.mg_of KX G a_InvalidPattern) h (fun h => kita_er (ert_mk (PySem.W.mg_of KX G a_InvalidRule) er_InvalidRule) (PySem.W.mg_of KX G a_InvalidRule) h (fun h => kita_er (ert_mk (PySem.W.mg_of KX G a_InvalidRun) er_InvalidRun) (PySem.W.mg_of KX G a_InvalidRun) h (fun h => kita_er (ert_mk (PySem.W.mg_of KX G a_InvalidTransport) er_InvalidTransport) (PySem.W.mg_of KX G a_InvalidTransport) h (fun h => kita_er (ert_mk (PySem.W.mg_of KX G a_LetterError) er_LetterError) (PySem.W.mg_of KX G a_LetterError) h (fun h => kita_er (ert_mk (PySem.W.mg_of KX G a_NoOrder) er_NoOrder) (PySem.W.mg_of KX G a_NoOrder) h (fun h => kita_er (ert_mk (PySem.W.mg_of KX G a_NothingToUndo) er_NothingToUndo) (PySem.W.mg_of KX G a_NothingToUndo) h (fun h => kita_er (ert_mk (PySem.W.mg_of KX G a_ParseError) er_ParseError) (PySem.W.mg_of KX G a_ParseError) h (fun h => kita_er (ert_mk (PySem.W.mg_of KX G a_TooMany) er_TooMany) (PySem.W.mg_of KX G a_TooMany) h (fun h => kita_er (ert_mk (PySem.W.mg_of KX G a_UnknownName) er_UnknownName) (PySem.W.mg_of KX G a_UnknownName) h fun _ => kita_nil))))))))))))))))) kt_ParseError⟩, (fun h => kita_er (ert_mk (PySem.W.mg_of KX G a_Held) er_Held) (PySem.W.mg_of KX G a_Held) h (fun h => kita_er (ert_mk (PySem.W.mg_of KX G a_InvalidCommand) er_InvalidCommand) (PySem.W.mg_of KX G a_InvalidCommand) h (fun h => kita_er (ert_mk (PySem.W.mg_of KX G a_InvalidMarking) er_InvalidMarking) (PySem.W.mg_of KX G a_InvalidMarking) h (fun h => kita_er (ert_mk (PySem.W.mg_of KX G a_InvalidName) er_InvalidName) (PySem.W.mg_of KX G a_InvalidName) h (fun h => kita_er (ert_mk (PySem.W.mg_of KX G a_InvalidNumber) er_InvalidNumber) (PySem.W.mg_of KX G a_InvalidNumber) h (fun h => kita_er (ert_mk (PySem.W.mg_of KX G a_InvalidOperation) er_InvalidOperation) (PySem.W.mg_of KX G a_InvalidOperation) h (fun h => kita_er (ert_mk (PySem.W.mg_of KX G a_InvalidOrder) er_InvalidOrder) (PySem.W.mg_of KX G a_InvalidOrder) h (fun h => kita_er (ert_mk (PySem.W.mg_of KX G a_InvalidPattern) er_InvalidPattern) (PySem.W.mg_of KX G a_InvalidPattern) h (fun h => kita_er (ert_mk (PySem.W.mg_of KX G a_InvalidRule) er_InvalidRule) (PySem.W.mg_of KX G a_InvalidRule) h (fun h => kita_er (ert_mk (PySem.W.mg_of KX G a_InvalidRun) er_InvalidRun) (PySem.W.mg_of KX G a_InvalidRun) h (fun h => kita_er (ert_mk (PySem.W.mg_of KX G a_InvalidTransport) er_InvalidTransport) (PySem.W.mg_of KX G a_InvalidTransport) h (fun h => kita_er (ert_mk (PySem.W.mg_of KX G a_LetterError) er_LetterError) (PySem.W.mg_of KX G a_LetterError) h (fun h => kita_er (ert_mk (PySem.W.mg_of KX G a_NoOrder) er_NoOrder) (PySem.W.mg_of KX G a_NoOrder) h (fun h => kita_er (ert_mk (PySem.W.mg_of KX G a_NothingToUndo) er_NothingToUndo) (PySem.W.mg_of KX G a_NothingToUndo) h (fun h => kita_er (ert_mk (PySem.W.mg_of KX G a_ParseError) er_ParseError) (PySem.W.mg_of KX G a_ParseError) h (fun h => kita_er (ert_mk (PySem.W.mg_of KX G a_TooMany) er_TooMany) (PySem.W.mg_of KX G a_TooMany) h (fun h => kita_er (ert_mk (PySem.W.mg_of KX G a_UnknownName) er_UnknownName) (PySem.W.mg_of KX G a_UnknownName) h fun _ => kita_nil))))))))))))))))) kt_RuntimeError, ⟨C_TooMany, PySem.W.mg_of KX G a_TooMany, (fun h => kita_er (ert_mk (PySem.W.mg_of KX G a_Held) er_Held) (PySem.W.mg_of KX G a_Held) h (fun h => kita_er (ert_mk (PySem.W.mg_of KX G a_InvalidCommand) er_InvalidCommand) (PySem.W.mg_of KX G a_InvalidCommand) h (fun h => kita_er (ert_mk (PySem.W.mg_of KX G a_InvalidMarking) er_InvalidMarking) (PySem.W.mg_of KX G a_InvalidMarking) h (fun h => kita_er (ert_mk (PySem.W.mg_of KX G a_InvalidName) er_InvalidName) (PySem.W.mg_of KX G a_InvalidName) h (fun h => kita_er (ert_mk (PySem.W.mg_of KX G a_InvalidNumber) er_InvalidNumber) (PySem.W.mg_of KX G a_InvalidNumber) h (fun h => kita_er (ert_mk (PySem.W.mg_of KX G a_InvalidOperation) er_InvalidOperation) (PySem.W.mg_of KX G a_InvalidOperation) h (fun h => kita_er (ert_mk (PySem.W.mg_of KX G a_InvalidOrder) er_InvalidOrder) (PySem.W.mg_of KX G a_InvalidOrder) h (fun h => kita_er (ert_mk (PySem.W.mg_of KX G a_InvalidPattern) er_InvalidPattern) (PySem.W.mg_of KX G a_InvalidPattern) h (fun h => kita_er (ert_mk (PySem.W.mg_of KX G a_InvalidRule) er_InvalidRule) (PySem.W.mg_of KX G a_InvalidRule) h (fun h => kita_er (ert_mk (PySem.W.mg_of KX G a_InvalidRun) er_InvalidRun) (PySem.W.mg_of KX G a_InvalidRun) h (fun h => kita_er (ert_mk (PySem.W.mg_of KX G a_InvalidTransport) er_InvalidTransport) (PySem.W.mg_of KX G a_InvalidTransport) h (fun h => kita_er (ert_mk (PySem.W.mg_of KX G a_LetterError) er_LetterError) (PySem.W.mg_of KX G a_LetterError) h (fun h => kita_er (ert_mk (PySem.W.mg_of KX G a_NoOrder) er_NoOrder) (PySem.W.mg_of KX G a_NoOrder) h (fun h => kita_er (ert_mk (PySem.W.mg_of KX G a_NothingToUndo) er_NothingToUndo) (PySem.W.mg_of KX G a_NothingToUndo) h (fun h => kita_er (ert_mk (PySem.W.mg_of KX G a_ParseError) er_ParseError) (PySem.W.mg_of KX G a_ParseError) h (fun h => kita_er (ert_mk (PySem.W.mg_of KX G a_TooMany) er_TooMany) (PySem.W.mg_of KX G a_TooMany) h (fun h => kita_er (ert_mk (PySem.W.mg_of KX G a_UnknownName) er_UnknownName) (PySem.W.mg_of KX G a_UnknownName) h fun _ => kita_nil))))))))))))))))) kt_TooMany⟩, ⟨C_UnknownName, PySem.W.mg_of KX G a_UnknownName, (fun h => kita_er (ert_mk (PySem.W.mg_of KX G a_Held) er_Held) (PySem.W.mg_of KX G a_Held) h (fun h => kita_er (ert_mk (PySem.W.mg_of KX G a_InvalidCommand) er_InvalidCommand) (PySem.W.mg_of KX G a_InvalidCommand) h (fun h => kita_er (ert_mk (PySem.W.mg_of KX G a_InvalidMarking) er_InvalidMarking) (PySem.W.mg_of KX G a_InvalidMarking) h (fun h => kita_er (ert_mk (PySem.W.mg_of KX G a_InvalidName) er_InvalidName) (PySem.W.mg_of KX G a_InvalidName) h (fun h => kita_er (ert_mk (PySem.W.mg_of KX G a_InvalidNumber) er_InvalidNumber) (PySem.W.mg_of KX G a_InvalidNumber) h (fun h => kita_er (ert_mk (PySem.W.mg_of KX G a_InvalidOperation) er_InvalidOperation) (PySem.W.mg_of KX G a_InvalidOperation) h (fun h => kita_er (ert_mk (PySem.W.mg_of KX G a_InvalidOrder) er_InvalidOrder) (PySem.W.mg_of KX G a_InvalidOrder) h (fun h => kita_er (ert_mk (PySem.W.mg_of KX G a_InvalidPattern) er_InvalidPattern) (PySem.W.mg_of KX G a_InvalidPattern) h (fun h => kita_er (ert_mk (PySem.W.mg_of KX G a_InvalidRule) er_InvalidRule) (PySem.W.mg_of KX G a_InvalidRule) h (fun h => kita_er (ert_mk (PySem.W.mg_of KX G a_InvalidRun) er_InvalidRun) (PySem.W.mg_of KX G a_InvalidRun) h (fun h => kita_er (ert_mk (PySem.W.mg_of KX G a_InvalidTransport) er_InvalidTransport) (PySem.W.mg_of KX G a_InvalidTransport) h (fun h => kita_er (ert_mk (PySem.W.mg_of KX G a_LetterError) er_LetterError) (PySem.W.mg_of KX G a_LetterError) h (fun h => kita_er (ert_mk (PySem.W.mg_of KX G a_NoOrder) er_NoOrder) (PySem.W.mg_of KX G a_NoOrder) h (fun h => kita_er (ert_mk (PySem.W.mg_of KX G a_NothingToUndo) er_NothingToUndo) (PySem.W.mg_of KX G a_NothingToUndo) h (fun h => kita_er (ert_mk (PySem.W.mg_of KX G a_ParseError) er_ParseError) (PySem.W.mg_of KX G a_ParseError) h (fun h => kita_er (ert_mk (PySem.W.mg_of KX G a_TooMany) er_TooMany) (PySem.W.mg_of KX G a_TooMany) h (fun h => kita_er (ert_mk (PySem.W.mg_of KX G a_UnknownName) er_UnknownName) (PySem.W.mg_of KX G a_UnknownName) h fun _ => kita_nil))))))))))))))))) kt_UnknownName⟩, (fun h => kita_er (ert_mk (PySem.W.mg_of KX G a_Held) er_Held) (PySem.W.mg_of KX G a_Held) h (fun h => kita_er (ert_mk (PySem.W.mg_of KX G a_InvalidCommand) er_InvalidCommand) (PySem.W.mg_of KX G a_InvalidCommand) h (fun h => kita_er (ert_mk (PySem.W.mg_of KX G a_InvalidMarking) er_InvalidMarking) (PySem.W.mg_of KX G a_InvalidMarking) h (fun h => kita_er (ert_mk (PySem.W.mg_of KX G a_InvalidName) er_InvalidName) (PySem.W.mg_of KX G a_InvalidName) h (fun h => kita_er (ert_mk (PySem.W.mg_of KX G a_InvalidNumber) er_InvalidNumber) (PySem.W.mg_of KX G a_InvalidNumber) h (fun h => kita_er (ert_mk (PySem.W.mg_of KX G a_InvalidOperation) er_InvalidOperation) (PySem.W.mg_of KX G a_InvalidOperation) h (fun h => kita_er (ert_mk (PySem.W.mg_of KX G a_InvalidOrder) er_InvalidOrder) (PySem.W.mg_of KX G a_InvalidOrder) h (fun h => kita_er (ert_mk (PySem.W.mg_of KX G a_InvalidPattern) er_InvalidPattern) (PySem.W.mg_of KX G a_InvalidPattern) h (fun h => kita_er (ert_mk (PySem.W.mg_of KX G a_InvalidRule) er_InvalidRule) (PySem.W.mg_of KX G a_InvalidRule) h (fun h => kita_er (ert_mk (PySem.W.mg_of KX G a_InvalidRun) er_InvalidRun) (PySem.W.mg_of KX G a_InvalidRun) h (fun h => kita_er (ert_mk (PySem.W.mg_of KX G a_InvalidTransport) er_InvalidTransport) (PySem.W.mg_of KX G a_InvalidTransport) h (fun h => kita_er (ert_mk (PySem.W.mg_of KX G a_LetterError) er_LetterError) (PySem.W.mg_of KX G a_LetterError) h (fun h => kita_er (ert_mk (PySem.W.mg_of KX G a_NoOrder) er_NoOrder) (PySem.W.mg_of KX G a_NoOrder) h (fun h => kita_er (ert_mk (PySem.W.mg_of KX G a_NothingToUndo) er_NothingToUndo) (PySem.W.mg_of KX G a_NothingToUndo) h (fun h => kita_er (ert_mk (PySem.W.mg_of KX G a_ParseError) er_ParseError) (PySem.W.mg_of KX G a_ParseError) h (fun h => kita_er (ert_mk (PySem.W.mg_of KX G a_TooMany) er_TooMany) (PySem.W.mg_of KX G a_TooMany) h (fun h => kita_er (ert_mk (PySem.W.mg_of KX G a_UnknownName) er_UnknownName) (PySem.W.mg_of KX G a_UnknownName) h fun _ => kita_nil))))))))))))))))) kt_ValueError, sub⟩
  refine ⟨[], [], ⟨by (intro p hp; cases hp), by (intro p hp; cases hp), nl, by simp, ⟨PySem.W.fnOf "law" "law" (defArgs s_law) (defBody s_law) (defScope s_law) .none kF_law dF_law mF_law qF_law cF_law tF_law, fun s v => .of_eq rfl, fun base KB GB TB => ?_⟩⟩⟩
  have h_L_dice := cl_L_dice (base := base) (w := w) (T := []) bl gc ex ⟨_, _, L2.fun_mk l_L_dice c_L_dice k_L_dice, PySem.W.mg_of KX G a_L_dice⟩ 
  have h_L_pull := cl_L_pull (base := base) (w := w) (T := []) bl gc ex ⟨_, _, L2.fun_mk l_L_pull c_L_pull k_L_pull, PySem.W.mg_of KX G a_L_pull⟩ 
  have h_L_pick := cl_L_pick (base := base) (w := w) (T := []) bl gc ex ⟨_, _, L2.fun_mk l_L_pick c_L_pick k_L_pick, PySem.W.mg_of KX G a_L_pick⟩ h_L_pull
  have h_L_classes := cl_L_classes (base := base) (w := w) (T := []) bl gc ex ⟨_, _, L2.fun_mk l_L_classes c_L_classes k_L_classes, PySem.W.mg_of KX G a_L_classes⟩ 
  have h_L_bases := cl_L_bases (base := base) (w := w) (T := []) bl gc ex ⟨_, _, L2.fun_mk l_L_bases c_L_bases k_L_bases, PySem.W.mg_of KX G a_L_bases⟩ 
  have h_L_messages_right := cl_L_messages_right (base := base) (w := w) (T := []) bl gc ex ⟨_, _, L2.fun_mk l_L_messages_right c_L_messages_right k_L_messages_right, PySem.W.mg_of KX G a_L_messages_right⟩ h_L_bases h_L_classes
  have h_L_values_right := cl_L_values_right (base := base) (w := w) (T := []) bl gc ex ⟨_, _, L2.fun_mk l_L_values_right c_L_values_right k_L_values_right, PySem.W.mg_of KX G a_L_values_right⟩ h_L_bases h_L_classes
  have h_L_value := cl_L_value (base := base) (w := w) (T := []) bl gc ex ⟨_, _, L2.fun_mk l_L_value c_L_value k_L_value, PySem.W.mg_of KX G a_L_value⟩ h_L_pick h_L_pull
  exact ok_law bl gc ex (L2.fun_mk l_law c_law k_law) h_L_dice h_L_messages_right h_L_pick h_L_value h_L_values_right
end LR
open PySem PySem.W PyProof.Rows
set_option maxRecDepth 100000 in
set_option maxHeartbeats 0 in
theorem PySem.Challenge.cw_letterrules_k00_errors_holds : PySem.Challenge.rw_letterrules_k00_errors.Holds := by
  w_on; o_law; x_head; (case hw => w_witness2)
  k_fill
  first
    | refine L2.PV.walkG (l := PySem.Challenge.rw_letterrules_k00_errors) (n := 63) (k := 4) (x := "_law_script") rfl (by decide) rfl ⟨rfl, by decide, by decide⟩ (fun w h Y => PySem.W.kIn_of Y) LR.f_law ?F LR.law_right
    | refine L2.PV.walkG (l := PySem.Challenge.rw_letterrules_k00_errors) (n := 63) (k := 4) (x := "_law_script") rfl (by decide) rfl ⟨rfl, by decide, by decide⟩ (fun w h Y => PySem.W.km_in_of Y) LR.f_law ?F LR.law_right
  case F =>
    intro w mg fa h Y KX G hmg
    refine' LR.mk_law rfl KX G hmg ?z_ArithmeticError ?z_IndexError ?z_KeyError ?z_LookupError ?z_OverflowError ?z_RuntimeError ?z_ValueError ?z_abs ?z_int ?z_isinstance ?z_len ?z_max ?z_min ?z_range ?z_repr ?a_Held ?e_Held ?y_Held ?d_h_Held ?k_Held ?a_InvalidCommand ?e_InvalidCommand ?y_InvalidCommand ?d_h_InvalidCommand ?k_InvalidCommand ?a_InvalidMarking ?e_InvalidMarking ?y_InvalidMarking ?d_h_InvalidMarking ?k_InvalidMarking ?a_InvalidName ?e_InvalidName ?y_InvalidName ?d_h_InvalidName ?k_InvalidName ?a_InvalidNumber ?e_InvalidNumber ?y_InvalidNumber ?d_h_InvalidNumber ?k_InvalidNumber ?a_InvalidOperation ?e_InvalidOperation ?y_InvalidOperation ?d_h_InvalidOperation ?k_InvalidOperation ?a_InvalidOrder ?e_InvalidOrder ?y_InvalidOrder ?d_h_InvalidOrder ?k_InvalidOrder ?a_InvalidPattern ?e_InvalidPattern ?y_InvalidPattern ?d_h_InvalidPattern ?k_InvalidPattern ?a_InvalidRule ?e_InvalidRule ?y_InvalidRule ?d_h_InvalidRule ?k_InvalidRule ?a_InvalidRun ?e_InvalidRun ?y_InvalidRun ?d_h_InvalidRun ?k_InvalidRun ?a_InvalidTransport ?e_InvalidTransport ?y_InvalidTransport ?d_h_InvalidTransport ?k_InvalidTransport ?a_LetterError ?e_LetterError ?y_LetterError ?d_h_LetterError ?k_LetterError ?a_NoOrder ?e_NoOrder ?y_NoOrder ?d_h_NoOrder ?k_NoOrder ?a_NothingToUndo ?e_NothingToUndo ?y_NothingToUndo ?d_h_NothingToUndo ?k_NothingToUndo ?a_ParseError ?e_ParseError ?y_ParseError ?d_h_ParseError ?k_ParseError ?a_TooMany ?e_TooMany ?y_TooMany ?d_h_TooMany ?k_TooMany ?a_UnknownName ?e_UnknownName ?y_UnknownName ?d_h_UnknownName ?k_UnknownName ?x_InvalidCommand ?x_InvalidMarking ?x_InvalidName ?x_InvalidOperation ?x_InvalidOrder ?x_InvalidPattern ?x_InvalidRule ?x_InvalidRun ?x_InvalidTransport ?x_LetterError ?x_ParseError ?q_Held ?o_Held ?i_Held ?f_Held_ ?m_Held ?b_Held_ ?s_Held_ ?w_Held ?t_Held ?l_Held ?c_Held_ ?lc_Held ?lf_Held ?le_Held ?ll_Held ?q_InvalidNumber ?o_InvalidNumber ?i_InvalidNumber ?f_InvalidNumber_ ?m_InvalidNumber ?b_InvalidNumber_ ?s_InvalidNumber_ ?w_InvalidNumber ?t_InvalidNumber ?l_InvalidNumber ?c_InvalidNumber_ ?lc_InvalidNumber ?lf_InvalidNumber ?le_InvalidNumber ?ll_InvalidNumber ?q_NoOrder ?o_NoOrder ?i_NoOrder ?f_NoOrder_ ?m_NoOrder ?b_NoOrder_ ?s_NoOrder_ ?w_NoOrder ?t_NoOrder ?l_NoOrder ?c_NoOrder_ ?lc_NoOrder ?lf_NoOrder ?le_NoOrder ?ll_NoOrder ?q_NothingToUndo ?o_NothingToUndo ?i_NothingToUndo ?f_NothingToUndo_ ?m_NothingToUndo ?b_NothingToUndo_ ?s_NothingToUndo_ ?w_NothingToUndo ?t_NothingToUndo ?l_NothingToUndo ?c_NothingToUndo_ ?lc_NothingToUndo ?lf_NothingToUndo ?le_NothingToUndo ?ll_NothingToUndo ?q_TooMany ?o_TooMany ?i_TooMany ?f_TooMany_ ?m_TooMany ?b_TooMany_ ?s_TooMany_ ?w_TooMany ?t_TooMany ?l_TooMany ?c_TooMany_ ?lc_TooMany ?lf_TooMany ?le_TooMany ?ll_TooMany ?q_UnknownName ?o_UnknownName ?i_UnknownName ?f_UnknownName_ ?m_UnknownName ?b_UnknownName_ ?s_UnknownName_ ?w_UnknownName ?t_UnknownName ?l_UnknownName ?c_UnknownName_ ?lc_UnknownName ?lf_UnknownName ?le_UnknownName ?ll_UnknownName ?su ?tp ?er_Held ?er_InvalidCommand ?er_InvalidMarking ?er_InvalidName ?er_InvalidNumber ?er_InvalidOperation ?er_InvalidOrder ?er_InvalidPattern ?er_InvalidRule ?er_InvalidRun ?er_InvalidTransport ?er_LetterError ?er_NoOrder ?er_NothingToUndo ?er_ParseError ?er_TooMany ?er_UnknownName ?xb_Held ?xb_InvalidNumber ?xb_NoOrder ?xb_NothingToUndo ?xb_TooMany ?xb_UnknownName ?oc ?sm ?kt_ArithmeticError ?kt_Held ?kt_IndexError ?kt_InvalidCommand ?kt_InvalidMarking ?kt_InvalidName ?kt_InvalidNumber ?kt_InvalidOperation ?kt_InvalidOrder ?kt_InvalidPattern ?kt_InvalidRule ?kt_InvalidRun ?kt_InvalidTransport ?kt_KeyError ?kt_LetterError ?kt_LookupError ?kt_NoOrder ?kt_NothingToUndo ?kt_OverflowError ?kt_ParseError ?kt_RuntimeError ?kt_TooMany ?kt_UnknownName ?kt_ValueError ?a_L_dice ?l_L_dice ?c_L_dice ?k_L_dice ?a_L_pull ?l_L_pull ?c_L_pull ?k_L_pull ?a_L_pick ?l_L_pick ?c_L_pick ?k_L_pick ?a_L_classes ?l_L_classes ?c_L_classes ?k_L_classes ?a_L_bases ?l_L_bases ?c_L_bases ?k_L_bases ?a_L_messages_right ?l_L_messages_right ?c_L_messages_right ?k_L_messages_right ?a_L_values_right ?l_L_values_right ?c_L_values_right ?k_L_values_right ?a_L_value ?l_L_value ?c_L_value ?k_L_value ?a_law ?l_law ?c_law ?k_law ?nl
    (case z_ArithmeticError => k_is)
    (case z_IndexError => k_is)
    (case z_KeyError => k_is)
    (case z_LookupError => k_is)
    (case z_OverflowError => k_is)
    (case z_RuntimeError => k_is)
    (case z_ValueError => k_is)
    (case z_abs => k_is)
    (case z_int => k_is)
    (case z_isinstance => k_is)
    (case z_len => k_is)
    (case z_max => k_is)
    (case z_min => k_is)
    (case z_range => k_is)
    (case z_repr => k_is)
    (case a_Held => k_is)
    (case e_Held => k_is)
    (case y_Held => k_is)
    (case d_h_Held => k_is)
    (case k_Held => k_is)
    (case a_InvalidCommand => k_is)
    (case e_InvalidCommand => k_is)
    (case y_InvalidCommand => k_is)
    (case d_h_InvalidCommand => k_is)
    (case k_InvalidCommand => k_is)
    (case a_InvalidMarking => k_is)
    (case e_InvalidMarking => k_is)
    (case y_InvalidMarking => k_is)
    (case d_h_InvalidMarking => k_is)
    (case k_InvalidMarking => k_is)
    (case a_InvalidName => k_is)
    (case e_InvalidName => k_is)
    (case y_InvalidName => k_is)
    (case d_h_InvalidName => k_is)
    (case k_InvalidName => k_is)
    (case a_InvalidNumber => k_is)
    (case e_InvalidNumber => k_is)
    (case y_InvalidNumber => k_is)
    (case d_h_InvalidNumber => k_is)
    (case k_InvalidNumber => k_is)
    (case a_InvalidOperation => k_is)
    (case e_InvalidOperation => k_is)
    (case y_InvalidOperation => k_is)
    (case d_h_InvalidOperation => k_is)
    (case k_InvalidOperation => k_is)
    (case a_InvalidOrder => k_is)
    (case e_InvalidOrder => k_is)
    (case y_InvalidOrder => k_is)
    (case d_h_InvalidOrder => k_is)
    (case k_InvalidOrder => k_is)
    (case a_InvalidPattern => k_is)
    (case e_InvalidPattern => k_is)
    (case y_InvalidPattern => k_is)
    (case d_h_InvalidPattern => k_is)
    (case k_InvalidPattern => k_is)
    (case a_InvalidRule => k_is)
    (case e_InvalidRule => k_is)
    (case y_InvalidRule => k_is)
    (case d_h_InvalidRule => k_is)
    (case k_InvalidRule => k_is)
    (case a_InvalidRun => k_is)
    (case e_InvalidRun => k_is)
    (case y_InvalidRun => k_is)
    (case d_h_InvalidRun => k_is)
    (case k_InvalidRun => k_is)
    (case a_InvalidTransport => k_is)
    (case e_InvalidTransport => k_is)
    (case y_InvalidTransport => k_is)
    (case d_h_InvalidTransport => k_is)
    (case k_InvalidTransport => k_is)
    (case a_LetterError => k_is)
    (case e_LetterError => k_is)
    (case y_LetterError => k_is)
    (case d_h_LetterError => k_is)
    (case k_LetterError => k_is)
    (case a_NoOrder => k_is)
    (case e_NoOrder => k_is)
    (case y_NoOrder => k_is)
    (case d_h_NoOrder => k_is)
    (case k_NoOrder => k_is)
    (case a_NothingToUndo => k_is)
    (case e_NothingToUndo => k_is)
    (case y_NothingToUndo => k_is)
    (case d_h_NothingToUndo => k_is)
    (case k_NothingToUndo => k_is)
    (case a_ParseError => k_is)
    (case e_ParseError => k_is)
    (case y_ParseError => k_is)
    (case d_h_ParseError => k_is)
    (case k_ParseError => k_is)
    (case a_TooMany => k_is)
    (case e_TooMany => k_is)
    (case y_TooMany => k_is)
    (case d_h_TooMany => k_is)
    (case k_TooMany => k_is)
    (case a_UnknownName => k_is)
    (case e_UnknownName => k_is)
    (case y_UnknownName => k_is)
    (case d_h_UnknownName => k_is)
    (case k_UnknownName => k_is)
    (case x_InvalidCommand => k_exc)
    (case x_InvalidMarking => k_exc)
    (case x_InvalidName => k_exc)
    (case x_InvalidOperation => k_exc)
    (case x_InvalidOrder => k_exc)
    (case x_InvalidPattern => k_exc)
    (case x_InvalidRule => k_exc)
    (case x_InvalidRun => k_exc)
    (case x_InvalidTransport => k_exc)
    (case x_LetterError => k_exc)
    (case x_ParseError => k_exc)
    (case q_Held => kx_is)
    (case o_Held => kx_is)
    (case i_Held => k_is)
    (case f_Held_ => k_is)
    (case m_Held => ks_is)
    (case b_Held_ => k_is)
    (case s_Held_ => k_is)
    (case w_Held => k_is)
    (case t_Held => k_is)
    (case l_Held => k_is)
    (case c_Held_ => k_is)
    (case lc_Held => k_is)
    (case lf_Held => rfl)
    (case le_Held => first | rfl | decide +kernel)
    (case ll_Held => k_is)
    (case q_InvalidNumber => kx_is)
    (case o_InvalidNumber => kx_is)
    (case i_InvalidNumber => k_is)
    (case f_InvalidNumber_ => k_is)
    (case m_InvalidNumber => ks_is)
    (case b_InvalidNumber_ => k_is)
    (case s_InvalidNumber_ => k_is)
    (case w_InvalidNumber => k_is)
    (case t_InvalidNumber => k_is)
    (case l_InvalidNumber => k_is)
    (case c_InvalidNumber_ => k_is)
    (case lc_InvalidNumber => k_is)
    (case lf_InvalidNumber => rfl)
    (case le_InvalidNumber => first | rfl | decide +kernel)
    (case ll_InvalidNumber => k_is)
    (case q_NoOrder => kx_is)
    (case o_NoOrder => kx_is)
    (case i_NoOrder => k_is)
    (case f_NoOrder_ => k_is)
    (case m_NoOrder => ks_is)
    (case b_NoOrder_ => k_is)
    (case s_NoOrder_ => k_is)
    (case w_NoOrder => k_is)
    (case t_NoOrder => k_is)
    (case l_NoOrder => k_is)
    (case c_NoOrder_ => k_is)
    (case lc_NoOrder => k_is)
    (case lf_NoOrder => rfl)
    (case le_NoOrder => first | rfl | decide +kernel)
    (case ll_NoOrder => k_is)
    (case q_NothingToUndo => kx_is)
    (case o_NothingToUndo => kx_is)
    (case i_NothingToUndo => k_is)
    (case f_NothingToUndo_ => k_is)
    (case m_NothingToUndo => ks_is)
    (case b_NothingToUndo_ => k_is)
    (case s_NothingToUndo_ => k_is)
    (case w_NothingToUndo => k_is)
    (case t_NothingToUndo => k_is)
    (case l_NothingToUndo => k_is)
    (case c_NothingToUndo_ => k_is)
    (case lc_NothingToUndo => k_is)
    (case lf_NothingToUndo => rfl)
    (case le_NothingToUndo => first | rfl | decide +kernel)
    (case ll_NothingToUndo => k_is)
    (case q_TooMany => kx_is)
    (case o_TooMany => kx_is)
    (case i_TooMany => k_is)
    (case f_TooMany_ => k_is)
    (case m_TooMany => ks_is)
    (case b_TooMany_ => k_is)
    (case s_TooMany_ => k_is)
    (case w_TooMany => k_is)
    (case t_TooMany => k_is)
    (case l_TooMany => k_is)
    (case c_TooMany_ => k_is)
    (case lc_TooMany => k_is)
    (case lf_TooMany => rfl)
    (case le_TooMany => first | rfl | decide +kernel)
    (case ll_TooMany => k_is)
    (case q_UnknownName => kx_is)
    (case o_UnknownName => kx_is)
    (case i_UnknownName => k_is)
    (case f_UnknownName_ => k_is)
    (case m_UnknownName => ks_is)
    (case b_UnknownName_ => k_is)
    (case s_UnknownName_ => k_is)
    (case w_UnknownName => k_is)
    (case t_UnknownName => k_is)
    (case l_UnknownName => k_is)
    (case c_UnknownName_ => k_is)
    (case lc_UnknownName => k_is)
    (case lf_UnknownName => rfl)
    (case le_UnknownName => first | rfl | decide +kernel)
    (case ll_UnknownName => k_is)
    (case su => k_is)
    (case tp => k_is)
    (case er_Held => kernel_rfl)
    (case er_InvalidCommand => kernel_rfl)
    (case er_InvalidMarking => kernel_rfl)
    (case er_InvalidName => kernel_rfl)
    (case er_InvalidNumber => kernel_rfl)
    (case er_InvalidOperation => kernel_rfl)
    (case er_InvalidOrder => kernel_rfl)
    (case er_InvalidPattern => kernel_rfl)
    (case er_InvalidRule => kernel_rfl)
    (case er_InvalidRun => kernel_rfl)
    (case er_InvalidTransport => kernel_rfl)
    (case er_LetterError => kernel_rfl)
    (case er_NoOrder => kernel_rfl)
    (case er_NothingToUndo => kernel_rfl)
    (case er_ParseError => kernel_rfl)
    (case er_TooMany => kernel_rfl)
    (case er_UnknownName => kernel_rfl)
    (case xb_Held => kernel_rfl)
    (case xb_InvalidNumber => kernel_rfl)
    (case xb_NoOrder => kernel_rfl)
    (case xb_NothingToUndo => kernel_rfl)
    (case xb_TooMany => kernel_rfl)
    (case xb_UnknownName => kernel_rfl)
    (case oc => kernel_rfl)
    (case sm => k_is)
    (case kt_ArithmeticError => kernel_rfl)
    (case kt_Held => kernel_rfl)
    (case kt_IndexError => kernel_rfl)
    (case kt_InvalidCommand => kernel_rfl)
    (case kt_InvalidMarking => kernel_rfl)
    (case kt_InvalidName => kernel_rfl)
    (case kt_InvalidNumber => kernel_rfl)
    (case kt_InvalidOperation => kernel_rfl)
    (case kt_InvalidOrder => kernel_rfl)
    (case kt_InvalidPattern => kernel_rfl)
    (case kt_InvalidRule => kernel_rfl)
    (case kt_InvalidRun => kernel_rfl)
    (case kt_InvalidTransport => kernel_rfl)
    (case kt_KeyError => kernel_rfl)
    (case kt_LetterError => kernel_rfl)
    (case kt_LookupError => kernel_rfl)
    (case kt_NoOrder => kernel_rfl)
    (case kt_NothingToUndo => kernel_rfl)
    (case kt_OverflowError => kernel_rfl)
    (case kt_ParseError => kernel_rfl)
    (case kt_RuntimeError => kernel_rfl)
    (case kt_TooMany => kernel_rfl)
    (case kt_UnknownName => kernel_rfl)
    (case kt_ValueError => kernel_rfl)
    (case a_L_dice => k_is)
    (case l_L_dice => k_is)
    (case c_L_dice => k_is)
    (case k_L_dice => k_is)
    (case a_L_pull => k_is)
    (case l_L_pull => k_is)
    (case c_L_pull => k_is)
    (case k_L_pull => k_is)
    (case a_L_pick => k_is)
    (case l_L_pick => k_is)
    (case c_L_pick => k_is)
    (case k_L_pick => k_is)
    (case a_L_classes => k_is)
    (case l_L_classes => k_is)
    (case c_L_classes => k_is)
    (case k_L_classes => k_is)
    (case a_L_bases => k_is)
    (case l_L_bases => k_is)
    (case c_L_bases => k_is)
    (case k_L_bases => k_is)
    (case a_L_messages_right => k_is)
    (case l_L_messages_right => k_is)
    (case c_L_messages_right => k_is)
    (case k_L_messages_right => k_is)
    (case a_L_values_right => k_is)
    (case l_L_values_right => k_is)
    (case c_L_values_right => k_is)
    (case k_L_values_right => k_is)
    (case a_L_value => k_is)
    (case l_L_value => k_is)
    (case c_L_value => k_is)
    (case k_L_value => k_is)
    (case a_law => k_is)
    (case l_law => k_is)
    (case c_law => k_is)
    (case k_law => k_is)
    (case nl => first | rfl | kernel_rfl | decide +kernel)
#print axioms PySem.Challenge.cw_letterrules_k00_errors_holds

