import PyProof.Rows.All
import Wide.All
import OpenK.AllK
import Wide.FinOn
import HandS.ForMost
import HandS.Deep
import KE.KDictCopyH
import HandS.DictComp
import KE.GoesEnum
import KE.SortData
import HandS.Strs
import HandS.SetFor
import HandS.IsInst
import HandS.Flow
import HandS.Style
import HandS.TupAny
import HandS.TupMul
import HandS.SortInts
import HandS.Conv
import HandS.Zip
import PyProof.Rows.IntBool
import KE.DataCmp
import HandS.Ends
import PyProof.Rows.StrCase
import PySem.Challenge.RW_sealshelf_k08_whole_opening
set_option Elab.async false
set_option linter.all false
set_option maxRecDepth 100000
set_option maxHeartbeats 0
/-! PmA: dicts whose keys are ints and tuples, side by side: the search. -/
namespace Pm
open PySem
section
variable {prog : Program} {w : World} {A : Around} {E : Value → Shared → Prop} {s : Shared}
/-- what the search leans on -/
structure Look (prog : Program) (w : World) (A : Around) (E : Value → Shared → Prop) (s : Shared) (es : Array DictEntry) (v : Value) (h : Int) (B : Nat → Bool) : Prop where
  eqs : ∀ i x, es[i]? = some x → x.hash = h → ∀ Q : Bool → Shared → Prop, Q (B i) s → wpAny (model prog w) A (eqBool x.key v) Q E s
  hit : ∀ i, B i = true → ∃ x, es[i]? = some x ∧ x.hash = h
  one : ∀ i j, B i = true → B j = true → i = j
  qk : ∀ Q : Bool → Shared → Prop, Q true s → wpAny (model prog w) A (eqIsQuiet 8 v) Q E s
  qs : ∀ x ∈ es, ∀ Q : Bool → Shared → Prop, Q true s → wpAny (model prog w) A (eqIsQuiet 8 x.key) Q E s
  shp : (∃ i t, v = .int i t) ∨ ∃ a, v = .ref a
  same : ∀ x ∈ es, x.key = v → x.hash = h
theorem may_tell {v : Value} {stored : List Value} {Q : Bool → Shared → Prop} (qk : ∀ Q : Bool → Shared → Prop, Q true s → wpAny (model prog w) A (eqIsQuiet 8 v) Q E s) (qs : ∀ x ∈ stored, ∀ Q : Bool → Shared → Prop, Q true s → wpAny (model prog w) A (eqIsQuiet 8 x) Q E s) (q : Q false s) : wpAny (model prog w) A (tableMayTell v stored) Q E s := by
  unfold tableMayTell
  split
  · exact wpAny_pure q
  · refine wpAny_bind (qk _ ?_)
    rw [if_neg (by decide)]
    refine wpAny_bind (wpAny_forIn_list _ (fun left r s1 => s1 = s ∧ r = (none, ()) ∧ ∀ x ∈ left, x ∈ stored) _ ?_ ?_ _ _ ⟨rfl, rfl, fun _ h => h⟩)
    · rintro x left r s1 ⟨rfl, rfl, h⟩
      refine wpAny_bind (qs x (h x List.mem_cons_self) _ ?_)
      rw [if_neg (by decide)]
      exact wpAny_pure ⟨rfl, rfl, fun y hy => h y (List.mem_cons_of_mem _ hy)⟩
    · rintro r s1 ⟨rfl, rfl, _⟩
      exact wpAny_pure q
theorem find_ok {d : Addr} {o : Obj} {es : Array DictEntry} {ep : Nat} {v : Value} {h : Int} {B : Nat → Bool} {Q : Option Nat → Shared → Prop} (gO : s.heap.get? d = some o) (gD : o.data = .dict es ep) (L : Look prog w A E s es v h B)
    (no : (∀ i, B i = false) → Q none s) (yes : ∀ i, B i = true → Q (some i) s) : wpAny (model prog w) A (dictFind d v h) Q E s := by
  have pl : ∀ i, i ∈ placesWithHash es.size (fun i => es[i]?.map (·.hash)) h ↔ ∃ x, es[i]? = some x ∧ x.hash = h := by
    intro i
    unfold placesWithHash
    rw [List.mem_filter, List.mem_range]
    constructor
    · rintro ⟨h1, h2⟩
      dsimp only at h2
      rw [Array.getElem?_eq_getElem h1] at h2
      exact ⟨es[i], Array.getElem?_eq_getElem h1, by simpa using h2⟩
    · rintro ⟨x, h1, h2⟩
      refine ⟨(Array.getElem?_eq_some_iff.mp h1).1, ?_⟩
      dsimp only
      rw [h1]
      simpa using h2
  have nd : (placesWithHash es.size (fun i => es[i]?.map (·.hash)) h).Nodup := List.Pairwise.filter _ List.nodup_range
  generalize hp : placesWithHash es.size (fun i => es[i]?.map (·.hash)) h = ps at pl nd
  have fin : ∀ hit : Option Nat, (∀ i, hit = some i → B i = true) → (hit = none → ∀ i ∈ ps, B i = false) → Q hit s := by
    intro hit a b
    cases hit with
    | some i => exact yes i (a i rfl)
    | none =>
      refine no fun i => ?_
      cases e : B i with
      | false => rfl
      | true =>
        obtain ⟨x, h1, h2⟩ := L.hit i e
        have := b rfl i ((pl i).mpr ⟨x, h1, h2⟩)
        rw [e] at this
        cases this
  have st : ∀ y ∈ ps.filterMap (fun i => es[i]?.map (·.key)), ∃ x ∈ es, y = x.key := by
    intro y hy
    obtain ⟨i, _, hi⟩ := List.mem_filterMap.mp hy
    cases e : es[i]? with
    | none => rw [e] at hi; cases hi
    | some x =>
      rw [e] at hi
      exact ⟨x, Array.mem_of_getElem? e, (by simpa using hi.symm)⟩
  have walk : ∀ k, wpAny (model prog w) A (dictWalkPlain d v k es ps) Q E s ∨ k ≠ h := by
    intro k
    by_cases hk : k = h
    · left
      subst hk
      unfold dictWalkPlain
      refine wpAny_bind (wpAny_forIn_list _ (fun left b s1 => s1 = s ∧ b = (none, ()) ∧ ∃ done, done ++ left = ps ∧ ∀ i ∈ done, B i = false) _ ?_ ?_ _ _ ⟨rfl, rfl, [], rfl, fun _ z => nomatch z⟩)
      · rintro i left b s1 ⟨rfl, rfl, done, hd, hb⟩
        obtain ⟨x, h1, h2⟩ := (pl i).mp (by rw [← hd]; simp)
        rw [h1]
        dsimp only
        rw [if_pos (by rw [h2]; simp)]
        refine wpAny_bind (wpAny_dictEpoch gO gD (wpAny_bind (L.eqs i x h1 h2 _ (wpAny_bind (wpAny_dictEpoch gO gD ?_)))))
        rw [if_neg (by simp)]
        cases e : B i with
        | true =>
          rw [if_pos rfl]
          exact wpAny_bind (wpAny_rule (wpAny_pure (wpAny_pure (yes i e))))
        | false =>
          rw [if_neg (by decide)]
          refine wpAny_bind (wpAny_rule (wpAny_pure ⟨rfl, rfl, done ++ [i], by rw [List.append_assoc]; exact hd, fun j hj => ?_⟩))
          rcases List.mem_append.mp hj with q | q
          · exact hb j q
          · rw [List.mem_singleton.mp q]; exact e
      · rintro b s1 ⟨rfl, rfl, done, hd, hb⟩
        rw [List.append_nil] at hd
        subst hd
        exact wpAny_pure (fin none (fun i z => nomatch z) fun _ => hb)
    · right; exact hk
  have walk' : wpAny (model prog w) A (dictWalkPlain d v h es ps) Q E s := (walk h).resolve_right (fun z => z rfl)
  unfold dictFind
  refine wpAny_holding ?_
  refine wpAny_bind (wpAny_dictEntries gO gD ?_)
  rcases L.shp with ⟨n, t, rfl⟩ | ⟨a, rfl⟩
  · dsimp only
    rw [hp]
    generalize ps.filterMap (fun i => es[i]?.map (·.key)) = sto at st ⊢
    by_cases hc : ((Value.int n t :: sto).all carriedByValue) = true
    · rw [if_pos hc]; exact walk'
    rw [if_neg hc]
    by_cases hc2 : (sto == [Value.int n t]) = true
    · rw [if_pos hc2]
      refine wpAny_bind (wpAny_pure ?_)
      rw [if_neg (by simp)]
      refine wpAny_bind (wpAny_forIn_list _ (fun left b s1 => s1 = s ∧ ∃ hit done, b = (none, hit) ∧ done ++ left = ps ∧ (∀ i, hit = some i → B i = true ∧ i ∈ done) ∧ (hit = none → ∀ i ∈ done, B i = false)) _ ?_ ?_ _ _ ⟨rfl, none, [], rfl, rfl, (fun _ z => nomatch z), fun _ _ z => nomatch z⟩)
      · rintro i left b s1 ⟨rfl, hit, done, rfl, hd, h3, h4⟩
        obtain ⟨x, h1, h2⟩ := (pl i).mp (by rw [← hd]; simp)
        rw [h1]
        dsimp only
        rw [if_pos (by rw [h2]; simp)]
        refine wpAny_bind (wpAny_dictEpoch gO gD (wpAny_bind (L.eqs i x h1 h2 _ (wpAny_bind (wpAny_dictEpoch gO gD ?_)))))
        rw [if_neg (by simp)]
        cases e : B i with
        | true =>
          rw [if_pos rfl]
          have hn : hit = none := by
            cases hit with
            | none => rfl
            | some j =>
              obtain ⟨h5, h6⟩ := h3 j rfl
              rw [L.one j i h5 e] at h6
              rw [← hd] at nd
              exact absurd rfl ((List.nodup_append.mp nd).2.2 i h6 i List.mem_cons_self)
          subst hn
          rw [if_neg (by decide)]
          refine wpAny_bind (wpAny_rule ?_)
          by_cases hm : sto.length < 2
          · rw [if_pos hm]; exact wpAny_pure (wpAny_pure (yes i e))
          · rw [if_neg hm]; refine wpAny_pure ⟨rfl, some i, done ++ [i], rfl, by rw [List.append_assoc]; exact hd, fun j hj => ?_, fun z => nomatch z⟩
            cases hj
            exact ⟨e, by simp⟩
        | false =>
          rw [if_neg (by decide)]
          refine wpAny_bind (wpAny_rule ?_)
          rw [if_neg (by simp)]
          refine wpAny_pure ⟨rfl, hit, done ++ [i], rfl, by rw [List.append_assoc]; exact hd, fun j hj => ⟨(h3 j hj).1, List.mem_append_left _ (h3 j hj).2⟩, fun hn j hj => ?_⟩
          rcases List.mem_append.mp hj with q | q
          · exact h4 hn j q
          · rw [List.mem_singleton.mp q]; exact e
      · rintro b s1 ⟨rfl, hit, done, rfl, hd, h3, h4⟩
        rw [List.append_nil] at hd
        subst hd
        exact wpAny_pure (fin hit (fun i z => (h3 i z).1) h4)
    · rw [if_neg hc2]
      refine wpAny_bind (may_tell L.qk (fun y hy => by obtain ⟨x, hx, rfl⟩ := st y hy; exact L.qs x hx) ?_)
      rw [if_neg (by simp)]
      refine wpAny_bind (wpAny_forIn_list _ (fun left b s1 => s1 = s ∧ ∃ hit done, b = (none, hit) ∧ done ++ left = ps ∧ (∀ i, hit = some i → B i = true ∧ i ∈ done) ∧ (hit = none → ∀ i ∈ done, B i = false)) _ ?_ ?_ _ _ ⟨rfl, none, [], rfl, rfl, (fun _ z => nomatch z), fun _ _ z => nomatch z⟩)
      · rintro i left b s1 ⟨rfl, hit, done, rfl, hd, h3, h4⟩
        obtain ⟨x, h1, h2⟩ := (pl i).mp (by rw [← hd]; simp)
        rw [h1]
        dsimp only
        rw [if_pos (by rw [h2]; simp)]
        refine wpAny_bind (wpAny_dictEpoch gO gD (wpAny_bind (L.eqs i x h1 h2 _ (wpAny_bind (wpAny_dictEpoch gO gD ?_)))))
        rw [if_neg (by simp)]
        cases e : B i with
        | true =>
          rw [if_pos rfl]
          have hn : hit = none := by
            cases hit with
            | none => rfl
            | some j =>
              obtain ⟨h5, h6⟩ := h3 j rfl
              rw [L.one j i h5 e] at h6
              rw [← hd] at nd
              exact absurd rfl ((List.nodup_append.mp nd).2.2 i h6 i List.mem_cons_self)
          subst hn
          rw [if_neg (by decide)]
          refine wpAny_bind (wpAny_rule ?_)
          by_cases hm : sto.length < 2
          · rw [if_pos hm]; exact wpAny_pure (wpAny_pure (yes i e))
          · rw [if_neg hm]; refine wpAny_pure ⟨rfl, some i, done ++ [i], rfl, by rw [List.append_assoc]; exact hd, fun j hj => ?_, fun z => nomatch z⟩
            cases hj
            exact ⟨e, by simp⟩
        | false =>
          rw [if_neg (by decide)]
          refine wpAny_bind (wpAny_rule ?_)
          rw [if_neg (by simp)]
          refine wpAny_pure ⟨rfl, hit, done ++ [i], rfl, by rw [List.append_assoc]; exact hd, fun j hj => ⟨(h3 j hj).1, List.mem_append_left _ (h3 j hj).2⟩, fun hn j hj => ?_⟩
          rcases List.mem_append.mp hj with q | q
          · exact h4 hn j q
          · rw [List.mem_singleton.mp q]; exact e
      · rintro b s1 ⟨rfl, hit, done, rfl, hd, h3, h4⟩
        rw [List.append_nil] at hd
        subst hd
        exact wpAny_pure (fin hit (fun i z => (h3 i z).1) h4)
  · dsimp only
    rw [hp]
    generalize ps.filterMap (fun i => es[i]?.map (·.key)) = sto at st ⊢
    rw [if_neg (by simp [carriedByValue]), if_neg (by
      rw [← Array.any_toList, List.any_eq_true]
      rintro ⟨x, hx, hc⟩
      simp only [Bool.and_eq_true, beq_iff_eq, bne_iff_ne, ne_eq] at hc
      exact hc.2 (L.same x (Array.mem_toList_iff.mp hx) hc.1))]
    by_cases hc2 : (sto == [Value.ref a]) = true
    · rw [if_pos hc2]
      refine wpAny_bind (wpAny_pure ?_)
      rw [if_neg (by simp)]
      refine wpAny_bind (wpAny_forIn_list _ (fun left b s1 => s1 = s ∧ ∃ hit done, b = (none, hit) ∧ done ++ left = ps ∧ (∀ i, hit = some i → B i = true ∧ i ∈ done) ∧ (hit = none → ∀ i ∈ done, B i = false)) _ ?_ ?_ _ _ ⟨rfl, none, [], rfl, rfl, (fun _ z => nomatch z), fun _ _ z => nomatch z⟩)
      · rintro i left b s1 ⟨rfl, hit, done, rfl, hd, h3, h4⟩
        obtain ⟨x, h1, h2⟩ := (pl i).mp (by rw [← hd]; simp)
        rw [h1]
        dsimp only
        rw [if_pos (by rw [h2]; simp)]
        refine wpAny_bind (wpAny_dictEpoch gO gD (wpAny_bind (L.eqs i x h1 h2 _ (wpAny_bind (wpAny_dictEpoch gO gD ?_)))))
        rw [if_neg (by simp)]
        cases e : B i with
        | true =>
          rw [if_pos rfl]
          have hn : hit = none := by
            cases hit with
            | none => rfl
            | some j =>
              obtain ⟨h5, h6⟩ := h3 j rfl
              rw [L.one j i h5 e] at h6
              rw [← hd] at nd
              exact absurd rfl ((List.nodup_append.mp nd).2.2 i h6 i List.mem_cons_self)
          subst hn
          rw [if_neg (by decide)]
          refine wpAny_bind (wpAny_rule ?_)
          by_cases hm : sto.length < 2
          · rw [if_pos hm]; exact wpAny_pure (wpAny_pure (yes i e))
          · rw [if_neg hm]; refine wpAny_pure ⟨rfl, some i, done ++ [i], rfl, by rw [List.append_assoc]; exact hd, fun j hj => ?_, fun z => nomatch z⟩
            cases hj
            exact ⟨e, by simp⟩
        | false =>
          rw [if_neg (by decide)]
          refine wpAny_bind (wpAny_rule ?_)
          rw [if_neg (by simp)]
          refine wpAny_pure ⟨rfl, hit, done ++ [i], rfl, by rw [List.append_assoc]; exact hd, fun j hj => ⟨(h3 j hj).1, List.mem_append_left _ (h3 j hj).2⟩, fun hn j hj => ?_⟩
          rcases List.mem_append.mp hj with q | q
          · exact h4 hn j q
          · rw [List.mem_singleton.mp q]; exact e
      · rintro b s1 ⟨rfl, hit, done, rfl, hd, h3, h4⟩
        rw [List.append_nil] at hd
        subst hd
        exact wpAny_pure (fin hit (fun i z => (h3 i z).1) h4)
    · rw [if_neg hc2]
      refine wpAny_bind (may_tell L.qk (fun y hy => by obtain ⟨x, hx, rfl⟩ := st y hy; exact L.qs x hx) ?_)
      rw [if_neg (by simp)]
      refine wpAny_bind (wpAny_forIn_list _ (fun left b s1 => s1 = s ∧ ∃ hit done, b = (none, hit) ∧ done ++ left = ps ∧ (∀ i, hit = some i → B i = true ∧ i ∈ done) ∧ (hit = none → ∀ i ∈ done, B i = false)) _ ?_ ?_ _ _ ⟨rfl, none, [], rfl, rfl, (fun _ z => nomatch z), fun _ _ z => nomatch z⟩)
      · rintro i left b s1 ⟨rfl, hit, done, rfl, hd, h3, h4⟩
        obtain ⟨x, h1, h2⟩ := (pl i).mp (by rw [← hd]; simp)
        rw [h1]
        dsimp only
        rw [if_pos (by rw [h2]; simp)]
        refine wpAny_bind (wpAny_dictEpoch gO gD (wpAny_bind (L.eqs i x h1 h2 _ (wpAny_bind (wpAny_dictEpoch gO gD ?_)))))
        rw [if_neg (by simp)]
        cases e : B i with
        | true =>
          rw [if_pos rfl]
          have hn : hit = none := by
            cases hit with
            | none => rfl
            | some j =>
              obtain ⟨h5, h6⟩ := h3 j rfl
              rw [L.one j i h5 e] at h6
              rw [← hd] at nd
              exact absurd rfl ((List.nodup_append.mp nd).2.2 i h6 i List.mem_cons_self)
          subst hn
          rw [if_neg (by decide)]
          refine wpAny_bind (wpAny_rule ?_)
          by_cases hm : sto.length < 2
          · rw [if_pos hm]; exact wpAny_pure (wpAny_pure (yes i e))
          · rw [if_neg hm]; refine wpAny_pure ⟨rfl, some i, done ++ [i], rfl, by rw [List.append_assoc]; exact hd, fun j hj => ?_, fun z => nomatch z⟩
            cases hj
            exact ⟨e, by simp⟩
        | false =>
          rw [if_neg (by decide)]
          refine wpAny_bind (wpAny_rule ?_)
          rw [if_neg (by simp)]
          refine wpAny_pure ⟨rfl, hit, done ++ [i], rfl, by rw [List.append_assoc]; exact hd, fun j hj => ⟨(h3 j hj).1, List.mem_append_left _ (h3 j hj).2⟩, fun hn j hj => ?_⟩
          rcases List.mem_append.mp hj with q | q
          · exact h4 hn j q
          · rw [List.mem_singleton.mp q]; exact e
      · rintro b s1 ⟨rfl, hit, done, rfl, hd, h3, h4⟩
        rw [List.append_nil] at hd
        subst hd
        exact wpAny_pure (fin hit (fun i z => (h3 i z).1) h4)
end
end Pm
/-! PmB: the keys as data; look, in, store. -/
namespace Pm
open PySem L2
def atK : PyData → Option Key
  | .int i => some (.inl i)
  | .str x => some (.inr x)
  | _ => none
def ksOf : List PyData → Option (List Key)
  | [] => some []
  | d :: r => match atK d, ksOf r with
    | some k, some ks => some (k :: ks)
    | _, _ => none
/-- what may be a key: an int, a tuple of ints and texts -/
def keyD : PyData → Bool
  | .int _ => true
  | .tuple ds => (ksOf ds).isSome
  | _ => false
def hsh (P : Program) (w : World) : PyData → Int
  | .int i => hashInt i
  | .tuple ds => tupleKeyHash (mixKind P w) ((ksOf ds).getD [])
  | _ => 0
theorem items_of {P : Program} {w : World} {h : Heap} : ∀ {vs : List Value} {ds : List PyData} {as : List Addr} {ks : List Key}, ReadsAll h vs ds as → ksOf ds = some ks → ItemsAre (mixKind P w) ks vs
  | _, _, _, ks, .nil, e => by
    cases e
    exact .nil
  | _, _, _, ks, .cons (d := d) (ds := ds) r t, e => by
    unfold ksOf at e
    cases d with
    | int i =>
      cases q : ksOf ds with
      | none => simp [q, atK] at e
      | some l =>
        simp only [atK, q, Option.some.injEq] at e
        subst e
        cases r with
        | int _ tk => exact .cons (keyIs_int i tk) (items_of t q)
    | str x =>
      cases q : ksOf ds with
      | none => simp [q, atK] at e
      | some l =>
        simp only [atK, q, Option.some.injEq] at e
        subst e
        cases r with
        | str _ tk => exact .cons (keyIs_str x tk) (items_of t q)
    | _ => simp [atK] at e
theorem ks_inj : ∀ {ds es : List PyData} {ks : List Key}, ksOf ds = some ks → ksOf es = some ks → ds = es
  | [], [], _, _, _ => rfl
  | [], e :: es, ks, h, h' => by
    cases h
    unfold ksOf at h'
    cases q : atK e <;> cases q' : ksOf es <;> simp [q, q'] at h'
  | d :: ds, [], ks, h, h' => by
    cases h'
    unfold ksOf at h
    cases q : atK d <;> cases q' : ksOf ds <;> simp [q, q'] at h
  | d :: ds, e :: es, ks, h, h' => by
    unfold ksOf at h h'
    cases q : atK d <;> cases q' : ksOf ds <;> simp only [q, q'] at h <;> try cases h
    cases r : atK e <;> cases r' : ksOf es <;> simp only [r, r', Option.some.injEq, List.cons.injEq] at h' <;> try cases h'
    rename_i a b c f h1 h2
    subst h1 h2
    rw [ks_inj q' r']
    congr 1
    cases d <;> simp [atK] at q <;> cases e <;> simp [atK] at r <;> subst q <;> first | (injection r with r; rw [r]) | (cases r)
theorem eqvAll_ks : ∀ {ds es : List PyData} {ks ls : List Key}, ksOf ds = some ks → ksOf es = some ls → PyData.eqvAll ds es = decide (ks = ls)
  | [], [], _, _, h, h' => by cases h; cases h'; simp [PyData.eqvAll]
  | [], e :: es, ks, ls, h, h' => by
    cases h
    unfold ksOf at h'
    cases q : atK e <;> cases q' : ksOf es <;> simp [q, q'] at h'
    subst h'
    simp [PyData.eqvAll]
  | d :: ds, [], ks, ls, h, h' => by
    cases h'
    unfold ksOf at h
    cases q : atK d <;> cases q' : ksOf ds <;> simp [q, q'] at h
    subst h
    simp [PyData.eqvAll]
  | d :: ds, e :: es, ks, ls, h, h' => by
    unfold ksOf at h h'
    cases q : atK d <;> cases q' : ksOf ds <;> simp only [q, q', Option.some.injEq] at h <;> try cases h
    cases r : atK e <;> cases r' : ksOf es <;> simp only [r, r', Option.some.injEq] at h' <;> try cases h'
    simp only [PyData.eqvAll, eqvAll_ks q' r']
    cases d <;> simp [atK] at q <;> cases e <;> simp [atK] at r <;> subst q <;> subst r
    · simp only [PyData.eqv]
      rename_i i j
      by_cases e : i = j <;> simp [e]
    · simp [PyData.eqv]
    · simp [PyData.eqv]
    · simp only [PyData.eqv]
      rename_i i j
      by_cases e : i = j <;> simp [e]
theorem eqv_key {d e : PyData} (h : keyD d = true) (h' : keyD e = true) : PyData.eqv d e = true ↔ d = e := by
  cases d <;> simp only [keyD] at h <;> try cases h
  · cases e <;> simp only [keyD] at h' <;> try cases h'
    · simp [PyData.eqv]
    · simp [PyData.eqv]
  · cases e <;> simp only [keyD] at h' <;> try cases h'
    · simp [PyData.eqv]
    · obtain ⟨ks, q⟩ := Option.isSome_iff_exists.mp h
      obtain ⟨ls, q'⟩ := Option.isSome_iff_exists.mp h'
      simp only [PyData.eqv]
      rw [eqvAll_ks q q', decide_eq_true_eq]
      constructor
      · intro z; subst z; rw [ks_inj q q']
      · intro z; injection z with z; subst z; rw [q] at q'; exact Option.some.inj q'
section
variable {P : Program} {w : World} {A : Around} {E : Value → Shared → Prop} {s : Shared}
theorem tupKey {h : Heap} {v : Value} {ds : List PyData} {as : List Addr} (r : Reads h v (.tuple ds) as) (hk : keyD (.tuple ds) = true) : ∃ a, v = .ref a ∧ IsTupleKey (mixKind P w) h ((ksOf ds).getD []) a := by
  obtain ⟨ks, q⟩ := Option.isSome_iff_exists.mp (show (ksOf ds).isSome = true from hk)
  cases r with
  | tuple h1 h2 h3 h4 => exact ⟨_, rfl, _, _, _, h1, h2, h3, by rw [q]; exact items_of h4 q⟩
theorem key_hash {v : Value} {d : PyData} {as : List Addr} {Q : Int → Shared → Prop} (r : Reads s.heap v d as) (hk : keyD d = true) (hu : A.units < cLine) (q : ∀ tk, Q (hsh P w d) { s with toks := tk }) : wpAny (model P w) A (pyHash v) Q E s := by
  cases d with
  | int i =>
    cases r with
    | int _ t => exact (mixKind P w).pyHash (k := .inl i) (keyIs_int i t) (q _)
  | tuple ds =>
    obtain ⟨a, rfl, hi⟩ := tupKey (P := P) (w := w) r hk
    exact wpAny_pyHash_tuple hu hi (q _)
  | _ => cases hk
theorem key_quiet {v : Value} {d : PyData} {as : List Addr} {Q : Bool → Shared → Prop} (r : Reads s.heap v d as) (hk : keyD d = true) (q : Q true s) : wpAny (model P w) A (eqIsQuiet 8 v) Q E s := by
  cases d with
  | int i =>
    cases r with
    | int _ t => rw [eqIsQuiet_byValue _ rfl]; exact wpAny_pure q
  | tuple ds =>
    obtain ⟨a, rfl, hi⟩ := tupKey (P := P) (w := w) r hk
    exact wpAny_eqIsQuiet_tuple hi q
  | _ => cases hk
theorem key_same (P : Program) (w : World) {h : Heap} {v : Value} {d e : PyData} {as bs : List Addr} (r : Reads h v d as) (r' : Reads h v e bs) (hk : keyD d = true) (hk' : keyD e = true) : d = e := by
  cases d with
  | int i =>
    cases r with
    | int _ t =>
      cases r' with
      | int _ t' => rfl
  | tuple ds =>
    obtain ⟨a, rfl, hi⟩ := tupKey (P := P) (w := w) r hk
    cases e with
    | tuple es =>
      obtain ⟨b, hb, hj⟩ := tupKey (P := P) (w := w) r' hk'
      cases hb
      have z := hi.inj hj
      obtain ⟨ks, q⟩ := Option.isSome_iff_exists.mp (show (ksOf ds).isSome = true from hk)
      obtain ⟨ls, q'⟩ := Option.isSome_iff_exists.mp (show (ksOf es).isSome = true from hk')
      rw [q, q'] at z
      have z : ks = ls := z
      subst z
      rw [ks_inj q q']
    | int i => cases r'
    | _ => cases hk'
  | _ => cases hk
theorem readsAll_get {h : Heap} : ∀ {us : List Value} {ds : List PyData} {as : List Addr} {i : Nat} {d : PyData}, ReadsAll h us ds as → ds[i]? = some d → ∃ u bs, us[i]? = some u ∧ Reads h u d bs
  | _, _, _, i, d, .nil, e => by simp at e
  | _, _, _, 0, d, .cons r t, e => by simp at e; subst e; exact ⟨_, _, rfl, r⟩
  | _, _, _, i + 1, d, .cons r t, e => by
    obtain ⟨u, bs, h1, h2⟩ := readsAll_get (i := i) t (by simpa using e)
    exact ⟨u, bs, by simpa using h1, h2⟩
/-- an entry -/
def ent (P : Program) (w : World) (u : Value) (d : PyData) : DictEntry := ⟨hsh P w d, u, .bool true⟩
/-- the keys at hand: they read as data, each can be a key, no two alike -/
structure Keys (h : Heap) (us : List Value) (ds : List PyData) : Prop where
  rd : ∃ as, ReadsAll h us ds as
  key : ∀ d ∈ ds, keyD d = true ∧ d.canLay0 = true
  nd : ds.Nodup
theorem rdAll_len {h : Heap} : ∀ {us : List Value} {ds : List PyData} {as : List Addr}, ReadsAll h us ds as → us.length = ds.length
  | _, _, _, .nil => rfl
  | _, _, _, .cons _ t => by rw [List.length_cons, List.length_cons, rdAll_len t]
theorem Keys.len {h : Heap} {us : List Value} {ds : List PyData} (k : Keys h us ds) : us.length = ds.length := by
  obtain ⟨as, r⟩ := k.rd
  exact rdAll_len r
/-- the dict at a -/
def MixD (P : Program) (w : World) (h : Heap) (a : Addr) (us : List Value) (ds : List PyData) : Prop :=
  ∃ o es ep, h.get? a = some o ∧ o.ExactDict ∧ o.data = .dict es ep ∧ es.toList = List.zipWith (ent P w) us ds
theorem ent_at {es : Array DictEntry} {us : List Value} {ds : List PyData} (he : es.toList = List.zipWith (ent P w) us ds) {i : Nat} {x : DictEntry} (hx : es[i]? = some x) : ∃ u d, us[i]? = some u ∧ ds[i]? = some d ∧ x = ent P w u d := by
  rw [← Array.getElem?_toList, he, List.getElem?_zipWith] at hx
  cases h1 : us[i]? with
  | none => simp [h1] at hx
  | some u =>
    cases h2 : ds[i]? with
    | none => simp [h1, h2] at hx
    | some d =>
      simp only [h1, h2, Option.some.injEq] at hx
      exact ⟨u, d, rfl, rfl, hx.symm⟩
def isAt (ds : List PyData) (d : PyData) (i : Nat) : Bool := match ds[i]? with
  | some e => PyData.eqv e d
  | none => false
theorem isAt_iff {ds : List PyData} {d : PyData} (hk : ∀ e ∈ ds, keyD e = true) (hd : keyD d = true) {i : Nat} : isAt ds d i = true ↔ ds[i]? = some d := by
  unfold isAt
  cases h : ds[i]? with
  | none => simp
  | some e =>
    have := eqv_key (hk e (List.mem_of_getElem? h)) hd
    simp [this]
theorem look_ok {es : Array DictEntry} {us : List Value} {ds : List PyData} {v : Value} {d : PyData} {as : List Addr} (he : es.toList = List.zipWith (ent P w) us ds) (k : Keys s.heap us ds) (r : Reads s.heap v d as) (hd : keyD d = true) (hl : d.canLay0 = true) (hu : A.units + 1 < cLine) : Look P w A E s es v (hsh P w d) (isAt ds d) := by
  obtain ⟨bs, rs⟩ := k.rd
  have hk : ∀ e ∈ ds, keyD e = true := fun e he => (k.key e he).1
  have rd : ∀ {i : Nat} {x : DictEntry}, es[i]? = some x → ∃ u e cs, ds[i]? = some e ∧ x = ent P w u e ∧ Reads s.heap u e cs := fun hx => by
    obtain ⟨u, e, h1, h2, h3⟩ := ent_at he hx
    obtain ⟨u', cs, h4, h5⟩ := readsAll_get rs h2
    rw [h1] at h4
    cases h4
    exact ⟨u, e, cs, h2, h3, h5⟩
  have dep : ∀ e, keyD e = true → e.depth ≤ 1 := by
    intro e h
    cases e with
    | int i => simp [PyData.depth]
    | tuple xs =>
      simp only [PyData.depth]
      have : ∀ l : List PyData, (ksOf l).isSome = true → PyData.depthAll l = 0 := by
        intro l
        induction l with
        | nil => intro _; rfl
        | cons y l ih =>
          intro h
          unfold ksOf at h
          cases q : atK y <;> cases q' : ksOf l <;> simp [q, q'] at h
          have := ih (by rw [q']; rfl)
          unfold PyData.depthAll
          rw [this]
          cases y <;> simp [atK] at q <;> simp [PyData.depth]
      rw [this xs h]
      omega
    | _ => cases h
  refine ⟨fun i x hx hh Q q => ?_, fun i hi => ?_, fun i j hi hj => ?_, fun Q q => key_quiet r hd q, fun x hx Q q => ?_, ?_, fun x hx hv => ?_⟩
  · obtain ⟨u, e, cs, h2, rfl, h5⟩ := rd hx
    have hm := List.mem_of_getElem? h2
    have hb : isAt ds d i = PyData.eqv e d := by unfold isAt; rw [h2]
    rw [hb] at q
    exact PySem.SeqAt.eqBoolOverData P w A E s u v e d cs as Q h5 r (k.key e hm).2 hl (by have := dep e (hk e hm); have := dep d hd; omega) q
  · rw [isAt_iff hk hd] at hi
    obtain ⟨u, cs, h4, h5⟩ := readsAll_get rs hi
    refine ⟨ent P w u d, ?_, rfl⟩
    rw [← Array.getElem?_toList, he, List.getElem?_zipWith, h4, hi]
  · rw [isAt_iff hk hd] at hi hj
    exact (List.getElem?_inj (List.getElem?_eq_some_iff.mp hi).1 k.nd).mp (hi.trans hj.symm)
  · obtain ⟨i, hi⟩ := Array.mem_iff_getElem?.mp hx
    obtain ⟨u, e, cs, h2, rfl, h5⟩ := rd hi
    exact key_quiet h5 (hk e (List.mem_of_getElem? h2)) q
  · cases d with
    | int i =>
      cases r with
      | int _ t => exact .inl ⟨i, t, rfl⟩
    | tuple xs =>
      obtain ⟨a, rfl, _⟩ := tupKey (P := P) (w := w) r hd
      exact .inr ⟨a, rfl⟩
    | _ => cases hd
  · obtain ⟨i, hi⟩ := Array.mem_iff_getElem?.mp hx
    obtain ⟨u, e, cs, h2, rfl, h5⟩ := rd hi
    have hv : u = v := hv
    subst hv
    rw [key_same P w h5 r (hk e (List.mem_of_getElem? h2)) hd]
    rfl
def hasK (ds : List PyData) (d : PyData) : Bool := ds.any fun z => PyData.eqv z d
theorem hasK_iff {ds : List PyData} {d : PyData} (hk : ∀ e ∈ ds, keyD e = true) (hd : keyD d = true) : hasK ds d = true ↔ d ∈ ds := by
  unfold hasK
  rw [List.any_eq_true]
  constructor
  · rintro ⟨e, he, q⟩
    rw [← (eqv_key (hk e he) hd).mp q]
    exact he
  · intro h
    exact ⟨d, h, (eqv_key hd hd).mpr rfl⟩
theorem get_mix {a : Addr} {us : List Value} {ds : List PyData} {v : Value} {d : PyData} {as : List Addr} {Q : Option Value → Shared → Prop} (m : MixD P w s.heap a us ds) (k : Keys s.heap us ds) (r : Reads s.heap v d as) (hd : keyD d = true) (hl : d.canLay0 = true) (hu : A.units + 1 < cLine)
    (no : d ∉ ds → ∀ tk, Q none { s with toks := tk }) (yes : d ∈ ds → ∀ tk, Q (some (.bool true)) { s with toks := tk }) : wpAny (model P w) A (dictGet a v) Q E s := by
  obtain ⟨o, es, ep, h1, h2, h3, he⟩ := m
  have hk : ∀ e ∈ ds, keyD e = true := fun e he => (k.key e he).1
  unfold dictGet
  refine wpAny_holding ?_
  refine wpAny_bind (key_hash r hd (by omega) fun tk => ?_)
  have L : Look P w A E { s with toks := tk } es v (hsh P w d) (isAt ds d) := look_ok (s := { s with toks := tk }) he k r hd hl hu
  refine wpAny_bind (find_ok (s := { s with toks := tk }) h1 h3 L (fun z => ?_) fun i hi => ?_)
  · refine wpAny_pure (no (fun hm => ?_) tk)
    obtain ⟨i, hi⟩ := List.mem_iff_getElem?.mp hm
    have := z i
    rw [(isAt_iff hk hd).mpr hi] at this
    cases this
  · refine wpAny_bind (wpAny_dictEntries (s := { s with toks := tk }) h1 h3 ?_)
    have hi := (isAt_iff hk hd).mp hi
    obtain ⟨u, cs, h4, h5⟩ := readsAll_get k.rd.choose_spec hi
    have : es[i]? = some (ent P w u d) := by rw [← Array.getElem?_toList, he, List.getElem?_zipWith, h4, hi]
    rw [this]
    exact wpAny_pure (yes (List.mem_of_getElem? hi) tk)
theorem mixD_ty {a : Addr} {us : List Value} {ds : List PyData} (m : MixD P w s.heap a us ds) : s.TypeIs (.ref a) "dict" := by
  obtain ⟨o, es, ep, h1, h2, h3, he⟩ := m
  exact ⟨o, h1, h2.1⟩
theorem in_mix {a : Addr} {us : List Value} {ds : List PyData} {v : Value} {d : PyData} {as : List Addr} {Q : Value → Shared → Prop} (m : MixD P w s.heap a us ds) (hs : (a == sysModules) = false) (k : Keys s.heap us ds) (r : Reads s.heap v d as) (hd : keyD d = true) (hl : d.canLay0 = true) (hu : A.units + 2 < cLine)
    (q : ∀ tk, Q (.bool (hasK ds d)) { s with toks := tk }) : wpAny (model P w) A (compareOp .In v (.ref a)) Q E s := by
  have ty := mixD_ty m
  show wpAny _ _ (contains (.ref a) v >>= fun b => pure (.bool b)) Q E s
  refine wpAny_bind ?_
  unfold contains
  refine wpAny_holding ?_
  refine wpAny_bind (wpAny_specialOf ty slot_dict_contains.lookup ?_)
  rw [if_neg (by rw [beq_builtin_none]; exact Bool.false_ne_true)]
  refine wpAny_bind (wpAny_callSpecialUnlessNone?_slot (name := Str.ofString "__contains__") ty slot_dict_contains (wpAny_call_entry slot_dict_contains ty entry_dict_contains ?_ (args_dict_contains _ _)))
  show wpAny _ _ (dictGet a v >>= _) _ _ s
  refine wpAny_bind (get_mix m k r hd hl (by show A.units + 1 + 1 < cLine; omega) (fun z tk => ?_) fun z tk => ?_)
  · have q := q tk
    rw [show hasK ds d = false from Bool.eq_false_iff.mpr fun y => z ((hasK_iff (fun e he => (k.key e he).1) hd).mp y)] at q
    show wpAny _ _ (Builtin.Dict.pendingKey? a v >>= _) _ _ _
    exact wpAny_bind (wpAny_pendingKey_other hs (wpAny_pure ⟨_, rfl, wpAny_truthy_bool (wpAny_pure q)⟩))
  · have q := q tk
    rw [show hasK ds d = true from (hasK_iff (fun e he => (k.key e he).1) hd).mpr z] at q
    show wpAny _ _ (ret (.bool true)) _ _ _
    exact wpAny_pure ⟨_, rfl, wpAny_truthy_bool (wpAny_pure q)⟩
theorem mod_same {l : List DictEntry} {f : DictEntry → DictEntry} {i : Nat} (h : ∀ x, l[i]? = some x → f x = x) : l.modify i f = l := by
  apply List.ext_getElem?
  intro j
  rw [List.getElem?_modify]
  by_cases e : i = j
  · subst e
    cases q : l[i]? with
    | none => simp
    | some x => simp [h x q]
  · simp [e]
theorem set_mix {a : Addr} {us : List Value} {ds : List PyData} {v : Value} {d : PyData} {as : List Addr} {Q : Unit → Shared → Prop} (m : MixD P w s.heap a us ds) (k : Keys s.heap us ds) (r : Reads s.heap v d as) (hd : keyD d = true) (hl : d.canLay0 = true) (hu : A.units + 1 < cLine) (hz : ds.length ≤ sizeLine)
    (old : d ∈ ds → ∀ h', MixD P w h' a us ds → Heap.SameBut a s.heap h' → Q () { s with heap := h' }) (new : d ∉ ds → ∀ h', MixD P w h' a (us ++ [v]) (ds ++ [d]) → Heap.SameBut a s.heap h' → Q () { s with heap := h' }) :
    wpAny (model P w) A (dictSetHashed a v (hsh P w d) (.bool true)) Q E s := by
  obtain ⟨o, es, ep, h1, h2, h3, he⟩ := m
  have hk : ∀ e ∈ ds, keyD e = true := fun e he => (k.key e he).1
  have hn : es.size = ds.length := by
    rw [← Array.length_toList, he, List.length_zipWith, k.len, Nat.min_self]
  unfold dictSetHashed
  refine wpAny_holding ?_
  refine wpAny_bind (find_ok h1 h3 (look_ok he k r hd hl hu) (fun z => ?_) fun i hi => ?_)
  · have hm : d ∉ ds := fun hm => by
      obtain ⟨i, hi⟩ := List.mem_iff_getElem?.mp hm
      have := z i
      rw [(isAt_iff hk hd).mpr hi] at this
      cases this
    refine wpAny_bind (wpAny_rule (wpAny_updateDictKeys h1 h3 (new hm _ ⟨_, _, ep + 1, Heap.get?_update_self _ h1 (Obj.isFreed_of_dict (Obj.data_mapDictKeys h3 _)), h2.mapDictKeys _, Obj.data_mapDictKeys h3 _, ?_⟩ (Heap.SameBut.update ..)) (by omega)))
    rw [Array.toList_push, he, List.zipWith_append k.len]
    rfl
  · have hi := (isAt_iff hk hd).mp hi
    refine wpAny_bind (wpAny_rule (wpAny_bind (wpAny_updateDict h1 h3 (wpAny_point (old (List.mem_of_getElem? hi) _ ⟨_, _, ep, Heap.get?_update_self _ h1 (Obj.isFreed_of_dict (Obj.data_mapDict h3 _)), h2.mapDict _, Obj.data_mapDict h3 _, ?_⟩ (Heap.SameBut.update ..))))))
    rw [Array.toList_modify, mod_same, he]
    intro x hx
    obtain ⟨u, e, _, _, rfl⟩ := ent_at (i := i) he (by rw [← Array.getElem?_toList]; exact hx)
    rfl
end
end Pm
/-! PmC: update by a dict of the same kind. -/
namespace Pm
open PySem L2
section
variable {P : Program} {w : World} {A : Around} {E : Value → Shared → Prop} {s : Shared}
theorem atoms_keep {h h' : Heap} : ∀ {vs : List Value} {ds : List PyData} {as : List Addr}, ReadsAll h vs ds as → (ksOf ds).isSome = true → ReadsAll h' vs ds as
  | _, _, _, .nil, _ => .nil
  | _, _, _, .cons (d := d) (ds := ds) r t, e => by
    unfold ksOf at e
    cases q' : ksOf ds with
    | none => cases q : atK d <;> simp [q, q'] at e
    | some l =>
      have ht := atoms_keep (h' := h') t (by rw [q']; rfl)
      cases d with
      | int i =>
        cases r with
        | int _ tk => exact .cons (.int i tk) ht
      | str x =>
        cases r with
        | str _ tk => exact .cons (.str x tk) ht
      | _ => simp [atK] at e
/-- a key is kept where another object changes -/
theorem key_keep {h h' : Heap} {v : Value} {d : PyData} {as : List Addr} {a : Addr} {o : Obj} {es : Array DictEntry} {ep : Nat} (r : Reads h v d as) (hd : keyD d = true) (ha : h.get? a = some o) (hD : o.data = .dict es ep) (sb : ∀ b, b ≠ a → h'.get? b = h.get? b) : Reads h' v d as := by
  cases d with
  | int i =>
    cases r with
    | int _ tk => exact .int i tk
  | tuple ds =>
    cases r with
    | tuple h1 h2 h3 h4 =>
      refine .tuple ((sb _ fun e => ?_).trans h1) h2 h3 (atoms_keep h4 hd)
      subst e
      rw [ha] at h1
      cases h1
      rw [hD] at h3
      cases h3
  | _ => cases hd
theorem keys_keepAll {h h' : Heap} {a : Addr} {o : Obj} {es : Array DictEntry} {ep : Nat} (ha : h.get? a = some o) (hD : o.data = .dict es ep) (sb : ∀ b, b ≠ a → h'.get? b = h.get? b) : ∀ {us : List Value} {ds : List PyData} {as : List Addr}, ReadsAll h us ds as → (∀ d ∈ ds, keyD d = true) → ReadsAll h' us ds as
  | _, _, _, .nil, _ => .nil
  | _, _, _, .cons r t, k => .cons (key_keep r (k _ List.mem_cons_self) ha hD sb) (keys_keepAll ha hD sb t fun d hd => k d (List.mem_cons_of_mem _ hd))
theorem Keys.keep {h h' : Heap} {a : Addr} {us vs : List Value} {ds es : List PyData} (k : Keys h us ds) (m : MixD P w h a vs es) (sb : Heap.SameBut a h h') : Keys h' us ds := by
  obtain ⟨o, xs, ep, h1, _, h3, _⟩ := m
  obtain ⟨as, r⟩ := k.rd
  exact ⟨⟨as, keys_keepAll h1 h3 sb.2 r fun d hd => (k.key d hd).1⟩, k.key, k.nd⟩
theorem MixD.keep {h h' : Heap} {a b : Addr} {us : List Value} {ds : List PyData} (m : MixD P w h b us ds) (hab : b ≠ a) (sb : Heap.SameBut a h h') : MixD P w h' b us ds := by
  obtain ⟨o, xs, ep, h1, h2, h3, h4⟩ := m
  exact ⟨o, xs, ep, (sb.2 b hab).trans h1, h2, h3, h4⟩
/-- one key more -/
def addK {α : Type} (c : List α × List PyData) (u : α) (d : PyData) : List α × List PyData := if hasK c.2 d = true then c else (c.1 ++ [u], c.2 ++ [d])
def addAll {α : Type} (c : List α × List PyData) : List α → List PyData → List α × List PyData
  | u :: us, d :: ds => addAll (addK c u d) us ds
  | _, _ => c
theorem addK_keys {h : Heap} {c : List Value × List PyData} {u : Value} {d : PyData} {as : List Addr} (k : Keys h c.1 c.2) (r : Reads h u d as) (hd : keyD d = true) (hl : d.canLay0 = true) : Keys h (addK c u d).1 (addK c u d).2 := by
  unfold addK
  by_cases e : hasK c.2 d = true
  · rw [if_pos e]; exact k
  · rw [if_neg e]
    have hm : d ∉ c.2 := fun z => e ((hasK_iff (fun x hx => (k.key x hx).1) hd).mpr z)
    obtain ⟨bs, rs⟩ := k.rd
    have app : ∀ {us : List Value} {ds : List PyData} {as' : List Addr}, ReadsAll h us ds as' → ∃ cs, ReadsAll h (us ++ [u]) (ds ++ [d]) cs := by
      intro us
      induction us with
      | nil => intro ds as' q; cases q; exact ⟨_, .cons r .nil⟩
      | cons y us ih =>
        intro ds as' q
        cases q with
        | cons q1 q2 =>
          obtain ⟨cs, q3⟩ := ih q2
          exact ⟨_, .cons q1 q3⟩
    refine ⟨app rs, fun x hx => ?_, ?_⟩
    · rcases List.mem_append.mp hx with q | q
      · exact k.key x q
      · rw [List.mem_singleton.mp q]; exact ⟨hd, hl⟩
    · rw [List.nodup_append]
      refine ⟨k.nd, by simp, fun x hx y hy => ?_⟩
      rw [List.mem_singleton.mp hy]
      intro z
      exact hm (z ▸ hx)
theorem addK_len {α : Type} {c : List α × List PyData} {u : α} {d : PyData} : (addK c u d).2.length ≤ c.2.length + 1 ∧ c.2.length ≤ (addK c u d).2.length := by
  unfold addK
  split <;> simp
theorem set_add {a : Addr} {c : List Value × List PyData} {v : Value} {d : PyData} {as : List Addr} {Q : Unit → Shared → Prop} (m : MixD P w s.heap a c.1 c.2) (k : Keys s.heap c.1 c.2) (r : Reads s.heap v d as) (hd : keyD d = true) (hl : d.canLay0 = true) (hu : A.units + 1 < cLine) (hz : c.2.length ≤ sizeLine)
    (q : ∀ h', MixD P w h' a (addK c v d).1 (addK c v d).2 → Keys h' (addK c v d).1 (addK c v d).2 → Heap.SameBut a s.heap h' → Q () { s with heap := h' }) : wpAny (model P w) A (dictSetHashed a v (hsh P w d) (.bool true)) Q E s := by
  have hk : ∀ e ∈ c.2, keyD e = true := fun e he => (k.key e he).1
  have k' := addK_keys k r hd hl
  refine set_mix m k r hd hl hu hz (fun hm h' m' sb => ?_) fun hm h' m' sb => ?_
  · have e : addK c v d = c := if_pos ((hasK_iff hk hd).mpr hm)
    exact q h' (by rw [e]; exact m') (k'.keep m sb) sb
  · have e : addK c v d = (c.1 ++ [v], c.2 ++ [d]) := if_neg fun z => hm ((hasK_iff hk hd).mp z)
    exact q h' (by rw [e]; exact m') (k'.keep m sb) sb
theorem addAll_take {α : Type} : ∀ (c : List α × List PyData) (us : List α) (ds : List PyData) (i : Nat) {u : α} {d : PyData}, us[i]? = some u → ds[i]? = some d → addAll c (us.take (i + 1)) (ds.take (i + 1)) = addK (addAll c (us.take i) (ds.take i)) u d
  | c, [], ds, i, u, d, h, _ => by simp at h
  | c, y :: us, [], i, u, d, _, h => by simp at h
  | c, y :: us, e :: ds, 0, u, d, h, h' => by
    simp at h h'
    subst h h'
    simp [addAll]
  | c, y :: us, e :: ds, i + 1, u, d, h, h' => by
    simp only [List.take_succ_cons, addAll]
    exact addAll_take _ us ds i (by simpa using h) (by simpa using h')
theorem addAll_len {α : Type} : ∀ (c : List α × List PyData) (us : List α) (ds : List PyData), (addAll c us ds).2.length ≤ c.2.length + ds.length
  | c, [], ds => by simp [addAll]
  | c, y :: us, [] => by simp [addAll]
  | c, y :: us, e :: ds => by
    have h1 := addAll_len (addK c y e) us ds
    have h2 := (addK_len (c := c) (u := y) (d := e)).1
    simp only [addAll, List.length_cons]
    omega
theorem merge_mix {nm : String} {d o : Addr} {us vs : List Value} {ds es : List PyData} {Q : Unit → Shared → Prop} (hdo : d ≠ o) (hoS : (o == sysModules) = false) (md : MixD P w s.heap d us ds) (kd : Keys s.heap us ds) (mo : MixD P w s.heap o vs es) (ko : Keys s.heap vs es) (hne : ds ≠ []) (hu : A.units + 1 < cLine) (hz : ds.length + es.length ≤ sizeLine)
    (q : ∀ h', MixD P w h' d (addAll (us, ds) vs es).1 (addAll (us, ds) vs es).2 → Keys h' (addAll (us, ds) vs es).1 (addAll (us, ds) vs es).2 → Heap.SameBut d s.heap h' → Q () { s with heap := h' }) :
    wpAny (model P w) A (Builtin.Dict.mergeDict nm d o) Q E s := by
  obtain ⟨od, xd, epd, d1, d2, d3, d4⟩ := id md
  obtain ⟨oo, xo, epo, o1, o2, o3, o4⟩ := id mo
  have nd : xd.isEmpty = false := by
    cases e : xd.isEmpty with
    | false => rfl
    | true =>
      have z : xd = #[] := Array.isEmpty_iff.mp e
      rw [z] at d4
      cases ds with
      | nil => exact absurd rfl hne
      | cons y ds =>
        have := kd.len
        cases us with
        | nil => cases this
        | cons x us => cases d4
  have no : xo.size = es.length := by rw [← Array.length_toList, o4, List.length_zipWith, ko.len, Nat.min_self]
  unfold Builtin.Dict.mergeDict
  rw [if_neg (by simpa using hdo)]
  unfold Builtin.Dict.showsAll
  rw [if_neg (by rw [hoS]; exact Bool.false_ne_true)]
  refine wpAny_bind (wpAny_pure ?_)
  refine wpAny_bind (wpAny_dictEntries o1 o3 ?_)
  dsimp only
  by_cases few : (!(decide (xo.size ≤ 8) && xo.all fun e => (keyPart e.key).isSome)) = true
  · rw [if_pos few]
    refine wpAny_bind (wpAny_dictEntries d1 d3 ?_)
    rw [nd, if_neg (by decide)]
    refine wpAny_bind (wpAny_dictEpoch o1 o3 (wpAny_bind (wpAny_dictEntries o1 o3 (wpAny_bind ?_))))
    rw [Std.Legacy.Range.forIn_eq_forIn_range']
    simp only [Std.Legacy.Range.size, Nat.sub_zero, Nat.add_sub_cancel, Nat.div_one]
    refine wpAny_forIn_list _ (fun left _ s1 => ∃ h' i, s1 = { s with heap := h' } ∧ left = List.range' i (xo.size - i) ∧ i ≤ xo.size ∧ MixD P w h' d (addAll (us, ds) (vs.take i) (es.take i)).1 (addAll (us, ds) (vs.take i) (es.take i)).2 ∧ Keys h' (addAll (us, ds) (vs.take i) (es.take i)).1 (addAll (us, ds) (vs.take i) (es.take i)).2 ∧ Heap.SameBut d s.heap h') _ ?_ ?_ _ _ ⟨s.heap, 0, rfl, by simp, Nat.zero_le _, by simpa [addAll] using md, by simpa [addAll] using kd, Heap.SameBut.refl _ _⟩
    · rintro j left b s1 ⟨h', i, rfl, hr, hi, m', k', sb⟩
      have hlt : i < xo.size := by
        rcases Nat.lt_or_ge i xo.size with z | z
        · exact z
        · rw [Nat.sub_eq_zero_of_le z] at hr; cases hr
      have e2 : xo.size - i = (xo.size - (i + 1)) + 1 := by omega
      rw [e2, List.range'_succ] at hr
      injection hr with hr1 hr2
      subst hr1
      have o1' : h'.get? o = some oo := (sb.2 o (Ne.symm hdo)).trans o1
      have mo' : MixD P w h' o vs es := mo.keep (Ne.symm hdo) sb
      have ko' : Keys h' vs es := ko.keep md sb
      refine wpAny_bind (wpAny_dictEntries (s := { s with heap := h' }) o1' o3 ?_)
      obtain ⟨x, hx⟩ : ∃ x, xo[j]? = some x := ⟨xo[j], Array.getElem?_eq_getElem hlt⟩
      rw [hx]
      obtain ⟨u, e, u1, u2, rfl⟩ := ent_at o4 hx
      obtain ⟨as, rs⟩ := ko'.rd
      obtain ⟨u', bs, u3, u4⟩ := readsAll_get rs u2
      rw [u1] at u3
      cases u3
      have hm := List.mem_of_getElem? u2
      have hl := addAll_len (us, ds) (vs.take j) (es.take j)
      have hl2 : (es.take j).length ≤ es.length := List.length_take_le' _ _
      refine wpAny_bind (wpAny_holding (set_add (s := { s with heap := h' }) m' k' u4 (ko.key e hm).1 (ko.key e hm).2 hu (by simp only at hl; omega) fun h2 m2 k2 sb2 => ?_))
      have o1'' : h2.get? o = some oo := (sb2.2 o (Ne.symm hdo)).trans o1'
      refine wpAny_bind (wpAny_dictEpoch (s := { s with heap := h2 }) o1'' o3 ?_)
      rw [if_neg (by simp)]
      have tk := addAll_take (us, ds) vs es j u1 u2
      have m2 : MixD P w h2 d (addK (addAll (us, ds) (vs.take j) (es.take j)) u e).1 (addK (addAll (us, ds) (vs.take j) (es.take j)) u e).2 := m2
      have k2 : Keys h2 (addK (addAll (us, ds) (vs.take j) (es.take j)) u e).1 (addK (addAll (us, ds) (vs.take j) (es.take j)) u e).2 := k2
      rw [← tk] at m2 k2
      exact wpAny_pure ⟨h2, j + 1, rfl, hr2, hlt, m2, k2, sb.trans sb2⟩
    · rintro b s1 ⟨h', i, rfl, hr, hi, m', k', sb⟩
      have hin : i = xo.size := by
        rcases Nat.lt_or_ge i xo.size with z | z
        · have e2 : xo.size - i = (xo.size - (i + 1)) + 1 := by omega
          rw [e2, List.range'_succ] at hr
          cases hr
        · omega
      have t1 : vs.take i = vs := List.take_of_length_le (by rw [hin, no, ko.len]; exact Nat.le_refl _)
      have t2 : es.take i = es := List.take_of_length_le (by rw [hin, no]; exact Nat.le_refl _)
      rw [t1, t2] at m' k'
      exact wpAny_pure (q h' m' k' sb)
  · rw [if_neg few]
    refine wpAny_bind (wpAny_dictEpoch o1 o3 (wpAny_bind (wpAny_dictEntries o1 o3 (wpAny_bind ?_))))
    rw [Std.Legacy.Range.forIn_eq_forIn_range']
    simp only [Std.Legacy.Range.size, Nat.sub_zero, Nat.add_sub_cancel, Nat.div_one]
    refine wpAny_forIn_list _ (fun left _ s1 => ∃ h' i, s1 = { s with heap := h' } ∧ left = List.range' i (xo.size - i) ∧ i ≤ xo.size ∧ MixD P w h' d (addAll (us, ds) (vs.take i) (es.take i)).1 (addAll (us, ds) (vs.take i) (es.take i)).2 ∧ Keys h' (addAll (us, ds) (vs.take i) (es.take i)).1 (addAll (us, ds) (vs.take i) (es.take i)).2 ∧ Heap.SameBut d s.heap h') _ ?_ ?_ _ _ ⟨s.heap, 0, rfl, by simp, Nat.zero_le _, by simpa [addAll] using md, by simpa [addAll] using kd, Heap.SameBut.refl _ _⟩
    · rintro j left b s1 ⟨h', i, rfl, hr, hi, m', k', sb⟩
      have hlt : i < xo.size := by
        rcases Nat.lt_or_ge i xo.size with z | z
        · exact z
        · rw [Nat.sub_eq_zero_of_le z] at hr; cases hr
      have e2 : xo.size - i = (xo.size - (i + 1)) + 1 := by omega
      rw [e2, List.range'_succ] at hr
      injection hr with hr1 hr2
      subst hr1
      have o1' : h'.get? o = some oo := (sb.2 o (Ne.symm hdo)).trans o1
      have mo' : MixD P w h' o vs es := mo.keep (Ne.symm hdo) sb
      have ko' : Keys h' vs es := ko.keep md sb
      refine wpAny_bind (wpAny_dictEntries (s := { s with heap := h' }) o1' o3 ?_)
      obtain ⟨x, hx⟩ : ∃ x, xo[j]? = some x := ⟨xo[j], Array.getElem?_eq_getElem hlt⟩
      rw [hx]
      obtain ⟨u, e, u1, u2, rfl⟩ := ent_at o4 hx
      obtain ⟨as, rs⟩ := ko'.rd
      obtain ⟨u', bs, u3, u4⟩ := readsAll_get rs u2
      rw [u1] at u3
      cases u3
      have hm := List.mem_of_getElem? u2
      have hl := addAll_len (us, ds) (vs.take j) (es.take j)
      have hl2 : (es.take j).length ≤ es.length := List.length_take_le' _ _
      refine wpAny_bind (wpAny_holding (set_add (s := { s with heap := h' }) m' k' u4 (ko.key e hm).1 (ko.key e hm).2 hu (by simp only at hl; omega) fun h2 m2 k2 sb2 => ?_))
      have o1'' : h2.get? o = some oo := (sb2.2 o (Ne.symm hdo)).trans o1'
      refine wpAny_bind (wpAny_dictEpoch (s := { s with heap := h2 }) o1'' o3 ?_)
      rw [if_neg (by simp)]
      have tk := addAll_take (us, ds) vs es j u1 u2
      have m2 : MixD P w h2 d (addK (addAll (us, ds) (vs.take j) (es.take j)) u e).1 (addK (addAll (us, ds) (vs.take j) (es.take j)) u e).2 := m2
      have k2 : Keys h2 (addK (addAll (us, ds) (vs.take j) (es.take j)) u e).1 (addK (addAll (us, ds) (vs.take j) (es.take j)) u e).2 := k2
      rw [← tk] at m2 k2
      exact wpAny_pure ⟨h2, j + 1, rfl, hr2, hlt, m2, k2, sb.trans sb2⟩
    · rintro b s1 ⟨h', i, rfl, hr, hi, m', k', sb⟩
      have hin : i = xo.size := by
        rcases Nat.lt_or_ge i xo.size with z | z
        · have e2 : xo.size - i = (xo.size - (i + 1)) + 1 := by omega
          rw [e2, List.range'_succ] at hr
          cases hr
        · omega
      have t1 : vs.take i = vs := List.take_of_length_le (by rw [hin, no, ko.len]; exact Nat.le_refl _)
      have t2 : es.take i = es := List.take_of_length_le (by rw [hin, no]; exact Nat.le_refl _)
      rw [t1, t2] at m' k'
      exact wpAny_pure (q h' m' k' sb)
theorem from_mix {R : Result → Shared → Prop} {nm : String} {d o : Addr} {us vs : List Value} {ds es : List PyData} (res : Value) (hdo : d ≠ o) (hoS : (o == sysModules) = false) (md : MixD P w s.heap d us ds) (kd : Keys s.heap us ds) (mo : MixD P w s.heap o vs es) (ko : Keys s.heap vs es) (hne : ds ≠ []) (hu : A.units + 2 < cLine) (hz : ds.length + es.length ≤ sizeLine)
    (q : ∀ h', MixD P w h' d (addAll (us, ds) vs es).1 (addAll (us, ds) vs es).2 → Keys h' (addAll (us, ds) vs es).1 (addAll (us, ds) vs es).2 → Heap.SameBut d s.heap h' → R (.ok (.ret res)) { s with heap := h' }) :
    wpAny (model P w) A.in1 (Builtin.Dict.updateFrom nm d (.ref o) [] res) (fun z s' => match z with
      | .done f => R (.ok f) s'
      | .again c' => c'.quiet = true ∧ codeAny (model P w) A c' R s') (fun e s' => R (.error e) s') s := by
  have ty := mixD_ty mo
  unfold Builtin.Dict.updateFrom
  refine wpAny_bind (wpAny_typeOf ty ?_)
  rw [if_neg (by decide)]
  refine wpAny_bind ?_
  unfold Builtin.Dict.merge Builtin.Dict.readDirectly
  refine wpAny_bind (wpAny_bind (wpAny_isInstance ty isSubtype_dict_dict ?_))
  rw [if_neg (by decide)]
  refine wpAny_bind (wpAny_specialOf ty F.slot_dict_iter.lookup (wpAny_pure ?_))
  simp only [beq_self_eq_true, if_true]
  refine wpAny_bind (wpAny_pure ?_)
  refine merge_mix (A := A.in1) hdo hoS md kd mo ko hne (by show A.units + 1 + 1 < cLine; omega) hz fun h' m' k' sb => ?_
  show wpAny _ _ (Builtin.Dict.addKeywords d [] >>= _) _ _ _
  exact wpAny_bind (wpAny_pure (wpAny_pure (q h' m' k' sb)))
theorem update_mix {d o : Addr} {us vs : List Value} {ds es : List PyData} {Q : Value → Shared → Prop} (hdo : d ≠ o) (hoS : (o == sysModules) = false) (md : MixD P w s.heap d us ds) (kd : Keys s.heap us ds) (mo : MixD P w s.heap o vs es) (ko : Keys s.heap vs es) (hne : ds ≠ []) (hu : A.units + 2 < cLine) (hz : ds.length + es.length ≤ sizeLine)
    (q : ∀ h', MixD P w h' d (addAll (us, ds) vs es).1 (addAll (us, ds) vs es).2 → Keys h' (addAll (us, ds) vs es).1 (addAll (us, ds) vs es).2 → Heap.SameBut d s.heap h' → Q .none { s with heap := h' }) :
    wpAny (model P w) A (call (.builtin "dict.update") [.ref d, .ref o]) Q E s :=
  call_meetsIn F.slot_dict_update (mixD_ty md) F.entry_dict_update (F.args_dict_update_2 _ _)
    (S := fun A' R s' => A' = A ∧ s' = s ∧ ∀ h', MixD P w h' d (addAll (us, ds) vs es).1 (addAll (us, ds) vs es).2 → Keys h' (addAll (us, ds) vs es).1 (addAll (us, ds) vs es).2 → Heap.SameBut d s.heap h' → R (.ok (.ret .none)) { s with heap := h' })
    (fun A' R s' z => by obtain ⟨rfl, rfl, z⟩ := z; exact meets_dict_update_arg (mixD_ty md) (from_mix .none hdo hoS md kd mo ko hne hu hz z)) ⟨rfl, rfl, q⟩
end
end Pm
/-! PmD: such dicts as things of the hand layer. -/
namespace Pm
open PySem L2
/-- the keys as data: each can be a key, no two alike -/
def good (ds : List PyData) : Prop := (∀ d ∈ ds, keyD d = true ∧ d.canLay0 = true) ∧ ds.Nodup
/-- with the count of its changes -/
def MixE (P : Program) (w : World) (h : Heap) (a : Addr) (us : List Value) (ds : List PyData) (ep : Nat) : Prop := ∃ o es, h.get? a = some o ∧ o.ExactDict ∧ o.data = .dict es ep ∧ es.toList = List.zipWith (ent P w) us ds
theorem MixE.d {P : Program} {w : World} {h : Heap} {a : Addr} {us : List Value} {ds : List PyData} {ep : Nat} (m : MixE P w h a us ds ep) : MixD P w h a us ds := let ⟨o, es, q⟩ := m; ⟨o, es, ep, q⟩
theorem mixD_e {P : Program} {w : World} {h : Heap} {a : Addr} {us : List Value} {ds : List PyData} (m : MixD P w h a us ds) : ∃ ep, MixE P w h a us ds ep := let ⟨o, es, ep, q⟩ := m; ⟨ep, o, es, q⟩
def MixO (P : Program) (w : World) (a : Addr) (vs : List V) (ds : List PyData) (ep : Nat) : HO := .ext fun h => (a == sysModules) = false ∧ ds.length ≤ sizeLine ∧ ∃ us, Vals vs us ∧ MixE P w h a us ds ep
theorem mixO_new {P : Program} {w : World} {H : Hp} {h : Heap} {a : Addr} {vs : List V} {us : List Value} {ds : List PyData} {ep : Nat} (h1 : (a == sysModules) = false) (h2 : ds.length ≤ sizeLine) (h3 : Vals vs us) (h4 : MixE P w h a us ds ep) : ObjOk P w H h a (MixO P w a vs ds ep) := by
  refine ⟨⟨h1, h2, us, h3, h4⟩, ?_, ?_⟩
  · obtain ⟨o, _, e, _⟩ := h4
    exact ⟨o, e⟩
  · rintro g1 g2 ⟨q1, q2, us', q3, o, es, q4, q5⟩ k
    exact ⟨q1, q2, us', q3, o, es, k o q4, q5⟩
section
variable {X : Cx} {pins : List (Addr × Obj)} {σ : St} {H : Hp} {s : Shared} {A : Around} {E : Value → Shared → Prop}
theorem mixO_get {a : Addr} {vs : List V} {ds : List PyData} {ep : Nat} (I : Inv X pins σ H s) (ha : H a = some (MixO X.prog X.w a vs ds ep)) (dp : DpAll X.K H vs ds) (g : good ds) : (a == sysModules) = false ∧ ds.length ≤ sizeLine ∧ ∃ us, Vals vs us ∧ MixD X.prog X.w s.heap a us ds ∧ Keys s.heap us ds := by
  obtain ⟨h1, h2, us, h3, h4⟩ := (I.hok a _ ha).1
  exact ⟨h1, h2, us, h3, h4.d, Dp.readsAll I ds vs us dp h3, g.1, g.2⟩
/-- x in d -/
def rInM (P : Program) (w : World) (K : PySem.W.Frag) : R2 := fun x y H Q => ∃ d a vs ds ep, Dp K H x d ∧ keyD d = true ∧ d.canLay0 = true ∧ y = .ref a ∧ H a = some (MixO P w a vs ds ep) ∧ DpAll K H vs ds ∧ good ds ∧ Q (.bl (hasK ds d)) H
theorem or_inM (hu : X.A.units + 2 < cLine) : OpR X (compareOp .In) (rInM X.prog X.w X.K) := by
  intro pins s σ H x y v u Q I rx ry h
  obtain ⟨d, a, vs, ds, ep, hd, k1, k2, rfl, ha, dp, g, q⟩ := h
  cases ry
  obtain ⟨z1, z2, us, z3, z4, z5⟩ := mixO_get I ha dp g
  obtain ⟨as, r⟩ := Dp.reads I d x v hd rx
  refine in_mix z4 z1 z5 r k1 k2 hu fun tk => ⟨.bl (hasK ds d), H, I.tok _, rfl, q⟩
theorem addAll_vals : ∀ {vs xs : List V} {us ys : List Value} {ds es : List PyData}, Vals vs us → Vals xs ys → Vals (addAll (vs, ds) xs es).1 (addAll (us, ds) ys es).1 ∧ (addAll (vs, ds) xs es).2 = (addAll (us, ds) ys es).2
  | vs, _, us, _, ds, es, r, .nil => by
    cases es <;> exact ⟨r, rfl⟩
  | vs, _, us, _, ds, [], r, .cons _ _ => ⟨r, rfl⟩
  | vs, _, us, _, ds, e :: es, r, .cons r1 t => by
    simp only [addAll, addK]
    by_cases q : hasK ds e = true
    · simp only [q, if_true]
      exact addAll_vals r t
    · simp only [q]
      exact addAll_vals (r.append (.cons r1 .nil)) t
theorem addAll_good : ∀ {α : Type} (xs : List α) (c : List α × List PyData) (es : List PyData), good c.2 → (∀ d ∈ es, keyD d = true ∧ d.canLay0 = true) → good (addAll c xs es).2
  | _, [], c, es, g, _ => by cases es <;> exact g
  | _, x :: xs, c, [], g, _ => g
  | _, x :: xs, c, e :: es, g, k => by
    simp only [addAll]
    refine addAll_good xs _ es ?_ fun d hd => k d (List.mem_cons_of_mem _ hd)
    have ke := k e List.mem_cons_self
    unfold addK
    by_cases q : hasK c.2 e = true
    · rw [if_pos q]; exact g
    · rw [if_neg q]
      have hm : e ∉ c.2 := fun z => q ((hasK_iff (fun x hx => (g.1 x hx).1) ke.1).mpr z)
      refine ⟨fun d hd => ?_, ?_⟩
      · rcases List.mem_append.mp hd with z | z
        · exact g.1 d z
        · rw [List.mem_singleton.mp z]; exact ke
      · rw [List.nodup_append]
        refine ⟨g.2, by simp, fun x hx y hy => ?_⟩
        rw [List.mem_singleton.mp hy]
        intro z
        exact hm (z ▸ hx)
/-- d.update(e) -/
def rUpdM (P : Program) (w : World) (K : PySem.W.Frag) : V → List V → Hp → VK → Prop := fun x xs H Q => ∃ a b vs ds us es ep ep', x = .ref a ∧ xs = [.ref b] ∧ a ≠ b ∧ H a = some (MixO P w a vs ds ep) ∧ H b = some (MixO P w b us es ep') ∧ DpAll K H vs ds ∧ DpAll K H us es ∧ good ds ∧ good es ∧ ds ≠ [] ∧ ds.length + es.length ≤ sizeLine ∧
  ∀ ep', Q .non (upd H a (MixO P w a (addAll (vs, ds) us es).1 (addAll (vs, ds) us es).2 ep'))
theorem mt_updM (hu : X.A.units + 2 < cLine) : MtR X "dict.update" (rUpdM X.prog X.w X.K) := by
  intro pins s σ H x xs v us Q I rx rxs h
  obtain ⟨a, b, vs, ds, ws, es, e1, e2, rfl, rfl, hab, ha, hb, dp, dp', g, g', hne, hz, q⟩ := h
  cases rx
  obtain ⟨u, rfl, ru⟩ := vals1 rxs
  cases ru
  obtain ⟨z1, z2, us1, z3, z4, z5⟩ := mixO_get I ha dp g
  obtain ⟨y1, y2, us2, y3, y4, y5⟩ := mixO_get I hb dp' g'
  refine update_mix hab y1 z4 z5 y4 y5 hne hu hz fun h' m' k' sb => ?_
  obtain ⟨r1, r2⟩ := addAll_vals (ds := ds) (es := es) z3 y3
  have he : ∃ q, h'.get? a = some q := let ⟨q, _, _, hq, _⟩ := m'; ⟨q, hq⟩
  rw [← r2] at m'
  obtain ⟨ep', m''⟩ := mixD_e m'
  refine ⟨.non, _, d_write I (by rw [ha]; exact True.intro) sb he (mixO_new z1 ?_ r1 m''), rfl, q ep'⟩
  have := addAll_len (vs, ds) ws es
  simp only at this
  omega
end
/-- for k in d -/
def Itm (P : Program) (w : World) (d : Addr) (vs : List V) (ds : List PyData) (ep : Nat) : It where
  go := fun i H => H d = some (MixO P w d vs ds ep) ∧ i < ds.length
  yld := fun i H x H' => H' = H ∧ vs[i]? = some x
  stop := fun i H => H d = some (MixO P w d vs ds ep) ∧ ds.length ≤ i
theorem vals_at {vs : List V} {us : List Value} (r : Vals vs us) {i : Nat} {u : Value} (h : us[i]? = some u) : ∃ x, vs[i]? = some x ∧ RelV x u := by
  induction r generalizing i with
  | nil => simp at h
  | cons r t ih =>
    cases i with
    | zero => simp at h; subst h; exact ⟨_, rfl, r⟩
    | succ i => obtain ⟨x, h1, h2⟩ := ih (i := i) (by simpa using h); exact ⟨x, by simpa using h1, h2⟩
theorem vals_len {vs : List V} {us : List Value} (r : Vals vs us) : vs.length = us.length := by
  induction r with
  | nil => rfl
  | cons r t ih => rw [List.length_cons, List.length_cons, ih]
theorem turn_mix {P : Program} {w : World} {K : PySem.W.Frag} {tg : Expr} {d : Addr} {vs : List V} {ds : List PyData} {ep : Nat} (it : Addr) (hl : vs.length = ds.length) : Turn P w K tg (Itm P w d vs ds ep) [it] it (fun i h => h.IsKeyIter it d i ds.length ep) where
  mem := List.mem_singleton.mpr rfl
  obj := fun i h st b hb => by
    rw [List.mem_singleton.mp hb]
    obtain ⟨oi, e, c, dd⟩ := st
    exact ⟨oi, e, fun v z => by rw [dd] at z; cases z⟩
  keep := fun i h h' st k => st.at fun oi e => k it (List.mem_singleton.mpr rfl) oi e
  item := by
    rintro X rfl rfl rfl hc i pins s σ H E I hf st ⟨hd, hi⟩
    obtain ⟨f0, f1, f2, f3, f4, f5⟩ := hf it (List.mem_singleton.mpr rfl)
    obtain ⟨z1, z2, us, z3, od, es, z4, z5, z6, z7⟩ := (I.hok d _ hd).1
    have zl : us.length = ds.length := (vals_len z3).symm.trans hl
    have sz : es.size = ds.length := by rw [← Array.length_toList, z7, List.length_zipWith, zl, Nat.min_self]
    obtain ⟨en, hen⟩ : ∃ en, es[i]? = some en := ⟨es[i], Array.getElem?_eq_getElem (by omega)⟩
    obtain ⟨u, e, u1, u2, rfl⟩ := ent_at z7 hen
    obtain ⟨x, x1, x2⟩ := vals_at z3 u1
    refine next_key_item st z4 z6 sz hen fun h' st' sb => ?_
    have I1 : Inv X pins σ H { s with heap := h' } := I.turned (t' := s.toks) (fun b ob hb e => (sb.2 b hb).trans e) f0 f1 f3 f4 f5
    obtain ⟨oi, e, c, dd⟩ := id st'
    exact ⟨u, rfl, go_of (s := { s with heap := h' }) e c dd (by decide) ⟨x, H, I1, x2, ⟨rfl, x1⟩, st', fun b hb => (hf b hb).1⟩⟩
  done := by
    rintro X rfl rfl rfl hc i pins s σ H E I hf st ⟨hd, hi⟩
    obtain ⟨f0, f1, f2, f3, f4, f5⟩ := hf it (List.mem_singleton.mpr rfl)
    obtain ⟨z1, z2, us, z3, od, es, z4, z5, z6, z7⟩ := (I.hok d _ hd).1
    have zl : us.length = ds.length := (vals_len z3).symm.trans hl
    have sz : es.size = ds.length := by rw [← Array.length_toList, z7, List.length_zipWith, zl, Nat.min_self]
    exact next_key_end (I.ok.hd hc) st z4 z6 sz hi fun h' eb => ⟨rfl, I.turned (t' := s.toks) (fun b ob hb e => eb b ob hb e) f0 f1 f3 f4 f5⟩
  self := fun A i s Q E st h => wpAny_pyIter_keyiter st h
theorem iter_mix {X : Cx} {tg : Expr} {pins : List (Addr × Obj)} {σ : St} {H : Hp} {s : Shared} {R : It → Hp → Prop} {d : Addr} {vs : List V} {ds : List PyData} {ep : Nat} (I : Inv X pins σ H s) (hd : H d = some (MixO X.prog X.w d vs ds ep)) (hl : vs.length = ds.length) (q : ds.length ≤ sizeLine → R (Itm X.prog X.w d vs ds ep) H) : wpAny (model X.prog X.w) X.A (pyIter (.ref d)) (PIE X pins σ tg R) X.xe s := by
  obtain ⟨z1, z2, us, z3, od, es, z4, z5, z6, z7⟩ := (I.hok d _ hd).1
  have zl : us.length = ds.length := (vals_len z3).symm.trans hl
  have sz : es.size = ds.length := by rw [← Array.length_toList, z7, List.length_zipWith, zl, Nat.min_self]
  refine iter_keys z1 z4 z5 z6 (pi_one (tk := s.toks) I _ (turn_mix _ hl) ⟨_, Heap.get?_push_size _ rfl, rfl, ?_⟩ (q z2))
  rw [sz] <;> rfl
/-- the keys of a dict, walked -/
def iMix (P : Program) (w : World) (td : TE) : TI := fun σ H R => td σ H fun x H1 => ∃ d vs ds ep, x = .ref d ∧ H1 d = some (MixO P w d vs ds ep) ∧ vs.length = ds.length ∧ R (Itm P w d vs ds ep) H1
theorem pi_mix {X : Cx} {tg e : Expr} {td : TE} (he : PE X e td) : PI X tg e (iMix X.prog X.w td) := by
  refine ⟨fun pins s σ H R I h => ?_⟩
  refine thn (he.run pins s σ H _ I h) fun u s1 ⟨x, H1, I1, rx, d, vs, ds, ep, ex, hd, hl, q⟩ => ?_
  subst ex
  obtain rfl : u = Value.ref d := rx
  obtain ⟨z1, z2, us, z3, od, es, z4, z5, z6, z7⟩ := (I1.hok d _ hd).1
  have zl : us.length = ds.length := (vals_len z3).symm.trans hl
  have sz : es.size = ds.length := by rw [← Array.length_toList, z7, List.length_zipWith, zl, Nat.min_self]
  refine iter_keys z1 z4 z5 z6 (pi_one (tk := s1.toks) I1 _ (turn_mix _ hl) ⟨_, Heap.get?_push_size _ rfl, rfl, ?_⟩ q)
  rw [sz] <;> rfl
end Pm
/-! PmE: {k: True for ..} with such keys. -/
namespace Pm
open PySem PySem.Spec PyProof.Rows L2
theorem mset {X : Cx} {pins : List (Addr × Obj)} {σ : L2.St} {H : Hp} {s : Shared} {E : Value → Shared → Prop} {a : Addr} {vs : List V} {ds : List PyData} {ep : Nat} {y : V} {u : Value} {d : PyData} {Q : Unit → Shared → Prop} (hu : X.A.units + 1 < cLine) (I : L2.Inv X pins σ H s) (ha : H a = some (MixO X.prog X.w a vs ds ep)) (dp : DpAll X.K H vs ds) (g : good ds)
    (hz : ds.length < sizeLine) (hy : Dp X.K H y d) (ry : L2.RelV y u) (k1 : keyD d = true) (k2 : d.canLay0 = true) (q : ∀ s' ep', L2.Inv X pins σ (upd H a (MixO X.prog X.w a (addK (vs, ds) y d).1 (addK (vs, ds) y d).2 ep')) s' → Q () s') :
    wpAny (model X.prog X.w) X.A (dictSet a u (.bool true)) Q E s := by
  obtain ⟨z1, z2, us, z3, z4, z5⟩ := mixO_get I ha dp g
  obtain ⟨as, r⟩ := Dp.reads I d y u hy ry
  unfold dictSet
  refine wpAny_holding ?_
  refine wpAny_bind (key_hash r k1 (by omega) fun tk => ?_)
  refine set_add (s := { s with toks := tk }) (c := (us, ds)) z4 z5 r k1 k2 hu z2 fun h' m' k' sb => ?_
  have rel : Vals (addK (vs, ds) y d).1 (addK (us, ds) u d).1 ∧ (addK (vs, ds) y d).2 = (addK (us, ds) u d).2 := by
    have := addAll_vals (ds := ds) (es := [d]) z3 (.cons ry .nil)
    simpa [addAll] using this
  rw [← rel.2] at m'
  obtain ⟨ep', m''⟩ := mixD_e m'
  have he : ∃ q, h'.get? a = some q := let ⟨q, _, _, hq, _⟩ := m'; ⟨q, hq⟩
  have hl := (addK_len (c := (vs, ds)) (u := y) (d := d)).1
  exact q _ ep' (d_write (I.tok tk) (by rw [ha]; exact True.intro) sb he (mixO_new z1 (by simp only at hl; omega) rel.1 m''))
theorem mix_empty {P : Program} {w : World} {H : Hp} (h : Heap) (hb : sysModules < h.objs.size) : ObjOk P w H (h.push { cls := .type "dict", data := .dict #[] }) h.objs.size (MixO P w h.objs.size [] [] 0) := by
  refine mixO_new (us := []) ?_ (Nat.zero_le _) .nil ⟨_, #[], Heap.get?_push_size _ rfl, ⟨rfl, rfl, rfl⟩, rfl, rfl⟩
  rw [beq_eq_false_iff_ne]
  exact fun e => Nat.lt_irrefl _ (e ▸ hb)
def tMc (P : Program) (w : World) (K : PySem.W.Frag) (wi : TI) (g : TG) (tt : TT) (tk tv : TE) (vs : List Nat) : TE := fun σ H Q => wi σ H fun J H1 => ∀ D, H1 D = none → ∃ W : Nat → Nat → Hp → Prop, (∃ m, W 0 m (upd H1 D (MixO P w D [] [] 0))) ∧ ∀ i m H, W i m H →
  (J.stop i H ∧ Q (.ref D) H) ∨ (J.go i H ∧ ∃ Nx : Hp → Prop, (∀ H', Nx H' → ∃ m', m' < m ∧ W (i + 1) m' H') ∧ ∀ x H', J.yld i H x H' → g x (wipe σ vs) H' fun σ2 H2 => wipe σ2 vs = wipe σ vs ∧ tt σ2 H2 fun b H3 =>
    if b = true then tk σ2 H3 fun y H4 => tv σ2 H4 fun z H5 => z = .bl true ∧ ∃ d xs ds ep, Dp K H5 y d ∧ keyD d = true ∧ d.canLay0 = true ∧ H5 D = some (MixO P w D xs ds ep) ∧ DpAll K H5 xs ds ∧ good ds ∧ ds.length < sizeLine ∧ ∀ ep', Nx (upd H5 D (MixO P w D (addK (xs, ds) y d).1 (addK (xs, ds) y d).2 ep')) else Nx H3)
section
variable {X : Cx}
abbrev Blk (X : Cx) (scope : Scope) (s : Shared) (H : Hp) (C : Addr) (cl : List (Str × Addr)) (fp : List Addr) : Cx := X.blk s H scope (compEnvC scope cl C X.env) fp
theorem pe_mc {kx vx tg iter : Expr} {ifs : List Expr} {scope : Scope} {own : List (Str × Nat)} {pos : Pos} {wi : TI} {g : TG} {tt : TT} {tk tv : TE} (hu : X.A.units + 1 < cLine) (hc : X.calm = true) (hN : X.N.Nodup) (hi : PI X tg iter wi) (ok : BlkOk X.N X.env.scope scope own)
    (hg : ∀ s H C cl fp, PG (Blk X scope s H C cl fp) tg g) (ht : ∀ s H C cl fp, PTs (Blk X scope s H C cl fp) ifs tt) (hk : ∀ s H C cl fp, PE (Blk X scope s H C cl fp) kx tk) (hv : ∀ s H C cl fp, PE (Blk X scope s H C cl fp) vx tv) (hs : ∀ x, foldedSetIterable iter X.env x = pure x) :
    PE X (.DictComp kx vx [⟨tg, iter, ifs, 0⟩] scope pos) (tMc X.prog X.w X.K wi g tt tk tv (own.map (·.2))) := by
  refine ⟨fun pins s σ H Q I h => ?_⟩
  rw [arm_eval_DictComp]
  have hfree : ∀ y ∈ scope.names, y.2 = .free → ∃ c, X.env.cells.lookup y.1 = some c := fun y hy e => (ok.free y hy e).elim (fun k => I.ok.has _ (.inl k)) fun k => I.ok.has _ (.inr k)
  refine wpAny_comprehension_free rfl hs (closure_ok hfree) ok.kind (fun y hy e => by rw [ok.uniq y hy, e]) (thn (hi.run pins s σ H _ I h) fun xv s1 hx => thn hx fun itv s2 h2 => ?_)
  obtain ⟨it, fp, tn, J, H2, rfl, I2, T, st2, f2, q⟩ := h2
  refine wpAny_newObj_type (newEnv_comp ?_)
  have fresh := I2.hok.fresh (Nat.le_refl s2.heap.objs.size)
  obtain ⟨W, ⟨m0, w0⟩, turn⟩ := q _ fresh
  have big := I2.big
  have emp : ObjOk X.prog X.w (upd H2 s2.heap.objs.size (MixO X.prog X.w s2.heap.objs.size [] [] 0)) (s2.heap.push { cls := .type "dict", data := .dict #[] }) s2.heap.objs.size (MixO X.prog X.w s2.heap.objs.size [] [] 0) := mix_empty s2.heap big
  have I3 : L2.Inv X pins σ (upd H2 s2.heap.objs.size (MixO X.prog X.w s2.heap.objs.size [] [] 0)) { s2 with heap := s2.heap.push { cls := .type "dict", data := .dict #[] } } := I2.laid (t' := s2.toks) (fun b o e => Heap.get?_push_of_some _ e) (Nat.le_refl _) emp
  have low : ∀ b ∈ fp, b < s2.heap.objs.size := fun b hb => let ⟨_, e, _⟩ := T.obj _ _ st2 b hb; Heap.lt_size e
  have f3 : ∀ b ∈ fp, FpOk X pins (upd H2 s2.heap.objs.size (MixO X.prog X.w s2.heap.objs.size [] [] 0)) b ∧ b < (s2.heap.push { cls := .type "dict", data := .dict #[] }).objs.size := fun b hb =>
    ⟨⟨by rw [upd_ne (Nat.ne_of_lt (low b hb))]; exact (f2 b hb).1, (f2 b hb).2⟩, by rw [Heap.size_push]; exact Nat.lt_succ_of_lt (low b hb)⟩
  have st3 : tn 0 (s2.heap.push { cls := .type "dict", data := .dict #[] }) := T.keep _ _ _ st2 fun b _ o e => Heap.get?_push_of_some _ e
  generalize upd H2 s2.heap.objs.size (MixO X.prog X.w s2.heap.objs.size [] [] 0) = H3 at I3 f3 w0
  generalize s2.heap.objs.size = D at turn ⊢
  generalize hs3 : ({ s2 with heap := s2.heap.push { cls := .type "dict", data := .dict #[] } } : Shared) = s3 at I3 ⊢
  have st3 : tn 0 s3.heap := by rw [← hs3]; exact st3
  have f3 : ∀ b ∈ fp, FpOk X pins H3 b ∧ b < s3.heap.objs.size := by rw [← hs3]; exact f3
  have I4 := block_start I3 ok hN f3
  have pg := hg s3 H3 s3.heap.objs.size (cellsFrom (s3.heap.objs.size + 1) scope.names (cloFrom X.env.cells scope.names [])) fp
  have pt := ht s3 H3 s3.heap.objs.size (cellsFrom (s3.heap.objs.size + 1) scope.names (cloFrom X.env.cells scope.names [])) fp
  have pk := hk s3 H3 s3.heap.objs.size (cellsFrom (s3.heap.objs.size + 1) scope.names (cloFrom X.env.cells scope.names [])) fp
  have pv := hv s3 H3 s3.heap.objs.size (cellsFrom (s3.heap.objs.size + 1) scope.names (cloFrom X.env.cells scope.names [])) fp
  unfold Blk at pg pt pk pv
  show codeAny _ _ (.compStart (.DictComp kx vx [⟨tg, iter, ifs, 0⟩] scope pos) 0 (.ref it) (.ref D) (compEnvC scope (cellsFrom (s3.heap.objs.size + 1) scope.names (cloFrom X.env.cells scope.names [])) s3.heap.objs.size X.env)) (compPost (model X.prog X.w) X.A X.xe none _ (.ref D) s3.heap.objs.size) { s3 with heap := pushCells (s3.heap.push { cls := .type "dict", data := .dict #[] }) scope.names }
  have nfp : ∀ b ∈ fp, H3 b = none := fun b hb => (f3 b hb).1.1
  generalize hce : compEnvC scope (cellsFrom (s3.heap.objs.size + 1) scope.names (cloFrom X.env.cells scope.names [])) s3.heap.objs.size X.env = ce at I4 pg pt pk pv ⊢
  have cL : ce.locals = s3.heap.objs.size := by subst hce; rfl
  generalize hs4 : ({ s3 with heap := pushCells (s3.heap.push { cls := .type "dict", data := .dict #[] }) scope.names } : Shared) = s4 at I4 ⊢
  have st4 : tn 0 s4.heap := T.keep _ _ _ st3 fun b _ o e => by
    rw [← hs4]
    exact pushCells_keeps _ _ _ _ (Heap.get?_push_of_some _ e)
  have own4 : ∀ {σ' : L2.St} {H' : Hp} {s' : Shared}, L2.Inv (X.blk s3 H3 scope ce fp) [] σ' H' s' → (∀ b ∈ fp, H' b = none) → ∀ b ∈ fp, FpOk (X.blk s3 H3 scope ce fp) [] H' b := fun I' hn b hb =>
    ⟨hn b hb, (I'.ok.exf b hb).1, I'.ok.exfs b hb, .inl hb, fun x c e => (I'.ok.exf b hb).2 x c e, fun p hp => absurd (show p ∈ ([] : List (Addr × Obj)) ++ [] from hp) (by simp)⟩
  have loop : codeAny (model X.prog X.w) X.A (.compLoop (.DictComp kx vx [⟨tg, iter, ifs, 0⟩] scope pos) 0 (.ref it) (.ref D) ce) (compPost (model X.prog X.w) X.A X.xe none (EP X pins σ Q) (.ref D) s3.heap.objs.size) s4 := by
    refine compLoop_anyD (fun n s' => ∃ i H', L2.Inv (X.blk s3 H3 scope ce fp) [] (wipe σ (own.map (·.2))) H' s' ∧ tn i s'.heap ∧ (∀ b ∈ fp, H' b = none) ∧ W i n H') ?_ m0 ⟨0, H3, I4, st4, nfp, w0⟩
    rintro n s5 ⟨i, H5, I5, st5, n5, w5⟩
    rcases turn i n H5 w5 with ⟨stop, fin⟩ | ⟨go, Nx, hNx, step⟩
    · refine thnF (T.done (X.blk s3 H3 scope ce fp) rfl rfl rfl hc i [] s5 _ H5 (fun _ _ => False) I5 (own4 I5 n5) st5 stop) fun r s6 ⟨hr, I6⟩ => ?_
      subst hr
      have I7 : L2.Inv X pins σ H5 s6 := I3.call' (ch := fp) I6.os I6.base I6.hok I6.bare fun b hb => let z := (f3 b hb).1.2; ⟨z.2.2.1, z.1, z.2.2.2.1, z.2.2.2.2⟩
      have nC : H5 s3.heap.objs.size = none := cL ▸ (show H5 ce.locals = none from I6.free)
      obtain ⟨m, hn, _⟩ := I6.loc
      have hn : s6.heap.Ns s3.heap.objs.size m := cL ▸ (show s6.heap.Ns ce.locals m from hn)
      obtain ⟨g0, g1, g2, g3, g4, g5⟩ := I3.fpOk (Nat.le_refl _) nC
      exact ⟨m, hn, fun h'' sb => ⟨.ref D, H5, I7.turned (t' := s6.toks) (fun b o hb e => (sb.2 b hb).trans e) g0 g1 g3 g4 g5, rfl, fin⟩⟩
    · refine thnF (T.item (X.blk s3 H3 scope ce fp) rfl rfl rfl hc i [] s5 _ H5 (fun _ _ => False) I5 (own4 I5 n5) st5 go) fun r s6 ⟨u, hr, h6⟩ => ?_
      subst hr
      refine thnF h6 fun _ s7 ⟨x, H7, I7, r7, y7, st7, n7⟩ => ?_
      refine thnF (pg.run _ s7 _ H7 x u _ (I7.pinned (own4 I7 n7) (T.obj _ _ st7)) r7 (step x H7 y7)) fun _ s8 ⟨σ8, H8, I8, hw8, q8⟩ => ?_
      refine thnF (pt.run _ s8 σ8 H8 _ I8 q8) fun b s9 ⟨H9, I9, q9⟩ => ?_
      have next : ∀ {s' : Shared} {H' : Hp}, L2.Inv (X.blk s3 H3 scope ce fp) ([] ++ pinsAt fp s7.heap) σ8 H' s' → Nx H' → ∃ m, m < n ∧ ∃ i H', L2.Inv (X.blk s3 H3 scope ce fp) [] (wipe σ (own.map (·.2))) H' s' ∧ tn i s'.heap ∧ (∀ b ∈ fp, H' b = none) ∧ W i m H' := by
        intro s' H' I' nx
        obtain ⟨m', hm, w'⟩ := hNx H' nx
        have held : ∀ b ∈ fp, ∀ o, s7.heap.get? b = some o → s'.heap.get? b = some o ∧ H' b = none := fun b hb o e =>
          have z := I'.pin (b, o) (List.mem_append_right _ (List.mem_append_right _ (mem_pinsAt hb e)))
          ⟨z.1, z.2.1⟩
        have hl : (wipe σ (own.map (·.2))).length = σ8.length := hw8 ▸ wipe_length ..
        refine ⟨m', hm, i + 1, H', (I'.unpinned (pins := [])).weak hl fun j v e => (wipe_some (hw8 ▸ e)).1, T.keep _ _ _ st7 fun b hb o e => (held b hb o e).1, fun b hb => ?_, w'⟩
        obtain ⟨o, e, _⟩ := T.obj _ _ st7 b hb
        exact (held b hb o e).2
      cases b with
      | false =>
        rw [if_neg (by decide)] at q9
        rw [if_neg (by decide)]
        exact next I9 q9
      | true =>
        rw [if_pos rfl] at q9
        rw [if_pos rfl]
        refine thnF (pk.run _ s9 σ8 H9 _ I9 q9) fun z s10 ⟨yk, H10, I10, r10, q10⟩ => ?_
        refine thnF (pv.run _ s10 σ8 H10 _ I10 q10) fun z2 s11 ⟨yv, H11, I11, r11, ev, d, xs, ds, ep, hd, k1, k2, hD, dp, gd, hz, nx⟩ => ?_
        subst ev
        cases r11
        exact mset (X := X.blk s3 H3 scope ce fp) hu I11 hD dp gd hz hd r10 k1 k2 fun s12 ep' I12 => next I12 (nx ep')
  exact codeAny_compStart_dict loop (T.self X.A 0 _ _ _ st4 loop)
/-- d.update(e) as an expression -/
def tUpdM (P : Program) (w : World) (K : PySem.W.Frag) (to te : TE) : TE := fun σ H Q => to σ H fun x H1 => (∃ a vs ds ep, x = .ref a ∧ H1 a = some (MixO P w a vs ds ep)) ∧ te σ H1 fun y H2 => rUpdM P w K x [y] H2 Q
theorem pe_updM {o e : Expr} {to te : TE} {apos cpos : Pos} (hu : X.A.units + 2 < cLine) (ho : PE X o to) (he : PE X e te) (hb : attributeBase o "update" X.env (eval o X.env) = eval o X.env) (hl : (apos.endLine == cpos.line) = true) (hs : starEach [e] X.env = (false, eval e X.env) :: starEach [] X.env) :
    PE X (.Call (.Attribute o "update" apos) [e] [] cpos) (tUpdM X.prog X.w X.K to te) := by
  have ha := pa_cons he pa_nil hs
  refine ⟨fun pins s σ H Q I h => wpAny_Call_method_late hb (by rw [hs]; rfl) hl rfl (thn (ho.run pins s σ H _ I h) fun v s1 ⟨x, H1, I1, r1, ty, q1⟩ => ?_)⟩
  obtain ⟨a, vs, ds, ep, rfl, hA⟩ := ty
  cases r1
  obtain ⟨_, _, us, _, ob, es, z1, z2, z3, _⟩ := (I1.hok a _ hA).1
  refine ⟨"dict", "dict.update", F.plainAttrs_dict, F.slot_dict_update, F.type_dict_update, ⟨ob, z1, z2.1⟩, fun b eb => ?_, ?_⟩
  · cases eb
    exact ⟨ob, z1, z2.2.1⟩
  have hR := ha.run cpos pins s1 σ H1 (fun ys H2 => rUpdM X.prog X.w X.K (.ref a) ys H2 Q) I1 q1
  rw [hs] at hR ⊢
  refine Calls.callWith_builtin rfl (Calls.evalArgs_plain ?_)
  exact thn hR fun us s2 ⟨ys, H2, I2, r2, q2⟩ => mt_updM hu pins s2 σ H2 (.ref a) ys (.ref a) us Q I2 rfl r2 q2
end
end Pm
/-! PmF: enumerate over a tuple. -/
namespace Pm
open PySem PySem.Spec PyProof.Rows L2
set_option maxHeartbeats 1000000 in
theorem meets_enum1 {v : Value} {o : Obj} {H : Heap → Prop} (B : Begins v o H) : Meets (Builtin.«enumerate.__new__» ⟨[.type "enumerate", v], []⟩) (fun _ R s => H s.heap ∧ R (.ok (.ret (.ref (s.heap.push o).objs.size))) { s with heap := (s.heap.push o).push { cls := .type "enumerate", data := .fields #[.none, .bool false, .ref s.heap.objs.size, rawInt 0, .none, .none] } }) :=
  .of_wp fun prog w A R s h => by
    obtain ⟨hp, g, d, tk, os⟩ := s
    obtain ⟨h0, h⟩ := h
    have hsub := sub_enumerate
    have go : ∀ {A' : Around} {E : Value → Shared → Prop} {Q : Value → Shared → Prop}, Q (.ref hp.objs.size) ⟨hp.push o, g, d, tk, os⟩ → wpAny (model prog w) A' (pyIter v) Q E ⟨hp, g, d, tk, os⟩ := fun q => B.iter prog w _ _ ⟨hp, g, d, tk, os⟩ _ h0 q
    wp_walk using go
    refine wpAny_stack_any fun st => wpAny_pure ?_
    split
    · rename_i c _ _ _ _ _
      cases (c == Value.type "enumerate") <;> (wp_walk using go; exact ⟨_, rfl, h⟩)
    · wp_walk using go
      exact ⟨_, rfl, h⟩
section
variable {prog : Program} {w : World} {A : Around} {E : Value → Shared → Prop} {s : Shared}
theorem call_enum1 {v : Value} {o : Obj} {H : Heap → Prop} {Q : Value → Shared → Prop} (B : Begins v o H) (h0 : H s.heap)
    (q : ∀ h', IsEnum h' (s.heap.objs.size + 1) s.heap.objs.size 0 .none → h'.get? s.heap.objs.size = some o → h'.objs.size = s.heap.objs.size + 2 → (∀ b o, s.heap.get? b = some o → h'.get? b = some o) → Q (.ref (s.heap.objs.size + 1)) { s with heap := h' }) :
    wpAny (model prog w) A (call (.type "enumerate") [v]) Q E s := by
  refine callType_new F.called_enumerate (by decide) (F.typeCall_enumerate_1 _) (F.newCall_enumerate_1 _) (fun obj => F.args_object_init_2 obj _) F.entry_enumerate_new (meets_enum1 B) ⟨h0, ?_⟩
  have sz : (s.heap.push o).objs.size = s.heap.objs.size + 1 := Heap.size_push ..
  have he : IsEnum ((s.heap.push o).push { cls := .type "enumerate", data := .fields #[.none, .bool false, .ref s.heap.objs.size, rawInt 0, .none, .none] }) (s.heap.objs.size + 1) s.heap.objs.size 0 .none := sz ▸ Heap.get?_push_size (s.heap.push o) (o := { cls := .type "enumerate", data := .fields #[.none, .bool false, .ref s.heap.objs.size, rawInt 0, .none, .none] }) rfl
  show _ ∧ _
  rw [sz]
  exact ⟨⟨_, he, rfl⟩, q _ he (Heap.get?_push_of_some _ (Heap.get?_push_size _ B.free)) (by rw [Heap.size_push, sz]) fun b o x => Heap.get?_push_of_some _ (Heap.get?_push_of_some _ x)⟩
end
/-- the tuple at a, each item in a new pair with its place -/
def Iet (K : PySem.W.Frag) (a : Addr) (xs : List V) : It where
  go := fun i H => SqT K H a xs ∧ i < xs.length
  yld := fun i H v H' => ∃ T x, v = .ref T ∧ H T = none ∧ H' = upd H T (.tup [.int (i : Nat), x]) ∧ xs[i]? = some x
  stop := fun i H => SqT K H a xs ∧ xs.length ≤ i
theorem turn_enumT {P : Program} {w : World} {K : PySem.W.Frag} {elts : List Expr} {kk : Nat} {tpos : Pos} {xs : List V} (a e it : Addr) (hea : e ≠ a) (hia : it ≠ a) :
    Turn P w K (.Tuple elts kk tpos) (Iet K a xs) [e, it] e (fun i h => i ≤ xs.length ∧ (∃ old, IsEnum h e it ((i : Nat) : Int) old) ∧ h.IsTupleIter it a i ∧ e ≠ it) where
  mem := List.mem_cons_self
  obj := fun i h st b hb => by
    obtain ⟨_, ⟨old, he⟩, ⟨o, ho, hc, hd⟩, _⟩ := st
    rcases (show b = e ∨ b = it by simpa using hb) with rfl | rfl
    · exact ⟨_, he, fun v q => nomatch q⟩
    · exact ⟨o, ho, fun v q => by rw [hd] at q; cases q⟩
  keep := fun i h h' st k => let ⟨hi, ⟨old, he⟩, ht, hne⟩ := st; ⟨hi, ⟨old, k e (by simp) _ he⟩, ht.at fun o q => k it (by simp) o q, hne⟩
  item := by
    rintro X rfl rfl rfl hc i pins s σ H E I hf ⟨hile, ⟨old, he⟩, hit, hne⟩ ⟨hq, hi⟩
    obtain ⟨its, rv, p, hz⟩ := I.tuple hq
    have hlen : its.length = xs.length := (vals_len rv).symm
    obtain ⟨x, hx⟩ : ∃ x, xs[i]? = some x := ⟨xs[i], List.getElem?_eq_getElem hi⟩
    obtain ⟨u, hu, ru⟩ := rv.get hx
    have hel : e < s.heap.objs.size := Heap.lt_size he
    have hil : it < s.heap.objs.size := by obtain ⟨_, q, _⟩ := hit; exact Heap.lt_size q
    have D := Draws.tuple (prog := X.prog) (w := X.w) (A := X.A.in1) (I.ok.hd hc) it a (Ne.symm hia) its.toArray
    refine wpAny_pyNext_enum_itemD D he ⟨hit, p⟩ (by simpa [hlen] using hi) hne (by simp [hne, hea]) fun y h' tk hy ho hst hT hsz hk => ?_
    have eu : y = u := by
      have hy : its.toArray[i]? = some y := hy
      rw [List.getElem?_toArray, hu] at hy
      exact (Option.some.inj hy).symm
    subst eu
    refine ⟨_, rfl, wpAny_letOwnedTupleGo_enum (s := { s with heap := h', toks := tk + 1 }) ho fun h'' he' sb => ?_⟩
    have hT2 : h''.get? s.heap.objs.size = some { cls := .type "tuple", data := .seq #[.int i tk, y] } := (sb.2 _ (Nat.ne_of_gt hel)).trans hT
    have I1 : L2.Inv X pins σ (upd H s.heap.objs.size (.tup [.int (i : Nat), x])) { s with heap := h'', toks := tk + 1 } := I.turnedNew (ch := [e, it]) (fun b ob hb q => (sb.2 b (fun z => hb (by simp [z]))).trans (hk b ob (fun z => hb (by simp [z])) (fun z => hb (by simp [z])) q)) hf (Nat.le_refl _) ⟨by show 2 ≤ sizeLine; decide, [.int i tk, y], .cons ⟨_, rfl⟩ (.cons ru .nil), ⟨_, hT2, rfl, _, rfl⟩⟩
    refine ⟨.ref s.heap.objs.size, _, I1, rfl, ⟨_, x, rfl, I.hok.fresh (Nat.le_refl _), rfl, hx⟩, ⟨hi, ⟨y, ?_⟩, hst.1.at fun o q => (sb.2 it (Ne.symm hne)).trans q, hne⟩, fun b hb => ?_⟩
    · rw [show ((i + 1 : Nat) : Int) = (i : Int) + 1 by omega]
      exact he'
    · have hb' : b < s.heap.objs.size := by rcases (show b = e ∨ b = it by simpa using hb) with rfl | rfl <;> assumption
      rw [upd_ne (Nat.ne_of_lt hb')]
      exact (hf b hb).1
  done := by
    rintro X rfl rfl rfl hc i pins s σ H E I hf ⟨hile, ⟨old, he⟩, hit, hne⟩ ⟨hq, hi⟩
    obtain ⟨its, rv, p, hz⟩ := I.tuple hq
    have hlen : its.length = xs.length := (vals_len rv).symm
    have ei : i = xs.length := by omega
    obtain ⟨f0, f1, f2, f3, f4, f5⟩ := hf it (by simp)
    have D := Draws.tuple (prog := X.prog) (w := X.w) (A := X.A.in1) (I.ok.hd hc) it a (Ne.symm hia) its.toArray
    exact wpAny_pyNext_enum_endD D he ⟨by simpa [hlen, ei] using hit, p⟩ fun h' eb => ⟨rfl, I.turned (t' := s.toks) (fun b o hb q => eb b o hb q) f0 f1 f3 f4 f5⟩
  self := fun A i s Q E st h => let ⟨_, ⟨_, he⟩, _⟩ := st; wpAny_pyIter_enum he h
def iEnumT (K : PySem.W.Frag) (ta : TA) : TI := fun σ H R => ta σ H fun vs H1 => ∃ a xs, vs = [.ref a] ∧ SqT K H1 a xs ∧ (xs.length ≤ sizeLine → R (Iet K a xs) H1)
theorem pi_enumT {X : Cx} {e : Expr} {ta : TA} {p pos tpos : Pos} {elts : List Expr} {kk : Nat} (hg : Gl X "enumerate") (hm : X.mg "enumerate" = none) (ha : PA X [e] ta) (hs : starEach [e] X.env = [(false, eval e X.env)]) :
    PI X (.Tuple elts kk tpos) (.Call (.Name "enumerate" p) [e] [] pos) (iEnumT X.K ta) := by
  refine ⟨fun pins s σ H R I h => Call_ (ld_blt I hg hm boot_enumerate (PyProof.Rows.callWith_type1 (thn (ha.run pos pins s σ H _ I h) fun us s1 ⟨vs, H1, I1, r1, a, xs, ex, hq, q⟩ => ?_) hs rfl))⟩
  subst ex
  obtain ⟨u, rfl, ru⟩ := vals1 r1
  cases ru
  obtain ⟨its, rv, p', hz⟩ := I1.tuple hq
  have hal : a < s1.heap.objs.size := by obtain ⟨_, z, _⟩ := p'; exact Heap.lt_size z
  refine call_enum1 (begins_tuple a its.toArray) p' fun h' he hit hsz hk => wpAny_pyIter_enum he ?_
  refine ⟨s1.heap.objs.size + 1, [s1.heap.objs.size + 1, s1.heap.objs.size], _, _, H1, rfl, I1.kept (t' := s1.toks) hk, turn_enumT a (s1.heap.objs.size + 1) s1.heap.objs.size (Nat.ne_of_gt (Nat.lt_succ_of_lt hal)) (Nat.ne_of_gt hal), ⟨Nat.zero_le _, ⟨.none, he⟩, ⟨_, hit, rfl, rfl⟩, Nat.succ_ne_self _⟩, fun b hb => ?_, q (by rw [vals_len rv]; simpa [vals_len rv] using hz)⟩
  have hle : s1.heap.objs.size ≤ b := by
    rcases (show b = s1.heap.objs.size + 1 ∨ b = s1.heap.objs.size by simpa using hb) with rfl | rfl
    · exact Nat.le_succ _
    · exact Nat.le_refl _
  exact I1.fpOk hle (I1.hok.fresh hle)
end Pm
/-! PmG: sorted of lists that read as alike data; sorted(set(..)) of ints. -/
namespace Pm
open PySem PySem.Spec PyProof.Rows L2
theorem each_r {h : Heap} : ∀ {xs : List V} {us : List Value} {ds : List PyData} {as : List Addr}, Vals xs us → ReadsAll h us ds as → PySem.W.EachIs (fun (v : Value) (b : V × PyData) => L2.RelV b.1 v) us (xs.zip ds) ∧ PySem.W.EachIs (fun (v : Value) (b : V × PyData) => ∃ as, Reads h v b.2 as) us (xs.zip ds)
  | _, _, _, _, .nil, .nil => ⟨.nil, .nil⟩
  | _, _, _, _, .cons r t, .cons q u => by
    obtain ⟨h1, h2⟩ := each_r t u
    exact ⟨.cons r h1, .cons ⟨_, q⟩ h2⟩
theorem each_vals : ∀ {us : List Value} {bs : List (V × PyData)}, PySem.W.EachIs (fun (v : Value) (b : V × PyData) => L2.RelV b.1 v) us bs → Vals (bs.map Prod.fst) us
  | _, _, .nil => .nil
  | _, _, .cons r t => .cons r (each_vals t)
theorem zip_snd {α β : Type} : ∀ {xs : List α} {ds : List β}, xs.length = ds.length → (xs.zip ds).map Prod.snd = ds
  | [], [], _ => rfl
  | x :: xs, d :: ds, h => by rw [List.zip_cons_cons, List.map_cons, zip_snd (by simpa using h)]
/-- sorted(xs) -/
def rSortD (K : PySem.W.Frag) : List V → Hp → VK → Prop := fun vs H Q => ∃ a xs ds, vs = [.ref a] ∧ SqL K H a xs ∧ DpAll K H xs ds ∧ PySem.W.AllAlike ds ∧ PySem.W.Sortable ds ∧ (∀ d ∈ ds, d.depth ≤ 63) ∧ ∀ p, H p = none → Q (.ref p) (upd H p (.lst (((xs.zip ds).mergeSort (PySem.W.dataLe false Prod.snd)).map Prod.fst)))
theorem cr_sortD {X : Cx} (hu : X.A.units + 66 < cLine) : CallR X (.builtin "sorted") (rSortD X.K) := by
  intro pins s σ H vs us Q I r h
  obtain ⟨a, xs, ds, rfl, hs, dp, h1, h2, h3, q⟩ := h
  obtain ⟨u, rfl, ru⟩ := vals1 r
  cases ru
  obtain ⟨its, rv, hl, hz⟩ := I.list hs
  obtain ⟨as, rd⟩ := Dp.readsAll I ds xs its dp rv
  obtain ⟨e1, e2⟩ := each_r rv rd
  have hlen : xs.length = ds.length := (vals_len rv).trans (rdAll_len rd)
  have sn := zip_snd hlen
  have zl : (xs.zip ds).length = xs.length := by rw [List.length_zip, hlen, Nat.min_self]
  refine PySem.W.sorted_data (bs := xs.zip ds) (enc := Prod.snd) hl.isList e1 e2 (by rw [sn]; exact h1) (by rw [sn]; exact h2) (by rw [zl, vals_len rv]; simpa [vals_len rv] using hz) (fun b hb => ?_) fun out hlo ho => ?_
  · have := h3 b.2 (by rw [← sn]; exact List.mem_map.mpr ⟨b, hb, rfl⟩)
    omega
  · obtain ⟨c, hc⟩ := sortedAll_at s.heap its out.toArray
    have vo := each_vals ho
    have hlen2 : (((xs.zip ds).mergeSort (PySem.W.dataLe false Prod.snd)).map Prod.fst).length = xs.length := by rw [List.length_map, List.length_mergeSort, zl]
    have hz2 : (((xs.zip ds).mergeSort (PySem.W.dataLe false Prod.snd)).map Prod.fst).length ≤ sizeLine := by
      rw [hlen2]
      exact hz
    have new : ObjOk X.prog X.w (upd H (s.heap.objs.size + 1) (.lst (((xs.zip ds).mergeSort (PySem.W.dataLe false Prod.snd)).map Prod.fst))) (sortedAll s.heap its out.toArray) (s.heap.objs.size + 1) (.lst (((xs.zip ds).mergeSort (PySem.W.dataLe false Prod.snd)).map Prod.fst)) := ⟨hz2, out, c, vo, hc⟩
    exact ⟨.ref _, _, I.laid (t' := s.toks) (fun b o e => sortedAll_old e) (Nat.le_succ _) new, rfl, q _ (I.hok.fresh (Nat.le_succ _))⟩
end Pm
/-! PmH: sorted(set(xs)) of whole numbers, xs a list or a tuple. -/
namespace Pm
open PySem PySem.Spec PyProof.Rows L2
/-- a set as it is made -/
abbrev s0 (w : World) : Obj := { cls := .type "set", dict := none, data := .set #[] 0 (.fresh 0 0 (!w.params.followText "set-order")) }
section
variable {P : Program} {w : World} {A : Around} {E : Value → Shared → Prop} {s : Shared}
set_option maxHeartbeats 3200000 in
theorem call_setL {l : Addr} {items : Array Value} (ns : List Int) {Q : Value → Shared → Prop} (hh : A.handled = none) (hl : s.heap.IsList l items) (hit : IntsAre items.toList ns) (hb : ns.length + 1 < scanBound)
    (h : ∀ (h' : Heap) (tk c : Nat), SetR w h' s.heap.objs.size (fun j => decide (j ∈ ns)) c → c ≤ ns.length → (∀ b o, s.heap.get? b = some o → h'.get? b = some o) → Q (.ref s.heap.objs.size) { s with heap := h', toks := tk }) :
    wpAny (model P w) A (call (.type "set") [.ref l]) Q E s := by
  have hsz : items.size = ns.length := Array.length_toList ▸ IntsAre.length hit
  obtain ⟨cc, tl, hmro⟩ := F.called_set.mro
  have p1 := F.called_set.made; have p2 := F.called_set.sub; have p3 := F.called_set.notType; have p4 := F.called_set.canCreate; have p5 := F.typeCall_set_1 (.ref l)
  refine wpAny_call (codeAny_of_tree (show wpAny _ _ (callAny (.type "set") _) _ _ _ from wpAny_pure ⟨Code.quiet_builtin _ (by decide +kernel), codeAny_builtin F.entry_type_call ?_⟩))
  rw [Around.under_plain (weight_type_call_type "set" [.ref l] []) rfl]
  repeat (any_goals (first | assumption | wp_step))
  refine codeAny_mono (code_set_led1 (.ref l) (E := E) (Q₁ := fun ob t => ob = .ref s.heap.objs.size ∧ t = { s with heap := s.heap.push (s0 w) }) ⟨rfl, rfl⟩) fun r t hr => ?_
  cases r with
  | error _ => exact hr
  | ok fl =>
    cases fl with
    | ret ob =>
      obtain ⟨rfl, rfl⟩ := hr
      have e0 : (s.heap.push (s0 w)).get? s.heap.objs.size = some (s0 w) := Heap.get?_push_size _ rfl
      have e1 : Shared.TypeIs { s with heap := s.heap.push (s0 w) } (.ref s.heap.objs.size) "set" := ⟨_, e0, rfl⟩
      have p6 := F.called_set.init.lookup; have p7 := F.called_set.init.bind (.ref s.heap.objs.size)
      repeat (any_goals (first | assumption | wp_step))
      refine codeAny_mono (codeAny_call_builtin (R := wants (fun r t => r = .none ∧ ∃ h' tk c, t = { s with heap := h', toks := tk } ∧ SetR w h' s.heap.objs.size (fun j => decide (j ∈ ns)) c ∧ c ≤ ns.length ∧ (∀ b o, s.heap.get? b = some o → h'.get? b = some o)) E) F.called_set.init.plain F.entry_set_init (check_set_init_1 e1 ?_)) fun r2 t2 hr2 => ?_
      · obtain ⟨⟨oc, od, odt, osl⟩, hol, hcl, nl, hdl⟩ := hl
        simp only at hcl hdl
        subst hcl hdl
        have g0 : (s.heap.push (s0 w)).get? l = some { cls := .type "list", dict := od, data := .seq items nl, slots := osl } := Heap.get?_push_of_some _ hol
        have g1 : (s.heap.push (s0 w)).IsList l items := ⟨_, g0, rfl, nl, rfl⟩
        have g2 := F.sub_list_set; have g3 := F.sub_list_frozenset; have g4 : (Value.type "list" == Value.type "dict") = false := by decide
        unfold Builtin.«set.__init__» noKeywords Builtin.Frozenset.updateFrom
        generalize hPI : pyIter = PI
        wp_walk
        subst hPI
        refine wpAny_pyIter_list g1 (wpAny_bind (wpAny_runValue ?_))
        have lt : l < s.heap.objs.size := Heap.lt_size hol
        have hz : (s.heap.push (s0 w)).objs.size = s.heap.objs.size + 1 := Heap.size_push ..
        have n1 : l ≠ (s.heap.push (s0 w)).objs.size := by rw [hz]; exact Nat.ne_of_lt (Nat.lt_succ_of_lt lt)
        have n2 : s.heap.objs.size ∉ [(s.heap.push (s0 w)).objs.size, l] := by
          rw [hz]
          exact fun m => (List.mem_cons.mp m).elim (fun z => absurd z (Nat.ne_of_lt (Nat.lt_succ_self _))) fun m => Nat.ne_of_gt lt (List.mem_singleton.mp m)
        have val : ∀ (i : Nat) (v : Value), items[i]? = some v → ∃ k t, ns[i]? = some k ∧ v = .int k t := fun i v hv => by
          have hi : i < ns.length := hsz ▸ (Array.getElem?_eq_some_iff.mp hv).1
          obtain ⟨t, e⟩ := IntsAre.int_at hit i v (by rw [Array.getElem?_toList]; exact hv)
          exact ⟨ns[i], t, List.getElem?_eq_getElem hi, by rw [e, List.getD_eq_getElem?_getD, List.getElem?_eq_getElem hi] <;> rfl⟩
        refine set_update_ints ((Walks.list (by simp [hh]) _ l n1 items).toS) s.heap.objs.size n2 ns hsz hb val (items.size - 0) 0 _ (by omega) (Nat.zero_le _) ⟨⟨_, Heap.get?_push_size _ rfl, rfl, rfl⟩, g1.push _⟩ ⟨0, Nat.le_refl 0, setR_new_at (Heap.get?_push_of_some _ e0)⟩ fun t' c' hm hc hS => ?_
        obtain ⟨h', q2, d', tk', os'⟩ := t'
        have a1 : q2 = s.gens := hm.gens
        have a2 : d' = s.drawn := hm.drawn
        have a3 : os' = s.os := hm.os
        subst a1 a2 a3
        show wpAny _ _ _ _ _ _
        refine wpAny_pure ?_
        show wpAny _ _ (ret Value.none) _ _ _
        refine wpAny_pure ⟨rfl, h', tk', c', rfl, hS, hsz ▸ hc, fun b o e => ?_⟩
        have b0 : b < s.heap.objs.size := Heap.lt_size e
        exact hm.heap b o (fun m => (List.mem_cons.mp m).elim (fun z => Nat.ne_of_lt b0 z) fun m => Nat.ne_of_lt (hz ▸ Nat.lt_succ_of_lt b0 : b < (s.heap.push (s0 w)).objs.size) (List.mem_singleton.mp m)) (Heap.get?_push_of_some _ (Heap.get?_push_of_some _ e))
      · cases r2 with
        | error _ => exact hr2
        | ok fl2 =>
          cases fl2 with
          | ret r =>
            obtain ⟨rfl, h', tk, c', rfl, k1, k2, k3⟩ := hr2
            repeat (any_goals (first | assumption | wp_step))
            exact h _ _ _ k1 k2 k3
          | _ => exact hr2.elim
    | _ => exact hr.elim
end
/-- sorted(set(E)), E a list or a tuple of fewer than 60 whole numbers -/
def tSSet (K : PySem.W.Frag) (ta : TE) : TE := fun σ H Q => ta σ H fun x H1 => ∃ (l : Addr) (ns : List Int), x = .ref l ∧ (SqL K H1 l (ns.map V.int) ∨ SqT K H1 l (ns.map V.int)) ∧ ns.length < 60 ∧
  ∀ (ms : List Int) (p : Addr), ms.Pairwise (· < ·) → (∀ k : Int, k ∈ ms ↔ k ∈ ns) → H1 p = none → Q (.ref p) (upd H1 p (.lst (ms.map V.int)))
theorem pe_sset {X : Cx} {a : Expr} {ta : TE} {p p2 q pos : Pos} (hc : X.calm = true) (hg : Gl X "sorted") (hm : X.mg "sorted" = none) (hg2 : Gl X "set") (hm2 : X.mg "set" = none) (ha : PE X a ta)
    (na : starEach [a] X.env = (false, eval a X.env) :: starEach [] X.env) : PE X (.Call (.Name "sorted" p) [.Call (.Name "set" p2) [a] [] q] [] pos) (tSSet X.K ta) := by
  refine ⟨fun pins s σ H Q I h => Call_ (ld_blt I hg hm (show bootBuiltins "sorted" = some (.builtin "sorted") by decide +kernel) (PyProof.Rows.callWith_builtin1 (PyProof.Rows.args_cons ?_ rfl) rfl rfl))⟩
  refine Call_ (ld_blt I hg2 hm2 boot_set (PyProof.Rows.callWith_type1 (PyProof.Rows.args_cons (thn (ha.run pins s σ H _ I h) fun v s1 ⟨x, H1, I1, r1, l, ns, ex, hq, hl, q1⟩ => PyProof.Rows.args_nil ?_) na) na rfl))
  subst ex
  cases r1
  have fin : ∀ (h' : Heap) (tk c : Nat), SetR X.w h' s1.heap.objs.size (fun j => decide (j ∈ ns)) c → c ≤ ns.length → (∀ b o, s1.heap.get? b = some o → h'.get? b = some o) →
      wpAny (model X.prog X.w) X.A (call (.builtin "sorted") [.ref s1.heap.objs.size]) (EP X pins σ Q) X.xe { s1 with heap := h', toks := tk } := fun h' tk c R hcl hk => by
    have I2 : Inv X pins σ H1 { s1 with heap := h', toks := tk } := I1.kept (t' := tk) hk
    refine sorted_set (s := { s1 with heap := h', toks := tk }) R (I2.ok.hd hc) (by omega) fun s' p out c ms k g o hp hgt hi hs hmm hln => ?_
    have hlen : (ms.map V.int).length ≤ sizeLine := by rw [List.length_map, hln, sizeLine_eq]; omega
    have hn : H1 p = none := I2.hok.fresh hp
    have J : Inv X pins σ (upd H1 p (.lst (ms.map V.int))) { ({ s1 with heap := h', toks := tk } : Shared) with heap := s'.heap, gens := s'.gens, drawn := s'.drawn, toks := s'.toks } :=
      I2.call (ch := []) (Un.laid k hp hn) (I2.hok.laid k hp ⟨hlen, out.toList, c, vals_of_ints hi, hgt⟩) (by rw [g]; exact I2.bare) (fun _ z => nomatch z)
    have e : s' = { ({ s1 with heap := h', toks := tk } : Shared) with heap := s'.heap, gens := s'.gens, drawn := s'.drawn, toks := s'.toks } := by
      cases s'; cases s1; cases o; rfl
    rw [e]
    exact ⟨.ref p, _, J, rfl, q1 ms p hs (fun z => (hmm z).trans decide_eq_true_iff) hn⟩
  have sb : ns.length + 1 < scanBound := by unfold scanBound; omega
  rcases hq with hq | hq
  · obtain ⟨its, r, pl, hz⟩ := I1.list hq
    exact call_setL ns (I1.ok.hd hc) pl.isList (by simpa using ints_of_vals r) sb fun h' tk c R a b => PyProof.Rows.args_nil (fin h' tk c R a b)
  · obtain ⟨its, r, pl, hz⟩ := I1.tuple hq
    exact call_set_tupI ns (I1.ok.hd hc) pl (by simpa using ints_of_vals r) sb fun h' tk c R a b => PyProof.Rows.args_nil (fin h' tk c R a b)
end Pm
/-! PfA: the pure side. Data, the monad of draws, the small language, its evaluator. -/
namespace Pf
open PySem

abbrev D := PyData

/-- a computation: a value, stuck, or a free choice below n -/
inductive M (α : Type) where
  | ret (a : α) : M α
  | bad : M α
  | draw (n : Nat) (k : Nat → M α) : M α
  | any (k : Int → M α) : M α
namespace M
def bind {α β : Type} : M α → (α → M β) → M β
  | .ret a, f => f a
  | .bad, _ => .bad
  | .draw n k, f => .draw n fun r => (k r).bind f
  | .any k, f => .any fun r => (k r).bind f
instance : Monad M where
  pure := M.ret
  bind := M.bind
end M
/-- every end is a value with Q -/
def WP {α : Type} : M α → (α → Prop) → Prop
  | .ret a, Q => Q a
  | .bad, _ => False
  | .draw n k, Q => 0 < n ∧ ∀ r, r < n → WP (k r) Q
  | .any k, Q => ∀ r, WP (k r) Q

theorem WP.mono {α : Type} {Q R : α → Prop} : ∀ {m : M α}, WP m Q → (∀ a, Q a → R a) → WP m R
  | .ret _, h, f => f _ h
  | .bad, h, _ => h
  | .draw _ k, h, f => ⟨h.1, fun r hr => WP.mono (m := k r) (h.2 r hr) f⟩
  | .any k, h, f => fun r => WP.mono (m := k r) (h r) f
theorem WP.bind {α β : Type} {Q : β → Prop} {f : α → M β} : ∀ {m : M α}, WP (m.bind f) Q ↔ WP m (fun a => WP (f a) Q)
  | .ret _ => Iff.rfl
  | .bad => Iff.rfl
  | .draw n k => by
    show (0 < n ∧ ∀ r, r < n → WP ((k r).bind f) Q) ↔ (0 < n ∧ ∀ r, r < n → WP (k r) fun a => WP (f a) Q)
    exact and_congr_right fun _ => forall_congr' fun r => imp_congr_right fun _ => WP.bind
  | .any k => by
    show (∀ r, WP ((k r).bind f) Q) ↔ (∀ r, WP (k r) fun a => WP (f a) Q)
    exact forall_congr' fun r => WP.bind
theorem wp_bind {α β : Type} {Q : β → Prop} {f : α → M β} {m : M α} : WP (m >>= f) Q ↔ WP m (fun a => WP (f a) Q) := WP.bind
@[simp] theorem ret_bind {α β : Type} (a : α) (f : α → M β) : (M.ret a >>= f) = f a := rfl
@[simp] theorem bad_bind {α β : Type} (f : α → M β) : ((M.bad : M α) >>= f) = M.bad := rfl
@[simp] theorem draw_bind {α β : Type} (n : Nat) (k : Nat → M α) (f : α → M β) : (M.draw n k >>= f) = M.draw n fun r => k r >>= f := rfl
@[simp] theorem pure_is {α : Type} (a : α) : (pure a : M α) = M.ret a := rfl
@[simp] theorem wp_ret {α : Type} (a : α) (Q : α → Prop) : WP (.ret a) Q = Q a := rfl
@[simp] theorem wp_bad {α : Type} (Q : α → Prop) : WP (.bad) Q = False := rfl
theorem wp_draw {α : Type} {n : Nat} {k : Nat → M α} {Q : α → Prop} (h : 0 < n) (f : ∀ r, r < n → WP (k r) Q) : WP (.draw n k) Q := ⟨h, f⟩

/-- a condition of the way -/
def need {α : Type} (c : Bool) (m : M α) : M α := if c = true then m else .bad
theorem wp_need {α : Type} {c : Bool} {m : M α} {Q : α → Prop} (h : WP (need c m) Q) : c = true ∧ WP m Q := by
  unfold need at h
  by_cases hc : c = true
  · rw [if_pos hc] at h; exact ⟨hc, h⟩
  · rw [if_neg hc] at h; exact h.elim
@[simp] theorem need_true {α : Type} (m : M α) : need true m = m := rfl
theorem need_of {α : Type} {c : Bool} {m : M α} (h : c = true) : need c m = m := by unfold need; rw [if_pos h]

/-- the feed's token; a def as a value -/
def feedD (ns : List Int) : D := .dict [(.none, .list (ns.map .int))]
def fnD (k : Nat) : D := .dict [(.none, .int k)]

/-- what a slot holds: data; a list of the def's own; a list that may be one of those -/
inductive SV where
  | dat (d : D)
  | own (d : D)
  | bor (d : D)
def SV.d : SV → D
  | .dat d => d
  | .own d => d
  | .bor d => d
abbrev Ev := List (Option SV)

def gs (ρ : Ev) (i : Nat) : M D := match ρ[i]? with
  | some (some (.dat d)) => .ret d
  | _ => .bad
def gr (ρ : Ev) (i : Nat) : M D := match ρ[i]? with
  | some (some v) => .ret v.d
  | _ => .bad
def go (ρ : Ev) (i : Nat) : M (List D) := match ρ[i]? with
  | some (some (.own (.list ds))) => .ret ds
  | _ => .bad
def clr1 : Option SV → Option SV
  | some (.bor _) => none
  | x => x
def clr (ρ : Ev) : Ev := ρ.map clr1
/-- a store -/
def put (ρ : Ev) (i : Nat) (v : SV) : Ev := match ρ[i]? with
  | some (some (.own _)) => (clr ρ).set i (some v)
  | _ => ρ.set i (some v)
/-- an own list is changed -/
def chg (ρ : Ev) (i : Nat) (ds : List D) : Ev := (clr ρ).set i (some (.own (.list ds)))
def wip (ρ : Ev) : List Nat → Ev
  | [] => ρ
  | v :: vs => (wip ρ vs).set v none

/-! ### operators over data -/
inductive Op2 where
  | add | sub | mul | mod | fdiv | pow
  deriving DecidableEq
inductive Cm where
  | lt | le | gt | ge | eq | ne | isin | notin
  deriving DecidableEq
inductive Bi where
  | len | lst | tup | srt | all | any | ord | str | int | repr
  deriving DecidableEq
inductive Ty where
  | int | bool | str | tup | lst
  deriving DecidableEq

def lim : Nat := 1000000

def repD (xs : List D) (n : Nat) : List D := (List.replicate n xs).flatten

def op2 : Op2 → D → D → M D
  | .add, .int a, .int b => .ret (.int (a + b))
  | .add, .str a, .str b => need (decide (a.length + b.length ≤ sizeLine)) (.ret (.str (a ++ b)))
  | .add, .bool a, .int b => .ret (.int ((if a = true then 1 else 0) + b))
  | .add, .list a, .list b => need (decide (a.length + b.length ≤ sizeLine)) (.ret (.list (a ++ b)))
  | .add, .tuple a, .tuple b => need (decide (a.length + b.length ≤ sizeLine)) (.ret (.tuple (a ++ b)))
  | .sub, .int a, .int b => .ret (.int (a - b))
  | .sub, .bool a, .int b => .ret (.int ((if a = true then 1 else 0) - b))
  | .sub, .int a, .bool b => .ret (.int (a - if b = true then 1 else 0))
  | .mul, .int a, .int b => need (decide (-(2 ^ 64) < a ∧ a < 2 ^ 64)) (.ret (.int (a * b)))
  | .mul, .list a, .int b => need (decide (-(2 ^ 63) ≤ b ∧ b < 2 ^ 63 ∧ a.length * b.toNat ≤ sizeLine)) (.ret (.list (repD a b.toNat)))
  | .mul, .tuple a, .int b => need (decide (a.length ≠ 0 ∧ 2 ≤ b ∧ b ≤ 1000 ∧ a.length ≤ 1000)) (.ret (.tuple (repD a b.toNat)))
  | .mod, .int a, .int b => need (decide (b ≠ 0)) (.ret (.int (a.fmod b)))
  | .fdiv, .int a, .int b => need (decide (b ≠ 0 ∧ b.natAbs < 1073741824)) (.ret (.int (a.fdiv b)))
  | .pow, .int a, .int b => need (decide (0 ≤ b ∧ b ≤ 1000000 ∧ a.natAbs < 2 ^ 64)) (.ret (.int (a ^ b.toNat)))
  | _, _, _ => .bad

/-- a dict of keys, each with True -/
def dctD (ds : List D) : D := .dict (ds.map fun d => (d, .bool true))
def kvOk : List (D × D) → Bool
  | [] => true
  | (_, .bool true) :: r => kvOk r
  | _ => false
theorem kvOk_eq : ∀ {kvs : List (D × D)}, kvOk kvs = true → PyData.dict kvs = dctD (kvs.map (·.1))
  | [], _ => rfl
  | (k, .bool true) :: r, h => by
    have := kvOk_eq (kvs := r) h
    unfold dctD at this ⊢
    injection this with this
    simp only [List.map_cons, List.map_map] at this ⊢
    congr 2
theorem kvOk_d : ∀ ds : List D, kvOk (ds.map fun d => (d, .bool true)) = true
  | [] => rfl
  | d :: r => kvOk_d r
theorem dctD_k (ds : List D) : (ds.map fun d => (d, PyData.bool true)).map (·.1) = ds := by
  rw [List.map_map]
  exact List.map_id ds
/-- what can be a key -/
def keyOk (d : D) : Bool := Pm.keyD d && d.canLay0
def addD (c : List D) : List D → List D
  | [] => c
  | d :: r => addD (if Pm.hasK c d = true then c else c ++ [d]) r
def cmLt (a b : Str) : Bool := decide (a.cps.toList < b.cps.toList)
/-- two data that == is asked of -/
def eqOk : D → D → Bool
  | .str _, .str _ => true
  | a, b => SeqAt.shaped a && SeqAt.shaped b
def cmp2 : Cm → D → D → M D
  | .lt, .int a, .int b => .ret (.bool (decide (a < b)))
  | .le, .int a, .int b => .ret (.bool (decide (a ≤ b)))
  | .gt, .int a, .int b => .ret (.bool (decide (b < a)))
  | .ge, .int a, .int b => .ret (.bool (decide (b ≤ a)))
  | .lt, .str a, .str b => .ret (.bool (decide (a.cps.toList < b.cps.toList)))
  | .ge, .str a, .str b => .ret (.bool (!decide (a.cps.toList < b.cps.toList)))
  | .lt, .tuple a, .tuple b => need (PySem.W.alikeAll a b && SeqAt.shaped (.tuple a) && SeqAt.shaped (.tuple b)) (.ret (.bool (PySem.W.dataLt (.tuple a) (.tuple b))))
  | .ge, .tuple a, .tuple b => need (PySem.W.alikeAll a b && SeqAt.shaped (.tuple a) && SeqAt.shaped (.tuple b)) (.ret (.bool (!PySem.W.dataLt (.tuple a) (.tuple b))))
  | .eq, a, b => need (eqOk a b) (.ret (.bool (PyData.eqv a b)))
  | .ne, a, b => need (eqOk a b) (.ret (.bool (!PyData.eqv a b)))
  | .isin, .str a, .str b => need (decide (a.length = 1)) (.ret (.bool (decide (a.cps.toList.headD 0 ∈ b.cps.toList))))
  | .isin, a, .list b => need (SeqAt.shaped a && SeqAt.shaped (.list b)) (.ret (.bool (b.any fun z => PyData.eqv z a)))
  | .isin, a, .tuple b => need (SeqAt.shaped a && SeqAt.shaped (.tuple b)) (.ret (.bool (b.any fun z => PyData.eqv z a)))
  | .isin, a, .dict kvs => need (keyOk a && kvOk kvs) (.ret (.bool (Pm.hasK (kvs.map (·.1)) a)))
  | .notin, .str a, .str b => need (decide (a.length = 1)) (.ret (.bool (!decide (a.cps.toList.headD 0 ∈ b.cps.toList))))
  | .notin, a, .list b => need (SeqAt.shaped a && SeqAt.shaped (.list b)) (.ret (.bool (!b.any fun z => PyData.eqv z a)))
  | .notin, a, .tuple b => need (SeqAt.shaped a && SeqAt.shaped (.tuple b)) (.ret (.bool (!b.any fun z => PyData.eqv z a)))
  | _, _, _ => .bad

def isTy : Ty → D → Bool
  | .int, .int _ => true
  | .int, .bool _ => true
  | .bool, .bool _ => true
  | .str, .str _ => true
  | .tup, .tuple _ => true
  | .lst, .list _ => true
  | _, _ => false
/-- data that isinstance is asked of -/
def plainD : D → Bool
  | .dict _ => false
  | _ => true

def boolsOf : List D → Option (List Bool)
  | [] => some []
  | .bool b :: r => (boolsOf r).map (b :: ·)
  | _ :: _ => none
def intsOf : List D → Option (List Int)
  | [] => some []
  | .int b :: r => (intsOf r).map (b :: ·)
  | _ :: _ => none
def strsOf : List D → Option (List Str)
  | [] => some []
  | .str b :: r => (strsOf r).map (b :: ·)
  | _ :: _ => none
def insI (x : Int) : List Int → List Int
  | [] => [x]
  | y :: r => if x ≤ y then x :: y :: r else y :: insI x r
def sortI : List Int → List Int
  | [] => []
  | x :: r => insI x (sortI r)

/-- sorting data -/
def insD (x : D) : List D → List D
  | [] => [x]
  | y :: r => if PySem.W.dataLt y x = true then y :: insD x r else x :: y :: r
def sortD : List D → List D
  | [] => []
  | x :: r => insD x (sortD r)
def isTupD : D → Bool
  | .tuple (_ :: _) => true
  | _ => false
def noTupD : D → Bool
  | .none => false
  | .tuple _ => false
  | _ => true
def srtOk (ds : List D) : Bool := (ds.all fun d => ds.all fun e => PySem.W.alike d e) && (ds.all isTupD || ds.all noTupD) && SeqAt.shaped (.list ds)
/-- the ints of a set, ascending -/
def insU (x : Int) : List Int → List Int
  | [] => [x]
  | y :: r => if x < y then x :: y :: r else if x = y then y :: r else y :: insU x r
def ssetI : List Int → List Int
  | [] => []
  | x :: r => insU x (ssetI r)
def bi1 : Bi → D → M D
  | .len, .list a => .ret (.int a.length)
  | .len, .tuple a => .ret (.int a.length)
  | .len, .str a => need (decide (a.length ≤ sizeLine)) (.ret (.int a.length))
  | .lst, .list a => .ret (.list a)
  | .lst, .tuple a => .ret (.list a)
  | .tup, .list a => .ret (.tuple a)
  | .tup, .tuple a => .ret (.tuple a)
  | .all, .list a => match boolsOf a with
    | some bs => .ret (.bool (bs.all id))
    | none => .bad
  | .any, .list a => match boolsOf a with
    | some bs => .ret (.bool (bs.any id))
    | none => .bad
  | .srt, .list a => match intsOf a with
    | some ns => .ret (.list ((sortI ns).map .int))
    | none => need (srtOk a) (.ret (.list (sortD a)))
  | .ord, .str a => need (decide (a.length = 1)) (.ret (.int (a.cps.toList.headD 0 : Nat)))
  | .str, .int a => need (decide (a.natAbs.log2 < 1920)) (.ret (.str (toString a)))
  | .str, .bool a => .ret (.str (if a = true then "True" else "False"))
  | .int, .int a => .ret (.int a)
  | .int, .bool a => .ret (.int (if a then 1 else 0))
  | .repr, a => need (a.showable && SeqAt.shaped a && decide (a.shown.length ≤ sizeLine)) (.ret (.str a.shown))
  | _, _ => .bad

/-- the place of an index -/
abbrev ixAt (n : Nat) (i : Int) : Option Nat := L2.ixN n i
def idx2 : D → D → M D
  | .list a, .int i => match (ixAt a.length i).bind (a[·]?) with
    | some d => .ret d
    | none => .bad
  | .tuple a, .int i => match (ixAt a.length i).bind (a[·]?) with
    | some d => .ret d
    | none => .bad
  | _, _ => .bad
/-- an end of a slice -/
abbrev slE (n : Nat) (dflt : Nat) (x : Option Int) : Nat := HT.sIx n dflt x
def cutD (a : List D) (lo hi : Option Int) : List D := (a.drop (slE a.length 0 lo)).take (slE a.length a.length hi - slE a.length 0 lo)
def optI : Option D → M (Option Int)
  | none => .ret none
  | some (.int i) => .ret (some i)
  | _ => .bad
def sl2 : D → Option Int → Option Int → M D
  | .list a, lo, hi => .ret (.list (cutD a lo hi))
  | .tuple a, lo, hi => .ret (.tuple (cutD a lo hi))
  | .str a, lo, hi => need (decide (a.length ≤ sizeLine)) (.ret (.str ⟨((a.cps.toList.drop (slE a.length 0 lo)).take (slE a.length a.length hi - slE a.length 0 lo)).toArray⟩))
  | _, _, _ => .bad
/-- ds[i::n] -/
def stepD (ds : List D) (i : Int) (n : Nat) : List D := (sliceRange (sliceBounds (some i) none (some (n : Int)) ds.length).1 (sliceBounds (some i) none (some (n : Int)) ds.length).2.1 (sliceBounds (some i) none (some (n : Int)) ds.length).2.2).filterMap (ds[·]?)

def truD : D → M Bool
  | .none => .ret false
  | .bool b => .ret b
  | .int i => .ret (i != 0)
  | .str a => need (decide (a.length ≤ sizeLine)) (.ret (a.length != 0))
  | .list a => .ret !a.isEmpty
  | .tuple a => .ret !a.isEmpty
  | _ => .bad

/-! ### the language -/
inductive Sx where
  | var (i : Nat)
  | cst (d : D)
  | glob (x : Str) (d : D)
  | fref (x : Str) (k : Nat)
  | tup (a : Sx)
  | lst (a : Sx)
  | nil
  | cons (e a : Sx)
  | star (e a : Sx)
  | call (k : Nat) (a : Sx)
  | callv (i : Nat) (a : Sx)
  | callk (k : Nat) (perm : List Nat) (a : Sx)
  | bi (b : Bi) (a : Sx)
  | biIf (b : Bi) (k a d : Sx)
  | isi (e : Sx) (t : Ty)
  | upper (e : Sx)
  | bin (o : Op2) (a b : Sx)
  | cmp (o : Cm) (a b : Sx)
  | chain (o o' : Cm) (a b c : Sx)
  | neg (a : Sx)
  | nt (a : Sx)
  | and (a b : Sx)
  | or (a b : Sx)
  | ifx (c a b : Sx)
  | idx (a b : Sx)
  | sl (a lo hi : Sx)
  | rev (a : Sx)
  | step (a lo : Sx) (n : Nat)
  | none_
  | lc (own : List Nat) (tg it cd elt : Sx)
  | rng1 (a : Sx)
  | rng2 (a b : Sx)
  | enum (a : Sx)
  | zip (a b : Sx)
  | lrng (a : Sx)
  | trng (a : Sx)
  | trng2 (a b : Sx)
  | sset (a : Sx)
  | fld (i q : Nat)
  | fcl (i : Nat)
  | fput (i q : Nat) (e : Sx)
  -- statements
  | asg (tg e : Sx)
  | asgO (i : Nat) (e : Sx)
  | par (i : Nat) (oi : Bool) (a : Sx) (j : Nat) (oj : Bool) (b : Sx)
  | bor (i j : Nat) (c e : Sx)
  | app (i : Nat) (e : Sx)
  | ext (i : Nat) (e : Sx)
  | rmv (i : Nat) (e : Sx)
  | popS (i : Nat) (e : Sx)
  | appPop (i j : Nat) (e : Sx)
  | asgPop (tg : Sx) (j : Nat)
  | augI (i : Nat) (e : Sx)
  | dnew (i : Nat) (own : List Nat) (tg it key : Sx)
  | dupd (i : Nat) (own : List Nat) (tg it key : Sx)
  | iff (c a b : Sx)
  | forS (tg it b : Sx)
  | whil (c b : Sx)
  | ret (e : Sx)
  | retN
  | expr (e : Sx)
  | cont
  | brk
  | pas
  | never
  | frz (i : Nat)
end Pf
/-! PfB: the evaluator. -/
namespace Pf
open PySem

inductive Out where
  | nx (ρ : Ev)
  | ct (ρ : Ev)
  | bk (ρ : Ev)
  | rt (d : D)

def lcGo (b : D → M Ev) (t : Ev → M Bool) (e : Ev → M D) : List D → M (List D)
  | [] => .ret []
  | d :: r => (b d).bind fun ρ => (t ρ).bind fun c => if c = true then (e ρ).bind fun y => (lcGo b t e r).bind fun ys => .ret (y :: ys) else lcGo b t e r
def forGo (b : D → Ev → M Ev) (s : Ev → M Out) : List D → Ev → M Out
  | [], ρ => .ret (.nx ρ)
  | d :: r, ρ => (b d ρ).bind fun ρ1 => (s ρ1).bind fun o => match o with
    | .nx ρ2 => forGo b s r ρ2
    | .ct ρ2 => forGo b s r ρ2
    | .bk ρ2 => .ret (.nx ρ2)
    | .rt d => .ret (.rt d)
def whGo (t : Ev → M Bool) (s : Ev → M Out) : Nat → Ev → M Out
  | 0, _ => .bad
  | n + 1, ρ => (t ρ).bind fun c => if c = true then (s ρ).bind fun o => match o with
    | .nx ρ2 => whGo t s n ρ2
    | .ct ρ2 => whGo t s n ρ2
    | .bk ρ2 => .ret (.nx ρ2)
    | .rt d => .ret (.rt d)
    else .ret (.nx ρ)
/-- the ints from lo on, n of them -/
def intR (lo : Int) (n : Nat) : List D := (List.range n).map fun i => .int (lo + (i : Nat))
def enumGo : Nat → List D → List D
  | _, [] => []
  | i, d :: r => .tuple [.int (i : Nat), d] :: enumGo (i + 1) r
def zipGo : List D → List D → List D
  | d :: r, e :: s => .tuple [d, e] :: zipGo r s
  | _, _ => []
def zipD : D → D → M D
  | .list ds, .list es => need (decide ((zipGo ds es).length ≤ sizeLine)) (.ret (.list (zipGo ds es)))
  | .tuple ds, .tuple es => need (decide ((zipGo ds es).length ≤ sizeLine)) (.ret (.list (zipGo ds es)))
  | _, _ => .bad
def seqD : D → M (List D)
  | .list a => .ret a
  | .tuple a => .ret a
  | _ => .bad
def itmD : D → M (List D)
  | .list a => .ret a
  | .tuple a => .ret a
  | .str a => need (decide (a.cps.toList.length ≤ sizeLine)) (.ret (a.cps.toList.map fun c => .str ⟨#[c]⟩))
  | .dict kvs => need (kvOk kvs) (.ret (kvs.map (·.1)))
  | _ => .bad
def rngOk (i : Int) : Bool := decide (-(2 ^ 62) ≤ i ∧ i < 2 ^ 62)
def intD : D → M Int
  | .int i => .ret i
  | _ => .bad
def boolD : D → M Bool
  | .bool b => .ret b
  | _ => .bad
/-- an own list becomes data -/
def frzD (ρ : Ev) (i : Nat) : M Ev := match ρ[i]? with
  | some (some (.own d)) => .ret ((clr ρ).set i (some (.dat d)))
  | _ => .bad
def rmvD (x : D) : List D → Option (List D)
  | [] => none
  | y :: r => if PyData.eqv y x then some r else (rmvD x r).map (y :: ·)
def popD (ds : List D) (i : Int) : Option (D × List D) := if i.natAbs < 9223372036854775808 then (seqIndex? i ds.length).bind fun k => (ds[k]?).map fun d => (d, ds.eraseIdx k) else none
def permD (vs : List D) (p : List Nat) : M (List D) := match p.mapM (vs[·]?) with
  | some ws => .ret ws
  | none => .bad
def fnOfD : D → M Nat
  | .dict [(.none, .int k)] => need (decide (0 ≤ k)) (.ret k.toNat)
  | _ => .bad
/-- the cells of the feed's token -/
def cellsOf : D → M (List D)
  | .dict [(.none, .list l)] => .ret l
  | _ => .bad
def isNone_ : Sx → Bool
  | .none_ => true
  | _ => false

/-- the slot holds no own list -/
def noOwn (ρ : Ev) (i : Nat) : Bool := match ρ[i]? with
  | some (some (.own _)) => false
  | _ => true
/-- no own list among the slots that a comprehension takes -/
def datOnly (ρ : Ev) (vs : List Nat) : Bool := vs.all fun i => match ρ[i]? with
  | some (some (.own _)) => false
  | _ => true
/-- a target -/
def tgt : Sx → D → Ev → M Ev
  | .var i, d, ρ => .ret (put ρ i (.dat d))
  | .tup a, .tuple ds, ρ => tgt a (.list ds) ρ
  | .nil, .list [], ρ => .ret ρ
  | .cons t a, .list (d :: ds), ρ => (tgt t d ρ).bind fun ρ1 => tgt a (.list ds) ρ1
  | _, _, _ => .bad

def enumM (x : D) : M D := (seqD x).bind fun ds => .ret (.list (enumGo 0 ds))
def ssetM (x : D) : M D := (seqD x).bind fun ds => match intsOf ds with
  | some ns => need (decide (ns.length < 60)) (.ret (.list ((ssetI ns).map .int)))
  | none => .bad
def rdv (e : Sx) (f : Ev → M D) (ρ : Ev) : M D := match e with
  | .var i => gr ρ i
  | .enum (.var i) => (gr ρ i).bind enumM
  | _ => f ρ
def tst (e : Sx) (f : Ev → M D) (ρ : Ev) : M Bool := match e with
  | .none_ => .ret true
  | _ => (rdv e f ρ).bind truD
def optv (e : Sx) (f : Ev → M D) (ρ : Ev) : M (Option Int) := match e with
  | .none_ => .ret none
  | _ => (f ρ).bind fun d => (intD d).bind fun i => .ret (some i)
def itmv (e : Sx) (f : Ev → M D) (ρ : Ev) : M (List D) := (rdv e f ρ).bind itmD
def lstD : D → M (List D)
  | .list a => .ret a
  | _ => .bad

def ev (F : Nat → List D → M D) : Sx → Ev → M D
  | .var i, ρ => gs ρ i
  | .cst d, _ => .ret d
  | .glob _ d, _ => .ret d
  | .fref _ k, _ => .ret (fnD k)
  | .nil, _ => .ret (.list [])
  | .cons e a, ρ => (ev F e ρ).bind fun d => (ev F a ρ).bind fun x => (lstD x).bind fun ds => .ret (.list (d :: ds))
  | .star e a, ρ => (rdv e (ev F e) ρ).bind fun y => (seqD y).bind fun es => (ev F a ρ).bind fun x => (lstD x).bind fun ds => .ret (.list (es ++ ds))
  | .tup a, ρ => (ev F a ρ).bind fun x => (lstD x).bind fun ds => need (decide (ds.length ≤ sizeLine)) (.ret (.tuple ds))
  | .lst a, ρ => (ev F a ρ).bind fun x => (lstD x).bind fun ds => need (decide (ds.length ≤ sizeLine)) (.ret (.list ds))
  | .call k a, ρ => (ev F a ρ).bind fun x => (lstD x).bind fun ds => F k ds
  | .callv i a, ρ => (gs ρ i).bind fun v => (fnOfD v).bind fun k => (ev F a ρ).bind fun x => (lstD x).bind fun ds => F k ds
  | .callk k p a, ρ => (ev F a ρ).bind fun x => (lstD x).bind fun vs => (permD vs p).bind fun ds => F k ds
  | .bi b a, ρ => (rdv a (ev F a) ρ).bind fun d => bi1 b d
  | .biIf b k a d, ρ => ((tst k (ev F k) ρ).bind fun z => if z = true then rdv a (ev F a) ρ else rdv d (ev F d) ρ).bind fun x => bi1 b x
  | .isi e t, ρ => (rdv e (ev F e) ρ).bind fun d => need (plainD d) (.ret (.bool (isTy t d)))
  | .upper e, ρ => (ev F e ρ).bind fun d => match d with
    | .str a => need (decide (a.length ≤ 5592405)) (.ret (.str (Txt.upper a)))
    | _ => .bad
  | .bin o a b, ρ => (rdv a (ev F a) ρ).bind fun x => (rdv b (ev F b) ρ).bind fun y => op2 o x y
  | .cmp o a b, ρ => (rdv a (ev F a) ρ).bind fun x => (rdv b (ev F b) ρ).bind fun y => cmp2 o x y
  | .chain o o' a b c, ρ => (rdv a (ev F a) ρ).bind fun x => (rdv b (ev F b) ρ).bind fun y => (cmp2 o x y).bind fun r => (boolD r).bind fun k => if k = true then (rdv c (ev F c) ρ).bind fun z => cmp2 o' y z else .ret (.bool false)
  | .neg a, ρ => (ev F a ρ).bind fun x => (intD x).bind fun i => .ret (.int (-i))
  | .nt a, ρ => (tst a (ev F a) ρ).bind fun k => .ret (.bool !k)
  | .and a b, ρ => (ev F a ρ).bind fun x => (truD x).bind fun k => if k = true then ev F b ρ else .ret x
  | .or a b, ρ => (ev F a ρ).bind fun x => (truD x).bind fun k => if k = true then .ret x else ev F b ρ
  | .ifx c a b, ρ => (tst c (ev F c) ρ).bind fun k => if k = true then ev F a ρ else ev F b ρ
  | .idx a b, ρ => (rdv a (ev F a) ρ).bind fun x => (ev F b ρ).bind fun y => idx2 x y
  | .sl a lo hi, ρ => (rdv a (ev F a) ρ).bind fun x => (optv lo (ev F lo) ρ).bind fun i => (optv hi (ev F hi) ρ).bind fun j => sl2 x i j
  | .rev a, ρ => (rdv a (ev F a) ρ).bind fun x => match x with
    | .list ds => .ret (.list ds.reverse)
    | .tuple ds => .ret (.tuple ds.reverse)
    | _ => .bad
  | .step a lo n, ρ => (rdv a (ev F a) ρ).bind fun x => (ev F lo ρ).bind fun y => match x, y with
    | .list ds, .int i => need (decide (n ≠ 0 ∧ (stepD ds i n).length ≤ sizeLine)) (.ret (.list (stepD ds i n)))
    | _, _ => .bad
  | .lc own tg it cd elt, ρ => (itmv it (ev F it) ρ).bind fun ds => need (datOnly ρ own) ((lcGo (fun d => tgt tg d (wip ρ own)) (tst cd (ev F cd)) (ev F elt) ds).bind fun ys => .ret (.list ys))
  | .rng1 a, ρ => (ev F a ρ).bind fun x => (intD x).bind fun i => need (decide (-(2 ^ 62) ≤ i ∧ i ≤ 1000000)) (.ret (.list (intR 0 i.toNat)))
  | .rng2 a b, ρ => (ev F a ρ).bind fun x => (ev F b ρ).bind fun y => (intD x).bind fun i => (intD y).bind fun j => need (decide (-(2 ^ 62) ≤ i ∧ i < 2 ^ 62 ∧ -(2 ^ 62) ≤ j ∧ j < 2 ^ 62 ∧ j - i ≤ 1000000)) (.ret (.list (intR i (j - i).toNat)))
  | .enum a, ρ => (ev F a ρ).bind enumM
  | .sset a, ρ => (rdv a (ev F a) ρ).bind ssetM
  | .zip a b, ρ => (ev F a ρ).bind fun x => (ev F b ρ).bind fun y => zipD x y
  | .lrng a, ρ => (ev F a ρ).bind fun x => (intD x).bind fun i => need (decide (-(2 ^ 62) ≤ i ∧ i ≤ 1000000)) (.ret (.list (intR 0 i.toNat)))
  | .fld i _, ρ => (gs ρ i).bind fun d => (cellsOf d).bind fun _ => .any fun n => .ret (.int n)
  | .trng2 a b, ρ => (ev F a ρ).bind fun x => (ev F b ρ).bind fun y => (intD x).bind fun i => (intD y).bind fun j => need (decide (-(2 ^ 62) ≤ i ∧ i < 2 ^ 62 ∧ -(2 ^ 62) ≤ j ∧ j < 2 ^ 62 ∧ j - i ≤ 1000000)) (.ret (.tuple (intR i (j - i).toNat)))
  | .fcl i, ρ => (gs ρ i).bind fun d => (cellsOf d).bind fun l => .ret (.list l)
  | .trng a, ρ => (ev F a ρ).bind fun x => (intD x).bind fun i => need (decide (-(2 ^ 62) ≤ i ∧ i ≤ 1000000)) (.ret (.tuple (intR 0 i.toNat)))
  | _, _ => .bad

/-- the keys of {k: True for ..} -/
def dcF (fi : Ev → M (List D)) (ft : D → Ev → M Ev) (fe : Ev → M D) (vs : List Nat) (ρ : Ev) : M (List D) := (fi ρ).bind fun ds => need (datOnly ρ vs) ((lcGo (fun d => ft d (wip ρ vs)) (fun _ => .ret true) (fun ρ' => (fe ρ').bind fun y => need (keyOk y) (.ret y)) ds).bind fun ys => .ret (addD [] ys))
def god (ρ : Ev) (i : Nat) : M (List D) := match ρ[i]? with
  | some (some (.own (.dict kvs))) => need (kvOk kvs) (.ret (kvs.map (·.1)))
  | _ => .bad
def chgD (ρ : Ev) (i : Nat) (ds : List D) : Ev := (clr ρ).set i (some (.own (dctD ds)))
def isFr : Sx → Bool
  | .lst _ | .lc .. | .lrng _ | .rev _ | .step .. | .bin .. | .sl .. | .sset _ => true
  | .bi .lst _ | .bi .srt _ => true
  | _ => false

/-- a fresh list as a slot's own, any data as data -/
def mkV (o : Bool) (e : Sx) (d : D) : M SV := if o = true then (lstD d).bind fun ds => need (isFr e) (.ret (.own (.list ds))) else .ret (.dat d)
def exGo (fu : Nat) (F : Nat → List D → M D) : Sx → Ev → M Out
  | .nil, ρ => .ret (.nx ρ)
  | .cons s r, ρ => (exGo fu F s ρ).bind fun o => match o with
    | .nx ρ1 => exGo fu F r ρ1
    | o => .ret o
  | .frz i, ρ => (frzD ρ i).bind fun ρ1 => .ret (.nx ρ1)
  | .asg tg e, ρ => (ev F e ρ).bind fun d => (tgt tg d ρ).bind fun ρ1 => .ret (.nx ρ1)
  | .fput i _ e, ρ => (ev F e ρ).bind fun d => (intD d).bind fun _ => (gs ρ i).bind fun x => (cellsOf x).bind fun _ => .ret (.nx ρ)
  | .asgO i e, ρ => (ev F e ρ).bind fun d => match d with
    | .list ds => need (isFr e) (.ret (.nx (put ρ i (.own (.list ds)))))
    | _ => .bad
  | .par i oi a j oj b, ρ => (ev F a ρ).bind fun x => (ev F b ρ).bind fun y => need (decide (i ≠ j)) ((mkV oi a x).bind fun v => (mkV oj b y).bind fun w => .ret (.nx (put (put ρ i v) j w)))
  | .bor i j c e, ρ => (tst c (ev F c) ρ).bind fun k => if k = true then (ev F e ρ).bind fun d => .ret (.nx (put ρ i (.dat d))) else (go ρ j).bind fun ds => need (noOwn ρ i) (.ret (.nx (put ρ i (.bor (.list ds)))))
  | .app i e, ρ => (go ρ i).bind fun ds => (ev F e ρ).bind fun d => need (decide (ds.length < sizeLine)) (.ret (.nx (chg ρ i (ds ++ [d]))))
  | .ext i e, ρ => (go ρ i).bind fun ds => (rdv e (ev F e) ρ).bind fun d => (lstD d).bind fun es => need (decide (ds.length + es.length ≤ sizeLine)) (.ret (.nx (chg ρ i (ds ++ es))))
  | .rmv i e, ρ => (go ρ i).bind fun ds => (ev F e ρ).bind fun d => match intsOf ds, d, rmvD d ds with
    | some _, .int _, some es => .ret (.nx (chg ρ i es))
    | _, _, _ => .bad
  | .popS i e, ρ => (go ρ i).bind fun ds => (ev F e ρ).bind fun d => (intD d).bind fun k => match popD ds k with
    | some (_, es) => .ret (.nx (chg ρ i es))
    | none => .bad
  | .appPop i j e, ρ => (go ρ i).bind fun cs => (go ρ j).bind fun ds => (ev F e ρ).bind fun d => (intD d).bind fun k => match popD ds k with
    | some (z, es) => need (decide (cs.length < sizeLine ∧ i ≠ j)) (.ret (.nx (chg (chg ρ j es) i (cs ++ [z]))))
    | none => .bad
  | .asgPop tg j, ρ => (go ρ j).bind fun ds => match popD ds (-1) with
    | some (d, es) => (tgt tg d (chg ρ j es)).bind fun ρ1 => .ret (.nx ρ1)
    | none => .bad
  | .augI i e, ρ => (gs ρ i).bind fun x => (ev F e ρ).bind fun y => (intD x).bind fun a => (intD y).bind fun b => .ret (.nx (put ρ i (.dat (.int (a + b)))))
  | .dnew i own tg it key, ρ => (dcF (itmv it (ev F it)) (tgt tg) (ev F key) own ρ).bind fun ks => .ret (.nx (put ρ i (.own (dctD ks))))
  | .dupd i own tg it key, ρ => (god ρ i).bind fun cs => (dcF (itmv it (ev F it)) (tgt tg) (ev F key) own ρ).bind fun ks => need (decide (cs ≠ [] ∧ cs.length + ks.length ≤ sizeLine)) (.ret (.nx (chgD ρ i (addD cs ks))))
  | .iff c a b, ρ => (tst c (ev F c) ρ).bind fun k => if k = true then exGo fu F a ρ else exGo fu F b ρ
  | .forS tg it b, ρ => (ev F it ρ).bind fun d => (itmD d).bind fun ds => forGo (tgt tg) (exGo fu F b) ds ρ
  | .whil c b, ρ => whGo (tst c (ev F c)) (exGo fu F b) fu ρ
  | .ret e, ρ => (rdv e (ev F e) ρ).bind fun d => .ret (.rt d)
  | .retN, _ => .ret (.rt .none)
  | .expr e, ρ => (ev F e ρ).bind fun _ => .ret (.nx ρ)
  | .cont, ρ => .ret (.ct ρ)
  | .brk, ρ => .ret (.bk ρ)
  | .pas, ρ => .ret (.nx ρ)
  | _, _ => .bad
/-- the slots at a def's entry -/
def ev0 (n : Nat) (ds : List D) : Ev := ds.map (fun d => some (.dat d)) ++ List.replicate (n - ds.length) none
/-- a def's meaning -/
def runD (fu n : Nat) (F : Nat → List D → M D) (b : Sx) (ds : List D) : M D := (exGo fu F b (ev0 n ds)).bind fun o => match o with
  | .rt d => .ret d
  | .nx _ => .ret .none
  | _ => .bad
end Pf
/-! PfC: how data stand in the heap. H : all that is tracked; H0 : the part that never changes. -/
namespace Pf
open PySem PySem.Spec PyProof.Rows L2

structure Gc where
  K : PySem.W.Frag
  fn : Nat → Option Addr
  fk : Str × Str × Str × Str
  ns : List Int
  P : Program
  w : World

mutual
inductive Rp (g : Gc) (fa : Option Addr) (H : Hp) : V → D → Prop
  | non : Rp g fa H .non .none
  | bl (b : Bool) : Rp g fa H (.bl b) (.bool b)
  | int (i : Int) : Rp g fa H (.int i) (.int i)
  | str (x : Str) : Rp g fa H (.str x) (.str x)
  | lst {a : Addr} {xs : List V} {ds : List D} : H a = some (.lst xs) → RpAll g fa H xs ds → Rp g fa H (.ref a) (.list ds)
  | tup {a : Addr} {xs : List V} {ds : List D} : SqT g.K H a xs → RpAll g fa H xs ds → Rp g fa H (.ref a) (.tuple ds)
  | dct {a : Addr} {xs : List V} {ds : List D} {ep : Nat} : H a = some (Pm.MixO g.P g.w a xs ds ep) → RpAll g fa H xs ds → Pm.good ds → Rp g fa H (.ref a) (dctD ds)
  | feed {a : Addr} : fa = some a → Rp g fa H (.ref a) (feedD g.ns)
  | fn {a : Addr} {k : Nat} : g.fn k = some a → Rp g fa H (.ref a) (fnD k)
inductive RpAll (g : Gc) (fa : Option Addr) (H : Hp) : List V → List D → Prop
  | nil : RpAll g fa H [] []
  | cons {v : V} {vs : List V} {d : D} {ds : List D} : Rp g fa H v d → RpAll g fa H vs ds → RpAll g fa H (v :: vs) (d :: ds)
end

theorem sqL_mono {K : PySem.W.Frag} {H H' : Hp} {a : Addr} {xs : List V} (s : ∀ a o, H a = some o → H' a = some o) (h : SqL K H a xs) : SqL K H' a xs := by
  rcases h with (h | ⟨o, h⟩) | h
  · exact .inl (.inl (s _ _ h))
  · exact .inl (.inr ⟨o, s _ _ h⟩)
  · exact .inr h
theorem sqT_mono {K : PySem.W.Frag} {H H' : Hp} {a : Addr} {xs : List V} (s : ∀ a o, H a = some o → H' a = some o) (h : SqT K H a xs) : SqT K H' a xs := by
  rcases h with (h | ⟨o, h⟩) | h
  · exact .inl (.inl (s _ _ h))
  · exact .inl (.inr ⟨o, s _ _ h⟩)
  · exact .inr h

section
variable {g : Gc} {fa : Option Addr} {H H' : Hp}
mutual
theorem Rp.mono (s : ∀ a o, H a = some o → H' a = some o) : ∀ {v : V} {d : D}, Rp g fa H v d → Rp g fa H' v d
  | _, _, .non => .non
  | _, _, .bl b => .bl b
  | _, _, .int i => .int i
  | _, _, .str x => .str x
  | _, _, .lst h a => .lst (s _ _ h) (RpAll.mono s a)
  | _, _, .tup h a => .tup (sqT_mono s h) (RpAll.mono s a)
  | _, _, .dct h a q => .dct (s _ _ h) (RpAll.mono s a) q
  | _, _, .feed h => .feed h
  | _, _, .fn h => .fn h
theorem RpAll.mono (s : ∀ a o, H a = some o → H' a = some o) : ∀ {v : List V} {d : List D}, RpAll g fa H v d → RpAll g fa H' v d
  | _, _, .nil => .nil
  | _, _, .cons h t => .cons (Rp.mono s h) (RpAll.mono s t)
end
theorem RpAll.len : ∀ {vs : List V} {ds : List D}, RpAll g fa H vs ds → vs.length = ds.length
  | _, _, .nil => rfl
  | _, _, .cons _ t => by rw [List.length_cons, List.length_cons, RpAll.len t]
theorem RpAll.get : ∀ {vs : List V} {ds : List D} {i : Nat} {v : V}, RpAll g fa H vs ds → vs[i]? = some v → ∃ d, ds[i]? = some d ∧ Rp g fa H v d
  | _, _, i, v, .nil, e => by simp at e
  | _, _, 0, v, .cons h t, e => by
    simp at e; subst e; exact ⟨_, rfl, h⟩
  | _, _, i + 1, v, .cons h t, e => by
    obtain ⟨d, h1, h2⟩ := RpAll.get (i := i) t (by simpa using e)
    exact ⟨d, by simpa using h1, h2⟩
theorem RpAll.get' : ∀ {vs : List V} {ds : List D} {i : Nat} {d : D}, RpAll g fa H vs ds → ds[i]? = some d → ∃ v, vs[i]? = some v ∧ Rp g fa H v d
  | _, _, i, v, .nil, e => by simp at e
  | _, _, 0, v, .cons h t, e => by
    simp at e; subst e; exact ⟨_, rfl, h⟩
  | _, _, i + 1, v, .cons h t, e => by
    obtain ⟨d, h1, h2⟩ := RpAll.get' (i := i) t (by simpa using e)
    exact ⟨d, by simpa using h1, h2⟩
theorem RpAll.append : ∀ {vs ws : List V} {ds es : List D}, RpAll g fa H vs ds → RpAll g fa H ws es → RpAll g fa H (vs ++ ws) (ds ++ es)
  | _, _, _, _, .nil, h => h
  | _, _, _, _, .cons h t, s => .cons h (RpAll.append t s)
theorem RpAll.take : ∀ {vs : List V} {ds : List D} (n : Nat), RpAll g fa H vs ds → RpAll g fa H (vs.take n) (ds.take n)
  | _, _, 0, _ => .nil
  | _, _, n + 1, .nil => .nil
  | _, _, n + 1, .cons h t => .cons h (RpAll.take n t)
theorem RpAll.drop : ∀ {vs : List V} {ds : List D} (n : Nat), RpAll g fa H vs ds → RpAll g fa H (vs.drop n) (ds.drop n)
  | _, _, 0, h => h
  | _, _, n + 1, .nil => .nil
  | _, _, n + 1, .cons h t => RpAll.drop n t
theorem RpAll.reverse : ∀ {vs : List V} {ds : List D}, RpAll g fa H vs ds → RpAll g fa H vs.reverse ds.reverse
  | _, _, .nil => .nil
  | _, _, .cons h t => by
    rw [List.reverse_cons, List.reverse_cons]
    exact (RpAll.reverse t).append (.cons h .nil)
theorem RpAll.erase : ∀ {vs : List V} {ds : List D} (n : Nat), RpAll g fa H vs ds → RpAll g fa H (vs.eraseIdx n) (ds.eraseIdx n)
  | _, _, _, .nil => .nil
  | _, _, 0, .cons h t => t
  | _, _, n + 1, .cons h t => .cons h (RpAll.erase n t)
theorem RpAll.one {v : V} {d : D} (h : Rp g fa H v d) : RpAll g fa H [v] [d] := .cons h .nil
end

/-! ### data without dicts are the kit's data -/
mutual
theorem Rp.dp {g : Gc} {fa : Option Addr} {H : Hp} : ∀ (d : D) {v : V}, d.canLay0 = true → Rp g fa H v d → Dp g.K H v d
  | .none, _, _, .non => .non
  | .bool _, _, _, .bl b => .bl b
  | .int _, _, _, .int i => .int i
  | .str _, _, _, .str x => .str x
  | .list ds, _, hl, .lst h a => .lst (.inl (.inl h)) (RpAll.dp ds (by simpa [PyData.canLay0] using hl) a)
  | .tuple ds, _, hl, .tup h a => .tup h (RpAll.dp ds (by simpa [PyData.canLay0] using hl) a)
  | .dict kvs, _, hl, h => by simp [PyData.canLay0] at hl
theorem RpAll.dp {g : Gc} {fa : Option Addr} {H : Hp} : ∀ (ds : List D) {vs : List V}, PyData.canLayAll0 ds = true → RpAll g fa H vs ds → DpAll g.K H vs ds
  | [], _, _, .nil => .nil
  | d :: ds, _, hl, .cons h t => by
    simp only [PyData.canLayAll0, Bool.and_eq_true] at hl
    exact .cons (Rp.dp d hl.1 h) (RpAll.dp ds hl.2 t)
end
theorem Rp.dps {g : Gc} {fa : Option Addr} {H : Hp} {d : D} {v : V} (hs : SeqAt.shaped d = true) (h : Rp g fa H v d) : Dp g.K H v d :=
  Rp.dp d (by unfold SeqAt.shaped at hs; rw [Bool.and_eq_true] at hs; exact hs.1) h

/-! ### the feed, the frame of what never changes -/
def Feed (g : Gc) (H0 H : Hp) (a : Addr) : Prop :=
  ∃ (ca : Addr) (ns : Unit) (x y z : Int), H a = some (.dK [(.inr g.fk.1, .ref ca), (.inr g.fk.2.1, .int x), (.inr g.fk.2.2.1, .int y), (.inr g.fk.2.2.2, .int z)]) ∧ H0 ca = some (.lst (g.ns.map V.int))
structure Bs (g : Gc) (fa : Option Addr) (H0 H : Hp) : Prop where
  sub : ∀ a o, H0 a = some o → H a = some o
  fd : ∀ a, fa = some a → Feed g H0 H a ∧ H0 a = none
structure Ext (g : Gc) (fa : Option Addr) (H0 H H0' H' : Hp) : Prop where
  bs : Bs g fa H0' H'
  lo : ∀ a o, H0 a = some o → H0' a = some o
  hi : ∀ a o, fa ≠ some a → H a = some o → H' a = some o
  nw : ∀ a, H0 a = none → H0' a = none ∨ H a = none
section
variable {g : Gc} {fa : Option Addr} {H0 H H1 H2 H01 H02 : Hp}
theorem Ext.refl (b : Bs g fa H0 H) : Ext g fa H0 H H0 H := ⟨b, fun _ _ h => h, fun _ _ _ h => h, fun _ h => .inl h⟩
theorem Ext.trans (x : Ext g fa H0 H H01 H1) (y : Ext g fa H01 H1 H02 H2) : Ext g fa H0 H H02 H2 where
  bs := y.bs
  lo := fun a o h => y.lo a o (x.lo a o h)
  hi := fun a o hf h => y.hi a o hf (x.hi a o hf h)
  nw := fun a h => by
    rcases x.nw a h with q | q
    · rcases y.nw a q with r | r
      · exact .inl r
      · by_cases hf : fa = some a
        · exact .inl (y.bs.fd a hf).2
        · refine .inr ?_
          cases e : H a with
          | none => rfl
          | some o => rw [x.hi a o hf e] at r; cases r
    · exact .inr q
/-- a new thing, as data -/
theorem Bs.alloc (b : Bs g fa H0 H) {p : Addr} {o : HO} (hp : H p = none) : Ext g fa H0 H (upd H0 p o) (upd H p o) := by
  have hf : ∀ a, fa = some a → a ≠ p := fun a e z => by
    obtain ⟨⟨ca, ns, x, y, w, h, _⟩, _⟩ := b.fd a e
    subst z
    rw [hp] at h; cases h
  have h0 : H0 p = none := by
    cases e : H0 p with
    | none => rfl
    | some u => rw [b.sub p u e] at hp; cases hp
  refine ⟨⟨fun a u e => ?_, fun a e => ?_⟩, fun a u e => ?_, fun a u _ e => ?_, fun a e => ?_⟩
  · by_cases ha : a = p
    · subst ha; rw [upd_same] at e ⊢; exact e
    · rw [upd_ne ha] at e ⊢; exact b.sub a u e
  · obtain ⟨⟨ca, ns, x, y, w, h, hc⟩, hn⟩ := b.fd a e
    refine ⟨⟨ca, ns, x, y, w, ?_, ?_⟩, ?_⟩
    · rw [upd_ne (hf a e)]; exact h
    · rw [upd_ne (ne_of_none hc h0)]; exact hc
    · rw [upd_ne (hf a e)]; exact hn
  · rw [upd_ne (ne_of_none e h0)]; exact e
  · rw [upd_ne (ne_of_none e hp)]; exact e
  · by_cases ha : a = p
    · subst ha; exact .inr hp
    · rw [upd_ne ha]; exact .inl e
/-- a new thing of the def's own -/
theorem Bs.allocP (b : Bs g fa H0 H) {p : Addr} {o : HO} (hp : H p = none) : Ext g fa H0 H H0 (upd H p o) := by
  have hf : ∀ a, fa = some a → a ≠ p := fun a e z => by
    obtain ⟨⟨ca, ns, x, y, w, h, _⟩, _⟩ := b.fd a e
    subst z
    rw [hp] at h; cases h
  refine ⟨⟨fun a u e => ?_, fun a e => ?_⟩, fun a u e => e, fun a u _ e => ?_, fun a e => .inl e⟩
  · have := b.sub a u e
    rw [upd_ne (ne_of_none this hp)]; exact this
  · obtain ⟨⟨ca, ns, x, y, w, h, hc⟩, hn⟩ := b.fd a e
    exact ⟨⟨ca, ns, x, y, w, by rw [upd_ne (hf a e)]; exact h, hc⟩, hn⟩
  · rw [upd_ne (ne_of_none e hp)]; exact e
/-- an own thing becomes data -/
theorem Bs.freeze (b : Bs g fa H0 H) {p : Addr} {o : HO} (hp : H p = some o) (h0 : H0 p = none) (hf : fa ≠ some p) : Bs g fa (upd H0 p o) H := by
  refine ⟨fun a u e => ?_, fun a e => ?_⟩
  · by_cases ha : a = p
    · subst ha; rw [upd_same] at e; cases e; exact hp
    · rw [upd_ne ha] at e; exact b.sub a u e
  · obtain ⟨⟨ca, ns, x, y, w, h, hc⟩, hn⟩ := b.fd a e
    have hap : a ≠ p := fun z => hf (z ▸ e)
    exact ⟨⟨ca, ns, x, y, w, h, by rw [upd_ne (ne_of_none hc h0)]; exact hc⟩, by rw [upd_ne hap]; exact hn⟩
theorem fne_lst (b : Bs g fa H0 H) {p : Addr} {xs : List V} (hp : H p = some (.lst xs)) : fa ≠ some p := fun e => by
  obtain ⟨⟨ca, ns, x, y, w, h, _⟩, _⟩ := b.fd p e
  rw [hp] at h; cases h
theorem fne_tup (b : Bs g fa H0 H) {p : Addr} {xs : List V} (hp : H p = some (.tup xs)) : fa ≠ some p := fun e => by
  obtain ⟨⟨ca, ns, x, y, w, h, _⟩, _⟩ := b.fd p e
  rw [hp] at h; cases h
end

/-! ### slots -/
/-- what stands there: a list; a dict of keys -/
def OwnO (g : Gc) (a : Addr) (o : HO) (xs : List V) (ds : List D) (d : D) : Prop := (d = .list ds ∧ o = .lst xs) ∨ (d = dctD ds ∧ Pm.good ds ∧ ∃ ep, o = Pm.MixO g.P g.w a xs ds ep)
theorem OwnO.rp {g : Gc} {fa : Option Addr} {H : Hp} {a : Addr} {o : HO} {xs : List V} {ds : List D} {d : D} (q : OwnO g a o xs ds d) (h : H a = some o) (r : RpAll g fa H xs ds) : Rp g fa H (.ref a) d := by
  rcases q with ⟨rfl, rfl⟩ | ⟨rfl, gd, ep, rfl⟩
  · exact .lst h r
  · exact .dct h r gd
theorem fne_own {g : Gc} {fa : Option Addr} {H0 H : Hp} (b : Bs g fa H0 H) {p : Addr} {o : HO} {xs : List V} {ds : List D} {d : D} (q : OwnO g p o xs ds d) (hp : H p = some o) : fa ≠ some p := fun e => by
  obtain ⟨⟨ca, ns, x, y, w, h, _⟩, _⟩ := b.fd p e
  rw [hp] at h
  rcases q with ⟨_, rfl⟩ | ⟨_, _, ep, rfl⟩ <;> cases h
/-- an own list at a -/
def OwnAt (g : Gc) (fa : Option Addr) (H0 H : Hp) (a : Addr) (d : D) : Prop :=
  H0 a = none ∧ ∃ o xs ds, OwnO g a o xs ds d ∧ H a = some o ∧ RpAll g fa H0 xs ds
def SlotOk (g : Gc) (fa : Option Addr) (H0 H : Hp) (σ : L2.St) (ρ : Ev) (v : V) : SV → Prop
  | .dat d => Rp g fa H0 v d
  | .own d => ∃ a, v = .ref a ∧ OwnAt g fa H0 H a d
  | .bor d => Rp g fa H0 v d ∨ ∃ (j : Nat), σ[j]? = some (some v) ∧ ρ[j]? = some (some (.own d))
structure RepS (g : Gc) (fa : Option Addr) (H0 H : Hp) (σ : L2.St) (ρ : Ev) : Prop where
  bs : Bs g fa H0 H
  len : σ.length = ρ.length
  slot : ∀ (i : Nat) sv, ρ[i]? = some (some sv) → ∃ v, σ[i]? = some (some v) ∧ SlotOk g fa H0 H σ ρ v sv
  own : ∀ (i j : Nat) d e v, ρ[i]? = some (some (.own d)) → ρ[j]? = some (some (.own e)) → σ[i]? = some (some v) → σ[j]? = some (some v) → i = j
section
variable {g : Gc} {fa : Option Addr} {H0 H H0' H' : Hp} {σ : L2.St} {ρ : Ev}
theorem OwnAt.ext {a : Addr} {d : D} (o : OwnAt g fa H0 H a d) (b : Bs g fa H0 H) (x : Ext g fa H0 H H0' H') : OwnAt g fa H0' H' a d := by
  obtain ⟨h0, o, xs, ds, q, h, r⟩ := o
  refine ⟨?_, o, xs, ds, q, x.hi a _ (fne_own b q h) h, r.mono x.lo⟩
  rcases x.nw a h0 with q | q
  · exact q
  · rw [h] at q; cases q
theorem RepS.ext (R : RepS g fa H0 H σ ρ) (x : Ext g fa H0 H H0' H') : RepS g fa H0' H' σ ρ := by
  refine ⟨x.bs, R.len, fun i sv e => ?_, R.own⟩
  obtain ⟨v, hv, s⟩ := R.slot i sv e
  refine ⟨v, hv, ?_⟩
  cases sv with
  | dat d => exact Rp.mono x.lo s
  | own d =>
    obtain ⟨a, rfl, o⟩ := s
    exact ⟨a, rfl, o.ext R.bs x⟩
  | bor d =>
    rcases s with s | s
    · exact .inl (Rp.mono x.lo s)
    · exact .inr s
/-- fewer slots known -/
theorem RepS.weak {ρ' : Ev} (R : RepS g fa H0 H σ ρ) (hl : ρ'.length = ρ.length) (w : ∀ (i : Nat) sv, ρ'[i]? = some (some sv) → ρ[i]? = some (some sv))
    (hb : ∀ (i : Nat) (d : D), ρ'[i]? = some (some (SV.bor d)) → ∀ j : Nat, ρ[j]? = some (some (SV.own d)) → ρ'[j]? = some (some (SV.own d))) : RepS g fa H0 H σ ρ' := by
  refine ⟨R.bs, R.len.trans hl.symm, fun i sv e => ?_, fun i j d e v h1 h2 => R.own i j d e v (w _ _ h1) (w _ _ h2)⟩
  obtain ⟨v, hv, s⟩ := R.slot i sv (w i sv e)
  refine ⟨v, hv, ?_⟩
  cases sv with
  | dat d => exact s
  | own d => exact s
  | bor d =>
    rcases s with s | ⟨j, h1, h2⟩
    · exact .inl s
    · exact .inr ⟨j, h1, hb i d e j h2⟩

/-- what may be looked at: data, or an own list -/
def Rv (g : Gc) (fa : Option Addr) (H0 H : Hp) (v : V) (d : D) : Prop := Rp g fa H0 v d ∨ ∃ a, v = .ref a ∧ OwnAt g fa H0 H a d
theorem Rv.ext {v : V} {d : D} (r : Rv g fa H0 H v d) (b : Bs g fa H0 H) (x : Ext g fa H0 H H0' H') : Rv g fa H0' H' v d := by
  rcases r with r | ⟨a, rfl, o⟩
  · exact .inl (Rp.mono x.lo r)
  · exact .inr ⟨a, rfl, o.ext b x⟩
/-- as it is read in the whole heap -/
theorem Rv.rp {v : V} {d : D} (r : Rv g fa H0 H v d) (b : Bs g fa H0 H) : Rp g fa H v d := by
  rcases r with r | ⟨a, rfl, _, o, xs, ds, k, h, q⟩
  · exact Rp.mono b.sub r
  · exact k.rp h (q.mono b.sub)
/-- a list's items -/
theorem Rv.list {v : V} {ds : List D} (r : Rv g fa H0 H v (.list ds)) (b : Bs g fa H0 H) : ∃ a xs, v = .ref a ∧ H a = some (.lst xs) ∧ RpAll g fa H0 xs ds := by
  rcases r with r | ⟨a, rfl, _, o, xs, es, k, h, q⟩
  · cases r with
    | lst h q => exact ⟨_, _, rfl, b.sub _ _ h, q⟩
  · rcases k with ⟨e, rfl⟩ | ⟨e, _⟩
    · cases e
      exact ⟨a, xs, rfl, h, q⟩
    · cases e
theorem Rv.tuple {v : V} {ds : List D} (r : Rv g fa H0 H v (.tuple ds)) (b : Bs g fa H0 H) : ∃ a xs, v = .ref a ∧ SqT g.K H a xs ∧ RpAll g fa H0 xs ds := by
  rcases r with r | ⟨a, rfl, _, o, xs, es, (⟨e, _⟩ | ⟨e, _⟩), h, q⟩
  · cases r with
    | tup h q => exact ⟨_, _, rfl, sqT_mono b.sub h, q⟩
  · cases e
  · cases e
theorem Rv.int {v : V} {i : Int} (r : Rv g fa H0 H v (.int i)) : v = .int i := by
  rcases r with r | ⟨a, rfl, _, o, xs, es, (⟨e, _⟩ | ⟨e, _⟩), h, q⟩
  · cases r; rfl
  · cases e
  · cases e
theorem Rv.str {v : V} {i : Str} (r : Rv g fa H0 H v (.str i)) : v = .str i := by
  rcases r with r | ⟨a, rfl, _, o, xs, es, (⟨e, _⟩ | ⟨e, _⟩), h, q⟩
  · cases r; rfl
  · cases e
  · cases e
theorem Rv.bl {v : V} {i : Bool} (r : Rv g fa H0 H v (.bool i)) : v = .bl i := by
  rcases r with r | ⟨a, rfl, _, o, xs, es, (⟨e, _⟩ | ⟨e, _⟩), h, q⟩
  · cases r; rfl
  · cases e
  · cases e
theorem Rv.non {v : V} (r : Rv g fa H0 H v .none) : v = .non := by
  rcases r with r | ⟨a, rfl, _, o, xs, es, (⟨e, _⟩ | ⟨e, _⟩), h, q⟩
  · cases r; rfl
  · cases e
  · cases e
/-- three ways a value may come: as data; a list as a fresh one (not there at Hs); to be looked at -/
inductive Md where
  | p | f | v
def Rel (g : Gc) (fa : Option Addr) (m : Md) (Hs H0 H : Hp) (v : V) (d : D) : Prop := match m, d with
  | .p, d => Rp g fa H0 v d
  | .v, d => Rv g fa H0 H v d
  | .f, .list ds => ∃ a, v = .ref a ∧ Hs a = none ∧ OwnAt g fa H0 H a (.list ds)
  | .f, d => Rp g fa H0 v d
theorem Ext.free (x : Ext g fa H0 H H0' H') (b : Bs g fa H0 H) {p : Addr} (hp : H' p = none) : H p = none := by
  cases e : H p with
  | none => rfl
  | some o =>
    by_cases hf : fa = some p
    · obtain ⟨⟨_, _, _, _, _, h, _⟩, _⟩ := x.bs.fd p hf
      rw [hp] at h; cases h
    · rw [x.hi p o hf e] at hp; cases hp
/-- freezing a fresh list -/
theorem Ext.freezeO (x : Ext g fa H0 H H0' H') {a : Addr} {o : HO} (hs : H a = none) (h0 : H0' a = none) (h : H' a = some o) (hf : fa ≠ some a) : Ext g fa H0 H (upd H0' a o) H' := by
  refine ⟨x.bs.freeze h h0 hf, fun b o e => ?_, x.hi, fun b e => ?_⟩
  · have := x.lo b o e
    rw [upd_ne (ne_of_none this h0)]; exact this
  · by_cases hb : b = a
    · subst hb; exact .inr hs
    · rw [upd_ne hb]; exact x.nw b e
theorem Ext.freeze (x : Ext g fa H0 H H0' H') {a : Addr} {xs : List V} (hs : H a = none) (h0 : H0' a = none) (h : H' a = some (.lst xs)) : Ext g fa H0 H (upd H0' a (.lst xs)) H' := x.freezeO hs h0 h (fne_lst x.bs h)
/-- any way of coming, as data -/
theorem Rel.data {Hs : Hp} {v : V} {d : D} (x : Ext g fa H0 H H0' H') (r : Rel g fa .f H H0' H' v d) : ∃ H0'', Ext g fa H0 H H0'' H' ∧ (∀ a o, H0' a = some o → H0'' a = some o) ∧ Rp g fa H0'' v d := by
  cases d with
  | list ds =>
    obtain ⟨a, rfl, hs, h0, o, xs, es, (⟨e, rfl⟩ | ⟨e, _⟩), h, q⟩ := r
    · cases e
      have lo : ∀ b o, H0' b = some o → (upd H0' a (.lst xs)) b = some o := fun b o e => by rw [upd_ne (ne_of_none e h0)]; exact e
      exact ⟨_, x.freeze hs h0 h, lo, .lst upd_same (q.mono lo)⟩
    · cases e
  | none => exact ⟨_, x, fun _ _ h => h, r⟩
  | bool b => exact ⟨_, x, fun _ _ h => h, r⟩
  | int b => exact ⟨_, x, fun _ _ h => h, r⟩
  | str b => exact ⟨_, x, fun _ _ h => h, r⟩
  | tuple b => exact ⟨_, x, fun _ _ h => h, r⟩
  | dict b => exact ⟨_, x, fun _ _ h => h, r⟩
theorem Rel.p {Hs : Hp} {m : Md} {v : V} {d : D} (hm : m ≠ .f ∨ ∀ ds, d ≠ .list ds) (r : Rp g fa H0 v d) : Rel g fa m Hs H0 H v d := by
  cases m with
  | p => exact r
  | v => exact .inl r
  | f =>
    rcases hm with h | h
    · exact absurd rfl h
    · cases d with
      | list ds => exact absurd rfl (h ds)
      | none => exact r
      | bool b => exact r
      | int b => exact r
      | str b => exact r
      | tuple b => exact r
      | dict b => exact r
end
end Pf
/-! PfD: operators by data. -/
namespace Pf
open PySem PySem.Spec PyProof.Rows L2

def toOp : Op2 → Operator
  | .add => .Add
  | .sub => .Sub
  | .mul => .Mult
  | .mod => .Mod
  | .fdiv => .FloorDiv
  | .pow => .Pow
def toCm : Cm → CmpOp
  | .lt => .Lt
  | .le => .LtE
  | .gt => .Gt
  | .ge => .GtE
  | .eq => .Eq
  | .ne => .NotEq
  | .isin => .In
  | .notin => .NotIn

abbrev R2or (r s : R2) : R2 := fun x y H Q => r x y H Q ∨ s x y H Q
def rBI (f : Int → Int → Int) : R2 := fun x y H Q => ∃ k i, x = .bl k ∧ y = .int i ∧ Q (.int (f (if k = true then 1 else 0) i)) H
def rIB (f : Int → Int → Int) : R2 := fun x y H Q => ∃ i k, x = .int i ∧ y = .bl k ∧ Q (.int (f i (if k = true then 1 else 0))) H
theorem op_addBI {X : Cx} : OpR X (binaryOp .Add) (rBI (· + ·)) := by
  intro pins s σ H x y v u Q I rx ry h
  obtain ⟨k, i, rfl, rfl, q⟩ := h
  cases rx
  obtain ⟨t, rfl⟩ := ry
  exact PySem.IntBool.add_bool_int ⟨.int _, H, I.tok _, ⟨_, rfl⟩, q⟩
theorem op_subBI {X : Cx} : OpR X (binaryOp .Sub) (rBI (· - ·)) := by
  intro pins s σ H x y v u Q I rx ry h
  obtain ⟨k, i, rfl, rfl, q⟩ := h
  cases rx
  obtain ⟨t, rfl⟩ := ry
  exact PySem.IntBool.sub_bool_int ⟨.int _, H, I.tok _, ⟨_, rfl⟩, q⟩
theorem op_subIB {X : Cx} : OpR X (binaryOp .Sub) (rIB (· - ·)) := by
  intro pins s σ H x y v u Q I rx ry h
  obtain ⟨i, k, rfl, rfl, q⟩ := h
  obtain ⟨t, rfl⟩ := rx
  cases ry
  exact PySem.IntBool.sub_int_bool ⟨.int _, H, I.tok _, ⟨_, rfl⟩, q⟩
def rOp2 (K : PySem.W.Frag) : Op2 → R2
  | .add => R2or (rI0 fun i j => .int (i + j)) (R2or (fun x y H Q => ∃ i j, x = .str i ∧ y = .str j ∧ i.length + j.length ≤ sizeLine ∧ Q (.str (i ++ j)) H) (R2or rCat (R2or (rCatA K) (rBI (· + ·)))))
  | .sub => R2or (rI0 fun i j => .int (i - j)) (R2or (rBI (· - ·)) (rIB (· - ·)))
  | .mul => R2or (rI CMul fun i j => .int (i * j)) (R2or rRep (rRepT K))
  | .mod => rI (fun _ j => j ≠ 0) fun i j => .int (i.fmod j)
  | .fdiv => rI CDivN fun i j => .int (i.fdiv j)
  | .pow => rI CPow fun i j => .int (i ^ j.toNat)
theorem op2_rule {X : Cx} (o : Op2) : OpR X (binaryOp (toOp o)) (rOp2 X.K o) := by
  cases o with
  | add => exact OpR.or op_add (OpR.or op_add_str (OpR.or op_cat (OpR.or op_catA op_addBI)))
  | sub => exact OpR.or op_sub (OpR.or op_subBI op_subIB)
  | mul => exact OpR.or op_mul (OpR.or op_rep op_repT)
  | mod => exact op_modN
  | fdiv => exact op_fdivN
  | pow => exact op_pow

section
variable {g : Gc} {fa : Option Addr} {H0 H : Hp} {v w : V} {d e : D} {Q : VK}
/-- what follows an operator -/
def Aft (g : Gc) (fa : Option Addr) (H0 H : Hp) (Q : VK) (r : D) : Prop := ∀ v' H0' H', Ext g fa H0 H H0' H' → Rel g fa .f H H0' H' v' r → Q v' H'
theorem Aft.at (b : Bs g fa H0 H) (h : Aft g fa H0 H Q d) (r : Rp g fa H0 v d) (hd : ∀ ds, d ≠ .list ds) : Q v H := h v H0 H (Ext.refl b) (Rel.p (.inr hd) r)
theorem Aft.newL (b : Bs g fa H0 H) {xs : List V} {ds : List D} (h : Aft g fa H0 H Q (.list ds)) (r : RpAll g fa H0 xs ds) {p : Addr} (hp : H p = none) : Q (.ref p) (upd H p (.lst xs)) := by
  have x := b.allocP (o := .lst xs) hp
  have h0 : H0 p = none := by
    cases e : H0 p with
    | none => rfl
    | some u => rw [b.sub p u e] at hp; cases hp
  exact h _ _ _ x ⟨p, rfl, hp, h0, _, xs, ds, .inl ⟨rfl, rfl⟩, upd_same, r⟩
theorem Aft.newT (b : Bs g fa H0 H) {xs : List V} {ds : List D} (h : Aft g fa H0 H Q (.tuple ds)) (r : RpAll g fa H0 xs ds) {p : Addr} (hp : H p = none) : Q (.ref p) (upd H p (.tup xs)) := by
  have x := b.alloc (o := .tup xs) hp
  exact h _ _ _ x (Rp.tup (.inl (.inl upd_same)) (r.mono x.lo))
theorem RpAll.rep {xs : List V} {ds : List D} (r : RpAll g fa H0 xs ds) : ∀ n : Nat, RpAll g fa H0 (List.replicate n xs).flatten (repD ds n)
  | 0 => .nil
  | n + 1 => by
    unfold repD
    rw [List.replicate_succ, List.replicate_succ, List.flatten_cons, List.flatten_cons]
    exact r.append (RpAll.rep r n)
theorem RpAll.nil_iff {xs : List V} {ds : List D} (r : RpAll g fa H0 xs ds) : xs = [] ↔ ds = [] := by
  cases r <;> simp
theorem Rv.data (rv : Rv g fa H0 H v d) (hd : ∀ ds, d ≠ .list ds) (hd' : ∀ ks, d ≠ .dict ks := by intro _ z; cases z) : Rp g fa H0 v d := by
  rcases rv with r | ⟨_, _, _, _, _, ds, (⟨z, _⟩ | ⟨z, _⟩), _⟩
  · exact r
  · exact absurd z (hd ds)
  · exact absurd z (hd' _)
theorem op2_ok (b : Bs g fa H0 H) (o : Op2) (rv : Rv g fa H0 H v d) (rw' : Rv g fa H0 H w e) (h : WP (op2 o d e) (Aft g fa H0 H Q)) : rOp2 g.K o v w H Q := by
  cases o with
  | add =>
    cases d <;> cases e <;> simp only [op2, wp_bad] at h
    · cases rv.bl; cases rw'.int
      exact .inr (.inr (.inr (.inr ⟨_, _, rfl, rfl, h.at b (.int _) (fun _ z => by cases z)⟩)))
    · cases rv.int; cases rw'.int
      exact .inl ⟨_, _, rfl, rfl, h.at b (.int _) (fun _ z => by cases z)⟩
    · obtain ⟨hc, h⟩ := wp_need h
      cases rv.str; cases rw'.str
      exact .inr (.inl ⟨_, _, rfl, rfl, of_decide_eq_true hc, Aft.at b h (.str _) (fun _ z => by cases z)⟩)
    · obtain ⟨hc, h⟩ := wp_need h
      obtain ⟨a, xs, rfl, h1, r1⟩ := rv.list b
      obtain ⟨a', ys, rfl, h2, r2⟩ := rw'.list b
      have hc := of_decide_eq_true hc
      refine .inr (.inr (.inl ⟨a, a', xs, ys, rfl, rfl, h1, h2, by rw [r1.len, r2.len]; exact hc, fun p hp => ?_⟩))
      exact Aft.newL b h (r1.append r2) hp
    · obtain ⟨hc, h⟩ := wp_need h
      obtain ⟨a, xs, rfl, h1, r1⟩ := rv.tuple b
      obtain ⟨a', ys, rfl, h2, r2⟩ := rw'.tuple b
      have hc := of_decide_eq_true hc
      have t1 := rv.data (fun _ z => by cases z)
      have t2 := rw'.data (fun _ z => by cases z)
      refine .inr (.inr (.inr (.inl ⟨a, a', xs, ys, rfl, rfl, h1, h2, by rw [r1.len, r2.len]; exact hc, fun z => ?_, fun _ z => ?_, fun _ _ p hp => ?_⟩)))
      · have z' := r1.nil_iff.mp z
        subst z'
        exact Aft.at b h t2 (fun _ z => by cases z)
      · have z' := r2.nil_iff.mp z
        subst z'
        rw [List.append_nil] at h
        exact Aft.at b h t1 (fun _ z => by cases z)
      · exact Aft.newT b h (r1.append r2) hp
  | sub =>
    cases d <;> cases e <;> simp only [op2, wp_bad] at h
    · cases rv.bl; cases rw'.int
      exact .inr (.inl ⟨_, _, rfl, rfl, h.at b (.int _) (fun _ z => by cases z)⟩)
    · cases rv.int; cases rw'.bl
      exact .inr (.inr ⟨_, _, rfl, rfl, h.at b (.int _) (fun _ z => by cases z)⟩)
    · cases rv.int; cases rw'.int
      exact .inl ⟨_, _, rfl, rfl, h.at b (.int _) (fun _ z => by cases z)⟩
  | mul =>
    cases d <;> cases e <;> simp only [op2, wp_bad] at h
    · obtain ⟨hc, h⟩ := wp_need h
      cases rv.int; cases rw'.int
      exact .inl ⟨_, _, rfl, rfl, .inl (of_decide_eq_true hc), Aft.at b h (.int _) (fun _ z => by cases z)⟩
    · obtain ⟨hc, h⟩ := wp_need h
      obtain ⟨a, xs, rfl, h1, r1⟩ := rv.list b
      cases rw'.int
      obtain ⟨c1, c2, c3⟩ := of_decide_eq_true hc
      exact .inr (.inl ⟨a, _, xs, rfl, rfl, h1, c1, c2, by rw [r1.len]; exact c3, fun p hp => Aft.newL b h (r1.rep _) hp⟩)
    · obtain ⟨hc, h⟩ := wp_need h
      obtain ⟨a, xs, rfl, h1, r1⟩ := rv.tuple b
      cases rw'.int
      obtain ⟨c1, c2, c3, c4⟩ := of_decide_eq_true hc
      exact .inr (.inr ⟨a, _, xs, rfl, rfl, h1, fun z => c1 (by rw [r1.nil_iff.mp z]; rfl), c2, c3, by rw [r1.len]; exact c4, fun p hp => Aft.newT b h (r1.rep _) hp⟩)
  | mod =>
    cases d <;> cases e <;> simp only [op2, wp_bad] at h
    obtain ⟨hc, h⟩ := wp_need h
    cases rv.int; cases rw'.int
    exact ⟨_, _, rfl, rfl, of_decide_eq_true hc, Aft.at b h (.int _) (fun _ z => by cases z)⟩
  | fdiv =>
    cases d <;> cases e <;> simp only [op2, wp_bad] at h
    obtain ⟨hc, h⟩ := wp_need h
    cases rv.int; cases rw'.int
    have hc := of_decide_eq_true hc
    exact ⟨_, _, rfl, rfl, hc, Aft.at b h (.int _) (fun _ z => by cases z)⟩
  | pow =>
    cases d <;> cases e <;> simp only [op2, wp_bad] at h
    obtain ⟨hc, h⟩ := wp_need h
    cases rv.int; cases rw'.int
    have hc := of_decide_eq_true hc
    exact ⟨_, _, rfl, rfl, hc, Aft.at b h (.int _) (fun _ z => by cases z)⟩
end

/-! ### comparisons -/
section
variable {X : Cx}
def rInT (K : PySem.W.Frag) : R2 := fun x y H Q => ∃ d ds, Dp K H x d ∧ Dp K H y (.tuple ds) ∧ SeqAt.shaped d = true ∧ SeqAt.shaped (.tuple ds) = true ∧ Q (.bl (ds.any fun z => PyData.eqv z d)) H
def rNotInT (K : PySem.W.Frag) : R2 := fun x y H Q => ∃ d ds, Dp K H x d ∧ Dp K H y (.tuple ds) ∧ SeqAt.shaped d = true ∧ SeqAt.shaped (.tuple ds) = true ∧ Q (.bl (!ds.any fun z => PyData.eqv z d)) H
theorem op_inT (hu : X.A.units + 65 < cLine) : OpR X (compareOp .In) (rInT X.K) := by
  intro ps s σ H x y v u Q I rx ry h
  obtain ⟨d, ds, hd, he, sd, se, q⟩ := h
  obtain ⟨as, r1⟩ := Dp.reads I d x v hd rx
  obtain ⟨bs, r2⟩ := Dp.reads I (.tuple ds) y u he ry
  exact SeqAt.in_tuple_reads r2 r1 (SeqAt.canLay_of_shaped se) (SeqAt.canLay_of_shaped sd) (room_in_shaped sd hu) ⟨.bl _, H, I, rfl, q⟩
theorem op_notInT (hu : X.A.units + 65 < cLine) : OpR X (compareOp .NotIn) (rNotInT X.K) := by
  intro ps s σ H x y v u Q I rx ry h
  obtain ⟨d, ds, hd, he, sd, se, q⟩ := h
  obtain ⟨as, r1⟩ := Dp.reads I d x v hd rx
  obtain ⟨bs, r2⟩ := Dp.reads I (.tuple ds) y u he ry
  exact SeqAt.notIn_tuple_reads r2 r1 (SeqAt.canLay_of_shaped se) (SeqAt.canLay_of_shaped sd) (room_in_shaped sd hu) ⟨.bl _, H, I, rfl, q⟩
end
def rSign (f : Bool → Bool) : R2 := fun x y H Q => ∃ c z, x = .str ⟨#[c]⟩ ∧ y = .str z ∧ Q (.bl (f (decide (c ∈ z.cps.toList)))) H
/-- tuples that are alike, compared -/
def rDLt (K : PySem.W.Frag) (f : Bool → Bool) : R2 := fun x y H Q => ∃ a b, Dp K H x (.tuple a) ∧ Dp K H y (.tuple b) ∧ PySem.W.alikeAll a b = true ∧ SeqAt.shaped (.tuple a) = true ∧ Q (.bl (f (PySem.W.dataLt (.tuple a) (.tuple b)))) H
theorem dep_shaped {d : D} (h : SeqAt.shaped d = true) : d.depth ≤ 64 := by
  unfold SeqAt.shaped at h
  simp only [Bool.and_eq_true, decide_eq_true_eq] at h
  exact h.2
theorem op_ltT0 {X : Cx} (hu : X.A.units + 65 < cLine) : OpR X (compareOp .Lt) (rDLt X.K id) := by
  intro ps s σ H x y v u Q I rx ry h
  obtain ⟨a, b, hd, he, al, sd, q⟩ := h
  obtain ⟨as, r1⟩ := Dp.reads I (.tuple a) x v hd rx
  obtain ⟨bs, r2⟩ := Dp.reads I (.tuple b) y u he ry
  have hdp := dep_shaped sd
  exact PySem.W.lt_data r1 r2 (by rw [PySem.W.alike]; exact al) (fun z => by cases z) (by omega) ⟨.bl _, H, I, rfl, q⟩
theorem op_geT0 {X : Cx} (hu : X.A.units + 65 < cLine) : OpR X (compareOp .GtE) (rDLt X.K not) := by
  intro ps s σ H x y v u Q I rx ry h
  obtain ⟨a, b, hd, he, al, sd, q⟩ := h
  obtain ⟨as, r1⟩ := Dp.reads I (.tuple a) x v hd rx
  obtain ⟨bs, r2⟩ := Dp.reads I (.tuple b) y u he ry
  have hdp := dep_shaped sd
  exact PySem.W.ge_data r1 r2 (by rw [PySem.W.alike]; exact al) (fun z => by cases z) (by omega) ⟨.bl _, H, I, rfl, q⟩
def rCm (P : Program) (w : World) (K : PySem.W.Frag) : Cm → R2
  | .lt => R2or (rI0 fun i j => .bl (decide (i < j))) (R2or (fun x y H Q => ∃ i j, x = .str i ∧ y = .str j ∧ Q (.bl (decide (i.cps.toList < j.cps.toList))) H) (rDLt K id))
  | .le => rI0 fun i j => .bl (decide (i ≤ j))
  | .gt => rI0 fun i j => .bl (decide (j < i))
  | .ge => R2or (rI0 fun i j => .bl (decide (j ≤ i))) (R2or (fun x y H Q => ∃ i j, x = .str i ∧ y = .str j ∧ Q (.bl (!decide (i.cps.toList < j.cps.toList))) H) (rDLt K not))
  | .eq => R2or (rEqD K) rEq
  | .ne => R2or (rNeD K) rNe
  | .isin => R2or (rSign id) (R2or (rInD K) (R2or (rInT K) (Pm.rInM P w K)))
  | .notin => R2or (rSign not) (R2or (rNotInD K) (rNotInT K))
theorem cm_rule {X : Cx} (hu : X.A.units + 65 < cLine) (o : Cm) : OpR X (compareOp (toCm o)) (rCm X.prog X.w X.K o) := by
  cases o with
  | lt => exact OpR.or op_lt (OpR.or op_lt_str (op_ltT0 hu))
  | le => exact op_le
  | gt => exact op_gt
  | ge => exact OpR.or op_ge (OpR.or op_ge_str (op_geT0 hu))
  | eq => exact OpR.or (op_eqD (Nat.lt_of_le_of_lt (Nat.add_le_add_left (by decide) _) hu)) op_eq
  | ne => exact OpR.or (op_neD (Nat.lt_of_le_of_lt (Nat.add_le_add_left (by decide) _) hu)) op_ne
  | isin => exact OpR.or op_in_sign (OpR.or (op_inD hu) (OpR.or (op_inT hu) (Pm.or_inM (Nat.lt_of_le_of_lt (Nat.add_le_add_left (by decide) _) hu))))
  | notin => exact OpR.or op_notIn_sign (OpR.or (op_notInD hu) (op_notInT hu))
theorem str_one {a : Str} (h : a.length = 1) : a = ⟨#[a.cps.toList.headD 0]⟩ := by
  obtain ⟨⟨l⟩⟩ := a
  match l, h with
  | [c], _ => rfl
section
variable {g : Gc} {fa : Option Addr} {H0 H : Hp} {v w : V} {d e : D} {Q : VK}
theorem Rv.dps (b : Bs g fa H0 H) (r : Rv g fa H0 H v d) (h : SeqAt.shaped d = true) : Dp g.K H v d := Rp.dps h (r.rp b)
theorem Aft.bl (b : Bs g fa H0 H) {k : Bool} (h : Aft g fa H0 H Q (.bool k)) : Q (.bl k) H := h.at b (.bl _) (fun _ z => by cases z)
theorem Aft.int (b : Bs g fa H0 H) {k : Int} (h : Aft g fa H0 H Q (.int k)) : Q (.int k) H := h.at b (.int _) (fun _ z => by cases z)
theorem Aft.str (b : Bs g fa H0 H) {k : Str} (h : Aft g fa H0 H Q (.str k)) : Q (.str k) H := h.at b (.str _) (fun _ z => by cases z)
theorem cm_in (b : Bs g fa H0 H) (f : Bool → Bool) (rv : Rv g fa H0 H v d) (rw' : Rv g fa H0 H w e)
    (h : WP (match d, e with
      | .str a, .str b => need (decide (a.length = 1)) (.ret (.bool (f (decide (a.cps.toList.headD 0 ∈ b.cps.toList)))))
      | a, .list b => need (SeqAt.shaped a && SeqAt.shaped (.list b)) (.ret (.bool (f (b.any fun z => PyData.eqv z a))))
      | a, .tuple b => need (SeqAt.shaped a && SeqAt.shaped (.tuple b)) (.ret (.bool (f (b.any fun z => PyData.eqv z a))))
      | _, _ => .bad) (Aft g fa H0 H Q)) :
    (∃ c z, v = .str ⟨#[c]⟩ ∧ w = .str z ∧ Q (.bl (f (decide (c ∈ z.cps.toList)))) H) ∨
    (∃ d ds, Dp g.K H v d ∧ Dp g.K H w (.list ds) ∧ SeqAt.shaped d = true ∧ SeqAt.shaped (.list ds) = true ∧ Q (.bl (f (ds.any fun z => PyData.eqv z d))) H) ∨
    (∃ d ds, Dp g.K H v d ∧ Dp g.K H w (.tuple ds) ∧ SeqAt.shaped d = true ∧ SeqAt.shaped (.tuple ds) = true ∧ Q (.bl (f (ds.any fun z => PyData.eqv z d))) H) := by
  have L : ∀ ds, e = .list ds → WP (need (SeqAt.shaped d && SeqAt.shaped (.list ds)) (.ret (.bool (f (ds.any fun z => PyData.eqv z d))))) (Aft g fa H0 H Q) →
    (∃ d ds, Dp g.K H v d ∧ Dp g.K H w (.list ds) ∧ SeqAt.shaped d = true ∧ SeqAt.shaped (.list ds) = true ∧ Q (.bl (f (ds.any fun z => PyData.eqv z d))) H) := fun ds he hh => by
    obtain ⟨hc, hh⟩ := wp_need hh
    rw [Bool.and_eq_true] at hc
    exact ⟨_, _, rv.dps b hc.1, he ▸ rw'.dps b (he ▸ hc.2), hc.1, hc.2, Aft.bl b hh⟩
  have T : ∀ ds, e = .tuple ds → WP (need (SeqAt.shaped d && SeqAt.shaped (.tuple ds)) (.ret (.bool (f (ds.any fun z => PyData.eqv z d))))) (Aft g fa H0 H Q) →
    (∃ d ds, Dp g.K H v d ∧ Dp g.K H w (.tuple ds) ∧ SeqAt.shaped d = true ∧ SeqAt.shaped (.tuple ds) = true ∧ Q (.bl (f (ds.any fun z => PyData.eqv z d))) H) := fun ds he hh => by
    obtain ⟨hc, hh⟩ := wp_need hh
    rw [Bool.and_eq_true] at hc
    exact ⟨_, _, rv.dps b hc.1, he ▸ rw'.dps b (he ▸ hc.2), hc.1, hc.2, Aft.bl b hh⟩
  cases e with
  | list ds => exact .inr (.inl (L ds rfl (by cases d <;> exact h)))
  | tuple ds => exact .inr (.inr (T ds rfl (by cases d <;> exact h)))
  | str z =>
    cases d with
    | str a =>
      obtain ⟨hc, h⟩ := wp_need h
      cases rw'.str
      have e1 := rv.str
      rw [str_one (of_decide_eq_true hc)] at e1
      exact .inl ⟨_, _, e1, rfl, Aft.bl b h⟩
    | _ => exact h.elim
  | _ => cases d <;> exact h.elim
theorem Rp.dctI {H : Hp} {v : V} {ds : List D} (r : Rp g fa H v (dctD ds)) : ∃ a xs ep, v = .ref a ∧ H a = some (Pm.MixO g.P g.w a xs ds ep) ∧ RpAll g fa H xs ds ∧ Pm.good ds := by
  generalize hd : dctD ds = d at r
  cases r with
  | dct h ra gd =>
    rename_i a xs es ep
    have e : es = ds := by
      unfold dctD at hd
      injection hd with hd
      have := congrArg (List.map (·.1)) hd
      rw [dctD_k, dctD_k] at this
      exact this.symm
    subst e
    exact ⟨_, _, _, rfl, h, ra, gd⟩
  | feed h =>
    unfold dctD feedD at hd
    injection hd with hd
    cases ds with
    | nil => cases hd
    | cons x r => simp at hd
  | fn h =>
    unfold dctD fnD at hd
    injection hd with hd
    cases ds with
    | nil => cases hd
    | cons x r => simp at hd
  | _ => cases hd
theorem canLay_all {ds : List D} (h : Pm.good ds) : PyData.canLayAll0 ds = true := by
  have k := fun d hd => (h.1 d hd).2
  clear h
  induction ds with
  | nil => rfl
  | cons x r ih =>
    simp only [PyData.canLayAll0, Bool.and_eq_true]
    exact ⟨k x List.mem_cons_self, ih fun d hd => k d (List.mem_cons_of_mem _ hd)⟩
theorem eqv_str (x y : Str) : PyData.eqv (.str x) (.str y) = (x == y) := by simp only [PyData.eqv]
theorem cm_ok (b : Bs g fa H0 H) (o : Cm) (rv : Rv g fa H0 H v d) (rw' : Rv g fa H0 H w e) (h : WP (cmp2 o d e) (Aft g fa H0 H Q)) : rCm g.P g.w g.K o v w H Q := by
  cases o with
  | lt =>
    cases d <;> cases e <;> simp only [cmp2, wp_bad] at h
    · cases rv.int; cases rw'.int
      exact .inl ⟨_, _, rfl, rfl, Aft.bl b h⟩
    · cases rv.str; cases rw'.str
      exact .inr (.inl ⟨_, _, rfl, rfl, Aft.bl b h⟩)
    · obtain ⟨hc, h⟩ := wp_need h
      simp only [Bool.and_eq_true] at hc
      exact .inr (.inr ⟨_, _, rv.dps b hc.1.2, rw'.dps b hc.2, hc.1.1, hc.1.2, Aft.bl b h⟩)
  | le =>
    cases d <;> cases e <;> simp only [cmp2, wp_bad] at h
    cases rv.int; cases rw'.int
    exact ⟨_, _, rfl, rfl, Aft.bl b h⟩
  | gt =>
    cases d <;> cases e <;> simp only [cmp2, wp_bad] at h
    cases rv.int; cases rw'.int
    exact ⟨_, _, rfl, rfl, Aft.bl b h⟩
  | ge =>
    cases d <;> cases e <;> simp only [cmp2, wp_bad] at h
    · cases rv.int; cases rw'.int
      exact .inl ⟨_, _, rfl, rfl, Aft.bl b h⟩
    · cases rv.str; cases rw'.str
      exact .inr (.inl ⟨_, _, rfl, rfl, Aft.bl b h⟩)
    · obtain ⟨hc, h⟩ := wp_need h
      simp only [Bool.and_eq_true] at hc
      exact .inr (.inr ⟨_, _, rv.dps b hc.1.2, rw'.dps b hc.2, hc.1.1, hc.1.2, Aft.bl b h⟩)
  | eq =>
    have h : WP (need (eqOk d e) (.ret (.bool (PyData.eqv d e)))) (Aft g fa H0 H Q) := by cases d <;> cases e <;> exact h
    obtain ⟨hc, h⟩ := wp_need h
    unfold eqOk at hc
    split at hc
    · cases rv.str; cases rw'.str
      refine .inr ⟨rfl, ?_⟩
      rw [dec_str]
      rw [eqv_str] at h
      exact Aft.bl b h
    · rw [Bool.and_eq_true] at hc
      exact .inl ⟨d, e, rv.dps b hc.1, rw'.dps b hc.2, hc.1, hc.2, Aft.bl b h⟩
  | ne =>
    have h : WP (need (eqOk d e) (.ret (.bool (!PyData.eqv d e)))) (Aft g fa H0 H Q) := by cases d <;> cases e <;> exact h
    obtain ⟨hc, h⟩ := wp_need h
    unfold eqOk at hc
    split at hc
    · cases rv.str; cases rw'.str
      refine .inr ⟨rfl, ?_⟩
      rw [dec_str]
      rw [eqv_str] at h
      exact Aft.bl b h
    · rw [Bool.and_eq_true] at hc
      exact .inl ⟨d, e, rv.dps b hc.1, rw'.dps b hc.2, hc.1, hc.2, Aft.bl b h⟩
  | isin =>
    cases e with
    | dict kvs =>
      have h : WP (need (keyOk d && kvOk kvs) (.ret (.bool (Pm.hasK (kvs.map (·.1)) d)))) (Aft g fa H0 H Q) := by cases d <;> exact h
      obtain ⟨hc, h⟩ := wp_need h
      rw [Bool.and_eq_true] at hc
      obtain ⟨hk, ho⟩ := hc
      unfold keyOk at hk
      rw [Bool.and_eq_true] at hk
      have rp := rw'.rp b
      rw [kvOk_eq ho] at rp
      obtain ⟨a, xs, ep, rfl, ha, ra, gd⟩ := Rp.dctI rp
      exact .inr (.inr (.inr ⟨d, a, xs, _, ep, Rp.dp d hk.2 (rv.rp b), hk.1, hk.2, rfl, ha, RpAll.dp _ (canLay_all gd) ra, gd, Aft.bl b h⟩))
    | _ =>
      have q := cm_in b id rv rw' (by cases d <;> exact h)
      rcases q with q | q | q
      · exact .inl q
      · exact .inr (.inl q)
      · exact .inr (.inr (.inl q))
  | notin => exact cm_in b not rv rw' (by cases d <;> cases e <;> exact h)
end

/-! ### subscripts, slices, truth -/
section
variable {g : Gc} {fa : Option Addr} {H0 H : Hp} {v w : V} {d e : D} {Q : VK}
theorem RpAll.atI : ∀ {xs : List V} {ds : List D} {i : Int} {d : D}, RpAll g fa H0 xs ds → (ixAt ds.length i).bind (ds[·]?) = some d → ∃ v, L2.atI xs i = some v ∧ Rp g fa H0 v d := fun {xs ds i d} r h => by
  unfold L2.atI
  rw [r.len]
  cases e : L2.ixN ds.length i with
  | none => rw [show ixAt ds.length i = L2.ixN ds.length i from rfl, e] at h; cases h
  | some k =>
    rw [show ixAt ds.length i = L2.ixN ds.length i from rfl, e] at h
    exact r.get' h
theorem RpAll.cut {xs : List V} {ds : List D} (lo hi : Option Int) (r : RpAll g fa H0 xs ds) : RpAll g fa H0 (cutV xs lo hi) (cutD ds lo hi) := by
  unfold cutV cutD
  rw [r.len]
  exact (r.drop _).take _
def rIxD (K : PySem.W.Frag) : R2 := R2or (rIxL K) (rIxT K)
theorem ixR_or {X : Cx} {r s : R2} (h : IxR X r) (h' : IxR X s) : IxR X (R2or r s) := by
  intro a b c d e f i j k l m n n1 n2 n3 n4
  rcases n3 with n3 | n3
  · exact h a b c d e f i j k l m n n1 n2 n3 n4
  · exact h' a b c d e f i j k l m n n1 n2 n3 n4
theorem slR_or {X : Cx} {r s : V → Option Int → Option Int → Hp → VK → Prop} (h : SlR X r) (h' : SlR X s) : SlR X (fun x a b H Q => r x a b H Q ∨ s x a b H Q) := by
  intro a b c d e f i j k l m n o p q t u u1
  rcases u1 with u1 | u1
  · exact h a b c d e f i j k l m n o p q t u u1
  · exact h' a b c d e f i j k l m n o p q t u u1
theorem ix_ok (b : Bs g fa H0 H) (rv : Rv g fa H0 H v d) (rw' : Rv g fa H0 H w e) (h : WP (idx2 d e) fun r => ∀ v', Rp g fa H0 v' r → Q v' H) : rIxD g.K v w H Q := by
  cases d with
  | list ds =>
    cases e with
    | int i =>
      obtain ⟨a, xs, rfl, h1, r1⟩ := rv.list b
      cases rw'.int
      simp only [idx2] at h
      cases hi : (ixAt ds.length i).bind (ds[·]?) with
      | none => rw [hi] at h; exact h.elim
      | some z =>
        rw [hi] at h
        obtain ⟨u, hu, ru⟩ := r1.atI hi
        exact .inl ⟨a, xs, i, u, rfl, rfl, .inl (.inl h1), hu, h u ru⟩
    | _ => exact h.elim
  | tuple ds =>
    cases e with
    | int i =>
      obtain ⟨a, xs, rfl, h1, r1⟩ := rv.tuple b
      cases rw'.int
      simp only [idx2] at h
      cases hi : (ixAt ds.length i).bind (ds[·]?) with
      | none => rw [hi] at h; exact h.elim
      | some z =>
        rw [hi] at h
        obtain ⟨u, hu, ru⟩ := r1.atI hi
        exact .inr ⟨a, xs, i, u, rfl, rfl, h1, hu, h u ru⟩
    | _ => exact h.elim
  | _ => exact h.elim
def rSlD (K : PySem.W.Frag) : V → Option Int → Option Int → Hp → VK → Prop := fun x a b H Q => rSlL K x a b H Q ∨ rSlA K x a b H Q ∨ rSlS x a b H Q
theorem sl_rule {X : Cx} : SlR X (rSlD X.K) := slR_or sl_list (slR_or sl_tupA sl_str)
theorem cut_whole {ds : List D} {lo hi : Option Int} (h : HT.sIx ds.length 0 lo = 0 ∧ HT.sIx ds.length ds.length hi = ds.length) : cutD ds lo hi = ds := by
  unfold cutD slE
  rw [h.1, h.2, List.drop_zero, Nat.sub_zero, List.take_length]
theorem sl_ok (b : Bs g fa H0 H) (rv : Rv g fa H0 H v d) {lo hi : Option Int} (h : WP (sl2 d lo hi) (Aft g fa H0 H Q)) : rSlD g.K v lo hi H Q := by
  cases d with
  | list ds =>
    obtain ⟨a, xs, rfl, h1, r1⟩ := rv.list b
    exact .inl ⟨a, xs, rfl, .inl (.inl h1), fun p hp => Aft.newL b h (r1.cut lo hi) hp⟩
  | tuple ds =>
    have t := rv.data (fun _ z => by cases z)
    obtain ⟨a, xs, rfl, h1, r1⟩ := rv.tuple b
    refine .inr (.inl ⟨a, xs, rfl, h1, fun z => ?_, fun z p hp => Aft.newT b h (r1.cut lo hi) hp⟩)
    rw [r1.len] at z
    have h : Aft g fa H0 H Q (.tuple (cutD ds lo hi)) := h
    rw [cut_whole z] at h
    exact h.at b t (fun _ z => by cases z)
  | str z =>
    obtain ⟨hc, h⟩ := wp_need h
    cases rv.str
    exact .inr (.inr ⟨z, rfl, of_decide_eq_true hc, Aft.str b h⟩)
  | _ => exact h.elim
theorem truV_ok (b : Bs g fa H0 H) (rv : Rv g fa H0 H v d) {Q : Bool → Prop} (h : WP (truD d) Q) : ∃ k, TruV g.K v H k ∧ Q k := by
  cases d with
  | none => cases rv.non; exact ⟨_, rfl, h⟩
  | bool k => cases rv.bl; exact ⟨_, rfl, h⟩
  | int k => cases rv.int; exact ⟨_, rfl, h⟩
  | str k =>
    obtain ⟨hc, h⟩ := wp_need h
    cases rv.str
    have e1 : ((k.length : Int) != 0) = (k.length != 0) := by rw [Bool.eq_iff_iff]; simp
    exact ⟨_, ⟨of_decide_eq_true hc, rfl⟩, by rw [e1]; exact h⟩
  | list ds =>
    obtain ⟨a, xs, rfl, h1, r1⟩ := rv.list b
    refine ⟨_, .inl ⟨xs, .inl (.inl h1), rfl⟩, ?_⟩
    have : xs.isEmpty = ds.isEmpty := by cases r1 <;> rfl
    rw [this]; exact h
  | tuple ds =>
    obtain ⟨a, xs, rfl, h1, r1⟩ := rv.tuple b
    refine ⟨_, .inr (.inl ⟨xs, h1, rfl⟩), ?_⟩
    have : xs.isEmpty = ds.isEmpty := by cases r1 <;> rfl
    rw [this]; exact h
  | dict k => exact h.elim
end
end Pf
/-! PfE: built-in functions by data. -/
namespace Pf
open PySem PySem.Spec PyProof.Rows L2

def biVal : Bi → Value
  | .len => .builtin "len"
  | .lst => .type "list"
  | .tup => .type "tuple"
  | .srt => .builtin "sorted"
  | .all => .builtin "all"
  | .any => .builtin "any"
  | .ord => .builtin "ord"
  | .str => .type "str"
  | .int => .type "int"
  | .repr => .builtin "repr"
def biName : Bi → Str
  | .len => "len"
  | .lst => "list"
  | .tup => "tuple"
  | .srt => "sorted"
  | .all => "all"
  | .any => "any"
  | .ord => "ord"
  | .str => "str"
  | .int => "int"
  | .repr => "repr"
abbrev RC := List V → Hp → VK → Prop
abbrev RCor (r s : RC) : RC := fun x H Q => r x H Q ∨ s x H Q
theorem CallR.or {X : Cx} {f : Value} {r s : RC} (h : CallR X f r) (h' : CallR X f s) : CallR X f (RCor r s) := by
  intro a b c d e f i j k l
  rcases l with l | l
  · exact h a b c d e f i j k l
  · exact h' a b c d e f i j k l
def rRepr (K : PySem.W.Frag) : RC := fun xs H Q => ∃ v d, xs = [v] ∧ Dp K H v d ∧ d.showable = true ∧ SeqAt.shaped d = true ∧ d.shown.length ≤ sizeLine ∧ Q (.str d.shown) H
theorem call_reprD {X : Cx} (hg : X.A.guards = some []) (hu : X.A.units + 66 < cLine) : CallR X (.builtin "repr") (rRepr X.K) := by
  intro ps s σ H xs us Q I r h
  obtain ⟨v, d, rfl, hd, h1, h2, h3, q⟩ := h
  obtain ⟨u, rfl, ru⟩ := vals1 r
  obtain ⟨as, rd⟩ := Dp.reads I d v u hd ru
  have hdep : d.depth ≤ 64 := by
    unfold SeqAt.shaped at h2
    simp only [Bool.and_eq_true, decide_eq_true_eq] at h2
    exact h2.2
  have fin : ∀ (h' : Heap) (t : Tok) (tk : Nat), (∀ b o, s.heap.get? b = some o → h'.get? b = some o) → EP X ps σ Q (.str d.shown t) { s with heap := h', toks := tk } := fun h' t tk k =>
    ⟨.str d.shown, H, I.kept (t' := tk) k, ⟨t, rfl⟩, q⟩
  cases hd with
  | non => cases ru; exact P.repr_of_none (fin s.heap _ _ fun _ _ e => e)
  | bl b => cases ru; exact P.repr_of_bool (fin s.heap _ _ fun _ _ e => e)
  | int i =>
    obtain ⟨t, rfl⟩ := ru
    exact P.repr_of_int (by simpa [PyData.showable] using h1) (fin s.heap _ _ fun _ _ e => e)
  | str x =>
    obtain ⟨t, rfl⟩ := ru
    exact P.repr_of_str (fin s.heap _ _ fun _ _ e => e) h3
  | lst hs ha =>
    cases ru
    exact repr_of_reads' rd h1 (PyData.noDict_hsm (PyData.hasDict_of_canLay _ (SeqAt.canLay_of_shaped h2))) hg (by omega) (fun _ _ e => e) (fun h' t tk k => fin h' t tk k) h3
  | tup hs ha =>
    cases ru
    exact repr_of_reads' rd h1 (PyData.noDict_hsm (PyData.hasDict_of_canLay _ (SeqAt.canLay_of_shaped h2))) hg (by omega) (fun _ _ e => e) (fun h' t tk k => fin h' t tk k) h3
theorem call_str_bl {X : Cx} : CallR X (.type "str") (fun xs H Q => ∃ k : Bool, xs = [V.bl k] ∧ Q (V.str (if k = true then "True" else "False")) H) := by
  intro pins s σ H xs us Q I r h
  obtain ⟨k, rfl, q⟩ := h
  obtain ⟨u, rfl, r1⟩ := vals1 r
  cases r1
  exact PySem.P.str_of_bool ⟨.str _, H, I.tok _, ⟨_, by cases k <;> rfl⟩, q⟩
def rBi (K : PySem.W.Frag) : Bi → RC
  | .len => RCor (fun xs H Q => ∃ p ys, xs = [V.ref p] ∧ (SqL K H p ys ∨ SqT K H p ys) ∧ Q (V.int ys.length) H) (fun xs H Q => ∃ z : Str, xs = [V.str z] ∧ z.length ≤ sizeLine ∧ Q (V.int z.length) H)
  | .lst => fun xs H Q => ∃ p ys, xs = [V.ref p] ∧ (SqL K H p ys ∨ SqT K H p ys) ∧ ∀ l : Addr, H l = none → Q (V.ref l) (upd H l (HO.lst ys))
  | .tup => fun xs H Q => ∃ p ys, xs = [V.ref p] ∧ ((SqL K H p ys ∧ ∀ l : Addr, H l = none → Q (V.ref l) (upd H l (HO.tup ys))) ∨ SqT K H p ys ∧ Q (V.ref p) H)
  | .srt => RCor (rSortedI K) (Pm.rSortD K)
  | .all => rAll K
  | .any => rAny K
  | .ord => fun xs H Q => ∃ x : Str, xs = [V.str x] ∧ x.length = 1 ∧ Q (V.int (x.cps.getD 0 0 : Nat)) H
  | .str => RCor (fun xs H Q => ∃ i : Int, xs = [V.int i] ∧ i.natAbs.log2 < 1920 ∧ Q (V.str (toString i)) H) (fun xs H Q => ∃ k : Bool, xs = [V.bl k] ∧ Q (V.str (if k = true then "True" else "False")) H)
  | .int => fun xs H Q => (∃ i, xs = [V.int i] ∧ Q (V.int i) H) ∨ ∃ k, xs = [V.bl k] ∧ Q (V.int (if k = true then 1 else 0)) H
  | .repr => rRepr K
theorem bi_rule {X : Cx} (hc : X.calm = true) (hg : X.A.guards = some []) (hu : X.A.units + 66 < cLine) (b : Bi) : CallR X (biVal b) (rBi X.K b) := by
  cases b with
  | len => exact CallR.or call_len_seq call_len_str
  | lst => exact call_list_of
  | tup => exact call_tuple_of
  | srt => exact CallR.or cr_sortedI (Pm.cr_sortD hu)
  | all => exact cr_all hc
  | any => exact cr_any hc
  | ord => exact call_ord
  | str => exact CallR.or call_str_int call_str_bl
  | int => exact call_int1
  | repr => exact call_reprD hg hu

section
variable {g : Gc} {fa : Option Addr} {H0 H : Hp} {v : V} {d : D} {Q : VK}
theorem RpAll.bools : ∀ {xs : List V} {ds : List D} {bs : List Bool}, RpAll g fa H0 xs ds → boolsOf ds = some bs → xs = bs.map V.bl
  | _, _, bs, .nil, h => by
    have e : bs = [] := by simpa [boolsOf] using h.symm
    subst e; rfl
  | _, _, bs, .cons (d := d) (ds := ds) r t, h => by
    cases d with
    | bool b =>
      simp only [boolsOf] at h
      cases e : boolsOf ds with
      | none => rw [e] at h; cases h
      | some cs =>
        rw [e] at h
        have e2 : bs = b :: cs := by simpa using h.symm
        subst e2
        cases r
        rw [RpAll.bools t e]; rfl
    | _ => simp [boolsOf] at h
theorem RpAll.nums : ∀ {xs : List V} {ds : List D} {bs : List Int}, RpAll g fa H0 xs ds → intsOf ds = some bs → xs = bs.map V.int
  | _, _, bs, .nil, h => by
    have e : bs = [] := by simpa [intsOf] using h.symm
    subst e; rfl
  | _, _, bs, .cons (d := d) (ds := ds) r t, h => by
    cases d with
    | int b =>
      simp only [intsOf] at h
      cases e : intsOf ds with
      | none => rw [e] at h; cases h
      | some cs =>
        rw [e] at h
        have e2 : bs = b :: cs := by simpa using h.symm
        subst e2
        cases r
        rw [RpAll.nums t e]; rfl
    | _ => simp [intsOf] at h
theorem rpAll_ints : ∀ ns : List Int, RpAll g fa H0 (ns.map V.int) (ns.map PyData.int)
  | [] => .nil
  | n :: ns => .cons (.int n) (rpAll_ints ns)
theorem insI_perm (x : Int) : ∀ l : List Int, (insI x l).Perm (x :: l)
  | [] => .refl _
  | y :: r => by
    unfold insI
    split
    · exact .refl _
    · exact ((insI_perm x r).cons y).trans (.swap x y r)
theorem sortI_perm : ∀ l : List Int, (sortI l).Perm l
  | [] => .refl _
  | x :: r => (insI_perm x _).trans ((sortI_perm r).cons x)
theorem insI_mem {x z : Int} {l : List Int} (h : z ∈ insI x l) : z = x ∨ z ∈ l := by
  have := (insI_perm x l).mem_iff.mp h
  simpa using this
theorem insI_sorted (x : Int) : ∀ l : List Int, l.Pairwise (· ≤ ·) → (insI x l).Pairwise (· ≤ ·)
  | [], _ => by unfold insI; simp
  | y :: r, h => by
    unfold insI
    rw [List.pairwise_cons] at h
    split
    · rename_i hxy
      refine List.pairwise_cons.mpr ⟨fun z hz => ?_, List.pairwise_cons.mpr h⟩
      rcases List.mem_cons.mp hz with rfl | hz
      · exact hxy
      · exact Int.le_trans hxy (h.1 z hz)
    · rename_i hxy
      refine List.pairwise_cons.mpr ⟨fun z hz => ?_, insI_sorted x r h.2⟩
      rcases insI_mem hz with rfl | hz
      · omega
      · exact h.1 z hz
theorem sortI_sorted : ∀ l : List Int, (sortI l).Pairwise (· ≤ ·)
  | [] => .nil
  | x :: r => insI_sorted x _ (sortI_sorted r)
theorem sorted_unique : ∀ {a b : List Int}, a.Perm b → a.Pairwise (· ≤ ·) → b.Pairwise (· ≤ ·) → a = b
  | [], b, p, _, _ => (List.Perm.nil_eq p)
  | x :: a, [], p, _, _ => by simpa using p.length_eq
  | x :: a, y :: b, p, ha, hb => by
    rw [List.pairwise_cons] at ha hb
    have hx : x = y := by
      have h1 : x ∈ y :: b := p.mem_iff.mp List.mem_cons_self
      have h2 : y ∈ x :: a := p.mem_iff.mpr List.mem_cons_self
      rcases List.mem_cons.mp h1 with h1 | h1
      · exact h1
      · rcases List.mem_cons.mp h2 with h2 | h2
        · exact h2.symm
        · have := hb.1 x h1
          have := ha.1 y h2
          omega
    subst hx
    rw [sorted_unique ((List.perm_cons x).mp p) ha.2 hb.2]
theorem dle {β : Type} (k : β → D) (x y : β) : PySem.W.dataLe false k x y = !PySem.W.dataLt (k y) (k x) := rfl
theorem insD_mid (x : D) : ∀ (A B : List D), (∀ b ∈ A, PySem.W.dataLt b x = true) → (∀ b ∈ B, PySem.W.dataLt b x = false) → insD x (A ++ B) = A ++ x :: B
  | [], [], _, _ => rfl
  | [], y :: B, _, h => by
    show (if PySem.W.dataLt y x = true then y :: insD x B else x :: y :: B) = _
    rw [h y List.mem_cons_self, if_neg (by intro z; cases z)]
    rfl
  | a :: A, B, h1, h2 => by
    show (if PySem.W.dataLt a x = true then a :: insD x (A ++ B) else _) = _
    rw [if_pos (h1 a List.mem_cons_self), insD_mid x A B (fun b hb => h1 b (List.mem_cons_of_mem _ hb)) h2]
    rfl
theorem sort_map {β : Type} (k : β → D) : ∀ zs : List β, (zs.mergeSort (PySem.W.dataLe false k)).map k = sortD (zs.map k)
  | [] => by simp [sortD]
  | z :: zs => by
    have T : PySem.W.TotalLe (PySem.W.dataLe false k) := PySem.W.sortLe_total _ _ _
    obtain ⟨l1, l2, e1, e2, h⟩ := List.mergeSort_cons (le := PySem.W.dataLe false k) (fun a b c h1 h2 => T.trans a b c h1 h2) (fun a b => Bool.or_eq_true_iff.mpr (T.total a b)) z zs
    have ih := sort_map k zs
    have pw := PySem.W.sort_pairwise T (z :: zs)
    rw [e2, List.map_append] at ih
    rw [e1] at pw
    rw [e1, List.map_append, List.map_cons, List.map_cons]
    show _ = insD (k z) (sortD (zs.map k))
    rw [← ih]
    refine (insD_mid _ _ _ (fun b hb => ?_) fun b hb => ?_).symm
    · obtain ⟨c, hc, rfl⟩ := List.mem_map.mp hb
      have := h c hc
      rw [dle] at this
      simpa using this
    · obtain ⟨c, hc, rfl⟩ := List.mem_map.mp hb
      have := (List.pairwise_cons.mp (List.pairwise_append.mp pw).2.1).1 c hc
      rw [dle] at this
      simpa using this
theorem rp_zip : ∀ {xs : List V} {ds : List D}, RpAll g fa H0 xs ds → ∀ z ∈ xs.zip ds, Rp g fa H0 z.1 z.2
  | _, _, .nil, z, h => by simp at h
  | _, _, .cons r t, z, h => by
    rw [List.zip_cons_cons, List.mem_cons] at h
    rcases h with rfl | h
    · exact r
    · exact rp_zip t z h
theorem rp_unzip : ∀ {zs : List (V × D)}, (∀ z ∈ zs, Rp g fa H0 z.1 z.2) → RpAll g fa H0 (zs.map Prod.fst) (zs.map Prod.snd)
  | [], _ => .nil
  | z :: zs, h => .cons (h z List.mem_cons_self) (rp_unzip fun y hy => h y (List.mem_cons_of_mem _ hy))
theorem dep_memE {xs : List D} : ∀ d ∈ xs, d.depth ≤ PyData.depthAll xs := by
  induction xs with
  | nil => intro d hd; cases hd
  | cons x r ih =>
    intro d hd
    unfold PyData.depthAll
    rcases List.mem_cons.mp hd with e | hd
    · rw [e]; exact Nat.le_max_left _ _
    · exact Nat.le_trans (ih d hd) (Nat.le_max_right _ _)
theorem bi_ok (b : Bs g fa H0 H) (o : Bi) (rv : Rv g fa H0 H v d) (h : WP (bi1 o d) (Aft g fa H0 H Q)) : rBi g.K o [v] H Q := by
  cases o with
  | len =>
    cases d with
    | list ds =>
      obtain ⟨a, xs, rfl, h1, r1⟩ := rv.list b
      exact .inl ⟨a, xs, rfl, .inl (.inl (.inl h1)), by rw [r1.len]; exact Aft.int b h⟩
    | tuple ds =>
      obtain ⟨a, xs, rfl, h1, r1⟩ := rv.tuple b
      exact .inl ⟨a, xs, rfl, .inr h1, by rw [r1.len]; exact Aft.int b h⟩
    | str z =>
      obtain ⟨hc, h⟩ := wp_need h
      cases rv.str
      exact .inr ⟨z, rfl, of_decide_eq_true hc, Aft.int b h⟩
    | _ => exact h.elim
  | lst =>
    cases d with
    | list ds =>
      obtain ⟨a, xs, rfl, h1, r1⟩ := rv.list b
      exact ⟨a, xs, rfl, .inl (.inl (.inl h1)), fun l hl => Aft.newL b h r1 hl⟩
    | tuple ds =>
      obtain ⟨a, xs, rfl, h1, r1⟩ := rv.tuple b
      exact ⟨a, xs, rfl, .inr h1, fun l hl => Aft.newL b h r1 hl⟩
    | _ => exact h.elim
  | tup =>
    cases d with
    | list ds =>
      obtain ⟨a, xs, rfl, h1, r1⟩ := rv.list b
      exact ⟨a, xs, rfl, .inl ⟨.inl (.inl h1), fun l hl => Aft.newT b h r1 hl⟩⟩
    | tuple ds =>
      have t := rv.data (fun _ z => by cases z)
      obtain ⟨a, xs, rfl, h1, r1⟩ := rv.tuple b
      exact ⟨a, xs, rfl, .inr ⟨h1, Aft.at b h t (fun _ z => by cases z)⟩⟩
    | _ => exact h.elim
  | srt =>
    cases d with
    | list ds =>
      obtain ⟨a, xs, rfl, h1, r1⟩ := rv.list b
      simp only [bi1] at h
      cases e : intsOf ds with
      | none =>
        rw [e] at h
        obtain ⟨hc, h⟩ := wp_need h
        unfold srtOk at hc
        simp only [Bool.and_eq_true, List.all_eq_true, Bool.or_eq_true] at hc
        obtain ⟨⟨c1, c2⟩, c3⟩ := hc
        have c4 := dep_shaped c3
        simp only [PyData.depth] at c4
        have c5 : PyData.canLayAll0 ds = true := by
          unfold SeqAt.shaped at c3
          simp only [Bool.and_eq_true, PyData.canLay0] at c3
          exact c3.1
        refine .inr ⟨a, xs, ds, rfl, .inl (.inl h1), RpAll.dp ds c5 (r1.mono b.sub), fun d hd d' hd' => c1 d hd d' hd', ?_, fun d hd => ?_, fun p hp => ?_⟩
        · rcases c2 with c2 | c2
          · refine .inl fun d hd => ?_
            have := c2 d hd
            unfold isTupD at this
            split at this
            · exact ⟨_, _, rfl⟩
            · cases this
          · refine .inr fun d hd => ?_
            have := c2 d hd
            unfold noTupD at this
            split at this
            · cases this
            · cases this
            · rename_i n1 n2
              exact ⟨n1, n2⟩
        · have := dep_memE d hd
          omega
        · have rr := rp_unzip (zs := (xs.zip ds).mergeSort (PySem.W.dataLe false Prod.snd)) fun z hz => rp_zip r1 z ((List.mergeSort_perm _ _).mem_iff.mp hz)
          rw [sort_map, Pm.zip_snd r1.len] at rr
          exact Aft.newL b h rr hp
      | some ns =>
        rw [e] at h
        have ex := r1.nums e
        subst ex
        refine .inl ⟨a, ns, rfl, .inl (.inl h1), fun ns' p pm so hp => ?_⟩
        have es : ns' = sortI ns := sorted_unique (pm.trans (sortI_perm ns).symm) so (sortI_sorted ns)
        subst es
        exact Aft.newL b h (rpAll_ints _) hp
    | _ => exact h.elim
  | all =>
    cases d with
    | list ds =>
      obtain ⟨a, xs, rfl, h1, r1⟩ := rv.list b
      simp only [bi1] at h
      cases e : boolsOf ds with
      | none => rw [e] at h; exact h.elim
      | some bs =>
        rw [e] at h
        have ex := r1.bools e
        subst ex
        exact ⟨a, bs, rfl, .inl (.inl h1), Aft.bl b h⟩
    | _ => exact h.elim
  | any =>
    cases d with
    | list ds =>
      obtain ⟨a, xs, rfl, h1, r1⟩ := rv.list b
      simp only [bi1] at h
      cases e : boolsOf ds with
      | none => rw [e] at h; exact h.elim
      | some bs =>
        rw [e] at h
        have ex := r1.bools e
        subst ex
        exact ⟨a, bs, rfl, .inl (.inl h1), Aft.bl b h⟩
    | _ => exact h.elim
  | ord =>
    cases d with
    | str z =>
      obtain ⟨hc, h⟩ := wp_need h
      cases rv.str
      have hc := of_decide_eq_true hc
      refine ⟨z, rfl, hc, ?_⟩
      have e : z.cps.getD 0 0 = z.cps.toList.headD 0 := by
        rw [str_one hc]; rfl
      rw [e]
      exact Aft.int b h
    | _ => exact h.elim
  | str =>
    cases d with
    | int i =>
      obtain ⟨hc, h⟩ := wp_need h
      cases rv.int
      exact .inl ⟨i, rfl, of_decide_eq_true hc, Aft.str b h⟩
    | bool k =>
      cases rv.bl
      exact .inr ⟨k, rfl, Aft.str b h⟩
    | _ => exact h.elim
  | int =>
    cases d with
    | int i =>
      cases rv.int
      exact .inl ⟨i, rfl, Aft.int b h⟩
    | bool k =>
      cases rv.bl
      exact .inr ⟨k, rfl, by cases k <;> exact Aft.int b h⟩
    | _ => exact h.elim
  | repr =>
    have h : WP (need (d.showable && SeqAt.shaped d && decide (d.shown.length ≤ sizeLine)) (.ret (.str d.shown))) (Aft g fa H0 H Q) := by cases d <;> exact h
    obtain ⟨hc, h⟩ := wp_need h
    simp only [Bool.and_eq_true, decide_eq_true_eq] at hc
    exact ⟨v, d, rfl, rv.dps b hc.1.2, hc.1.1, hc.1.2, hc.2, Aft.str b h⟩

/-! ### isinstance -/
def tyName : Ty → String
  | .int => "int"
  | .bool => "bool"
  | .str => "str"
  | .tup => "tuple"
  | .lst => "list"
theorem kitT (t : Ty) : kitB "NoneType" (tyName t) = some (isTy t .none) ∧ kitB "bool" (tyName t) = some (isTy t (.bool true)) ∧ kitB "int" (tyName t) = some (isTy t (.int 0)) ∧ kitB "str" (tyName t) = some (isTy t (.str Str.empty)) ∧ kitB "list" (tyName t) = some (isTy t (.list [])) ∧ kitB "tuple" (tyName t) = some (isTy t (.tuple [])) := by
  cases t <;> decide +kernel
theorem sqT_ty {a : Addr} {xs : List V} (h : SqT g.K H a xs) : TyX g.K H (.ref a) (.type "tuple") := by
  rcases h with (h | ⟨o, h⟩) | ⟨o, its, n, h1, h2, h3⟩
  · exact .base (.tup h)
  · exact .fTuple h
  · exact .kTuple h1 h2
theorem isi_ok (b : Bs g fa H0 H) (t : Ty) (rv : Rv g fa H0 H v d) (hp : plainD d = true) (h : Aft g fa H0 H Q (.bool (isTy t d))) : rIsi g.K [v, .ty (tyName t)] H Q := by
  have q := Aft.bl b h
  cases d with
  | none => cases rv.non; exact ⟨_, _, _, _, _, rfl, .ty _, .base .non, kit_ty (kitT t).1, q⟩
  | bool k => cases rv.bl; exact ⟨_, _, _, _, _, rfl, .ty _, .base (.bl k), kit_ty ((kitT t).2.1.trans (by cases t <;> rfl)), q⟩
  | int k => cases rv.int; exact ⟨_, _, _, _, _, rfl, .ty _, .base (.int k), kit_ty ((kitT t).2.2.1.trans (by cases t <;> rfl)), q⟩
  | str k => cases rv.str; exact ⟨_, _, _, _, _, rfl, .ty _, .base (.str k), kit_ty ((kitT t).2.2.2.1.trans (by cases t <;> rfl)), q⟩
  | list ds =>
    obtain ⟨a, xs, rfl, h1, r1⟩ := rv.list b
    exact ⟨_, _, _, _, _, rfl, .ty _, .base (.lst h1), kit_ty ((kitT t).2.2.2.2.1.trans (by cases t <;> rfl)), q⟩
  | tuple ds =>
    obtain ⟨a, xs, rfl, h1, r1⟩ := rv.tuple b
    exact ⟨_, _, _, _, _, rfl, .ty _, sqT_ty h1, kit_ty ((kitT t).2.2.2.2.2.trans (by cases t <;> rfl)), q⟩
  | dict k => cases hp
end
end Pf
/-! PfF: expressions by data: the judgements and their rules. -/
namespace Pf
open PySem PySem.Spec PyProof.Rows L2

def tG (g : Gc) (fa : Option Addr) (m : Md) (f : Ev → M D) : TE := fun σ H Q =>
  ∃ H0 ρ, RepS g fa H0 H σ ρ ∧ WP (f ρ) fun d => ∀ v H0' H', Ext g fa H0 H H0' H' → Rel g fa m H H0' H' v d → Q v H'
def tB1 (g : Gc) (fa : Option Addr) (f : Ev → M Bool) : TT := fun σ H Q =>
  ∃ H0 ρ, RepS g fa H0 H σ ρ ∧ WP (f ρ) fun k => ∀ H0' H', Ext g fa H0 H H0' H' → Q k H'
def tArg (g : Gc) (fa : Option Addr) (f : Ev → M D) : TA := fun σ H Q =>
  ∃ H0 ρ, RepS g fa H0 H σ ρ ∧ WP (f ρ) fun d => ∀ vs ds H0' H', d = .list ds → Ext g fa H0 H H0' H' → RpAll g fa H0' vs ds → Q vs H'
def tOpt (g : Gc) (fa : Option Addr) (f : Ev → M (Option Int)) : TO := fun σ H Q =>
  ∃ H0 ρ, RepS g fa H0 H σ ρ ∧ WP (f ρ) fun k => ∀ H0' H', Ext g fa H0 H H0' H' → Q k H'

theorem pe_imp {X : Cx} {e : Expr} {t t' : TE} (h : PE X e t) (i : ∀ σ H Q, t' σ H Q → t σ H Q) : PE X e t' := ⟨fun ps s σ H Q I q => h.run ps s σ H Q I (i σ H Q q)⟩
theorem pt_imp {X : Cx} {e : Expr} {t t' : TT} (h : PT X e t) (i : ∀ σ H Q, t' σ H Q → t σ H Q) : PT X e t' := ⟨fun ps s σ H Q I q => h.run ps s σ H Q I (i σ H Q q)⟩
theorem pw_imp {X : Cx} {e : Expr} {t t' : TT} (h : PW X e t) (i : ∀ σ H Q, t' σ H Q → t σ H Q) : PW X e t' := ⟨fun wh ps s σ H Q I q => h.run wh ps s σ H Q I (i σ H Q q)⟩
theorem pa_imp {X : Cx} {e : List Expr} {t t' : TA} (h : PA X e t) (i : ∀ σ H Q, t' σ H Q → t σ H Q) : PA X e t' := ⟨fun p ps s σ H Q I q => h.run p ps s σ H Q I (i σ H Q q)⟩
/-- the place is the one the data speak of -/
structure KE (g : Gc) (X : Cx) : Prop where
  K : X.K = g.K
  P : X.prog = g.P
  w : X.w = g.w
theorem po_imp {X : Cx} {e : Option Expr} {t t' : TO} (h : PO X e t) (i : ∀ σ H Q, t' σ H Q → t σ H Q) : PO X e t' := ⟨fun ps s σ H Q I q => h.run ps s σ H Q I (i σ H Q q)⟩

section
variable {X : Cx} {g : Gc} {fa : Option Addr} {E E1 E2 E3 : Expr} {f f1 f2 f3 : Ev → M D} {b1 : Ev → M Bool} {pos : Pos}
theorem tG_eq {m : Md} {f' : Ev → M D} (e : ∀ ρ, f ρ = f' ρ) (h : PE X E (tG g fa m f)) : PE X E (tG g fa m f') := by
  have : f = f' := funext e
  rw [← this]; exact h
theorem p_of_f (h : PE X E (tG g fa .f f)) : PE X E (tG g fa .p f) := pe_imp h fun σ H Q ⟨H0, ρ, R, w⟩ => ⟨H0, ρ, R, w.mono fun d q v H0' H' x r => by
  obtain ⟨H0'', x2, _, r2⟩ := Rel.data (Hs := H) x r
  exact q v H0'' H' x2 r2⟩
theorem v_of_p (h : PE X E (tG g fa .p f)) : PE X E (tG g fa .v f) := pe_imp h fun σ H Q ⟨H0, ρ, R, w⟩ => ⟨H0, ρ, R, w.mono fun d q v H0' H' x r => q v H0' H' x (.inl r)⟩
/-- a value at once -/
theorem now {m : Md} {σ : L2.St} {H H0 : Hp} {ρ : Ev} {Q : VK} {v : V} {d : D} (R : RepS g fa H0 H σ ρ) (r : Rp g fa H0 v d) (hd : m ≠ .f ∨ ∀ ds, d ≠ .list ds)
    (q : ∀ v H0' H', Ext g fa H0 H H0' H' → Rel g fa m H H0' H' v d → Q v H') : Q v H := q v H0 H (Ext.refl R.bs) (Rel.p hd r)

/-! names, constants -/
theorem gs_ok {ρ : Ev} {i : Nat} {Q : D → Prop} (w : WP (gs ρ i) Q) : ∃ d, ρ[i]? = some (some (.dat d)) ∧ Q d := by
  unfold gs at w
  split at w
  · exact ⟨_, by assumption, w⟩
  · exact w.elim
theorem gr_ok {ρ : Ev} {i : Nat} {Q : D → Prop} (w : WP (gr ρ i) Q) : ∃ sv, ρ[i]? = some (some sv) ∧ Q sv.d := by
  unfold gr at w
  split at w
  · exact ⟨_, by assumption, w⟩
  · exact w.elim
theorem go_ok {ρ : Ev} {i : Nat} {Q : List D → Prop} (w : WP (go ρ i) Q) : ∃ ds, ρ[i]? = some (some (.own (.list ds))) ∧ Q ds := by
  unfold go at w
  split at w
  · exact ⟨_, by assumption, w⟩
  · exact w.elim
theorem s_var {i : Nat} {x : Str} (hN : X.N[i]? = some x) (hv : Vis X.env.scope x) (h1 : (x == ("__debug__" : Str)) = false) (h2 : (x == ("__classdict__" : Str)) = false) : PE X (.Name x pos) (tG g fa .p fun ρ => gs ρ i) :=
  pe_imp (pe_var hN hv h1 h2) fun σ H Q ⟨H0, ρ, R, w⟩ => by
    obtain ⟨d, e, w⟩ := gs_ok w
    obtain ⟨v, hv, s⟩ := R.slot i _ e
    exact ⟨v, hv, now R s (.inl (by intro z; cases z)) w⟩
theorem RepS.look {H0 H : Hp} {σ : L2.St} {ρ : Ev} (R : RepS g fa H0 H σ ρ) {i : Nat} {sv : SV} (e : ρ[i]? = some (some sv)) : ∃ v, σ[i]? = some (some v) ∧ Rv g fa H0 H v sv.d := by
  obtain ⟨v, hv, s⟩ := R.slot i _ e
  refine ⟨v, hv, ?_⟩
  cases sv with
  | dat d => exact .inl s
  | own d => exact .inr s
  | bor d =>
    rcases s with s | ⟨j, h1, h2⟩
    · exact .inl s
    · obtain ⟨v', hv', s'⟩ := R.slot j _ h2
      rw [h1] at hv'
      cases hv'
      exact .inr s'
theorem s_varR {i : Nat} {x : Str} (hN : X.N[i]? = some x) (hv : Vis X.env.scope x) (h1 : (x == ("__debug__" : Str)) = false) (h2 : (x == ("__classdict__" : Str)) = false) : PE X (.Name x pos) (tG g fa .v fun ρ => gr ρ i) :=
  pe_imp (pe_var hN hv h1 h2) fun σ H Q ⟨H0, ρ, R, w⟩ => by
    obtain ⟨sv, e, w⟩ := gr_ok w
    obtain ⟨v, hv, s⟩ := R.look e
    exact ⟨v, hv, w v H0 H (Ext.refl R.bs) s⟩
theorem s_const {v : V} {d : D} (h : PE X E (tC v)) (r : ∀ H, Rp g fa H v d) (hd : ∀ ds, d ≠ .list ds) {m : Md} : PE X E (tG g fa m fun _ => .ret d) :=
  pe_imp h fun σ H Q ⟨H0, ρ, R, w⟩ => now R (r H0) (.inr hd) w

/-! two operands -/
theorem two {r : R2} {k : D → D → M D} (h1 : PE X E1 (tG g fa .v f1)) (h2 : PE X E2 (tG g fa .v f2)) {t : Expr} (hp : ∀ ta tb, PE X E1 ta → PE X E2 tb → PE X t (tOp r ta tb))
    (hk : ∀ {H0 H : Hp} {v w : V} {d e : D} {Q : VK}, Bs g fa H0 H → Rv g fa H0 H v d → Rv g fa H0 H w e → WP (k d e) (Aft g fa H0 H Q) → r v w H Q) :
    PE X t (tG g fa .f fun ρ => (f1 ρ).bind fun x => (f2 ρ).bind fun y => k x y) :=
  pe_imp (hp _ _ h1 h2) fun σ H Q ⟨H0, ρ, R, w⟩ => ⟨H0, ρ, R, (WP.bind.mp w).mono fun d w v H1' H1 x1 r1 => ⟨H1', ρ, R.ext x1, (WP.bind.mp w).mono fun e w u H2' H2 x2 r2 => by
    refine hk x2.bs (Rv.ext r1 x1.bs x2) r2 (w.mono fun z q v' H0' H' x3 r3 => q v' H0' H' ((x1.trans x2).trans x3) ?_)
    cases z with
    | list ds =>
      obtain ⟨a, rfl, hs, o⟩ := r3
      exact ⟨a, rfl, (x1.trans x2).free R.bs hs, o⟩
    | _ => exact r3⟩⟩
theorem s_bin (o : Op2) (hK : X.K = g.K) (h1 : PE X E1 (tG g fa .v f1)) (h2 : PE X E2 (tG g fa .v f2)) : PE X (.BinOp E1 (toOp o) E2 pos) (tG g fa .f fun ρ => (f1 ρ).bind fun x => (f2 ρ).bind fun y => op2 o x y) :=
  two (r := rOp2 g.K o) h1 h2 (fun _ _ a b => pe_op (hK ▸ op2_rule o) a b) fun b r1 r2 w => op2_ok b o r1 r2 w
theorem cm_g (hK : KE g X) (hu : X.A.units + 65 < cLine) (o : Cm) : OpR X (compareOp (toCm o)) (rCm g.P g.w g.K o) := by
  rw [← hK.K, ← hK.P, ← hK.w]
  exact cm_rule hu o
theorem s_cmp (o : Cm) (hK : KE g X) (hu : X.A.units + 65 < cLine) (hm : behindInMarks (toCm o) E2 = false) (h1 : PE X E1 (tG g fa .v f1)) (h2 : PE X E2 (tG g fa .v f2)) : PE X (.Compare E1 [toCm o] [E2] pos) (tG g fa .f fun ρ => (f1 ρ).bind fun x => (f2 ρ).bind fun y => cmp2 o x y) :=
  two (r := rCm g.P g.w g.K o) h1 h2 (fun _ _ a b => pe_cmpR (cm_g hK hu o) a b hm) fun b r1 r2 w => cm_ok b o r1 r2 w
theorem Aft.of_ext {H0 H H0' H' : Hp} {Q : VK} {d : D} (b : Bs g fa H0 H) (x : Ext g fa H0 H H0' H') (q : ∀ v' H0'' H'', Ext g fa H0 H H0'' H'' → Rel g fa .f H H0'' H'' v' d → Q v' H'') : Aft g fa H0' H' Q d := fun v' H0'' H'' x3 r3 => q v' H0'' H'' (x.trans x3) (by
    cases d with
    | list ds =>
      obtain ⟨a, rfl, hs, o⟩ := r3
      exact ⟨a, rfl, x.free b hs, o⟩
    | _ => exact r3)
theorem s_chain (o o' : Cm) (hK : KE g X) (hu : X.A.units + 65 < cLine) (hm : lastMarks [toCm o, toCm o'] [E2, E3] = false) (h1 : PE X E1 (tG g fa .v f1)) (h2 : PE X E2 (tG g fa .v f2)) (h3 : PE X E3 (tG g fa .v f3)) :
    PE X (.Compare E1 [toCm o, toCm o'] [E2, E3] pos) (tG g fa .f fun ρ => (f1 ρ).bind fun x => (f2 ρ).bind fun y => (cmp2 o x y).bind fun r => (boolD r).bind fun k => if k = true then (f3 ρ).bind fun z => cmp2 o' y z else .ret (.bool false)) := by
  have e1 : OpR X (compareOp (toCm o)) (rCm g.P g.w g.K o) := cm_g hK hu o
  have e2 : OpR X (compareOp (toCm o')) (rCm g.P g.w g.K o') := cm_g hK hu o'
  refine pe_imp (pe_chain e1 e2 h1 h2 h3 hm) fun σ H Q ⟨H0, ρ, R, w⟩ => ⟨H0, ρ, R, (WP.bind.mp w).mono fun d w v H1' H1 x1 r1 => ⟨H1', ρ, R.ext x1, (WP.bind.mp w).mono fun e w u H2' H2 x2 r2 => ?_⟩⟩
  refine cm_ok x2.bs o (Rv.ext r1 x1.bs x2) r2 ((WP.bind.mp w).mono fun z q v' H3' H3 x3 r3 => ?_)
  cases z with
  | bool k =>
    have r3 : Rp g fa H3' v' (.bool k) := r3
    cases r3
    refine ⟨k, rfl, ?_⟩
    have q : WP (if k = true then (f3 ρ).bind fun z => cmp2 o' e z else .ret (.bool false)) _ := q
    have x13 := (x1.trans x2).trans x3
    cases k with
    | true =>
      rw [if_pos rfl] at q ⊢
      refine ⟨H3', ρ, R.ext x13, (WP.bind.mp q).mono fun z q w H4' H4 x4 r4 => ?_⟩
      exact cm_ok x4.bs o' (Rv.ext (Rv.ext r2 x2.bs x3) x3.bs x4) r4 (q.mono fun d q => Aft.of_ext R.bs (x13.trans x4) q)
    | false =>
      rw [if_neg (by intro z; cases z)] at q ⊢
      exact q _ H3' H3 x13 (Rp.bl false)
  | _ => exact q.elim
end
end Pf
/-! PfG: more expressions. -/
namespace Pf
open PySem PySem.Spec PyProof.Rows L2
section
variable {X : Cx} {g : Gc} {fa : Option Addr} {E E1 E2 E3 : Expr} {f f1 f2 f3 : Ev → M D} {b1 b2 : Ev → M Bool} {pos : Pos}

theorem intD_ok {d : D} {Q : Int → Prop} (w : WP (intD d) Q) : ∃ i, d = .int i ∧ Q i := by
  cases d with
  | int i => exact ⟨i, rfl, w⟩
  | _ => exact w.elim
theorem lstD_ok {d : D} {Q : List D → Prop} (w : WP (lstD d) Q) : ∃ ds, d = .list ds ∧ Q ds := by
  cases d with
  | list i => exact ⟨i, rfl, w⟩
  | _ => exact w.elim
theorem s_neg (h : PE X E (tG g fa .p f)) : PE X (.UnaryOp .USub E pos) (tG g fa .f fun ρ => (f ρ).bind fun x => (intD x).bind fun i => .ret (.int (-i))) :=
  pe_imp (pe_un un_neg h) fun σ H Q ⟨H0, ρ, R, w⟩ => ⟨H0, ρ, R, (WP.bind.mp w).mono fun d w v H1' H1 x1 r1 => by
    obtain ⟨i, rfl, w⟩ := intD_ok (WP.bind.mp w)
    cases r1
    exact ⟨i, rfl, w _ H1' H1 x1 (Rp.int _)⟩⟩
theorem s_nt (hK : X.K = g.K) (h : PE X E (tG g fa .v f)) : PE X (.UnaryOp .Not E pos) (tG g fa .f fun ρ => ((f ρ).bind truD).bind fun k => .ret (.bool !k)) :=
  pe_imp (pe_notT h) fun σ H Q ⟨H0, ρ, R, w⟩ => ⟨H0, ρ, R, (WP.bind.mp (WP.bind.mp w)).mono fun d w v H1' H1 x1 r1 => by
    obtain ⟨k, t, w⟩ := truV_ok x1.bs r1 w
    exact ⟨k, hK ▸ t, w _ H1' H1 x1 (Rp.bl _)⟩⟩
theorem Rel.of_p {H H0' H' : Hp} {m : Md} {v : V} {d : D} (hm : m ≠ .f) (r : Rp g fa H0' v d) : Rel g fa m H H0' H' v d := Rel.p (.inl hm) r
theorem s_and {rest : List Expr} (hK : X.K = g.K) (h1 : PE X E1 (tG g fa .p f1)) (h2 : PE X (.BoolOp .And (E2 :: rest) pos) (tG g fa .p f2)) :
    PE X (.BoolOp .And (E1 :: E2 :: rest) pos) (tG g fa .p fun ρ => (f1 ρ).bind fun x => (truD x).bind fun k => if k = true then f2 ρ else .ret x) :=
  pe_imp (pe_andT h1 h2) fun σ H Q ⟨H0, ρ, R, w⟩ => ⟨H0, ρ, R, (WP.bind.mp w).mono fun d w v H1' H1 x1 r1 => by
    obtain ⟨k, t, w⟩ := truV_ok x1.bs (.inl r1) (WP.bind.mp w)
    refine ⟨k, hK ▸ t, ?_⟩
    cases k with
    | true =>
      rw [if_pos rfl] at w ⊢
      exact ⟨H1', ρ, R.ext x1, w.mono fun d q v H2' H2 x2 r2 => q v H2' H2 (x1.trans x2) r2⟩
    | false =>
      rw [if_neg (by intro z; cases z)] at w ⊢
      exact w v H1' H1 x1 r1⟩
theorem s_or {rest : List Expr} (hK : X.K = g.K) (h1 : PE X E1 (tG g fa .p f1)) (h2 : PE X (.BoolOp .Or (E2 :: rest) pos) (tG g fa .p f2)) :
    PE X (.BoolOp .Or (E1 :: E2 :: rest) pos) (tG g fa .p fun ρ => (f1 ρ).bind fun x => (truD x).bind fun k => if k = true then .ret x else f2 ρ) :=
  pe_imp (pe_orT h1 h2) fun σ H Q ⟨H0, ρ, R, w⟩ => ⟨H0, ρ, R, (WP.bind.mp w).mono fun d w v H1' H1 x1 r1 => by
    obtain ⟨k, t, w⟩ := truV_ok x1.bs (.inl r1) (WP.bind.mp w)
    refine ⟨k, hK ▸ t, ?_⟩
    cases k with
    | false =>
      rw [if_neg (by intro z; cases z)] at w ⊢
      exact ⟨H1', ρ, R.ext x1, w.mono fun d q v H2' H2 x2 r2 => q v H2' H2 (x1.trans x2) r2⟩
    | true =>
      rw [if_pos rfl] at w ⊢
      exact w v H1' H1 x1 r1⟩
theorem s_ifx (hc : PT X E3 (tB1 g fa b1)) (h1 : PE X E1 (tG g fa .p f1)) (h2 : PE X E2 (tG g fa .p f2)) :
    PE X (.IfExp E3 E1 E2 pos) (tG g fa .p fun ρ => (b1 ρ).bind fun k => if k = true then f1 ρ else f2 ρ) :=
  pe_imp (pe_ifExp hc h1 h2) fun σ H Q ⟨H0, ρ, R, w⟩ => ⟨H0, ρ, R, (WP.bind.mp w).mono fun k w H1' H1 x1 => by
    cases k with
    | true =>
      rw [if_pos rfl] at w ⊢
      exact ⟨H1', ρ, R.ext x1, w.mono fun d q v H2' H2 x2 r2 => q v H2' H2 (x1.trans x2) r2⟩
    | false =>
      rw [if_neg (by intro z; cases z)] at w ⊢
      exact ⟨H1', ρ, R.ext x1, w.mono fun d q v H2' H2 x2 r2 => q v H2' H2 (x1.trans x2) r2⟩⟩
theorem s_ifxV (hc : PT X E3 (tB1 g fa b1)) (h1 : PE X E1 (tG g fa .v f1)) (h2 : PE X E2 (tG g fa .v f2)) :
    PE X (.IfExp E3 E1 E2 pos) (tG g fa .v fun ρ => (b1 ρ).bind fun k => if k = true then f1 ρ else f2 ρ) :=
  pe_imp (pe_ifExp hc h1 h2) fun σ H Q ⟨H0, ρ, R, w⟩ => ⟨H0, ρ, R, (WP.bind.mp w).mono fun k w H1' H1 x1 => by
    cases k with
    | true =>
      rw [if_pos rfl] at w ⊢
      exact ⟨H1', ρ, R.ext x1, w.mono fun d q v H2' H2 x2 r2 => q v H2' H2 (x1.trans x2) r2⟩
    | false =>
      rw [if_neg (by intro z; cases z)] at w ⊢
      exact ⟨H1', ρ, R.ext x1, w.mono fun d q v H2' H2 x2 r2 => q v H2' H2 (x1.trans x2) r2⟩⟩
theorem s_idx (hK : X.K = g.K) (hs : PlainIx E2) (h1 : PE X E1 (tG g fa .v f1)) (h2 : PE X E2 (tG g fa .p f2)) : PE X (.Subscript E1 E2 pos) (tG g fa .p fun ρ => (f1 ρ).bind fun x => (f2 ρ).bind fun y => idx2 x y) :=
  pe_imp (pe_ix (hK ▸ (ixR_or ix_list ix_tup : IxR X (rIxD X.K))) h1 h2 hs) fun σ H Q ⟨H0, ρ, R, w⟩ => ⟨H0, ρ, R, (WP.bind.mp w).mono fun d w v H1' H1 x1 r1 => ⟨H1', ρ, R.ext x1, (WP.bind.mp w).mono fun e w u H2' H2 x2 r2 =>
    ix_ok x2.bs (Rv.ext r1 x1.bs x2) (.inl r2) (w.mono fun d q v' r' => q v' H2' H2 (x1.trans x2) r')⟩⟩
theorem s_sl {lo hi : Option Expr} {o1 o2 : Ev → M (Option Int)} {p2 : Pos} (hK : X.K = g.K) (h1 : PE X E1 (tG g fa .v f1)) (h2 : PO X lo (tOpt g fa o1)) (h3 : PO X hi (tOpt g fa o2)) :
    PE X (.Subscript E1 (.Slice lo hi none p2) pos) (tG g fa .f fun ρ => (f1 ρ).bind fun x => (o1 ρ).bind fun i => (o2 ρ).bind fun j => sl2 x i j) :=
  pe_imp (pe_slice (hK ▸ (sl_rule : SlR X (rSlD X.K))) h1 h2 h3) fun σ H Q ⟨H0, ρ, R, w⟩ => ⟨H0, ρ, R, (WP.bind.mp w).mono fun d w v H1' H1 x1 r1 => ⟨H1', ρ, R.ext x1, (WP.bind.mp w).mono fun i w H2' H2 x2 =>
    ⟨H2', ρ, R.ext (x1.trans x2), (WP.bind.mp w).mono fun j w H3' H3 x3 => sl_ok x3.bs (Rv.ext (Rv.ext r1 x1.bs x2) x2.bs x3) (w.mono fun d q => Aft.of_ext R.bs ((x1.trans x2).trans x3) q)⟩⟩⟩
theorem s_optN : PO X none (tOpt g fa fun _ => .ret none) := po_imp po_none fun σ H Q ⟨H0, ρ, R, w⟩ => w H0 H (Ext.refl R.bs)
theorem s_optS (h : PE X E (tG g fa .p f)) : PO X (some E) (tOpt g fa fun ρ => (f ρ).bind fun d => (intD d).bind fun i => .ret (some i)) :=
  po_imp (po_some h) fun σ H Q ⟨H0, ρ, R, w⟩ => ⟨H0, ρ, R, (WP.bind.mp w).mono fun d w v H1' H1 x1 r1 => by
    obtain ⟨i, rfl, w⟩ := intD_ok (WP.bind.mp w)
    cases r1
    exact ⟨i, rfl, w H1' H1 x1⟩⟩

/-! arguments and displays -/
theorem a_nil : PA X [] (tArg g fa fun _ => .ret (.list [])) := pa_imp pa_nil fun σ H Q ⟨H0, ρ, R, w⟩ => w [] [] H0 H rfl (Ext.refl R.bs) .nil
theorem a_cons {es : List Expr} {f2 : Ev → M D} (hs : starEach (E :: es) X.env = (false, eval E X.env) :: starEach es X.env) (h1 : PE X E (tG g fa .p f1)) (h2 : PA X es (tArg g fa f2)) :
    PA X (E :: es) (tArg g fa fun ρ => (f1 ρ).bind fun d => (f2 ρ).bind fun x => (lstD x).bind fun ds => .ret (.list (d :: ds))) :=
  pa_imp (pa_cons h1 h2 hs) fun σ H Q ⟨H0, ρ, R, w⟩ => ⟨H0, ρ, R, (WP.bind.mp w).mono fun d w v H1' H1 x1 r1 => ⟨H1', ρ, R.ext x1, (WP.bind.mp w).mono fun e w vs ds H2' H2 he x2 r2 => by
    subst he
    exact w (v :: vs) (d :: ds) H2' H2 rfl (x1.trans x2) (.cons (Rp.mono x2.lo r1) r2)⟩⟩
theorem s_tup {es : List Expr} {k : Nat} (h : PA X es (tArg g fa f)) : PE X (.Tuple es k pos) (tG g fa .f fun ρ => (f ρ).bind fun x => (lstD x).bind fun ds => need (decide (ds.length ≤ sizeLine)) (.ret (.tuple ds))) :=
  pe_imp (pe_tup h) fun σ H Q ⟨H0, ρ, R, w⟩ => ⟨H0, ρ, R, (WP.bind.mp w).mono fun d w vs ds H1' H1 he x1 r1 => by
    subst he
    obtain ⟨hc, w⟩ := wp_need w
    exact ⟨by rw [r1.len]; exact of_decide_eq_true hc, fun p hp => Aft.newT x1.bs (Aft.of_ext R.bs x1 w) r1 hp⟩⟩
theorem s_lst {es : List Expr} (h : PA X es (tArg g fa f)) : PE X (.List es pos) (tG g fa .f fun ρ => (f ρ).bind fun x => (lstD x).bind fun ds => need (decide (ds.length ≤ sizeLine)) (.ret (.list ds))) :=
  pe_imp (pe_lst h) fun σ H Q ⟨H0, ρ, R, w⟩ => ⟨H0, ρ, R, (WP.bind.mp w).mono fun d w vs ds H1' H1 he x1 r1 => by
    subst he
    obtain ⟨hc, w⟩ := wp_need w
    exact ⟨by rw [r1.len]; exact of_decide_eq_true hc, fun p hp => Aft.newL x1.bs (Aft.of_ext R.bs x1 w) r1 hp⟩⟩

/-! built-ins -/
def biBoot (b : Bi) : Prop := bootBuiltins (biName b) = some (biVal b)
theorem bi_boot (b : Bi) : bootBuiltins (biName b) = some (biVal b) := by cases b <;> decide +kernel
theorem s_bi (b : Bi) {p : Pos} (hK : X.K = g.K) (hc : X.calm = true) (hgd : X.A.guards = some []) (hu : X.A.units + 66 < cLine) (hg : Gl X (biName b)) (hm : X.mg (biName b) = none)
    (hs : starEach [E] X.env = (false, eval E X.env) :: starEach [] X.env) (h : PE X E (tG g fa .v f)) :
    PE X (.Call (.Name (biName b) p) [E] [] pos) (tG g fa .f fun ρ => (f ρ).bind fun d => bi1 b d) := by
  have hr := bi_rule hc hgd hu b
  rw [hK] at hr
  have key : PE X (.Call (.Name (biName b) p) [E] [] pos) (tCB (rBi g.K b) (tCons (tG g fa .v f) tNil)) := by
    cases b with
    | len => exact pe_callB hr hg hm (bi_boot .len) (pa_cons h pa_nil hs) (by decide +kernel) (by decide +kernel) hs rfl
    | lst => exact pe_callTy hr hg hm (bi_boot .lst) (pa_cons h pa_nil hs) (by decide +kernel) (by decide +kernel) hs rfl
    | tup => exact pe_callTy hr hg hm (bi_boot .tup) (pa_cons h pa_nil hs) (by decide +kernel) (by decide +kernel) hs rfl
    | srt => exact pe_callB hr hg hm (bi_boot .srt) (pa_cons h pa_nil hs) (by decide +kernel) (by decide +kernel) hs rfl
    | all => exact pe_callB hr hg hm (bi_boot .all) (pa_cons h pa_nil hs) (by decide +kernel) (by decide +kernel) hs rfl
    | any => exact pe_callB hr hg hm (bi_boot .any) (pa_cons h pa_nil hs) (by decide +kernel) (by decide +kernel) hs rfl
    | ord => exact pe_callB hr hg hm (bi_boot .ord) (pa_cons h pa_nil hs) (by decide +kernel) (by decide +kernel) hs rfl
    | str => exact pe_callTy hr hg hm (bi_boot .str) (pa_cons h pa_nil hs) (by decide +kernel) (by decide +kernel) hs rfl
    | int => exact pe_callTy hr hg hm (bi_boot .int) (pa_cons h pa_nil hs) (by decide +kernel) (by decide +kernel) hs rfl
    | repr => exact pe_callB hr hg hm (bi_boot .repr) (pa_cons h pa_nil hs) (by decide +kernel) (by decide +kernel) hs rfl
  exact pe_imp key fun σ H Q ⟨H0, ρ, R, w⟩ => ⟨H0, ρ, R, (WP.bind.mp w).mono fun d w v H1' H1 x1 r1 => bi_ok x1.bs b r1 (w.mono fun z q => Aft.of_ext R.bs x1 q)⟩
theorem s_isi (t : Ty) {p p2 : Pos} {T : Str} (hT : bootBuiltins T = some (.type (tyName t))) (hK : X.K = g.K) (hg : Gl X "isinstance") (hm : X.mg "isinstance" = none) (hgT : Gl X T) (hmT : X.mg T = none) (hn : T ≠ "__name__") (hdb : (T == ("__debug__" : Str)) = false)
    (hs : starEach [E, .Name T p2] X.env = (false, eval E X.env) :: starEach [.Name T p2] X.env) (h : PE X E (tG g fa .v f)) :
    PE X (.Call (.Name "isinstance" p) [E, .Name T p2] [] pos) (tG g fa .f fun ρ => (f ρ).bind fun d => need (plainD d) (.ret (.bool (isTy t d)))) := by
  have hr : CallR X (.builtin "isinstance") (rIsi g.K) := hK ▸ call_isi
  refine pe_imp (pe_callB hr hg hm (by decide +kernel) (pa_cons h (pa_cons (pe_bltn (v := .ty (tyName t)) hgT hmT hT rfl hn hdb) pa_nil) hs) (by decide +kernel) (by decide +kernel) hs rfl) fun σ H Q ⟨H0, ρ, R, w⟩ => ⟨H0, ρ, R, (WP.bind.mp w).mono fun d w v H1' H1 x1 r1 => ?_⟩
  obtain ⟨hp, w⟩ := wp_need w
  exact isi_ok x1.bs t r1 hp (Aft.of_ext R.bs x1 w)
theorem s_upper {apos : Pos} (hb : attributeBase E "upper" X.env (eval E X.env) = eval E X.env) (hl : (apos.endLine == pos.line) = true) (h : PE X E (tG g fa .p f)) :
    PE X (.Call (.Attribute E "upper" apos) [] [] pos) (tG g fa .f fun ρ => (f ρ).bind fun d => match d with
    | .str a => need (decide (a.length ≤ 5592405)) (.ret (.str (Txt.upper a)))
    | _ => .bad) :=
  pe_imp (pe_upper h hb hl) fun σ H Q ⟨H0, ρ, R, w⟩ => ⟨H0, ρ, R, (WP.bind.mp w).mono fun d w v H1' H1 x1 r1 => by
    cases d with
    | str a =>
      cases r1
      obtain ⟨hc, w⟩ := wp_need w
      exact ⟨⟨a, rfl⟩, a, rfl, rfl, of_decide_eq_true hc, w _ H1' H1 x1 (Rp.str _)⟩
    | _ => exact w.elim⟩

/-! tests -/
theorem cmp2_bool {o : Cm} {d e : D} {Q : D → Prop} (w : WP (cmp2 o d e) Q) : WP (cmp2 o d e) fun z => (∃ k, z = .bool k) ∧ Q z := by
  unfold cmp2 at w ⊢
  split at w
  all_goals first
    | exact w.elim
    | exact ⟨⟨_, rfl⟩, w⟩
    | (obtain ⟨hc, w⟩ := wp_need w; rw [need_of hc]; exact ⟨⟨_, rfl⟩, w⟩)
theorem truD_ret {d : D} {Q : Bool → Prop} (w : WP (truD d) Q) : ∃ k, truD d = .ret k ∧ Q k := by
  cases d with
  | none => exact ⟨_, rfl, w⟩
  | bool k => exact ⟨_, rfl, w⟩
  | int k => exact ⟨_, rfl, w⟩
  | str k =>
    obtain ⟨hc, w⟩ := wp_need w
    exact ⟨_, need_of hc, w⟩
  | list k => exact ⟨_, rfl, w⟩
  | tuple k => exact ⟨_, rfl, w⟩
  | dict k => exact w.elim
theorem t_truth (hK : X.K = g.K) (he : ∀ whole, isTrue E X.env whole = (do let v ← whole; standAt E.pos; holding [v] (truthy v))) (h : PE X E (tG g fa .v f)) : PT X E (tB1 g fa fun ρ => (f ρ).bind truD) :=
  pt_imp (pt_truth h he) fun σ H Q ⟨H0, ρ, R, w⟩ => ⟨H0, ρ, R, (WP.bind.mp w).mono fun d w v H1' H1 x1 r1 => by
    obtain ⟨k, t, w⟩ := truV_ok x1.bs r1 w
    exact ⟨k, hK ▸ t, w H1' H1 x1⟩⟩
theorem t_cmp (o : Cm) (hK : KE g X) (hu : X.A.units + 65 < cLine) (hm : behindInMarks (toCm o) E2 = false) (h1 : PE X E1 (tG g fa .v f1)) (h2 : PE X E2 (tG g fa .v f2)) : PT X (.Compare E1 [toCm o] [E2] pos) (tB1 g fa fun ρ => ((f1 ρ).bind fun x => (f2 ρ).bind fun y => cmp2 o x y).bind truD) := by
  have e1 : OpR X (compareOp (toCm o)) (rCm g.P g.w g.K o) := cm_g hK hu o
  refine pt_imp (pt_cmpR e1 h1 h2 hm) fun σ H Q ⟨H0, ρ, R, w⟩ => ⟨H0, ρ, R, (WP.bind.mp (WP.bind.mp w)).mono fun d w v H1' H1 x1 r1 => ⟨H1', ρ, R.ext x1, (WP.bind.mp w).mono fun e w u H2' H2 x2 r2 => ?_⟩⟩
  refine cm_ok x2.bs o (Rv.ext r1 x1.bs x2) r2 ((cmp2_bool w).mono fun z q => ?_)
  obtain ⟨⟨k, rfl⟩, q⟩ := q
  intro v' H3' H3 x3 r3
  have r3 : Rp g fa H3' v' (.bool k) := r3
  cases r3
  exact ⟨k, rfl, q H3' H3 ((x1.trans x2).trans x3)⟩
theorem t_chain (o o' : Cm) (hK : KE g X) (hu : X.A.units + 65 < cLine) (hm : lastMarks [toCm o, toCm o'] [E2, E3] = false) (h1 : PE X E1 (tG g fa .v f1)) (h2 : PE X E2 (tG g fa .v f2)) (h3 : PE X E3 (tG g fa .v f3)) :
    PT X (.Compare E1 [toCm o, toCm o'] [E2, E3] pos) (tB1 g fa fun ρ => ((f1 ρ).bind fun x => (f2 ρ).bind fun y => (cmp2 o x y).bind fun r => (boolD r).bind fun k => if k = true then (f3 ρ).bind fun z => cmp2 o' y z else .ret (.bool false)).bind truD) := by
  have e1 : OpR X (compareOp (toCm o)) (rCm g.P g.w g.K o) := cm_g hK hu o
  have e2 : OpR X (compareOp (toCm o')) (rCm g.P g.w g.K o') := cm_g hK hu o'
  refine pt_imp (pt_chain e1 e2 h1 h2 h3 hm) fun σ H Q ⟨H0, ρ, R, w⟩ => ⟨H0, ρ, R, (WP.bind.mp (WP.bind.mp w)).mono fun d w v H1' H1 x1 r1 => ⟨H1', ρ, R.ext x1, (WP.bind.mp w).mono fun e w u H2' H2 x2 r2 => ?_⟩⟩
  refine cm_ok x2.bs o (Rv.ext r1 x1.bs x2) r2 ((WP.bind.mp w).mono fun z q v' H3' H3 x3 r3 => ?_)
  cases z with
  | bool k =>
    have r3 : Rp g fa H3' v' (.bool k) := r3
    cases r3
    refine ⟨k, rfl, ?_⟩
    have q : WP (if k = true then (f3 ρ).bind fun z => cmp2 o' e z else .ret (.bool false)) _ := q
    have x13 := (x1.trans x2).trans x3
    cases k with
    | true =>
      rw [if_pos rfl] at q ⊢
      refine ⟨H3', ρ, R.ext x13, (WP.bind.mp q).mono fun z q w H4' H4 x4 r4 => ?_⟩
      refine cm_ok x4.bs o' (Rv.ext (Rv.ext r2 x2.bs x3) x3.bs x4) r4 ((cmp2_bool q).mono fun d q => ?_)
      obtain ⟨⟨k, rfl⟩, q⟩ := q
      intro v' H5' H5 x5 r5
      have r5 : Rp g fa H5' v' (.bool k) := r5
      cases r5
      exact ⟨k, rfl, q H5' H5 ((x13.trans x4).trans x5)⟩
    | false =>
      rw [if_neg (by intro z; cases z)] at q ⊢
      exact ⟨false, rfl, q H3' H3 x13⟩
  | _ => exact q.elim
theorem t_not (h : PT X E (tB1 g fa b1)) : PT X (.UnaryOp .Not E pos) (tB1 g fa fun ρ => ((b1 ρ).bind fun k => .ret (.bool !k)).bind truD) :=
  pt_imp (pt_not h) fun σ H Q ⟨H0, ρ, R, w⟩ => ⟨H0, ρ, R, (WP.bind.mp (WP.bind.mp w)).mono fun k w H1' H1 x1 => w H1' H1 x1⟩
theorem t_if (hc : PT X E3 (tB1 g fa b1)) {b2 b3 : Ev → M Bool} (h1 : PT X E1 (tB1 g fa b2)) (h2 : PT X E2 (tB1 g fa b3)) :
    PT X (.IfExp E3 E1 E2 pos) (tB1 g fa fun ρ => (b1 ρ).bind fun k => if k = true then b2 ρ else b3 ρ) := by
  refine ⟨fun ps s σ H Q I ⟨H0, ρ, R, w⟩ => ?_⟩
  show wpAny _ _ (do if ← isTrue E3 X.env (eval E3 X.env) then isTrue E1 X.env (eval E1 X.env) else isTrue E2 X.env (eval E2 X.env)) _ _ s
  refine wpAny_bind (thn (hc.run ps s σ H (fun k H1 => ∃ H1', Ext g fa H0 H H1' H1 ∧ WP (if k = true then b2 ρ else b3 ρ) fun k => ∀ H0' H', Ext g fa H0 H H0' H' → Q k H') I ⟨H0, ρ, R, (WP.bind.mp w).mono fun k w H1' H1 x1 => ⟨H1', x1, w⟩⟩) fun k s1 ⟨H1, I1, H1', x1, w⟩ => ?_)
  cases k with
  | true =>
    rw [if_pos rfl] at w ⊢
    exact h1.run ps s1 σ H1 Q I1 ⟨H1', ρ, R.ext x1, w.mono fun k q H2' H2 x2 => q H2' H2 (x1.trans x2)⟩
  | false =>
    rw [if_neg (by intro z; cases z)] at w ⊢
    exact h2.run ps s1 σ H1 Q I1 ⟨H1', ρ, R.ext x1, w.mono fun k q H2' H2 x2 => q H2' H2 (x1.trans x2)⟩
theorem t_and {rest : List Expr} (h1 : PT X E1 (tB1 g fa b1)) (h2 : PW X (.BoolOp .And (E2 :: rest) pos) (tB1 g fa b2)) :
    PW X (.BoolOp .And (E1 :: E2 :: rest) pos) (tB1 g fa fun ρ => (b1 ρ).bind fun k => if k = true then b2 ρ else .ret false) :=
  pw_imp (pw_and h1 h2) fun σ H Q ⟨H0, ρ, R, w⟩ => ⟨H0, ρ, R, (WP.bind.mp w).mono fun k w H1' H1 x1 => by
    cases k with
    | true =>
      rw [if_pos rfl] at w ⊢
      exact ⟨H1', ρ, R.ext x1, w.mono fun k q H2' H2 x2 => q H2' H2 (x1.trans x2)⟩
    | false =>
      rw [if_neg (by intro z; cases z)] at w ⊢
      exact w H1' H1 x1⟩
theorem t_or {rest : List Expr} (h1 : PT X E1 (tB1 g fa b1)) (h2 : PW X (.BoolOp .Or (E2 :: rest) pos) (tB1 g fa b2)) :
    PW X (.BoolOp .Or (E1 :: E2 :: rest) pos) (tB1 g fa fun ρ => (b1 ρ).bind fun k => if k = true then .ret true else b2 ρ) :=
  pw_imp (pw_or h1 h2) fun σ H Q ⟨H0, ρ, R, w⟩ => ⟨H0, ρ, R, (WP.bind.mp w).mono fun k w H1' H1 x1 => by
    cases k with
    | false =>
      rw [if_neg (by intro z; cases z)] at w ⊢
      exact ⟨H1', ρ, R.ext x1, w.mono fun k q H2' H2 x2 => q H2' H2 (x1.trans x2)⟩
    | true =>
      rw [if_pos rfl] at w ⊢
      exact w H1' H1 x1⟩
theorem pt_weak {b b' : Ev → M Bool} (h : PT X E (tB1 g fa b)) (i : ∀ ρ Q, WP (b' ρ) Q → WP (b ρ) Q) : PT X E (tB1 g fa b') := pt_imp h fun σ H Q ⟨H0, ρ, R, w⟩ => ⟨H0, ρ, R, i ρ _ w⟩
theorem pw_weak {b b' : Ev → M Bool} (h : PW X E (tB1 g fa b)) (i : ∀ ρ Q, WP (b' ρ) Q → WP (b ρ) Q) : PW X E (tB1 g fa b') := pw_imp h fun σ H Q ⟨H0, ρ, R, w⟩ => ⟨H0, ρ, R, i ρ _ w⟩
end

/-! ### defs -/
/-- as the kit's FnOk, where no repr is under way -/
structure FnG (P : Program) (w : World) (K : PySem.W.Frag) (mg : Str → Option Value) (base : Heap) (k : Nat) (f : Addr) (fd : FuncData) (ps : List Str) (sp : Sp) : Prop where
  len : ∀ vs H Q E, sp vs H Q E → vs.length = ps.length
  run : ∀ (A : Around) (outer : List Env) (s : Shared) (H : Hp) (args : Args) (us : List Value) (vs : List V) (Q : VK) (E : XK), Room k A → A.guards = some [] → Env0 P w K mg base A outer s H → BindsTo s fd args (ps.zip us) → Vals vs us → sp vs H Q E →
    codeAny (model P w) A (.call (.ref f) args) (CR L2.CX0 outer P w H s Q E) s
/-- a def's promise by its meaning -/
def spD (g : Gc) (n : Nat) (f : List D → M D) : Sp := fun vs H Q _ => vs.length = n ∧ ∃ fa H0 ds, Bs g fa H0 H ∧ RpAll g fa H0 vs ds ∧ WP (f ds) fun d => ∀ v H0' H', Ext g fa H0 H H0' H' → Rp g fa H0' v d → Q v H'
/-- the k-th def of the table, by its name and parameters -/
structure FnIn (g : Gc) (F : Nat → List D → M D) (X : Cx) (lv k : Nat) (x : Str) (ps : List Str) : Prop where
  ex : ∃ (a : Addr) (fd : FuncData) (j : Nat), j ≤ lv ∧ X.mg x = some (.ref a) ∧ PySem.W.keepIn X.K (.ref a) = true ∧ Binds X.K fd ps [] ∧ g.fn k = some a ∧ FnG X.prog X.w X.K X.mg X.base j a fd ps (spD g ps.length (F k))
  ln : ∀ ds Q, WP (F k ds) Q → ds.length = ps.length
section
variable {X : Cx} {g : Gc} {fa : Option Addr} {F : Nat → List D → M D} {lv k : Nat} {x : Str} {ps : List Str} {pos p : Pos}
theorem run_g {pins : List (Addr × Obj)} {σ : L2.St} {H : Hp} {s : Shared} {Q : VK} {us : List Value} {vs : List V} {f : Addr} {fd : FuncData} {sp : Sp} (G : FnG X.prog X.w X.K X.mg X.base k f fd ps sp) (hr : Room k X.A) (hgd : X.A.guards = some []) (hb : Binds X.K fd ps [])
    (I : Inv X pins σ H s) (r : Vals vs us) (h : sp vs H Q E0) : wpAny (model X.prog X.w) X.A (call (.ref f) us) (EP X pins σ Q) X.xe s := by
  have hl : us.length = ps.length := by rw [← r.length]; exact G.len _ _ _ _ h
  have hb' := hb s us I.kIn (by rw [List.append_nil]; exact hl)
  rw [List.append_nil] at hb'
  refine wpAny_call (codeAny_mono (G.run X.A X.stack s H ⟨us, []⟩ us vs Q E0 hr hgd I.env0 hb' r h) fun r s' hq => ?_)
  cases r with
  | error e => exact False.elim hq
  | ok fl =>
    cases fl with
    | ret u => exact I.after hq
    | next => exact False.elim hq
    | brk => exact False.elim hq
    | cont => exact False.elim hq
theorem s_call {E : Expr} {es : List Expr} {f : Ev → M D} (G : FnIn g F X lv k x ps) (hr : Room lv X.A) (hgd : X.A.guards = some []) (hg : Gl X x) (ha : PA X (E :: es) (tArg g fa f)) (hdb : (x == ("__debug__" : Str)) = false)
    (he : starEach (E :: es) X.env = (false, eval E X.env) :: starEach es X.env) (hpl : (backTo pos (starEach es X.env)).any (·.1) = false) :
    PE X (.Call (.Name x p) (E :: es) [] pos) (tG g fa .p fun ρ => (f ρ).bind fun y => (lstD y).bind fun ds => F k ds) := by
  obtain ⟨⟨a, fd, j, hj, hm, hk, hb, hfn, G⟩, ln⟩ := G
  refine ⟨fun pins s σ H Q I ⟨H0, ρ, R, w⟩ => ?_⟩
  refine wpAny_Call_Name_kw (ld_glob I hg hm ?_ hdb)
  refine PySem.W.callWith_K (h₀ := X.base) I.ok.mod.kin hk (thn (ha.run pos pins s σ H (fun vs H1 => spD g ps.length (F k) vs H1 Q E0) I ⟨H0, ρ, R, (WP.bind.mp w).mono fun d w vs ds H1' H1 hd x1 r1 => ?_⟩) fun us s1 ⟨vs, H1, I1, r, q⟩ => ⟨I1.kIn, run_g G (hr.mono hj) hgd hb I1 r q⟩) he hpl
  subst hd
  have w : WP (F k ds) _ := w
  exact ⟨by rw [r1.len]; exact ln _ _ w, fa, H1', ds, x1.bs, r1, w.mono fun d q v H0' H' x r => q v H0' H' (x1.trans x) r⟩
theorem s_call0 (G : FnIn g F X lv k x ps) (hr : Room lv X.A) (hgd : X.A.guards = some []) (hg : Gl X x) (hdb : (x == ("__debug__" : Str)) = false) :
    PE X (.Call (.Name x p) [] [] pos) (tG g fa .p fun ρ => F k []) := by
  obtain ⟨⟨a, fd, j, hj, hm, hk, hb, hfn, G⟩, ln⟩ := G
  refine ⟨fun pins s σ H Q I ⟨H0, ρ, R, w⟩ => ?_⟩
  refine wpAny_Call_Name_kw (ld_glob I hg hm ?_ hdb)
  refine PySem.W.callWith_K0 I.kIn hk (run_g (us := []) G (hr.mono hj) hgd hb I .nil ?_)
  exact ⟨ln _ _ w, fa, H0, [], R.bs, .nil, w⟩
/-- a def by its name, as a value -/
theorem s_fref {m : Md} (G : FnIn g F X lv k x ps) (hg : Gl X x) (hdb : (x == ("__debug__" : Str)) = false) : PE X (.Name x pos) (tG g fa m fun _ => .ret (fnD k)) := by
  obtain ⟨⟨a, fd, j, hj, hm, hk, hb, hfn, G⟩, ln⟩ := G
  exact s_const (pe_glob hg hm (v := .ref a) rfl hdb) (fun H => .fn hfn) (fun _ z => by cases z)
theorem fnOfD_ok {d : D} {Q : Nat → Prop} (w : WP (fnOfD d) Q) : ∃ k, d = fnD k ∧ Q k := by
  unfold fnOfD at w
  split at w
  next k =>
    obtain ⟨hc, w⟩ := wp_need w
    refine ⟨k.toNat, ?_, w⟩
    unfold fnD
    rw [Int.toNat_of_nonneg (of_decide_eq_true hc)]
  next => exact w.elim
theorem rp_fn {H0 : Hp} {v : V} {d : D} {k : Nat} (r : Rp g fa H0 v d) (e : d = fnD k) : ∃ a, v = .ref a ∧ g.fn k = some a := by
  cases r with
  | feed h => unfold feedD fnD at e; cases e
  | @fn a k' h =>
    unfold fnD at e
    have e2 : k' = k := by injection e with h1; injection h1 with h2; injection h2 with h3 h4; injection h4 with h5; exact Int.ofNat.inj h5
    subst e2
    exact ⟨a, rfl, h⟩
  | @dct _ _ ds _ _ _ _ => unfold fnD dctD at e; injection e with e; cases ds <;> simp at e
  | _ => unfold fnD at e; cases e
/-- a call of a local name that holds a def -/
theorem s_callv {i : Nat} {E : Expr} {es : List Expr} {f : Ev → M D} (G : ∀ k a, g.fn k = some a → ∃ (fd : FuncData) (j : Nat) (ps : List Str), j ≤ lv ∧ PySem.W.keepIn X.K (.ref a) = true ∧ Binds X.K fd ps [] ∧ FnG X.prog X.w X.K X.mg X.base j a fd ps (spD g ps.length (F k)) ∧ ∀ ds Q, WP (F k ds) Q → ds.length = ps.length)
    (hr : Room lv X.A) (hgd : X.A.guards = some []) (hN : X.N[i]? = some x) (hv : Vis X.env.scope x) (ha : PA X (E :: es) (tArg g fa f)) (hdb : (x == ("__debug__" : Str)) = false) (hcd : (x == ("__classdict__" : Str)) = false)
    (he : starEach (E :: es) X.env = (false, eval E X.env) :: starEach es X.env) (hpl : (backTo pos (starEach es X.env)).any (·.1) = false) :
    PE X (.Call (.Name x p) (E :: es) [] pos) (tG g fa .p fun ρ => (gs ρ i).bind fun v => (fnOfD v).bind fun k => (f ρ).bind fun y => (lstD y).bind fun ds => F k ds) := by
  refine ⟨fun pins s σ H Q I ⟨H0, ρ, R, w⟩ => ?_⟩
  obtain ⟨d, e, w⟩ := gs_ok (WP.bind.mp w)
  obtain ⟨v, hv1, sv⟩ := R.slot i _ e
  obtain ⟨k, rfl, w2⟩ := fnOfD_ok (WP.bind.mp w)
  have hr1 : ∃ a, v = .ref a ∧ g.fn k = some a := by
    have sv : Rp g fa H0 v (fnD k) := sv
    exact rp_fn sv rfl
  obtain ⟨a, rfl, hfn⟩ := hr1
  obtain ⟨fd, j, ps, hj, hk, hb, G, ln⟩ := G k a hfn
  refine wpAny_Call_Name_kw (thn ((pe_var hN hv hdb hcd).run pins s σ H (fun v H1 => v = .ref a ∧ H1 = H) I ⟨_, hv1, rfl, rfl⟩) fun u s1 ⟨v, H1, I1, r1, e1, e2⟩ => ?_)
  subst e1 e2
  cases r1
  refine PySem.W.callWith_K (h₀ := X.base) I1.ok.mod.kin hk (thn (ha.run pos pins s1 σ H1 (fun vs H1 => spD g ps.length (F k) vs H1 Q E0) I1 ⟨H0, ρ, R, (WP.bind.mp w2).mono fun d w vs ds H1' H2 hd x1 r1 => ?_⟩) fun us s2 ⟨vs, H2, I2, r, q⟩ => ⟨I2.kIn, run_g G (hr.mono hj) hgd hb I2 r q⟩) he hpl
  subst hd
  have w : WP (F k ds) _ := w
  exact ⟨by rw [r1.len]; exact ln _ _ w, fa, H1', ds, x1.bs, r1, w.mono fun d q v H0' H' x r => q v H0' H' (x1.trans x) r⟩

/-! ### the feed -/
def fkAt (f : Str × Str × Str × Str) : Nat → Option Str
  | 1 => some f.2.1
  | 2 => some f.2.2.1
  | 3 => some f.2.2.2
  | _ => none
structure FkOk (f : Str × Str × Str × Str) : Prop where
  a : f.1 ≠ f.2.1
  b : f.1 ≠ f.2.2.1
  c : f.1 ≠ f.2.2.2
  d : f.2.1 ≠ f.2.2.1
  e : f.2.1 ≠ f.2.2.2
  f : f.2.2.1 ≠ f.2.2.2
theorem cellsOf_ok {d : D} {Q : List D → Prop} (w : WP (cellsOf d) Q) : ∃ l, d = .dict [(.none, .list l)] ∧ Q l := by
  unfold cellsOf at w
  split at w
  · exact ⟨_, rfl, w⟩
  · exact w.elim
theorem rp_feed {H0 : Hp} {v : V} {d : D} {l : List D} (r : Rp g fa H0 v d) (e : d = .dict [(.none, .list l)]) : ∃ a, v = .ref a ∧ fa = some a ∧ l = g.ns.map .int := by
  cases r with
  | feed h =>
    unfold feedD at e
    injection e with h1
    injection h1 with h2
    injection h2 with h3 h4
    injection h4 with h5
    exact ⟨_, rfl, h, h5.symm⟩
  | fn h => unfold fnD at e; cases e
  | @dct _ _ ds _ _ _ _ => unfold dctD at e; injection e with e; cases ds <;> simp at e
  | _ => cases e
theorem inr_ne {a b : Str} (h : a ≠ b) : ¬ (Sum.inr a : Key) = .inr b := fun z => h (Sum.inr.inj z)
theorem feed_get {H0 H : Hp} {a : Addr} {q : Nat} {k : Str} (b : Bs g fa H0 H) (hf : fa = some a) (ok : FkOk g.fk) (hk : fkAt g.fk q = some k) : ∃ i, DGet H a (.str k) (some (.int i)) := by
  obtain ⟨⟨ca, _, x, y, z, h, _⟩, _⟩ := b.fd a hf
  have hd := DGet.k (k := .inr k) h
  unfold fkAt at hk
  split at hk
  · cases hk
    rw [valV_neg (inr_ne ok.a), valV_pos rfl] at hd
    exact ⟨x, hd⟩
  · cases hk
    rw [valV_neg (inr_ne ok.b), valV_neg (inr_ne ok.d), valV_pos rfl] at hd
    exact ⟨y, hd⟩
  · cases hk
    rw [valV_neg (inr_ne ok.c), valV_neg (inr_ne ok.e), valV_neg (inr_ne ok.f), valV_pos rfl] at hd
    exact ⟨z, hd⟩
  · cases hk
theorem feed_cells {H0 H : Hp} {a : Addr} (b : Bs g fa H0 H) (hf : fa = some a) : ∃ ca, DGet H a (.str g.fk.1) (some (.ref ca)) ∧ H0 ca = some (.lst (g.ns.map V.int)) := by
  obtain ⟨⟨ca, _, x, y, z, h, hc⟩, _⟩ := b.fd a hf
  have hd := DGet.k (k := .inr g.fk.1) h
  rw [valV_pos rfl] at hd
  exact ⟨ca, hd, hc⟩
theorem feed_put {H0 H : Hp} {a : Addr} {q : Nat} {k : Str} (i : Int) (b : Bs g fa H0 H) (hf : fa = some a) (ok : FkOk g.fk) (hk : fkAt g.fk q = some k) : ∃ H', DPut H a (.str k) (.int i) H' ∧ Ext g fa H0 H H0 H' := by
  obtain ⟨⟨ca, u, x, y, z, h, hc⟩, hn⟩ := b.fd a hf
  have key : ∃ x' y' z' : Int, putK [(Sum.inr g.fk.1, V.ref ca), (.inr g.fk.2.1, .int x), (.inr g.fk.2.2.1, .int y), (.inr g.fk.2.2.2, .int z)] (.inr k : Key) (.int i) = [(.inr g.fk.1, .ref ca), (.inr g.fk.2.1, .int x'), (.inr g.fk.2.2.1, .int y'), (.inr g.fk.2.2.2, .int z')] := by
    have a1 := inr_ne ok.a; have a2 := inr_ne ok.b; have a3 := inr_ne ok.c; have a4 := inr_ne ok.d; have a5 := inr_ne ok.e; have a6 := inr_ne ok.f
    have b4 := inr_ne ok.d.symm; have b5 := inr_ne ok.e.symm; have b6 := inr_ne ok.f.symm
    unfold fkAt at hk
    split at hk
    · cases hk; exact ⟨i, y, z, by unfold putK; rw [if_pos (by simp)]; simp only [List.map_cons, List.map_nil, if_neg a1, if_neg b4, if_neg b5, if_true]⟩
    · cases hk; exact ⟨x, i, z, by unfold putK; rw [if_pos (by simp)]; simp only [List.map_cons, List.map_nil, if_neg a2, if_neg a4, if_neg b6, if_true]⟩
    · cases hk; exact ⟨x, y, i, by unfold putK; rw [if_pos (by simp)]; simp only [List.map_cons, List.map_nil, if_neg a3, if_neg a5, if_neg a6, if_true]⟩
    · cases hk
  obtain ⟨x', y', z', e⟩ := key
  refine ⟨_, DPut.k (k := .inr k) h (by rw [sizeLine_eq]; exact (by decide : (4 : Nat) < 16777216)), ⟨⟨fun c o hc' => ?_, fun c hc' => ?_⟩, fun _ _ z => z, fun c o hc' z => ?_, fun _ z => .inl z⟩⟩
  · have hca : c ≠ a := by rintro rfl; rw [hn] at hc'; cases hc'
    show upd H a _ c = some o
    unfold upd
    rw [if_neg hca]
    exact b.sub c o hc'
  · rw [hf] at hc'
    cases hc'
    refine ⟨⟨ca, u, x', y', z', ?_, hc⟩, hn⟩
    unfold upd
    rw [if_pos rfl, e]
  · have hca : c ≠ a := by rintro rfl; exact hc' hf
    unfold upd
    rw [if_neg hca]
    exact z
theorem s_fld {i q : Nat} {y : Str} {j : Nat} {p2 : Pos} (hu : X.A.units + 1 < cLine) (ok : FkOk g.fk) (hk : fkAt g.fk q = some y) (hN : X.N[i]? = some x) (hv : Vis X.env.scope x) (h1 : (x == ("__debug__" : Str)) = false) (h2 : (x == ("__classdict__" : Str)) = false) :
    PE X (.Subscript (.Name x p) (.Constant (.str y) j p2) pos) (tG g fa .p fun ρ => (gs ρ i).bind fun d => (cellsOf d).bind fun _ => .any fun n => .ret (.int n)) :=
  pe_imp (pe_dget hu (pe_var hN hv h1 h2) pe_str fun _ _ => rfl) fun σ H Q ⟨H0, ρ, R, w⟩ => by
    obtain ⟨d, e, w⟩ := gs_ok (WP.bind.mp w)
    obtain ⟨v, hv, s⟩ := R.slot i _ e
    obtain ⟨l, ed, w⟩ := cellsOf_ok (WP.bind.mp w)
    have s : Rp g fa H0 v d := s
    obtain ⟨a, rfl, hf, el⟩ := rp_feed s ed
    obtain ⟨n, hd⟩ := feed_get R.bs hf ok hk
    exact ⟨_, hv, a, _, rfl, hd, w n (.int n) H0 H (Ext.refl R.bs) (Rel.p (.inr fun _ z => by cases z) (.int n))⟩
theorem s_fcl {i : Nat} {j : Nat} {p2 : Pos} (hu : X.A.units + 1 < cLine) (hN : X.N[i]? = some x) (hv : Vis X.env.scope x) (h1 : (x == ("__debug__" : Str)) = false) (h2 : (x == ("__classdict__" : Str)) = false) :
    PE X (.Subscript (.Name x p) (.Constant (.str g.fk.1) j p2) pos) (tG g fa .p fun ρ => (gs ρ i).bind fun d => (cellsOf d).bind fun l => .ret (.list l)) :=
  pe_imp (pe_dget hu (pe_var hN hv h1 h2) pe_str fun _ _ => rfl) fun σ H Q ⟨H0, ρ, R, w⟩ => by
    obtain ⟨d, e, w⟩ := gs_ok (WP.bind.mp w)
    obtain ⟨v, hv, s⟩ := R.slot i _ e
    obtain ⟨l, ed, w⟩ := cellsOf_ok (WP.bind.mp w)
    have s : Rp g fa H0 v d := s
    obtain ⟨a, rfl, hf, el⟩ := rp_feed s ed
    subst el
    obtain ⟨ca, hd, hc⟩ := feed_cells R.bs hf
    have ri : ∀ ns : List Int, RpAll g fa H0 (ns.map V.int) (ns.map .int) := fun ns => by
      induction ns with
      | nil => exact .nil
      | cons n r ih => exact .cons (.int n) ih
    exact ⟨_, hv, a, _, rfl, hd, w (.ref ca) H0 H (Ext.refl R.bs) (.lst hc (ri _))⟩

/-! ### keywords alone -/
/-- how a call by keywords binds -/
def KBd (K : PySem.W.Frag) (fd : FuncData) (ps ks : List Str) (p : List Nat) : Prop := ∀ (s : Shared) (ws zs : List Value), K.In s.heap → ws.length = ks.length → p.mapM (ws[·]?) = some zs → BindsTo s fd ⟨[], ks.zip ws⟩ (ps.zip zs)
theorem k_nil : PK X [] (tArg g fa fun _ => .ret (.list [])) := ⟨fun pos ps s σ H Q I ⟨H0, ρ, R, w⟩ => pk_nil.run pos ps s σ H Q I (w [] [] H0 H rfl (Ext.refl R.bs) .nil)⟩
theorem k_cons {E : Expr} {kws : List Keyword} {f1 f2 : Ev → M D} {nm : Option Str} {kp : Pos} (h1 : PE X E (tG g fa .p f1)) (h2 : PK X kws (tArg g fa f2)) :
    PK X (⟨nm, E, kp⟩ :: kws) (tArg g fa fun ρ => (f1 ρ).bind fun d => (f2 ρ).bind fun x => (lstD x).bind fun ds => .ret (.list (d :: ds))) :=
  ⟨fun pos pins s σ H Q I ⟨H0, ρ, R, w⟩ => (pk_cons h1 h2).run pos pins s σ H Q I ⟨H0, ρ, R, (WP.bind.mp w).mono fun d w v H1' H1 x1 r1 => ⟨H1', ρ, R.ext x1, (WP.bind.mp w).mono fun e w vs ds H2' H2 he x2 r2 => by
    subst he
    exact w (v :: vs) (d :: ds) H2' H2 rfl (x1.trans x2) (.cons (Rp.mono x2.lo r1) r2)⟩⟩⟩
theorem permD_ok {vs : List D} {p : List Nat} {Q : List D → Prop} (w : WP (permD vs p) Q) : ∃ ws, p.mapM (vs[·]?) = some ws ∧ Q ws := by
  unfold permD at w
  split at w
  · exact ⟨_, by assumption, w⟩
  · exact w.elim
theorem perm_vals : ∀ {p : List Nat} {vs : List V} {us : List Value} {ds es : List D} {H : Hp}, Vals vs us → RpAll g fa H vs ds → p.mapM (ds[·]?) = some es → ∃ vs' us', p.mapM (us[·]?) = some us' ∧ Vals vs' us' ∧ RpAll g fa H vs' es
  | [], vs, us, ds, es, H, r, ra, e => by
    simp at e
    subst e
    exact ⟨[], [], rfl, .nil, .nil⟩
  | i :: p, vs, us, ds, es, H, r, ra, e => by
    rw [List.mapM_cons] at e
    cases e1 : ds[i]? with
    | none => rw [e1] at e; cases e
    | some d =>
      rw [e1] at e
      cases e2 : p.mapM (ds[·]?) with
      | none => rw [e2] at e; cases e
      | some es' =>
        rw [e2] at e
        cases e
        obtain ⟨v, hv, rv⟩ := ra.get' e1
        obtain ⟨vs', us', h1, h2, h3⟩ := perm_vals r ra e2
        obtain ⟨u, hu, ru⟩ := Vals.get r hv
        refine ⟨v :: vs', u :: us', ?_, .cons ru h2, .cons rv h3⟩
        rw [List.mapM_cons, hu, h1]
        rfl
theorem s_callk {fd : FuncData} {a : Addr} {j : Nat} {kws : List Keyword} {ks : List Str} {pm : List Nat} {f : Ev → M D} (hj : j ≤ lv) (hm : X.mg x = some (.ref a)) (hk : PySem.W.keepIn X.K (.ref a) = true) (G : FnG X.prog X.w X.K X.mg X.base j a fd ps (spD g ps.length (F k)))
    (ln : ∀ ds Q, WP (F k ds) Q → ds.length = ps.length) (hb : KBd X.K fd ps ks pm) (hr : Room lv X.A) (hgd : X.A.guards = some []) (hg : Gl X x) (hdb : (x == ("__debug__" : Str)) = false) (ha : PK X kws (tArg g fa f)) (hl : ∀ ρ Q, WP (f ρ) Q → WP (f ρ) fun d => Q d ∧ ∀ ds, d = .list ds → ds.length = ks.length)
    (hks : kws.map (·.arg) = ks.map some) : PE X (.Call (.Name x p) [] kws pos) (tG g fa .p fun ρ => (f ρ).bind fun y => (lstD y).bind fun vs => (permD vs pm).bind fun ds => F k ds) := by
  have h1 : (backToKw pos (keywordEach kws X.env)).map (·.1) = ks.map some := by
    rw [← hks]
    clear ha hks
    induction kws with
    | nil => rfl
    | cons q r ih => obtain ⟨n, e, p'⟩ := q; show n :: (backToKw pos (keywordEach r X.env)).map (·.1) = _; rw [ih]; rfl
  have h2 : (backToKw pos (keywordEach kws X.env)).all (·.1.isSome) = true := by
    rw [List.all_eq_true]
    intro q hq
    have : q.1 ∈ ks.map some := h1 ▸ List.mem_map_of_mem hq
    obtain ⟨z, _, e⟩ := List.mem_map.mp this
    rw [← e]; rfl
  have h3 : (backToKw pos (keywordEach kws X.env)).any (·.1.isNone) = false := by
    rw [List.any_eq_false]
    intro q hq
    have : q.1 ∈ ks.map some := h1 ▸ List.mem_map_of_mem hq
    obtain ⟨z, _, e⟩ := List.mem_map.mp this
    rw [← e]; simp
  have h4 : (backToKw pos (keywordEach kws X.env)).filterMap (·.1) = ks := by
    have : ∀ l : List (Option Str × Sem Value), l.filterMap (·.1) = (l.map (·.1)).filterMap id := fun l => by rw [List.filterMap_map]; rfl
    rw [this, h1, List.filterMap_map]
    simp
  refine ⟨fun pins s σ H Q I ⟨H0, ρ, R, w⟩ => ?_⟩
  refine wpAny_Call_Name_kw (ld_glob I hg hm ?_ hdb)
  refine PySem.W.callWith_KW0 (h₀ := X.base) I.ok.mod.kin hk h2 (thn (ha.run pos pins s σ H (fun vs H1 => vs.length = ks.length ∧ ∃ H1' ds es, Bs g fa H1' H1 ∧ RpAll g fa H1' vs ds ∧ pm.mapM (ds[·]?) = some es ∧ WP (F k es) fun d => ∀ v H0' H', Ext g fa H1' H1 H0' H' → Rp g fa H0' v d → Q v H') I
    ⟨H0, ρ, R, (hl ρ _ (WP.bind.mp w)).mono fun d ⟨w, hlen⟩ vs ds H1' H1 hd x1 r1 => ?_⟩) fun us s1 ⟨vs, H1, I1, r, q⟩ => ⟨I1.kIn, ?_⟩) (by rw [h3]; rfl)
  · subst hd
    obtain ⟨es, e1, w⟩ := permD_ok (WP.bind.mp w)
    exact ⟨by rw [r1.len]; exact hlen _ rfl, H1', ds, es, x1.bs, r1, e1, w.mono fun d q v H0' H' x r => q v H0' H' (x1.trans x) r⟩
  · obtain ⟨hlen, H1', ds, es, bs, r1, e1, w⟩ := q
    obtain ⟨vs', us', g1, g2, g3⟩ := perm_vals r r1 e1
    rw [h4]
    have hes := ln _ _ w
    refine wpAny_call (codeAny_mono (G.run X.A X.stack s1 H1 ⟨[], ks.zip us⟩ us' vs' Q E0 (hr.mono hj) hgd I1.env0 (hb s1 us us' I1.kIn (by rw [← r.length]; exact hlen) g1) g2 ⟨by rw [g3.len]; exact hes, fa, H1', es, bs, g3, w⟩) fun r s' hq => ?_)
    cases r with
    | error e => exact False.elim hq
    | ok fl =>
      cases fl with
      | ret u => exact I1.after hq
      | next => exact False.elim hq
      | brk => exact False.elim hq
      | cont => exact False.elim hq
end
end Pf
/-! PfH: stores, targets, walks, comprehensions. -/
namespace Pf
open PySem PySem.Spec PyProof.Rows L2

theorem clr_get {ρ : Ev} {k : Nat} {sv : SV} (h : (clr ρ)[k]? = some (some sv)) : ρ[k]? = some (some sv) ∧ ∀ d, sv ≠ .bor d := by
  unfold clr at h
  rw [List.getElem?_map] at h
  cases e : ρ[k]? with
  | none => rw [e] at h; cases h
  | some o =>
    rw [e] at h
    cases o with
    | none => cases h
    | some s =>
      cases s with
      | dat d => cases h; exact ⟨rfl, fun _ z => by cases z⟩
      | own d => cases h; exact ⟨rfl, fun _ z => by cases z⟩
      | bor d => cases h
theorem clr_own {ρ : Ev} {k : Nat} {d : D} (h : ρ[k]? = some (some (.own d))) : (clr ρ)[k]? = some (some (.own d)) := by
  unfold clr
  rw [List.getElem?_map, h]; rfl
theorem clr_len (ρ : Ev) : (clr ρ).length = ρ.length := by unfold clr; exact List.length_map _
section
variable {g : Gc} {fa : Option Addr} {H0 H H0' H' : Hp} {σ : L2.St} {ρ : Ev}
theorem RepS.clr (R : RepS g fa H0 H σ ρ) : RepS g fa H0 H σ (clr ρ) := R.weak (clr_len ρ) (fun i sv h => (clr_get h).1) fun i d h => absurd rfl ((clr_get h).2 d)
/-- a store into a slot on which no other one leans -/
theorem RepS.setAny (R : RepS g fa H0 H σ ρ) {i : Nat} {v : V} {sv : SV} (hb : ∀ (k : Nat) d, k ≠ i → ρ[k]? = some (some (.bor d)) → ∀ e, ρ[i]? ≠ some (some (.own e)))
    (hs : SlotOk g fa H0 H σ ρ v sv) (hn : ∀ d, sv = .bor d → ∀ e, ρ[i]? ≠ some (some (.own e)))
    (ho : ∀ d, sv = .own d → ∀ (j : Nat) e, j ≠ i → ρ[j]? = some (some (.own e)) → σ[j]? ≠ some (some v)) :
    RepS g fa H0 H (σ.set i (some v)) (ρ.set i (some sv)) := by
  have hl := R.len
  refine ⟨R.bs, by rw [List.length_set, List.length_set]; exact hl, fun k s e => ?_, fun k j d e u h1 h2 h3 h4 => ?_⟩
  · by_cases hk : i = k
    · subst hk
      by_cases hi : i < ρ.length
      · rw [List.getElem?_set_self hi] at e
        cases e
        refine ⟨v, by rw [List.getElem?_set_self (by omega)], ?_⟩
        cases sv with
        | dat d => exact hs
        | own d => exact hs
        | bor d =>
          rcases hs with hs | ⟨j, h1, h2⟩
          · exact .inl hs
          · refine .inr ⟨j, ?_, ?_⟩
            · by_cases hj : i = j
              · subst hj; exact absurd h2 (hn d rfl d)
              · rw [List.getElem?_set_ne hj]; exact h1
            · by_cases hj : i = j
              · subst hj; exact absurd h2 (hn d rfl d)
              · rw [List.getElem?_set_ne hj]; exact h2
      · rw [List.getElem?_eq_none (by rw [List.length_set]; omega)] at e; cases e
    · rw [List.getElem?_set_ne hk] at e
      obtain ⟨u, hu, q⟩ := R.slot k s e
      refine ⟨u, by rw [List.getElem?_set_ne hk]; exact hu, ?_⟩
      cases s with
      | dat d => exact q
      | own d => exact q
      | bor d =>
        rcases q with q | ⟨j, h1, h2⟩
        · exact .inl q
        · have hj : i ≠ j := fun z => by subst z; exact hb k d (fun z => hk z.symm) e d h2
          exact .inr ⟨j, by rw [List.getElem?_set_ne hj]; exact h1, by rw [List.getElem?_set_ne hj]; exact h2⟩
  · have nn : ∀ (k : Nat) d, k ≠ i → (ρ.set i (some sv))[k]? = some (some (SV.own d)) → ρ[k]? = some (some (SV.own d)) := fun k d hk h => by
      rw [List.getElem?_set_ne (fun z => hk z.symm)] at h; exact h
    have ns : ∀ (k : Nat) u, k ≠ i → (σ.set i (some v))[k]? = some (some u) → σ[k]? = some (some u) := fun k u hk h => by
      rw [List.getElem?_set_ne (fun z => hk z.symm)] at h; exact h
    have at_ : ∀ {d : D} {u : V}, (ρ.set i (some sv))[i]? = some (some (SV.own d)) → (σ.set i (some v))[i]? = some (some u) → sv = .own d ∧ u = v := fun {d u} h h' => by
      by_cases hi : i < ρ.length
      · rw [List.getElem?_set_self hi] at h
        rw [List.getElem?_set_self (by omega)] at h'
        exact ⟨by simpa using h, by simpa using h'.symm⟩
      · rw [List.getElem?_eq_none (by rw [List.length_set]; omega)] at h; cases h
    by_cases hk : k = i
    · subst hk
      by_cases hj : j = k
      · exact hj.symm
      · obtain ⟨e1, e2⟩ := at_ h1 h3
        subst e2
        exact absurd (ns j _ hj h4) (ho d e1 j e hj (nn j e hj h2))
    · by_cases hj : j = i
      · subst hj
        obtain ⟨e1, e2⟩ := at_ h2 h4
        subst e2
        exact absurd (ns k _ hk h3) (ho e e1 k d hk (nn k d hk h1))
      · exact R.own k j d e u (nn k d hk h1) (nn j e hj h2) (ns k u hk h3) (ns j u hj h4)
/-- x = data -/
theorem RepS.put (R : RepS g fa H0 H σ ρ) (i : Nat) {v : V} {sv : SV} (hs : SlotOk g fa H0 H σ (Pf.clr ρ) v sv) (hb : ∀ d, sv = .bor d → ∀ e, ρ[i]? ≠ some (some (.own e)))
    (ho : ∀ d, sv = .own d → ∀ (j : Nat) e, j ≠ i → ρ[j]? = some (some (.own e)) → σ[j]? ≠ some (some v)) : RepS g fa H0 H (σ.set i (some v)) (put ρ i sv) := by
  have hc : ∀ sv, SlotOk g fa H0 H σ (Pf.clr ρ) v sv → SlotOk g fa H0 H σ ρ v sv := fun sv h => by
    cases sv with
    | dat d => exact h
    | own d => exact h
    | bor d =>
      rcases h with h | ⟨j, h1, h2⟩
      · exact .inl h
      · exact .inr ⟨j, h1, (clr_get h2).1⟩
  unfold Pf.put
  split
  · rename_i e he
    refine R.clr.setAny (fun k d hk h => absurd rfl ((clr_get h).2 d)) hs (fun d e1 => absurd he (hb d e1 e)) fun d e1 j e hj h2 => ho d e1 j e hj (clr_get h2).1
  · rename_i hn
    exact R.setAny (fun k d hk h e h2 => hn e h2) (hc sv hs) (fun d e1 e h2 => hn e h2) ho
theorem RepS.putD (R : RepS g fa H0 H σ ρ) (i : Nat) {v : V} {d : D} (r : Rp g fa H0 v d) : RepS g fa H0 H (σ.set i (some v)) (Pf.put ρ i (.dat d)) :=
  R.put i r (fun _ z => by cases z) fun _ z => by cases z
theorem RepS.putO (R : RepS g fa H0 H σ ρ) (i : Nat) {a : Addr} {d : D} (o : OwnAt g fa H0 H a d) (hn : ∀ (j : Nat) e b, ρ[j]? = some (some (.own e)) → σ[j]? = some (some (.ref b)) → b ≠ a) : RepS g fa H0 H (σ.set i (some (.ref a))) (Pf.put ρ i (.own d)) :=
  R.put i ⟨a, rfl, o⟩ (fun _ z => by cases z) fun _ _ j e _ h1 h2 => hn j e a h1 h2 rfl
/-- slots forgotten -/
theorem wip_get {ρ : Ev} {k : Nat} {sv : SV} : ∀ {vs : List Nat}, (wip ρ vs)[k]? = some (some sv) → ρ[k]? = some (some sv) ∧ k ∉ vs
  | [], h => ⟨h, by simp⟩
  | v :: vs, h => by
    unfold wip at h
    by_cases hv : v = k
    · subst hv
      by_cases hi : v < (wip ρ vs).length
      · rw [List.getElem?_set_self hi] at h; cases h
      · rw [List.getElem?_eq_none (by rw [List.length_set]; omega)] at h; cases h
    · rw [List.getElem?_set_ne hv] at h
      obtain ⟨h1, h2⟩ := wip_get h
      exact ⟨h1, by simp only [List.mem_cons, not_or]; exact ⟨fun z => hv z.symm, h2⟩⟩
theorem wip_of {ρ : Ev} {k : Nat} {o : Option SV} : ∀ {vs : List Nat}, ρ[k]? = some o → k ∉ vs → (wip ρ vs)[k]? = some o
  | [], h, _ => h
  | v :: vs, h, hn => by
    simp only [List.mem_cons, not_or] at hn
    unfold wip
    rw [List.getElem?_set_ne (fun z => hn.1 z.symm)]
    exact wip_of h hn.2
theorem wip_len (ρ : Ev) : ∀ vs : List Nat, (wip ρ vs).length = ρ.length
  | [] => rfl
  | v :: vs => by unfold wip; rw [List.length_set, wip_len ρ vs]
theorem wipe_of {σ : L2.St} {k : Nat} {o : Option V} : ∀ {vs : List Nat}, σ[k]? = some o → k ∉ vs → (wipe σ vs)[k]? = some o
  | [], h, _ => h
  | v :: vs, h, hn => by
    simp only [List.mem_cons, not_or] at hn
    unfold wipe
    rw [List.getElem?_set_ne (fun z => hn.1 z.symm)]
    exact wipe_of h hn.2
theorem RepS.wipe (R : RepS g fa H0 H σ ρ) {vs : List Nat} (hd : datOnly ρ vs = true) : RepS g fa H0 H (L2.wipe σ vs) (wip ρ vs) := by
  have hno : ∀ (j : Nat) d, ρ[j]? = some (some (.own d)) → j ∉ vs := fun j d h hj => by
    have := List.all_eq_true.mp hd j hj
    rw [h] at this
    cases this
  refine ⟨R.bs, by rw [wipe_length, wip_len]; exact R.len, fun k sv e => ?_, fun k j d e v h1 h2 h3 h4 => ?_⟩
  · obtain ⟨e1, hk⟩ := wip_get e
    obtain ⟨v, hv, s⟩ := R.slot k sv e1
    refine ⟨v, wipe_of hv hk, ?_⟩
    cases sv with
    | dat d => exact s
    | own d => exact s
    | bor d =>
      rcases s with s | ⟨j, h1, h2⟩
      · exact .inl s
      · exact .inr ⟨j, wipe_of h1 (hno j d h2), wip_of h2 (hno j d h2)⟩
  · exact R.own k j d e v (wip_get h1).1 (wip_get h2).1 (wipe_some h3).1 (wipe_some h4).1
end
/-- σ2 is σ outside of vs -/
def Off (vs : List Nat) (σ σ2 : L2.St) : Prop := σ2.length = σ.length ∧ ∀ i, i ∉ vs → σ2[i]? = σ[i]?
theorem Off.refl {vs : List Nat} {σ : L2.St} : Off vs σ σ := ⟨rfl, fun _ _ => rfl⟩
theorem Off.trans {vs : List Nat} {σ σ2 σ3 : L2.St} (a : Off vs σ σ2) (b : Off vs σ2 σ3) : Off vs σ σ3 := ⟨b.1.trans a.1, fun i h => (b.2 i h).trans (a.2 i h)⟩
theorem Off.set {vs : List Nat} {σ : L2.St} {i : Nat} {o : Option V} (h : i ∈ vs) : Off vs σ (σ.set i o) := ⟨List.length_set .., fun k hk => List.getElem?_set_ne (fun z : i = k => hk (by rw [← z]; exact h))⟩
theorem wipe_at {σ : L2.St} {k : Nat} : ∀ {vs : List Nat}, k ∉ vs → (wipe σ vs)[k]? = σ[k]?
  | [], _ => rfl
  | v :: vs, hn => by
    simp only [List.mem_cons, not_or] at hn
    unfold wipe
    rw [List.getElem?_set_ne (fun z => hn.1 z.symm)]
    exact wipe_at hn.2
theorem wipe_in {σ : L2.St} {k : Nat} : ∀ {vs : List Nat}, k ∈ vs → k < σ.length → (wipe σ vs)[k]? = some none
  | v :: vs, h, hl => by
    unfold wipe
    by_cases hv : v = k
    · subst hv
      rw [List.getElem?_set_self (by rw [wipe_length]; exact hl)]
    · rw [List.getElem?_set_ne hv]
      rcases List.mem_cons.mp h with h | h
      · exact absurd h.symm hv
      · exact wipe_in h hl
theorem Off.wipe {vs : List Nat} {σ σ2 : L2.St} (h : Off vs (L2.wipe σ vs) σ2) : L2.wipe σ2 vs = L2.wipe σ vs := by
  have hl : σ2.length = σ.length := by rw [h.1, wipe_length]
  apply List.ext_getElem?
  intro k
  by_cases hk : k ∈ vs
  · by_cases hs : k < σ.length
    · rw [wipe_in hk hs, wipe_in hk (by omega)]
    · rw [List.getElem?_eq_none (by rw [wipe_length]; omega), List.getElem?_eq_none (by rw [wipe_length]; omega)]
  · rw [wipe_at hk, wipe_at hk, h.2 k hk, wipe_at hk]

section
variable {σ σ' : L2.St} {ρ ρ' : Ev}
/-- own slots of the second are own slots of the first -/
def Kp (σ : L2.St) (ρ : Ev) (σ' : L2.St) (ρ' : Ev) : Prop := ∀ (j : Nat) e, ρ'[j]? = some (some (SV.own e)) → ρ[j]? = some (some (SV.own e)) ∧ σ'[j]? = σ[j]?
theorem Kp.refl : Kp σ ρ σ ρ := fun _ _ h => ⟨h, rfl⟩
theorem Kp.trans {σ2 : L2.St} {ρ2 : Ev} (a : Kp σ ρ σ' ρ') (b : Kp σ' ρ' σ2 ρ2) : Kp σ ρ σ2 ρ2 := fun j e h => ⟨(a j e (b j e h).1).1, ((b j e h).2).trans (a j e (b j e h).1).2⟩
theorem put_own {ρ : Ev} {i j : Nat} {sv : SV} {e : D} (hs : ∀ d, sv ≠ .own d) (h : (put ρ i sv)[j]? = some (some (.own e))) : ρ[j]? = some (some (.own e)) ∧ j ≠ i := by
  have key : ∀ ρ1 : Ev, ((∀ k d, ρ1[k]? = some (some (SV.own d)) → ρ[k]? = some (some (SV.own d))) → (ρ1.set i (some sv))[j]? = some (some (.own e)) → ρ[j]? = some (some (.own e)) ∧ j ≠ i) := fun ρ1 h1 h2 => by
    by_cases hj : i = j
    · subst hj
      by_cases hi : i < ρ1.length
      · rw [List.getElem?_set_self hi] at h2
        exact absurd (by simpa using h2) (hs e)
      · rw [List.getElem?_eq_none (by rw [List.length_set]; omega)] at h2; cases h2
    · rw [List.getElem?_set_ne hj] at h2
      exact ⟨h1 j e h2, fun z => hj z.symm⟩
  unfold put at h
  split at h
  · exact key (clr ρ) (fun k d h => (clr_get h).1) h
  · exact key ρ (fun _ _ h => h) h
theorem Kp.put {i : Nat} {v : Option V} {sv : SV} (hs : ∀ d, sv ≠ .own d) : Kp σ ρ (σ.set i v) (put ρ i sv) := fun j e h => by
  obtain ⟨h1, h2⟩ := put_own hs h
  exact ⟨h1, List.getElem?_set_ne (fun z => h2 z.symm)⟩
end
/-! ### targets -/
def slotsOf : Sx → List Nat
  | .var i => [i]
  | .tup a => slotsOf a
  | .cons t a => slotsOf t ++ slotsOf a
  | _ => []
def gT (g : Gc) (fa : Option Addr) (ts : List Nat) (f : D → Ev → M Ev) : TG := fun v σ H Q =>
  ∃ H0 ρ d, RepS g fa H0 H σ ρ ∧ Rp g fa H0 v d ∧ WP (f d ρ) fun ρ' => ∀ σ', Off ts σ σ' → Kp σ ρ σ' ρ' → RepS g fa H0 H σ' ρ' → Q σ' H
def gTs (g : Gc) (fa : Option Addr) (ts : List Nat) (f : D → Ev → M Ev) : TGs := fun vs σ H Q =>
  ∃ H0 ρ ds, RepS g fa H0 H σ ρ ∧ RpAll g fa H0 vs ds ∧ WP (f (.list ds) ρ) fun ρ' => ∀ σ', Off ts σ σ' → Kp σ ρ σ' ρ' → RepS g fa H0 H σ' ρ' → Q σ' H
section
variable {X : Cx} {g : Gc} {fa : Option Addr} {E : Expr} {es : List Expr} {pos : Pos} {ts ts' : List Nat} {f f' : D → Ev → M Ev}
theorem pg_imp {t t' : TG} (h : PG X E t) (i : ∀ v σ H Q, t' v σ H Q → t v σ H Q) : PG X E t' := by
  obtain ⟨h⟩ := h
  constructor
  intros
  apply h <;> first | assumption | (apply i; assumption)
theorem pgs_imp {t t' : TGs} (h : PGs X es t) (i : ∀ v σ H Q, t' v σ H Q → t v σ H Q) : PGs X es t' := by
  obtain ⟨h⟩ := h
  constructor
  intros
  apply h <;> first | assumption | (apply i; assumption)
theorem g_var {i : Nat} {x : Str} (hN : X.N.Nodup) (hi : X.N[i]? = some x) (hx : Loc X.env.scope x) (hf : X.fn x = true ∨ X.env.scope.names.lookup x = some .local) : PG X (.Name x pos) (gT g fa [i] fun d ρ => .ret (put ρ i (.dat d))) :=
  pg_imp (pg_name hN hi hx hf) fun v σ H Q ⟨H0, ρ, d, R, r, w⟩ => w _ (Off.set (by simp)) (Kp.put fun _ z => by cases z) (R.putD i r)
theorem g_tup {k : Nat} (hK : X.K = g.K) (hc : X.calm = true) (h : PGs X es (gTs g fa ts f)) (h1 : (assignEach es X.env).length = es.length) (h2 : List.findIdx? (fun x => x.fst) (assignEach es X.env) = none)
    (hn : ∀ ρ ds Q, WP (f (.list ds) ρ) Q → ds.length = es.length) :
    PG X (.Tuple es k pos) (gT g fa ts fun d ρ => match d with
      | .tuple ds => f (.list ds) ρ
      | _ => .bad) :=
  pg_imp (pg_tup hc h h1 h2) fun v σ H Q ⟨H0, ρ, d, R, r, w⟩ => by
    cases d with
    | tuple ds =>
      have w : WP (f (.list ds) ρ) _ := w
      have r' := Rp.mono R.bs.sub r
      cases r with
      | tup hs ha =>
        exact ⟨_, _, rfl, hK ▸ sqT_mono R.bs.sub hs, by rw [ha.len]; exact hn _ _ _ w, H0, ρ, ds, R, ha, w⟩
    | _ => exact w.elim
theorem gs_nil : PGs X [] (gTs g fa ts fun d ρ => match d with
      | .list [] => .ret ρ
      | _ => .bad) := pgs_imp pgs_nil fun vs σ H Q ⟨H0, ρ, ds, R, r, w⟩ => by
    cases r with
    | nil => exact ⟨rfl, w σ Off.refl Kp.refl R⟩
    | cons _ _ => exact w.elim
theorem Off.mono {vs ws : List Nat} {σ σ2 : L2.St} (h : Off vs σ σ2) (hs : ∀ i ∈ vs, i ∈ ws) : Off ws σ σ2 := ⟨h.1, fun i hi => h.2 i fun z => hi (hs i z)⟩
theorem gs_cons (h1 : PG X E (gT g fa ts f)) (h2 : PGs X es (gTs g fa ts' f')) (he : List.map (fun x => x.snd) (assignEach (E :: es) X.env) = assign E X.env :: List.map (fun x => x.snd) (assignEach es X.env)) :
    PGs X (E :: es) (gTs g fa (ts ++ ts') fun d ρ => match d with
      | .list (d :: ds) => (f d ρ).bind fun ρ1 => f' (.list ds) ρ1
      | _ => .bad) := pgs_imp (pgs_cons h1 h2 he) fun vs σ H Q ⟨H0, ρ, ds, R, r, w⟩ => by
    cases r with
    | nil => exact w.elim
    | cons r rs =>
      refine ⟨_, _, rfl, H0, ρ, _, R, r, (WP.bind.mp w).mono fun ρ1 w σ1 o1 k1 R1 => ⟨H0, ρ1, _, R1, rs, w.mono fun ρ2 w σ2 o2 k2 R2 => w σ2 ?_ (k1.trans k2) R2⟩⟩
      exact (o1.mono fun i hi => List.mem_append_left _ hi).trans (o2.mono fun i hi => List.mem_append_right _ hi)
end

/-! ### what is walked -/
def Wk (g : Gc) (fa : Option Addr) (J : It) (ds : List D) (H0' H' : Hp) (i : Nat) : Prop :=
  (∀ d, ds[i]? = some d → J.go i H' ∧ ∀ x H'', J.yld i H' x H'' → ∃ H0'', Ext g fa H0' H' H0'' H'' ∧ Rp g fa H0'' x d) ∧ (ds.length ≤ i → J.stop i H')
/-- as long as things are added alone; as long as data stay -/
def WkE (g : Gc) (fa : Option Addr) (H0 H : Hp) (J : It) (ds : List D) : Prop := ∀ i H0' H', Ext g fa H0 H H0' H' → Wk g fa J ds H0' H' i
def WkD (g : Gc) (fa : Option Addr) (H0 : Hp) (J : It) (ds : List D) : Prop := ∀ i H0' H', Bs g fa H0' H' → (∀ a o, H0 a = some o → H0' a = some o) → Wk g fa J ds H0' H' i
theorem WkD.e {g : Gc} {fa : Option Addr} {H0 H : Hp} {J : It} {ds : List D} (h : WkD g fa H0 J ds) : WkE g fa H0 H J ds := fun i H0' H' x => h i H0' H' x.bs x.lo
def tWE (g : Gc) (fa : Option Addr) (f : Ev → M (List D)) : TI := fun σ H R => ∃ H0 ρ, RepS g fa H0 H σ ρ ∧ WP (f ρ) fun ds => ds.length ≤ sizeLine → ∀ J H0' H', Ext g fa H0 H H0' H' → WkE g fa H0' H' J ds → R J H'
def tWD (g : Gc) (fa : Option Addr) (f : Ev → M (List D)) : TI := fun σ H R => ∃ H0 ρ, RepS g fa H0 H σ ρ ∧ WP (f ρ) fun ds => ds.length ≤ sizeLine → ∀ J H0' H', Ext g fa H0 H H0' H' → WkD g fa H0' J ds → R J H'
section
variable {X : Cx} {g : Gc} {fa : Option Addr} {E E1 E2 tg : Expr} {f f1 f2 : Ev → M D} {fi : Ev → M (List D)} {pos p : Pos}
theorem pi_imp {t t' : TI} (h : PI X tg E t) (i : ∀ σ H R, t' σ H R → t σ H R) : PI X tg E t' := ⟨fun ps s σ H R I q => h.run ps s σ H R I (i σ H R q)⟩
theorem w_e (h : PI X tg E (tWD g fa fi)) : PI X tg E (tWE g fa fi) := pi_imp h fun σ H R ⟨H0, ρ, S, w⟩ => ⟨H0, ρ, S, w.mono fun ds q hz J H0' H' x k => q hz J H0' H' x k.e⟩
theorem wk_list {H0 : Hp} {a : Addr} {xs : List V} {ds : List D} (h : H0 a = some (.lst xs)) (r : RpAll g fa H0 xs ds) : WkD g fa H0 (Itl g.K a) ds := fun i H0' H' b lo => by
  have ha : H' a = some (.lst xs) := b.sub _ _ (lo _ _ h)
  refine ⟨fun d e => ?_, fun hl => ⟨xs, .inl (.inl ha), by rw [r.len]; exact hl⟩⟩
  obtain ⟨v, hv, rv⟩ := r.get' e
  refine ⟨⟨xs, v, .inl (.inl ha), hv⟩, fun x H'' ⟨e1, e2⟩ => ?_⟩
  subst e1
  have := e2 xs (.inl (.inl ha))
  rw [hv] at this
  cases this
  exact ⟨H0', Ext.refl b, Rp.mono lo rv⟩
theorem wk_tup {H0 : Hp} {a : Addr} {xs : List V} {ds : List D} (h : SqT g.K H0 a xs) (r : RpAll g fa H0 xs ds) : WkD g fa H0 (Itt g.K a) ds := fun i H0' H' b lo => by
  have ha : SqT g.K H' a xs := sqT_mono b.sub (sqT_mono lo h)
  refine ⟨fun d e => ?_, fun hl => ⟨xs, ha, by rw [r.len]; exact hl⟩⟩
  obtain ⟨v, hv, rv⟩ := r.get' e
  refine ⟨⟨xs, v, ha, hv⟩, fun x H'' ⟨e1, e2⟩ => ?_⟩
  subst e1
  have := e2 xs ha
  rw [hv] at this
  cases this
  exact ⟨H0', Ext.refl b, Rp.mono lo rv⟩
theorem wk_str {H0 : Hp} (z : Str) : WkD g fa H0 (Its z) (z.cps.toList.map fun c => .str ⟨#[c]⟩) := fun i H0' H' b lo => by
  refine ⟨fun d e => ?_, fun hl => ?_⟩
  · rw [List.getElem?_map] at e
    cases e1 : z.cps.toList[i]? with
    | none => rw [e1] at e; cases e
    | some c =>
      rw [e1] at e
      cases e
      have hi : i < z.cps.size := by
        have := (List.getElem?_eq_some_iff.mp e1).1
        simpa using this
      refine ⟨hi, fun x H'' ⟨e2, c', h1, h2⟩ => ?_⟩
      subst e2 h2
      have : z.cps[i]? = some c := by rw [← Array.getElem?_toList]; exact e1
      rw [h1] at this
      cases this
      exact ⟨H0', Ext.refl b, .str _⟩
  · rw [List.length_map, Array.length_toList] at hl
    exact hl
theorem wk_range {H0 : Hp} (lo : Int) (n : Nat) : WkD g fa H0 (Itr lo n) (intR lo n) := fun i H0' H' b l => by
  unfold intR
  refine ⟨fun d e => ?_, fun hl => ?_⟩
  · rw [List.getElem?_map] at e
    by_cases hi : i < n
    · rw [List.getElem?_range hi] at e
      cases e
      refine ⟨hi, fun x H'' ⟨e1, e2⟩ => ?_⟩
      subst e1 e2
      exact ⟨H0', Ext.refl b, .int _⟩
    · rw [List.getElem?_eq_none (by rw [List.length_range]; omega)] at e; cases e
  · rw [List.length_map, List.length_range] at hl
    exact hl
theorem wk_own {H0 H : Hp} {a : Addr} {xs : List V} {ds : List D} (b0 : Bs g fa H0 H) (h : H a = some (.lst xs)) (r : RpAll g fa H0 xs ds) : WkE g fa H0 H (Itl g.K a) ds := fun i H0' H' x0 => by
  have ha : H' a = some (.lst xs) := x0.hi _ _ (fne_lst b0 h) h
  refine ⟨fun d e => ?_, fun hl => ⟨xs, .inl (.inl ha), by rw [r.len]; exact hl⟩⟩
  obtain ⟨v, hv, rv⟩ := r.get' e
  refine ⟨⟨xs, v, .inl (.inl ha), hv⟩, fun x H'' ⟨e1, e2⟩ => ?_⟩
  subst e1
  have := e2 xs (.inl (.inl ha))
  rw [hv] at this
  cases this
  exact ⟨H0', Ext.refl x0.bs, Rp.mono x0.lo rv⟩
theorem Rv.dct {H0 H : Hp} {v : V} {ds : List D} (b : Bs g fa H0 H) (r : Rv g fa H0 H v (dctD ds)) : ∃ a xs ep, v = .ref a ∧ H a = some (Pm.MixO g.P g.w a xs ds ep) ∧ RpAll g fa H0 xs ds ∧ Pm.good ds := by
  rcases r with r | ⟨a, rfl, _, o, xs, es, (⟨e, _⟩ | ⟨e, gd, ep, rfl⟩), h, q⟩
  · obtain ⟨a, xs, ep, rfl, h, ra, gd⟩ := Rp.dctI r
    exact ⟨a, xs, ep, rfl, b.sub _ _ h, ra, gd⟩
  · cases e
  · have e2 : es = ds := by
      unfold dctD at e
      injection e with e
      have := congrArg (List.map (·.1)) e
      rw [dctD_k, dctD_k] at this
      exact this.symm
    subst e2
    exact ⟨a, xs, ep, rfl, h, q, gd⟩
theorem wk_dctD {H0 : Hp} {a : Addr} {xs : List V} {ds : List D} {ep : Nat} (h : H0 a = some (Pm.MixO g.P g.w a xs ds ep)) (r : RpAll g fa H0 xs ds) : WkD g fa H0 (Pm.Itm g.P g.w a xs ds ep) ds := fun i H0' H' b lo => by
  have ha : H' a = _ := b.sub _ _ (lo _ _ h)
  refine ⟨fun d e => ⟨⟨ha, (List.getElem?_eq_some_iff.mp e).1⟩, fun x H'' ⟨e1, e2⟩ => ?_⟩, fun hl => ⟨ha, hl⟩⟩
  obtain ⟨v, hv, rv⟩ := r.get' e
  rw [hv] at e2
  cases e2
  subst e1
  exact ⟨H0', Ext.refl b, Rp.mono lo rv⟩
theorem wk_dctE {H0 H : Hp} {a : Addr} {xs : List V} {ds : List D} {ep : Nat} (b0 : Bs g fa H0 H) (h : H a = some (Pm.MixO g.P g.w a xs ds ep)) (r : RpAll g fa H0 xs ds) (gd : Pm.good ds) : WkE g fa H0 H (Pm.Itm g.P g.w a xs ds ep) ds := fun i H0' H' x0 => by
  have ha : H' a = _ := x0.hi _ _ (fne_own b0 (.inr ⟨rfl, gd, ep, rfl⟩) h) h
  refine ⟨fun d e => ⟨⟨ha, (List.getElem?_eq_some_iff.mp e).1⟩, fun x H'' ⟨e1, e2⟩ => ?_⟩, fun hl => ⟨ha, hl⟩⟩
  obtain ⟨v, hv, rv⟩ := r.get' e
  rw [hv] at e2
  cases e2
  subst e1
  exact ⟨H0', Ext.refl x0.bs, Rp.mono x0.lo rv⟩
theorem iter_rv {ps : List (Addr × Obj)} {σ : L2.St} {H0 H : Hp} {s : Shared} {v : V} {u : Value} {d : D} {R : It → Hp → Prop} (hKE : KE g X) (I : Inv X ps σ H s) (b : Bs g fa H0 H) (rv : Rv g fa H0 H v d) (ru : RelV v u)
    (w : WP (itmD d) fun ds => ds.length ≤ sizeLine → ∀ J, WkE g fa H0 H J ds → (Rp g fa H0 v d → WkD g fa H0 J ds) → R J H) : wpAny (model X.prog X.w) X.A (pyIter u) (PIE X ps σ tg R) X.xe s := by
  have hK := hKE.K
  cases d with
  | list ds =>
    obtain ⟨a, xs, rfl, ha, r⟩ := rv.list b
    cases ru
    obtain ⟨its, rv', p, hz⟩ := I.list (a := a) (xs := xs) (.inl (.inl ha))
    refine wpAny_pyIter_list p.isList (pi_one (tk := s.toks) I _ (turn_list a _) ⟨_, Heap.get?_push_size _ rfl, rfl, rfl⟩ (hK ▸ w (by rw [← r.len]; exact hz) _ (wk_own b ha r) fun rp => ?_))
    cases rp with
    | lst h q => 
      have e : _ := b.sub _ _ h
      rw [ha] at e
      cases e
      exact wk_list h q
  | tuple ds =>
    have rp := rv.data (fun _ z => by cases z)
    obtain ⟨a, xs, rfl, ha, r⟩ := rv.tuple b
    cases ru
    obtain ⟨its, rv', p, hz⟩ := I.tuple (a := a) (xs := xs) (hK ▸ ha)
    have k : WkD g fa H0 (Itt g.K a) ds := by
      cases rp with
      | tup h q => exact wk_tup h q
    exact wpAny_pyIter_tuple (show s.heap.IsTuple a its.toArray from p) (pi_one (tk := s.toks) I _ (turn_tuple a _) ⟨_, Heap.get?_push_size _ rfl, rfl, rfl⟩ (hK ▸ w (by rw [← r.len]; exact hz) _ k.e fun _ => k))
  | str z =>
    cases rv.str
    obtain ⟨t, rfl⟩ := ru
    obtain ⟨hc, w⟩ := wp_need w
    have q := w (by rw [List.length_map]; exact of_decide_eq_true hc) (Its z) (wk_str z).e fun _ => wk_str z
    cases ha : z.cps.all (· < 128)
    · exact wpAny_pyIter_wide ha (pi_one (tk := s.toks) I _ (turn_str _ z t "str_iterator" (.inr rfl)) ⟨_, Heap.get?_push_size _ rfl, rfl, rfl⟩ q)
    · exact wpAny_pyIter_ascii ha (pi_one (tk := s.toks) I _ (turn_str _ z t "str_ascii_iterator" (.inl rfl)) ⟨_, Heap.get?_push_size _ rfl, rfl, rfl⟩ q)
  | dict kvs =>
    obtain ⟨ho, w⟩ := wp_need w
    have w : (kvs.map (·.1)).length ≤ sizeLine → ∀ J, WkE g fa H0 H J (kvs.map (·.1)) → (Rp g fa H0 v (.dict kvs) → WkD g fa H0 J (kvs.map (·.1))) → R J H := w
    rw [kvOk_eq ho] at rv w
    generalize kvs.map (·.1) = ds at rv w
    have go : ∀ a xs ep, v = .ref a → H a = some (Pm.MixO g.P g.w a xs ds ep) → RpAll g fa H0 xs ds → Pm.good ds → (Rp g fa H0 v (dctD ds) → WkD g fa H0 (Pm.Itm g.P g.w a xs ds ep) ds) → wpAny (model X.prog X.w) X.A (pyIter u) (PIE X ps σ tg R) X.xe s := by
      intro a xs ep e ha ra gd k
      subst e
      cases ru
      have hz := ha
      rw [← hKE.P, ← hKE.w] at hz
      refine Pm.iter_mix I hz ra.len fun hl => ?_
      rw [hKE.P, hKE.w]
      exact w hl _ (wk_dctE b ha ra gd) k
    rcases rv with r | o
    · obtain ⟨a, xs, ep, e, h, ra, gd⟩ := Rp.dctI r
      exact go a xs ep e (b.sub _ _ h) ra gd fun _ => wk_dctD h ra
    · have h0 : ∃ a, v = .ref a ∧ H0 a = none := let ⟨a, e, q, _⟩ := o; ⟨a, e, q⟩
      obtain ⟨a, xs, ep, e, h, ra, gd⟩ := Rv.dct b (.inr o)
      refine go a xs ep e h ra gd fun rp => ?_
      obtain ⟨a', xs', ep', e', h', _⟩ := Rp.dctI rp
      obtain ⟨a2, e2, h2⟩ := h0
      rw [e2] at e'
      cases e'
      rw [h2] at h'
      cases h'
  | _ => exact w.elim
/-- over a list, a tuple, a text -/
theorem w_val (hK : KE g X) (h : PE X E (tG g fa .p f)) : PI X tg E (tWD g fa fun ρ => (f ρ).bind itmD) := by
  refine ⟨fun ps s σ H R I ⟨H0, ρ, S, w⟩ => ?_⟩
  refine thn (h.run ps s σ H (fun v H1 => ∃ H1' d, Ext g fa H0 H H1' H1 ∧ Rp g fa H1' v d ∧ WP (itmD d) fun ds => ds.length ≤ sizeLine → ∀ J H0' H', Ext g fa H0 H H0' H' → WkD g fa H0' J ds → R J H') I ⟨H0, ρ, S, (WP.bind.mp w).mono fun d w v H1' H1 x1 r1 => ⟨H1', d, x1, r1, w⟩⟩) fun u s1 ⟨v, H1, I1, ru, H1', d, x1, r1, w⟩ => ?_
  exact iter_rv hK I1 x1.bs (.inl r1) ru (w.mono fun ds q hz J _ k => q hz J H1' H1 x1 (k r1))
/-- over an own list, by its name -/
theorem w_look (hK : KE g X) (h : PE X E (tG g fa .v f)) : PI X tg E (tWE g fa fun ρ => (f ρ).bind itmD) := by
  refine ⟨fun ps s σ H R I ⟨H0, ρ, S, w⟩ => ?_⟩
  refine thn (h.run ps s σ H (fun v H1 => ∃ H1' d, Ext g fa H0 H H1' H1 ∧ Rv g fa H1' H1 v d ∧ WP (itmD d) fun ds => ds.length ≤ sizeLine → ∀ J H0' H', Ext g fa H0 H H0' H' → WkE g fa H0' H' J ds → R J H') I ⟨H0, ρ, S, (WP.bind.mp w).mono fun d w v H1' H1 x1 r1 => ⟨H1', d, x1, r1, w⟩⟩) fun u s1 ⟨v, H1, I1, ru, H1', d, x1, r1, w⟩ => ?_
  exact iter_rv hK I1 x1.bs r1 ru (w.mono fun ds q hz J k _ => q hz J H1' H1 x1 k)
theorem enumGo_get : ∀ {ds : List D} {k i : Nat} {d : D}, (enumGo k ds)[i]? = some d → ∃ x, ds[i]? = some x ∧ d = .tuple [.int ((k + i : Nat) : Int), x]
  | [], _, _, _, h => by simp [enumGo] at h
  | x :: ds, k, 0, d, h => ⟨x, rfl, by simpa [enumGo] using h.symm⟩
  | x :: ds, k, i + 1, d, h => by
    obtain ⟨x', h1, h2⟩ := enumGo_get (ds := ds) (k := k + 1) (i := i) (by simpa [enumGo] using h)
    exact ⟨x', by simpa using h1, by rw [h2, show k + 1 + i = k + (i + 1) by omega]⟩
theorem enumGo_len : ∀ (k : Nat) (ds : List D), (enumGo k ds).length = ds.length
  | _, [] => rfl
  | k, _ :: ds => by simp only [enumGo, List.length_cons, enumGo_len (k + 1) ds]
/-- enumerate over a list or a tuple -/
def iEnumA (K : PySem.W.Frag) (ta : TA) : TI := fun σ H R => ta σ H fun vs H1 => ∃ a xs, vs = [.ref a] ∧ ((SqL K H1 a xs ∧ (xs.length ≤ sizeLine → R (Ite K a) H1)) ∨ (SqT K H1 a xs ∧ (xs.length ≤ sizeLine → R (Pm.Iet K a xs) H1)))
theorem pi_enumA {X : Cx} {e : Expr} {ta : TA} {p pos tpos : Pos} {elts : List Expr} {kk : Nat} (hg : Gl X "enumerate") (hm : X.mg "enumerate" = none) (ha : PA X [e] ta) (hs : starEach [e] X.env = [(false, eval e X.env)]) :
    PI X (.Tuple elts kk tpos) (.Call (.Name "enumerate" p) [e] [] pos) (iEnumA X.K ta) := by
  refine ⟨fun pins s σ H R I h => Call_ (ld_blt I hg hm boot_enumerate (PyProof.Rows.callWith_type1 (thn (ha.run pos pins s σ H _ I h) fun us s1 ⟨vs, H1, I1, r1, a, xs, ex, q⟩ => ?_) hs rfl))⟩
  subst ex
  obtain ⟨u, rfl, ru⟩ := vals1 r1
  cases ru
  have fp : ∀ b ∈ [s1.heap.objs.size + 1, s1.heap.objs.size], FpOk X pins H1 b := fun b hb => by
    have hle : s1.heap.objs.size ≤ b := by
      rcases (show b = s1.heap.objs.size + 1 ∨ b = s1.heap.objs.size by simpa using hb) with rfl | rfl
      · exact Nat.le_succ _
      · exact Nat.le_refl _
    exact I1.fpOk hle (I1.hok.fresh hle)
  rcases q with ⟨hq, q⟩ | ⟨hq, q⟩
  · obtain ⟨its, rv, pl, hz⟩ := I1.list hq
    exact call_enumerate_list pl.isList fun h' he hit hsz hk => wpAny_pyIter_enum he ⟨s1.heap.objs.size + 1, [s1.heap.objs.size + 1, s1.heap.objs.size], _, _, H1, rfl, I1.kept (t' := s1.toks) hk, turn_enum a (s1.heap.objs.size + 1) s1.heap.objs.size, ⟨⟨.none, he⟩, hit, Nat.succ_ne_self _⟩, fp, q hz⟩
  · obtain ⟨its, rv, pl, hz⟩ := I1.tuple hq
    have hal : a < s1.heap.objs.size := by obtain ⟨_, z, _⟩ := pl; exact Heap.lt_size z
    exact Pm.call_enum1 (begins_tuple a its.toArray) pl fun h' he hit hsz hk => wpAny_pyIter_enum he ⟨s1.heap.objs.size + 1, [s1.heap.objs.size + 1, s1.heap.objs.size], _, _, H1, rfl, I1.kept (t' := s1.toks) hk, Pm.turn_enumT a (s1.heap.objs.size + 1) s1.heap.objs.size (Nat.ne_of_gt (Nat.lt_succ_of_lt hal)) (Nat.ne_of_gt hal), ⟨Nat.zero_le _, ⟨.none, he⟩, ⟨_, hit, rfl, rfl⟩, Nat.succ_ne_self _⟩, fp, q hz⟩
theorem wk_enum {H0' H' : Hp} {J : It} {xs : List V} {ds : List D} {i : Nat} (b : Bs g fa H0' H') (r : RpAll g fa H0' xs ds) (h : (∀ x, xs[i]? = some x → J.go i H' ∧ ∀ v H'', J.yld i H' v H'' → ∃ T, v = .ref T ∧ H' T = none ∧ H'' = upd H' T (.tup [.int (i : Nat), x])) ∧ (xs.length ≤ i → J.stop i H')) : Wk g fa J (enumGo 0 ds) H0' H' i := by
  obtain ⟨h1, h2⟩ := h
  refine ⟨fun d e => ?_, fun hl => h2 (by rw [r.len]; rw [enumGo_len] at hl; exact hl)⟩
  obtain ⟨x, hx, rfl⟩ := enumGo_get e
  obtain ⟨v, hv, rv⟩ := r.get' hx
  obtain ⟨go, yl⟩ := h1 v hv
  refine ⟨go, fun u H'' hy => ?_⟩
  obtain ⟨T, rfl, hT, rfl⟩ := yl u H'' hy
  have x3 := b.alloc (o := .tup [.int (i : Nat), v]) hT
  rw [Nat.zero_add]
  exact ⟨_, x3, .tup (.inl (.inl upd_same)) (.cons (.int _) (.one (Rp.mono x3.lo rv)))⟩
theorem wk_enumL {H0' H' : Hp} {a : Addr} {xs : List V} {ds : List D} {i : Nat} (b : Bs g fa H0' H') (h : H' a = some (.lst xs)) (r : RpAll g fa H0' xs ds) : Wk g fa (Ite g.K a) (enumGo 0 ds) H0' H' i := by
  have s : SqL g.K H' a xs := .inl (.inl h)
  refine wk_enum b r ⟨fun x hx => ⟨⟨xs, x, s, hx⟩, fun v H'' ⟨T, x', e1, e2, e3, e4⟩ => ?_⟩, fun hl => ⟨xs, s, hl⟩⟩
  have := e4 xs s
  rw [hx] at this
  cases this
  exact ⟨T, e1, e2, e3⟩
theorem wk_enumT {H0' H' : Hp} {a : Addr} {xs : List V} {ds : List D} {i : Nat} (b : Bs g fa H0' H') (s : SqT g.K H' a xs) (r : RpAll g fa H0' xs ds) : Wk g fa (Pm.Iet g.K a xs) (enumGo 0 ds) H0' H' i := by
  refine wk_enum b r ⟨fun x hx => ⟨⟨s, (List.getElem?_eq_some_iff.mp hx).1⟩, fun v H'' ⟨T, x', e1, e2, e3, e4⟩ => ?_⟩, fun hl => ⟨s, hl⟩⟩
  rw [hx] at e4
  cases e4
  exact ⟨T, e1, e2, e3⟩
/-- enumerate of data -/
theorem w_enumD {elts : List Expr} {kk : Nat} {tpos : Pos} (hK : X.K = g.K) (hg : Gl X "enumerate") (hm : X.mg "enumerate" = none) (hs : starEach [E] X.env = [(false, eval E X.env)]) (h1 : PE X E (tG g fa .p f)) :
    PI X (.Tuple elts kk tpos) (.Call (.Name "enumerate" p) [E] [] pos) (tWD g fa fun ρ => ((f ρ).bind enumM).bind itmD) := by
  refine pi_imp (pi_enumA hg hm (pa_cons h1 pa_nil hs) hs) fun σ H R ⟨H0, ρ, S, w⟩ => ⟨H0, ρ, S, (WP.bind.mp (WP.bind.mp w)).mono fun d w v H1' H1 x1 r1 => ?_⟩
  cases d with
  | list ds =>
    cases r1 with
    | lst ha ra =>
      exact ⟨_, _, rfl, .inl ⟨.inl (.inl (x1.bs.sub _ _ ha)), fun hz => hK ▸ w (by rw [enumGo_len, ← ra.len]; exact hz) _ H1' H1 x1 fun i H0' H' b lo => wk_enumL b (b.sub _ _ (lo _ _ ha)) (ra.mono lo)⟩⟩
  | tuple ds =>
    cases r1 with
    | tup ha ra =>
      exact ⟨_, _, rfl, .inr ⟨hK ▸ sqT_mono x1.bs.sub ha, fun hz => hK ▸ w (by rw [enumGo_len, ← ra.len]; exact hz) _ H1' H1 x1 fun i H0' H' b lo => wk_enumT b (sqT_mono b.sub (sqT_mono lo ha)) (ra.mono lo)⟩⟩
  | _ => exact w.elim
/-- enumerate of an own list -/
theorem w_enumE {elts : List Expr} {kk : Nat} {tpos : Pos} (hK : X.K = g.K) (hg : Gl X "enumerate") (hm : X.mg "enumerate" = none) (hs : starEach [E] X.env = [(false, eval E X.env)]) (h1 : PE X E (tG g fa .v f)) :
    PI X (.Tuple elts kk tpos) (.Call (.Name "enumerate" p) [E] [] pos) (tWE g fa fun ρ => ((f ρ).bind enumM).bind itmD) := by
  refine pi_imp (pi_enumA hg hm (pa_cons h1 pa_nil hs) hs) fun σ H R ⟨H0, ρ, S, w⟩ => ⟨H0, ρ, S, (WP.bind.mp (WP.bind.mp w)).mono fun d w v H1' H1 x1 r1 => ?_⟩
  cases d with
  | list ds =>
    have r1 : Rv g fa H1' H1 v (.list ds) := r1
    obtain ⟨a, xs, e, ha, ra⟩ := r1.list x1.bs
    have hf := fne_lst x1.bs ha
    exact ⟨a, xs, by rw [e], .inl ⟨.inl (.inl ha), fun hz => hK ▸ w (by rw [enumGo_len, ← ra.len]; exact hz) _ H1' H1 x1 fun i H0' H' x => wk_enumL x.bs (x.hi _ _ hf ha) (ra.mono x.lo)⟩⟩
  | tuple ds =>
    have r1 : Rv g fa H1' H1 v (.tuple ds) := r1
    have rp := r1.data (fun _ z => by cases z)
    cases rp with
    | tup ha ra =>
      exact ⟨_, _, rfl, .inr ⟨hK ▸ sqT_mono x1.bs.sub ha, fun hz => hK ▸ w (by rw [enumGo_len, ← ra.len]; exact hz) _ H1' H1 x1 fun i H0' H' x => wk_enumT x.bs (sqT_mono x.bs.sub (sqT_mono x.lo ha)) (ra.mono x.lo)⟩⟩
  | _ => exact w.elim
theorem w_rng1 (hg : Gl X "range") (hm : X.mg "range" = none) (hs : starEach [E] X.env = [(false, eval E X.env)]) (h : PE X E (tG g fa .p f)) :
    PI X tg (.Call (.Name "range" p) [E] [] pos) (tWD g fa fun ρ => (f ρ).bind fun x => (intD x).bind fun i => need (decide (-(2 ^ 62) ≤ i ∧ i ≤ 1000000)) (.ret (intR 0 i.toNat))) :=
  pi_imp (pi_range1 hg hm (pa_cons h pa_nil hs) hs) fun σ H R ⟨H0, ρ, S, w⟩ => ⟨H0, ρ, S, (WP.bind.mp w).mono fun d w v H1' H1 x1 r1 => by
    obtain ⟨i, rfl, w⟩ := intD_ok (WP.bind.mp w)
    obtain ⟨hc, w⟩ := wp_need w
    obtain ⟨c1, c2⟩ := of_decide_eq_true hc
    cases r1
    refine ⟨i, rfl, c1, by omega, w ?_ _ H1' H1 x1 (wk_range 0 i.toNat)⟩
    unfold intR
    rw [List.length_map, List.length_range, sizeLine_eq]
    omega⟩
theorem w_rng2 (hg : Gl X "range") (hm : X.mg "range" = none) (hs : starEach [E1, E2] X.env = [(false, eval E1 X.env), (false, eval E2 X.env)]) (hs1 : starEach [E2] X.env = [(false, eval E2 X.env)]) (h1 : PE X E1 (tG g fa .p f1)) (h2 : PE X E2 (tG g fa .p f2)) :
    PI X tg (.Call (.Name "range" p) [E1, E2] [] pos) (tWD g fa fun ρ => (f1 ρ).bind fun x => (f2 ρ).bind fun y => (intD x).bind fun i => (intD y).bind fun j => need (decide (-(2 ^ 62) ≤ i ∧ i < 2 ^ 62 ∧ -(2 ^ 62) ≤ j ∧ j < 2 ^ 62 ∧ j - i ≤ 1000000)) (.ret (intR i (j - i).toNat))) :=
  pi_imp (pi_range2 hg hm (pa_cons h1 (pa_cons h2 pa_nil hs1) (by rw [hs, hs1])) hs hs1) fun σ H R ⟨H0, ρ, S, w⟩ => ⟨H0, ρ, S, (WP.bind.mp w).mono fun d w v H1' H1 x1 r1 => ⟨H1', ρ, S.ext x1, (WP.bind.mp w).mono fun e w u H2' H2 x2 r2 => by
    obtain ⟨i, e1, w1⟩ := intD_ok (WP.bind.mp w)
    obtain ⟨j, e2, w2⟩ := intD_ok (WP.bind.mp w1)
    obtain ⟨hc, w3⟩ := wp_need w2
    obtain ⟨c1, c2, c3, c4, c5⟩ := of_decide_eq_true hc
    subst e1 e2
    cases r1
    cases r2
    refine ⟨i, j, rfl, ⟨c1, c2, c3, c4⟩, w3 ?_ _ H2' H2 (x1.trans x2) (wk_range i _)⟩
    unfold intR
    rw [List.length_map, List.length_range, sizeLine_eq]
    omega⟩⟩
/-! ### comprehensions -/
theorem Ext.updP {H0 H H0' H' : Hp} (x : Ext g fa H0 H H0' H') {D' : Addr} {xs ys : List V} (hd : H D' = none) (h0 : H0' D' = none) (h : H' D' = some (.lst xs)) : Ext g fa H0 H H0' (upd H' D' (.lst ys)) := by
  have hf := fne_lst x.bs h
  refine ⟨⟨fun a o e => ?_, fun a e => ?_⟩, x.lo, fun a o ha e => ?_, x.nw⟩
  · rw [upd_ne (ne_of_none e h0)]; exact x.bs.sub a o e
  · obtain ⟨⟨ca, ns, x', y, z, h1, h2⟩, hn⟩ := x.bs.fd a e
    exact ⟨⟨ca, ns, x', y, z, by rw [upd_ne (fun q : a = D' => hf (by rw [← q]; exact e))]; exact h1, h2⟩, hn⟩
  · rw [upd_ne (ne_of_none e hd)]; exact x.hi a o ha e
/-- a comprehension's meaning -/
def lcF (fi : Ev → M (List D)) (ft : D → Ev → M Ev) (b : Ev → M Bool) (fe : Ev → M D) (vs : List Nat) : Ev → M D := fun ρ => (fi ρ).bind fun ds => need (datOnly ρ vs) ((lcGo (fun d => ft d (wip ρ vs)) b fe ds).bind fun ys => .ret (.list ys))
theorem lc_imp {ts vs : List Nat} {ft : D → Ev → M Ev} {b : Ev → M Bool} {fe : Ev → M D} {σ : L2.St} {H : Hp} {Q : VK} (hts : ∀ i ∈ ts, i ∈ vs) (h : tG g fa .f (lcF fi ft b fe vs) σ H Q) : tLc (tWE g fa fi) (gT g fa ts ft) (tB1 g fa b) (tG g fa .p fe) vs σ H Q := by
  obtain ⟨H0, ρ, R, w⟩ := h
  refine ⟨H0, ρ, R, (WP.bind.mp w).mono fun ds w hz J H1' H1 x1 wk Da hD => ?_⟩
  obtain ⟨hdo, w⟩ := wp_need w
  have w := WP.bind.mp w
  refine ⟨fun i m Hc => ∃ H0c acc accD, i + m = ds.length ∧ Ext g fa H1' H1 H0c Hc ∧ H0c Da = none ∧ Hc Da = some (.lst acc) ∧ RpAll g fa H0c acc accD ∧ acc.length ≤ i ∧
    WP (lcGo (fun d => ft d (wip ρ vs)) b fe (ds.drop i)) fun ys => ∀ v H0' H', Ext g fa H0 H H0' H' → Rel g fa .f H H0' H' v (.list (accD ++ ys)) → Q v H', ?_, fun i m Hc hW => ?_⟩
  · have h0 : H1' Da = none := by
      cases e : H1' Da with
      | none => rfl
      | some o => rw [x1.bs.sub _ _ e] at hD; cases hD
    exact ⟨ds.length, H1', [], [], by omega, x1.bs.allocP hD, h0, upd_same, .nil, Nat.le_refl _, w⟩
  · obtain ⟨H0c, acc, accD, em, xc, h0, hDc, ra, hl, w⟩ := hW
    by_cases hlt : i < ds.length
    · obtain ⟨d, hd, hdr⟩ : ∃ d, ds[i]? = some d ∧ ds.drop i = d :: ds.drop (i + 1) := ⟨ds[i], List.getElem?_eq_getElem hlt, List.drop_eq_getElem_cons hlt⟩
      obtain ⟨go, yl⟩ := (wk i H0c Hc xc).1 d hd
      refine .inr ⟨go, fun H' => ∃ m', m' < m ∧ _, fun H' h => h, fun x H' hy => ?_⟩
      obtain ⟨H02, x2, rx⟩ := yl x H' hy
      rw [hdr] at w
      have xx := x1.trans (xc.trans x2)
      have R2 := (R.ext xx).wipe hdo
      refine ⟨H02, _, d, R2, rx, (WP.bind.mp w).mono fun ρ2 w σ2 off _ R3 => ⟨(off.mono fun i hi => hts i hi).wipe, ?_⟩⟩
      refine ⟨H02, ρ2, R3, (WP.bind.mp w).mono fun k w H03 H3 x3 => ?_⟩
      have x23 := x2.trans x3
      have fin : ∀ {H0e He : Hp} {acc' : List V} {accD' : List D}, Ext g fa H1' H1 H0e He → H0e Da = none → He Da = some (.lst acc') → RpAll g fa H0e acc' accD' → acc'.length ≤ i + 1 →
          (WP (lcGo (fun d => ft d (wip ρ vs)) b fe (ds.drop (i + 1))) fun ys => ∀ v H0' H', Ext g fa H0 H H0' H' → Rel g fa .f H H0' H' v (.list (accD' ++ ys)) → Q v H') →
          ∃ m', m' < m ∧ ∃ H0c acc accD, (i + 1) + m' = ds.length ∧ Ext g fa H1' H1 H0c He ∧ H0c Da = none ∧ He Da = some (.lst acc) ∧ RpAll g fa H0c acc accD ∧ acc.length ≤ i + 1 ∧
            WP (lcGo (fun d => ft d (wip ρ vs)) b fe (ds.drop (i + 1))) fun ys => ∀ v H0' H', Ext g fa H0 H H0' H' → Rel g fa .f H H0' H' v (.list (accD ++ ys)) → Q v H' :=
        fun {H0e He acc' accD'} y1 y2 y3 y4 y5 y6 => ⟨m - 1, by omega, H0e, acc', accD', by omega, y1, y2, y3, y4, y5, y6⟩
      have keep : ∀ {H0e He : Hp}, Ext g fa H0c Hc H0e He → H0e Da = none ∧ He Da = some (.lst acc) := fun {H0e He} y => by
        refine ⟨?_, y.hi _ _ (fne_lst xc.bs hDc) hDc⟩
        rcases y.nw Da h0 with q | q
        · exact q
        · rw [hDc] at q; cases q
      cases k with
      | true =>
        dsimp only at w ⊢
        rw [if_pos rfl] at w ⊢
        refine ⟨H03, ρ2, R3.ext x3, (WP.bind.mp w).mono fun y w vy H04 H4 x4 ry => ?_⟩
        have x24 := x23.trans x4
        obtain ⟨k1, k2⟩ := keep x24
        have hlen : acc.length < sizeLine := by omega
        refine ⟨acc, k2, hlen, fin ((xc.trans x24).updP hD k1 k2) k1 upd_same ((ra.mono x24.lo).append (.one ry)) (by rw [List.length_append]; simp; omega) ((WP.bind.mp w).mono fun ys q v H0' H' => ?_)⟩
        rw [List.append_assoc]
        exact q v H0' H'
      | false =>
        dsimp only at w ⊢
        rw [if_neg (by intro z; cases z)] at w ⊢
        obtain ⟨k1, k2⟩ := keep x23
        exact fin (xc.trans x23) k1 k2 (ra.mono x23.lo) (by omega) w
    · have ei : ds.drop i = [] := List.drop_eq_nil_of_le (by omega)
      rw [ei] at w
      have w : ∀ v H0' H', Ext g fa H0 H H0' H' → Rel g fa .f H H0' H' v (.list (accD ++ [])) → Q v H' := w
      rw [List.append_nil] at w
      refine .inl ⟨(wk i H0c Hc xc).2 (by omega), w (.ref Da) H0c Hc (x1.trans xc) ⟨Da, rfl, x1.free R.bs hD, h0, _, acc, accD, .inl ⟨rfl, rfl⟩, hDc, ra⟩⟩
theorem s_lc {elt iter : Expr} {ifs : List Expr} {scope : Scope} {own : List (Str × Nat)} {ts : List Nat} {ft : D → Ev → M Ev} {b : Ev → M Bool} {fe : Ev → M D} (hc : X.calm = true) (hN : X.N.Nodup) (hi : PI X tg iter (tWE g fa fi)) (ok : BlkOk X.N X.env.scope scope own)
    (hg : ∀ (s : Shared) (H : Hp) (C : Addr) (cl : List (Str × Addr)) (fp : List Addr), PG (X.blk s H scope (compEnvC scope cl C X.env) fp) tg (gT g fa ts ft))
    (ht : ∀ (s : Shared) (H : Hp) (C : Addr) (cl : List (Str × Addr)) (fp : List Addr), PTs (X.blk s H scope (compEnvC scope cl C X.env) fp) ifs (tB1 g fa b))
    (he : ∀ (s : Shared) (H : Hp) (C : Addr) (cl : List (Str × Addr)) (fp : List Addr), PE (X.blk s H scope (compEnvC scope cl C X.env) fp) elt (tG g fa .p fe))
    (hs : ∀ x, foldedSetIterable iter X.env x = pure x) (hts : ∀ i ∈ ts, i ∈ own.map (·.2)) :
    PE X (.ListComp elt [⟨tg, iter, ifs, 0⟩] scope pos) (tG g fa .f (lcF fi ft b fe (own.map (·.2)))) :=
  pe_imp (pe_lc hc hN hi ok hg ht he hs) fun σ H Q h => lc_imp hts h
/-! {k: True for ..} -/
theorem Ext.updO {H0 H H0' H' : Hp} (x : Ext g fa H0 H H0' H') {a : Addr} {o : HO} (hd : H a = none) (h0 : H0' a = none) (hf : fa ≠ some a) : Ext g fa H0 H H0' (upd H' a o) := by
  refine ⟨⟨fun b u e => ?_, fun b e => ?_⟩, x.lo, fun b u hb e => ?_, x.nw⟩
  · rw [upd_ne (ne_of_none e h0)]; exact x.bs.sub b u e
  · obtain ⟨⟨ca, ns, x', y, z, h1, h2⟩, hn⟩ := x.bs.fd b e
    exact ⟨⟨ca, ns, x', y, z, by rw [upd_ne (fun q : b = a => hf (by rw [← q]; exact e))]; exact h1, h2⟩, hn⟩
  · rw [upd_ne (ne_of_none e hd)]; exact x.hi b u hb e
def tGD (g : Gc) (fa : Option Addr) (f : Ev → M (List D)) : TE := fun σ H Q => ∃ H0 ρ, RepS g fa H0 H σ ρ ∧ WP (f ρ) fun ks => ∀ a H0' H', Ext g fa H0 H H0' H' → H a = none → OwnAt g fa H0' H' a (dctD ks) → Q (.ref a) H'
theorem addK_rp {H0 : Hp} {xs : List V} {ds : List D} {v : V} {d : D} (r : RpAll g fa H0 xs ds) (rv : Rp g fa H0 v d) : RpAll g fa H0 (Pm.addK (xs, ds) v d).1 (Pm.addK (xs, ds) v d).2 := by
  unfold Pm.addK
  split
  · exact r
  · exact r.append (.one rv)
theorem addK_good {xs : List V} {ds : List D} {v : V} {d : D} (gd : Pm.good ds) (k : keyOk d = true) : Pm.good (Pm.addK (xs, ds) v d).2 := by
  unfold keyOk at k
  rw [Bool.and_eq_true] at k
  have := Pm.addAll_good [v] (xs, ds) [d] gd fun e he => by rw [List.mem_singleton.mp he]; exact k
  exact this
theorem dc_imp {ts vs : List Nat} {ft : D → Ev → M Ev} {fe : Ev → M D} {σ : L2.St} {H : Hp} {Q : VK} (hts : ∀ i ∈ ts, i ∈ vs) (h : tGD g fa (dcF fi ft fe vs) σ H Q) : Pm.tMc g.P g.w g.K (tWE g fa fi) (gT g fa ts ft) (tB1 g fa fun _ => .ret true) (tG g fa .p fe) (tC (.bl true)) vs σ H Q := by
  obtain ⟨H0, ρ, R, w⟩ := h
  refine ⟨H0, ρ, R, (WP.bind.mp w).mono fun ds w hz J H1' H1 x1 wk Da hD => ?_⟩
  obtain ⟨hdo, w⟩ := wp_need w
  have w := WP.bind.mp w
  refine ⟨fun i m Hc => ∃ H0c acc accD ep, i + m = ds.length ∧ Ext g fa H1' H1 H0c Hc ∧ H0c Da = none ∧ Hc Da = some (Pm.MixO g.P g.w Da acc accD ep) ∧ RpAll g fa H0c acc accD ∧ Pm.good accD ∧ accD.length ≤ i ∧
    WP (lcGo (fun d => ft d (wip ρ vs)) (fun _ => .ret true) (fun ρ' => (fe ρ').bind fun y => need (keyOk y) (.ret y)) (ds.drop i)) fun ys => ∀ a H0' H', Ext g fa H0 H H0' H' → H a = none → OwnAt g fa H0' H' a (dctD (addD accD ys)) → Q (.ref a) H', ?_, fun i m Hc hW => ?_⟩
  · have h0 : H1' Da = none := by
      cases e : H1' Da with
      | none => rfl
      | some o => rw [x1.bs.sub _ _ e] at hD; cases hD
    exact ⟨ds.length, H1', [], [], 0, by omega, x1.bs.allocP hD, h0, upd_same, .nil, ⟨fun d hd => (by cases hd), List.nodup_nil⟩, Nat.le_refl _, w⟩
  · obtain ⟨H0c, acc, accD, ep, em, xc, h0, hDc, ra, gd, hl, w⟩ := hW
    have hfn : fa ≠ some Da := fne_own xc.bs (.inr ⟨rfl, gd, ep, rfl⟩) hDc
    by_cases hlt : i < ds.length
    · obtain ⟨d, hd, hdr⟩ : ∃ d, ds[i]? = some d ∧ ds.drop i = d :: ds.drop (i + 1) := ⟨ds[i], List.getElem?_eq_getElem hlt, List.drop_eq_getElem_cons hlt⟩
      obtain ⟨go, yl⟩ := (wk i H0c Hc xc).1 d hd
      refine .inr ⟨go, fun H' => ∃ m', m' < m ∧ _, fun H' h => h, fun x H' hy => ?_⟩
      obtain ⟨H02, x2, rx⟩ := yl x H' hy
      rw [hdr] at w
      have R2 := (R.ext (x1.trans (xc.trans x2))).wipe hdo
      refine ⟨H02, _, d, R2, rx, (WP.bind.mp w).mono fun ρ2 w σ2 off _ R3 => ⟨(off.mono fun i hi => hts i hi).wipe, ?_⟩⟩
      refine ⟨H02, ρ2, R3, fun H03 H3 x3 => ?_⟩
      have w := WP.bind.mp w
      have w : WP (((fe ρ2).bind fun y => need (keyOk y) (.ret y)).bind fun y => (lcGo (fun d => ft d (wip ρ vs)) (fun _ => .ret true) (fun ρ' => (fe ρ').bind fun y => need (keyOk y) (.ret y)) (ds.drop (i + 1))).bind fun ys => .ret (y :: ys)) _ := w
      have w := WP.bind.mp (WP.bind.mp w)
      dsimp only
      rw [if_pos rfl]
      refine ⟨H03, ρ2, R3.ext x3, w.mono fun y w vy H04 H4 x4 ry => ⟨rfl, ?_⟩⟩
      obtain ⟨hk, w⟩ := wp_need w
      have w := WP.bind.mp (show WP ((lcGo (fun d => ft d (wip ρ vs)) (fun _ => .ret true) (fun ρ' => (fe ρ').bind fun y => need (keyOk y) (.ret y)) (ds.drop (i + 1))).bind fun ys => .ret (y :: ys)) _ from w)
      have x24 := (x2.trans x3).trans x4
      have k1 : H04 Da = none := by
        rcases x24.nw Da h0 with q | q
        · exact q
        · rw [hDc] at q; cases q
      have k2 := x24.hi _ _ hfn hDc
      have hk' := hk
      unfold keyOk at hk'
      rw [Bool.and_eq_true] at hk'
      have ra' := ra.mono x24.lo
      have hl2 := (Pm.addK_len (c := (acc, accD)) (u := vy) (d := y)).1
      refine ⟨y, acc, accD, ep, Rp.dp y hk'.2 (Rp.mono x4.bs.sub ry), hk'.1, hk'.2, k2, RpAll.dp _ (canLay_all gd) (ra'.mono x4.bs.sub), gd, by omega, fun ep' => ⟨m - 1, by omega, H04, _, _, ep', by omega, (xc.trans x24).updO hD k1 hfn, k1, upd_same, addK_rp ra' ry, addK_good gd hk, by simp only at hl2; omega, w.mono fun ys q a H0' H' xx ha o => q a H0' H' xx ha ?_⟩⟩
      have e : (Pm.addK (acc, accD) vy y).2 = if Pm.hasK accD y = true then accD else accD ++ [y] := by
        unfold Pm.addK
        split <;> rfl
      rw [e] at o
      exact o
    · have ei : ds.drop i = [] := List.drop_eq_nil_of_le (by omega)
      rw [ei] at w
      exact .inl ⟨(wk i H0c Hc xc).2 (by omega), w Da H0c Hc (x1.trans xc) (x1.free R.bs hD) ⟨h0, _, acc, accD, .inr ⟨rfl, gd, ep, rfl⟩, hDc, ra⟩⟩
end
end Pf
/-! PfI: statements by data. -/
namespace Pf
open PySem PySem.Spec PyProof.Rows L2

/-- since the def's entry -/
structure Ent (g : Gc) (fa : Option Addr) (H0s Hs Z H0 H : Hp) (σ : L2.St) (ρ : Ev) : Prop where
  x : Ext g fa H0s Hs H0 H
  own : ∀ (i : Nat) d a, ρ[i]? = some (some (SV.own d)) → σ[i]? = some (some (.ref a)) → Hs a = none
  b0 : Bs g fa H0s Hs
  z : ∀ a o, Z a = some o → H0 a = some o
section
variable {g : Gc} {fa : Option Addr} {H0s Hs Z H0 H H0' H' : Hp} {σ σ' : L2.St} {ρ ρ' : Ev}
theorem Ent.ext (e : Ent g fa H0s Hs Z H0 H σ ρ) (x : Ext g fa H0 H H0' H') : Ent g fa H0s Hs Z H0' H' σ ρ := ⟨e.x.trans x, e.own, e.b0, fun a o h => x.lo a o (e.z a o h)⟩
theorem Ent.kp (e : Ent g fa H0s Hs Z H0 H σ ρ) (k : Kp σ ρ σ' ρ') : Ent g fa H0s Hs Z H0 H σ' ρ' := ⟨e.x, fun i d a h1 h2 => e.own i d a (k i d h1).1 ((k i d h1).2 ▸ h2), e.b0, e.z⟩
/-- an own list changed -/
theorem RepS.chgO (R : RepS g fa H0 H σ ρ) {i : Nat} {d d2 : D} {a : Addr} {oo : HO} {ys : List V} {es : List D} (hi : ρ[i]? = some (some (.own d))) (hs : σ[i]? = some (some (.ref a))) (hf : fa ≠ some a) (ko : OwnO g a oo ys es d2) (r : RpAll g fa H0 ys es) :
    RepS g fa H0 (upd H a oo) σ ((Pf.clr ρ).set i (some (.own d2))) := by
  have ho : H0 a = none := by
    obtain ⟨v, h1, a', e1, o⟩ := R.slot i _ hi
    rw [hs] at h1
    cases h1
    cases e1
    exact o.1
  have hlt : i < ρ.length := (List.getElem?_eq_some_iff.mp hi).1
  have ci : ∀ k sv, ((Pf.clr ρ).set i (some (.own d2)))[k]? = some (some sv) → (k = i ∧ sv = .own d2) ∨ (k ≠ i ∧ ρ[k]? = some (some sv) ∧ ∀ d, sv ≠ .bor d) := fun k sv e => by
    by_cases hk : i = k
    · subst hk
      rw [List.getElem?_set_self (by rw [clr_len]; exact hlt)] at e
      exact .inl ⟨rfl, by simpa using e.symm⟩
    · rw [List.getElem?_set_ne hk] at e
      exact .inr ⟨fun z => hk z.symm, clr_get e⟩
  refine ⟨⟨fun b o e => ?_, fun b e => ?_⟩, ?_, fun k sv e => ?_, fun k j d e v h1 h2 h3 h4 => ?_⟩
  · rw [upd_ne (ne_of_none e ho)]; exact R.bs.sub b o e
  · obtain ⟨⟨ca, ns, x', y, z, h1, h2⟩, hn⟩ := R.bs.fd b e
    exact ⟨⟨ca, ns, x', y, z, by rw [upd_ne (fun q : b = a => hf (by rw [← q]; exact e))]; exact h1, h2⟩, hn⟩
  · rw [List.length_set, clr_len]; exact R.len
  · rcases ci k sv e with ⟨rfl, rfl⟩ | ⟨hk, e1, hb⟩
    · exact ⟨.ref a, hs, a, rfl, ho, oo, ys, es, ko, upd_same, r⟩
    · obtain ⟨v, hv, s⟩ := R.slot k sv e1
      refine ⟨v, hv, ?_⟩
      cases sv with
      | dat d => exact s
      | own d' =>
        obtain ⟨b, rfl, o1, o2, xs', ds', e2, e3, e4⟩ := s
        have hne : b ≠ a := fun z => by
          subst z
          exact hk (R.own k i d' d _ e1 hi hv hs)
        exact ⟨b, rfl, o1, o2, xs', ds', e2, by rw [upd_ne hne]; exact e3, e4⟩
      | bor d => exact absurd rfl (hb d)
  · have tr : ∀ k d, ((Pf.clr ρ).set i (some (.own d2)))[k]? = some (some (SV.own d)) → ∃ d', ρ[k]? = some (some (SV.own d')) := fun k d h => by
      rcases ci k _ h with ⟨rfl, _⟩ | ⟨_, e1, _⟩
      · exact ⟨_, hi⟩
      · exact ⟨_, e1⟩
    obtain ⟨d1, q1⟩ := tr k d h1
    obtain ⟨d3, q2⟩ := tr j e h2
    exact R.own k j d1 d3 v q1 q2 h3 h4
theorem RepS.chg (R : RepS g fa H0 H σ ρ) {i : Nat} {d : D} {a : Addr} {xs ys : List V} {es : List D} (hi : ρ[i]? = some (some (.own d))) (hs : σ[i]? = some (some (.ref a))) (h : H a = some (.lst xs)) (r : RpAll g fa H0 ys es) :
    RepS g fa H0 (upd H a (.lst ys)) σ (Pf.chg ρ i es) := R.chgO hi hs (fne_lst R.bs h) (.inl ⟨rfl, rfl⟩) r
theorem Ent.chgO (e : Ent g fa H0s Hs Z H0 H σ ρ) {i : Nat} {d d2 : D} {a : Addr} {oo : HO} (R : RepS g fa H0 H σ ρ) (hi : ρ[i]? = some (some (.own d))) (hs : σ[i]? = some (some (.ref a))) (hf : fa ≠ some a) :
    Ent g fa H0s Hs Z H0 (upd H a oo) σ ((Pf.clr ρ).set i (some (.own d2))) := by
  have ho : H0 a = none := by
    obtain ⟨v, h1, a', e1, o⟩ := R.slot i _ hi
    rw [hs] at h1
    cases h1
    cases e1
    exact o.1
  refine ⟨e.x.updO (e.own i d a hi hs) ho hf, fun k d' b h1 h2 => ?_, e.b0, e.z⟩
  by_cases hk : i = k
  · subst hk
    rw [hs] at h2
    cases h2
    exact e.own i d a hi hs
  · rw [List.getElem?_set_ne hk] at h1
    exact e.own k d' b (clr_get h1).1 h2
theorem Ent.chg (e : Ent g fa H0s Hs Z H0 H σ ρ) {i : Nat} {d : D} {a : Addr} {xs ys : List V} {es : List D} (R : RepS g fa H0 H σ ρ) (hi : ρ[i]? = some (some (.own d))) (hs : σ[i]? = some (some (.ref a))) (h : H a = some (.lst xs)) :
    Ent g fa H0s Hs Z H0 (upd H a (.lst ys)) σ (Pf.chg ρ i es) := e.chgO R hi hs (fne_lst R.bs h)
/-- an own slot's dict -/
theorem RepS.ownD (R : RepS g fa H0 H σ ρ) {i : Nat} {ds : List D} (hi : ρ[i]? = some (some (.own (dctD ds)))) : ∃ a xs ep, σ[i]? = some (some (.ref a)) ∧ H0 a = none ∧ H a = some (Pm.MixO g.P g.w a xs ds ep) ∧ RpAll g fa H0 xs ds ∧ Pm.good ds := by
  obtain ⟨v, h1, s⟩ := R.slot i _ hi
  have h0 : ∃ a, v = .ref a ∧ H0 a = none := let ⟨a, e, q, _⟩ := s; ⟨a, e, q⟩
  obtain ⟨a, xs, ep, e, h, ra, gd⟩ := Rv.dct R.bs (.inr s)
  obtain ⟨a2, e2, h2⟩ := h0
  rw [e] at e2
  cases e2
  exact ⟨a, xs, ep, by rw [← e]; exact h1, h2, h, ra, gd⟩
theorem god_ok {ρ : Ev} {i : Nat} {Q : List D → Prop} (w : WP (god ρ i) Q) : ∃ ds, ρ[i]? = some (some (.own (dctD ds))) ∧ Q ds := by
  unfold god at w
  split at w
  · rename_i kvs h
    obtain ⟨hc, w⟩ := wp_need w
    exact ⟨_, by rw [h, kvOk_eq hc], w⟩
  · exact w.elim
/-- an own slot's list -/
theorem RepS.ownAt (R : RepS g fa H0 H σ ρ) {i : Nat} {ds : List D} (hi : ρ[i]? = some (some (.own (.list ds)))) : ∃ a xs, σ[i]? = some (some (.ref a)) ∧ H0 a = none ∧ H a = some (.lst xs) ∧ RpAll g fa H0 xs ds := by
  obtain ⟨v, h1, a, rfl, h0, o, xs, ds', (⟨e, rfl⟩ | ⟨e, _⟩), h2, h3⟩ := R.slot i _ hi
  · cases e
    exact ⟨a, xs, h1, h0, h2, h3⟩
  · cases e
/-- what an expression leaves of an own list -/
theorem Ext.ownAt (x : Ext g fa H0 H H0' H') (b : Bs g fa H0 H) {a : Addr} {xs : List V} (h : H a = some (.lst xs)) : H' a = some (.lst xs) := x.hi a _ (fne_lst b h) h
end

def tS (g : Gc) (fa : Option Addr) (H0s Hs Z : Hp) (f : Ev → M Out) : TS := fun D σ H =>
  ∃ H0 ρ, RepS g fa H0 H σ ρ ∧ Ent g fa H0s Hs Z H0 H σ ρ ∧ WP (f ρ) fun o => match o with
    | .nx ρ' => ∀ σ' H0' H', RepS g fa H0' H' σ' ρ' → Ent g fa H0s Hs Z H0' H' σ' ρ' → D.nx σ' H'
    | .ct ρ' => ∀ σ' H0' H', RepS g fa H0' H' σ' ρ' → Ent g fa H0s Hs Z H0' H' σ' ρ' → D.ct σ' H'
    | .bk ρ' => ∀ σ' H0' H', RepS g fa H0' H' σ' ρ' → Ent g fa H0s Hs Z H0' H' σ' ρ' → D.bk σ' H'
    | .rt d => ∀ v H0' H', Ext g fa H0s Hs H0' H' → Rp g fa H0' v d → D.rt v H'
theorem ps_imp {X : Cx} {st : Stmt} {t t' : TS} (h : PS X st t) (i : ∀ D σ H, t' D σ H → t D σ H) : PS X st t' := ⟨fun ps s σ H D I q => h.run ps s σ H D I (i D σ H q)⟩
theorem pss_imp {X : Cx} {st : List Stmt} {t t' : TS} (h : PSs X st t) (i : ∀ D σ H, t' D σ H → t D σ H) : PSs X st t' := ⟨fun ps s σ H D I q => h.run ps s σ H D I (i D σ H q)⟩

section
variable {X : Cx} {g : Gc} {fa : Option Addr} {H0s Hs Z : Hp} {E E1 E2 E3 tg : Expr} {st : Stmt} {sts rest : List Stmt} {f f1 f2 : Ev → M D} {b1 : Ev → M Bool} {o1 o2 : Ev → M Out} {pos p : Pos}

theorem b_nil : PSs X [] (tS g fa H0s Hs Z fun ρ => .ret (.nx ρ)) := pss_imp pss_nil fun D σ H ⟨H0, ρ, R, e, w⟩ => w σ H0 H R e
theorem b_cons (h1 : PS X st (tS g fa H0s Hs Z o1)) (h2 : PSs X rest (tS g fa H0s Hs Z o2)) : PSs X (st :: rest) (tS g fa H0s Hs Z fun ρ => (o1 ρ).bind fun o => match o with
    | .nx ρ1 => o2 ρ1
    | o => .ret o) := pss_imp (pss_cons h1 h2) fun D σ H ⟨H0, ρ, R, e, w⟩ => ⟨H0, ρ, R, e, (WP.bind.mp w).mono fun o w => by
  cases o with
  | nx ρ1 => exact fun σ' H0' H' R' e' => ⟨H0', ρ1, R', e', w⟩
  | ct ρ1 => exact w
  | bk ρ1 => exact w
  | rt d => exact w⟩
theorem frz_ok {ρ : Ev} {i : Nat} {Q : Ev → Prop} (w : WP (frzD ρ i) Q) : ∃ d, ρ[i]? = some (some (.own d)) ∧ Q ((clr ρ).set i (some (.dat d))) := by
  unfold frzD at w
  split at w
  · exact ⟨_, by assumption, w⟩
  · exact w.elim
theorem b_frz {i : Nat} (h : PSs X sts (tS g fa H0s Hs Z o2)) : PSs X sts (tS g fa H0s Hs Z fun ρ => ((frzD ρ i).bind fun ρ1 => M.ret (Out.nx ρ1)).bind fun o => match o with
    | .nx ρ1 => o2 ρ1
    | o => .ret o) := pss_imp h fun D σ H ⟨H0, ρ, R, e, w⟩ => by
  obtain ⟨d, hi, w⟩ := frz_ok (WP.bind.mp (WP.bind.mp w))
  obtain ⟨v, hv, a, rfl, h0, oo, xs, ds, ko, ha, ra⟩ := R.slot i _ hi
  have hlt : i < ρ.length := (List.getElem?_eq_some_iff.mp hi).1
  have x : Ext g fa H0s Hs (upd H0 a oo) H := e.x.freezeO (e.own i _ a hi hv) h0 ha (fne_own e.x.bs ko ha)
  have lo : ∀ b o, H0 b = some o → upd H0 a oo b = some o := fun b o q => by rw [upd_ne (ne_of_none q h0)]; exact q
  have ci : ∀ k sv, ((clr ρ).set i (some (.dat d)))[k]? = some (some sv) → (k = i ∧ sv = .dat d) ∨ (k ≠ i ∧ ρ[k]? = some (some sv) ∧ ∀ d, sv ≠ .bor d) := fun k sv e => by
    by_cases hk : i = k
    · subst hk
      rw [List.getElem?_set_self (by rw [clr_len]; exact hlt)] at e
      exact .inl ⟨rfl, by simpa using e.symm⟩
    · rw [List.getElem?_set_ne hk] at e
      exact .inr ⟨fun z => hk z.symm, clr_get e⟩
  refine ⟨upd H0 a oo, _, ⟨x.bs, by rw [List.length_set, clr_len]; exact R.len, fun k sv q => ?_, fun k j d' e' v h1 h2 h3 h4 => ?_⟩, ⟨x, fun k d' b h1 h2 => ?_, e.b0, fun b o q => lo b o (e.z b o q)⟩, w⟩
  · rcases ci k sv q with ⟨rfl, rfl⟩ | ⟨hk, e1, hb⟩
    · exact ⟨_, hv, ko.rp upd_same (ra.mono lo)⟩
    · obtain ⟨u, hu, s⟩ := R.slot k sv e1
      refine ⟨u, hu, ?_⟩
      cases sv with
      | dat d => exact Rp.mono lo s
      | own d' =>
        obtain ⟨b, rfl, o1, o2, xs', ds', e2, e3, e4⟩ := s
        have hne : b ≠ a := fun z => by
          subst z
          exact hk (R.own k i d' _ _ e1 hi hu hv)
        exact ⟨b, rfl, by rw [upd_ne hne]; exact o1, o2, xs', ds', e2, e3, e4.mono lo⟩
      | bor d => exact absurd rfl (hb d)
  · rcases ci k _ h1 with ⟨_, z⟩ | ⟨_, q1, _⟩
    · cases z
    · rcases ci j _ h2 with ⟨_, z⟩ | ⟨_, q2, _⟩
      · cases z
      · exact R.own k j d' e' v q1 q2 h3 h4
  · rcases ci k _ h1 with ⟨_, z⟩ | ⟨_, q1, _⟩
    · cases z
    · exact e.own k d' b q1 h2
theorem x_ret (h : PE X E (tG g fa .p f)) : PS X (.Return (some E) pos) (tS g fa H0s Hs Z fun ρ => (f ρ).bind fun d => .ret (.rt d)) :=
  ps_imp (ps_ret h) fun D σ H ⟨H0, ρ, R, e, w⟩ => ⟨H0, ρ, R, (WP.bind.mp w).mono fun d w v H1' H1 x1 r1 => w v H1' H1 (e.x.trans x1) r1⟩
theorem x_retV {i : Nat} {x : Str} (hN : X.N[i]? = some x) (hv : Vis X.env.scope x) (h1 : (x == ("__debug__" : Str)) = false) (h2 : (x == ("__classdict__" : Str)) = false) : PS X (.Return (some (.Name x p)) pos) (tS g fa H0s Hs Z fun ρ => (gr ρ i).bind fun d => .ret (.rt d)) :=
  ps_imp (ps_ret (pe_var hN hv h1 h2)) fun D σ H ⟨H0, ρ, R, e, w⟩ => by
    obtain ⟨sv, hi, w⟩ := gr_ok (WP.bind.mp w)
    have w : ∀ v H0' H', Ext g fa H0s Hs H0' H' → Rp g fa H0' v sv.d → D.rt v H' := w
    obtain ⟨v, hv, s⟩ := R.slot i sv hi
    refine ⟨v, hv, ?_⟩
    have own : ∀ (j : Nat) d a, ρ[j]? = some (some (.own d)) → σ[j]? = some (some (.ref a)) → OwnAt g fa H0 H a d → (∀ v H0' H', Ext g fa H0s Hs H0' H' → Rp g fa H0' v d → D.rt v H') → D.rt (.ref a) H := fun j d a hj hs ⟨h0, oo, xs, ds, ko, ha, ra⟩ w => by
      refine w _ _ _ (e.x.freezeO (e.own j _ a hj hs) h0 ha (fne_own e.x.bs ko ha)) (ko.rp upd_same (ra.mono fun b o q => ?_))
      rw [upd_ne (ne_of_none q h0)]; exact q
    cases sv with
    | dat d => exact w v H0 H e.x s
    | own d =>
      obtain ⟨a, rfl, o⟩ := s
      exact own i d a hi hv o w
    | bor d =>
      rcases s with s | ⟨j, h3, h4⟩
      · exact w v H0 H e.x s
      · obtain ⟨v', hv', a, rfl, o⟩ := R.slot j _ h4
        rw [h3] at hv'
        cases hv'
        exact own j d a h4 h3 o w
theorem x_retN : PS X (.Return none pos) (tS g fa H0s Hs Z fun ρ => .ret (.rt .none)) := ps_imp ps_retN fun D σ H ⟨H0, ρ, R, e, w⟩ => w .non H0 H e.x .non
theorem x_expr (hs : swapsWith E none pos.line X.env = pure false) (h : PE X E (tG g fa .p f)) : PS X (.Expr E pos) (tS g fa H0s Hs Z fun ρ => (f ρ).bind fun _ => .ret (.nx ρ)) :=
  ps_imp (ps_expr h hs) fun D σ H ⟨H0, ρ, R, e, w⟩ => ⟨H0, ρ, R, (WP.bind.mp w).mono fun d w v H1' H1 x1 r1 => w σ H1' H1 (R.ext x1) (e.ext x1)⟩
theorem x_pas : PS X (.Pass pos) (tS g fa H0s Hs Z fun ρ => .ret (.nx ρ)) := ps_imp ps_pass fun D σ H ⟨H0, ρ, R, e, w⟩ => w σ H0 H R e
theorem x_brk : PS X (.Break pos) (tS g fa H0s Hs Z fun ρ => .ret (.bk ρ)) := ps_imp ps_break fun D σ H ⟨H0, ρ, R, e, w⟩ => w σ H0 H R e
theorem x_cont : PS X (.Continue pos) (tS g fa H0s Hs Z fun ρ => .ret (.ct ρ)) := ps_imp ps_continue fun D σ H ⟨H0, ρ, R, e, w⟩ => w σ H0 H R e
theorem x_never : PS X st (tS g fa H0s Hs Z fun _ => .bad) := ps_imp ps_never fun D σ H ⟨_, _, _, _, w⟩ => w
theorem x_if (hc : PT X E (tB1 g fa b1)) (h1 : PSs X sts (tS g fa H0s Hs Z o1)) (h2 : PSs X rest (tS g fa H0s Hs Z o2)) : PS X (.If E sts rest pos) (tS g fa H0s Hs Z fun ρ => (b1 ρ).bind fun k => if k = true then o1 ρ else o2 ρ) :=
  ps_imp (ps_if hc h1 h2) fun D σ H ⟨H0, ρ, R, e, w⟩ => ⟨H0, ρ, R, (WP.bind.mp w).mono fun k w H1' H1 x1 => by
    cases k with
    | true =>
      rw [if_pos rfl] at w ⊢
      exact ⟨H1', ρ, R.ext x1, e.ext x1, w⟩
    | false =>
      rw [if_neg (by intro z; cases z)] at w ⊢
      exact ⟨H1', ρ, R.ext x1, e.ext x1, w⟩⟩
theorem x_while (hx : X.xe = fun _ _ => False) (hc : PT X E (tB1 g fa b1)) (h1 : PSs X sts (tS g fa H0s Hs Z o1)) (n : Nat) : PS X (.While E sts [] pos) (tS g fa H0s Hs Z fun ρ => whGo b1 o1 n ρ) := by
  refine ps_imp (ps_while (hx ▸ PassesOwn.never) hc h1) fun D σ H ⟨H0, ρ, R, e, w⟩ => ?_
  refine ⟨fun m σ H => ∃ H0 ρ, RepS g fa H0 H σ ρ ∧ Ent g fa H0s Hs Z H0 H σ ρ ∧ WP (whGo b1 o1 m ρ) fun o => match o with
    | .nx ρ' => ∀ σ' H0' H', RepS g fa H0' H' σ' ρ' → Ent g fa H0s Hs Z H0' H' σ' ρ' → D.nx σ' H'
    | .ct ρ' => ∀ σ' H0' H', RepS g fa H0' H' σ' ρ' → Ent g fa H0s Hs Z H0' H' σ' ρ' → D.ct σ' H'
    | .bk ρ' => ∀ σ' H0' H', RepS g fa H0' H' σ' ρ' → Ent g fa H0s Hs Z H0' H' σ' ρ' → D.bk σ' H'
    | .rt d => ∀ v H0' H', Ext g fa H0s Hs H0' H' → Rp g fa H0' v d → D.rt v H', ⟨n, H0, ρ, R, e, w⟩, fun m σ H hW => ?_⟩
  obtain ⟨H0, ρ, R, e, w⟩ := hW
  cases m with
  | zero => exact w.elim
  | succ m =>
    unfold whGo at w
    refine ⟨H0, ρ, R, (WP.bind.mp w).mono fun k w H1' H1 x1 => ?_⟩
    cases k with
    | true =>
      rw [if_pos rfl] at w ⊢
      refine ⟨fun σ' H' => ∃ m', m' < m + 1 ∧ _, fun σ' H' h => h, H1', ρ, R.ext x1, e.ext x1, (WP.bind.mp w).mono fun o w => ?_⟩
      cases o with
      | nx ρ2 => exact fun σ' H0' H' R' e' => ⟨m, Nat.lt_succ_self _, H0', ρ2, R', e', w⟩
      | ct ρ2 => exact fun σ' H0' H' R' e' => ⟨m, Nat.lt_succ_self _, H0', ρ2, R', e', w⟩
      | bk ρ2 => exact w
      | rt d => exact w
    | false =>
      rw [if_neg (by intro z; cases z)] at w ⊢
      exact w σ H1' H1 (R.ext x1) (e.ext x1)
theorem x_asg {ts : List Nat} {ft : D → Ev → M Ev} (hs : swapsWithSole [tg] E pos.line X.env = pure false) (hw : swappedStores [tg] E X.env = pure none) (hm : List.map (fun x => x.snd) (assignEach [tg] X.env) = [assign tg X.env])
    (h : PE X E (tG g fa .p f)) (hg : PG X tg (gT g fa ts ft)) : PS X (.Assign [tg] E pos) (tS g fa H0s Hs Z fun ρ => (f ρ).bind fun d => (ft d ρ).bind fun ρ1 => .ret (.nx ρ1)) :=
  ps_imp (ps_asg h hg hs hw hm) fun D σ H ⟨H0, ρ, R, e, w⟩ => ⟨H0, ρ, R, (WP.bind.mp w).mono fun d w v H1' H1 x1 r1 => ⟨H1', ρ, d, R.ext x1, r1, (WP.bind.mp w).mono fun ρ' w σ' off k R' => w σ' H1' H1 R' ((e.ext x1).kp k)⟩⟩
/-- what a store of a fresh list leaves -/
theorem own_new {H0 H H1' H1 : Hp} {σ : L2.St} {ρ : Ev} (R : RepS g fa H0 H σ ρ) (e : Ent g fa H0s Hs Z H0 H σ ρ) (x1 : Ext g fa H0 H H1' H1) (i : Nat) {a : Addr} {d0 : D} (hs : H a = none) (o : OwnAt g fa H1' H1 a d0) :
    RepS g fa H1' H1 (σ.set i (some (.ref a))) (put ρ i (.own d0)) ∧ Ent g fa H0s Hs Z H1' H1 (σ.set i (some (.ref a))) (put ρ i (.own d0)) := by
  have hn : ∀ (j : Nat) e' b, ρ[j]? = some (some (.own e')) → σ[j]? = some (some (.ref b)) → b ≠ a := fun j e' b h1 h2 z => by
    subst z
    obtain ⟨v, hv, a', rfl, _, oo, xs, ds', _, ha, _⟩ := R.slot j _ h1
    rw [h2] at hv
    cases hv
    rw [hs] at ha; cases ha
  refine ⟨(R.ext x1).putO i o hn, (e.ext x1).x, fun k d b h1 h2 => ?_, e.b0, (e.ext x1).z⟩
  by_cases hk : i = k
  · subst hk
    by_cases hl : i < σ.length
    · rw [List.getElem?_set_self hl] at h2
      cases h2
      exact e.x.free e.b0 hs
    · rw [List.getElem?_eq_none (by rw [List.length_set]; omega)] at h2; cases h2
  · rw [List.getElem?_set_ne hk] at h2
    have : ρ[k]? = some (some (SV.own d)) := by
      unfold put at h1
      split at h1
      · rw [List.getElem?_set_ne hk] at h1; exact (clr_get h1).1
      · rw [List.getElem?_set_ne hk] at h1; exact h1
    exact e.own k d b this h2
/-- a fresh list into a slot -/
theorem own_imp {i : Nat} {D : Ends} {σ : L2.St} {H : Hp} (hf : isFr_ = true) (h : tS g fa H0s Hs Z (fun ρ => (f ρ).bind fun d => match d with
    | .list ds => M.ret (Out.nx (put ρ i (.own (.list ds))))
    | _ => .bad) D σ H) : tAsg (tG g fa .f f) (gName i) D σ H := by
  obtain ⟨H0, ρ, R, e, w⟩ := h
  refine ⟨H0, ρ, R, (WP.bind.mp w).mono fun d w v H1' H1 x1 r1 => ?_⟩
  cases d with
  | list ds =>
    obtain ⟨a, rfl, hs, o⟩ := r1
    obtain ⟨R', e'⟩ := own_new R e x1 i hs o
    exact w _ H1' H1 R' e'
  | _ => exact w.elim
theorem x_asgO {i : Nat} {x : Str} {p : Pos} (hN : X.N.Nodup) (hi : X.N[i]? = some x) (hx : Loc X.env.scope x) (hf : X.fn x = true ∨ X.env.scope.names.lookup x = some .local) (hs : swapsWith E (some (.Name x p)) pos.line X.env = pure false) (h : PE X E (tG g fa .f f)) :
    PS X (.Assign [.Name x p] E pos) (tS g fa H0s Hs Z fun ρ => (f ρ).bind fun d => match d with
    | .list ds => M.ret (Out.nx (put ρ i (.own (.list ds))))
    | _ => .bad) := ps_imp (ps_set hN hi hx h hs hf) fun D σ H h => own_imp (isFr_ := true) rfl h
/-- two at once -/
def mkW (o : Bool) (d : D) : M SV := if o = true then (lstD d).bind fun ds => .ret (.own (.list ds)) else .ret (.dat d)
def mdO (o : Bool) : Md := if o = true then .f else .p
theorem put2 {H0 H H1' H1 : Hp} {σ : L2.St} {ρ : Ev} (o : Bool) (R : RepS g fa H0 H σ ρ) (e : Ent g fa H0s Hs Z H0 H σ ρ) (x1 : Ext g fa H0 H H1' H1) (i : Nat) {v : V} {d : D} (r : Rel g fa (mdO o) H H1' H1 v d) {Q : SV → Prop} (w : WP (mkW o d) Q) :
    ∃ sv, Q sv ∧ RepS g fa H1' H1 (σ.set i (some v)) (put ρ i sv) ∧ Ent g fa H0s Hs Z H1' H1 (σ.set i (some v)) (put ρ i sv) := by
  cases o with
  | true =>
    obtain ⟨ds, rfl, w⟩ := lstD_ok (WP.bind.mp w)
    obtain ⟨a, rfl, hs, oa⟩ := r
    exact ⟨_, w, own_new R e x1 i hs oa⟩
  | false => exact ⟨_, w, (R.ext x1).putD i r, (e.ext x1).kp (Kp.put fun _ z => by cases z)⟩
theorem Rel.later {H0 H H1' H1 H2' H2 : Hp} {m : Md} {v : V} {d : D} (hm : m ≠ .v) (x1 : Ext g fa H0 H H1' H1) (x2 : Ext g fa H1' H1 H2' H2) (r : Rel g fa m H H1' H1 v d) : Rel g fa m H H2' H2 v d := by
  cases m with
  | p => exact Rp.mono x2.lo r
  | v => exact absurd rfl hm
  | f =>
    cases d with
    | list ds =>
      obtain ⟨a, rfl, hs, o⟩ := r
      exact ⟨a, rfl, hs, o.ext x1.bs x2⟩
    | none => exact Rp.mono x2.lo r
    | bool _ => exact Rp.mono x2.lo r
    | int _ => exact Rp.mono x2.lo r
    | str _ => exact Rp.mono x2.lo r
    | tuple _ => exact Rp.mono x2.lo r
    | dict _ => exact Rp.mono x2.lo r
theorem par_imp {i j : Nat} {oi oj : Bool} {σ : L2.St} {H : Hp} {D : Ends} (hij : i ≠ j) (h : tS g fa H0s Hs Z (fun ρ => (f1 ρ).bind fun x => (f2 ρ).bind fun y => (mkW oi x).bind fun v => (mkW oj y).bind fun w => M.ret (Out.nx (put (put ρ i v) j w))) D σ H) :
    tPar i j (tCons (tG g fa (mdO oi) f1) (tCons (tG g fa (mdO oj) f2) tNil)) D σ H := by
  obtain ⟨H0, ρ, R, e, w⟩ := h
  refine ⟨H0, ρ, R, (WP.bind.mp w).mono fun d w v H1' H1 x1 r1 => ⟨H1', ρ, R.ext x1, (WP.bind.mp w).mono fun d2 w v2 H2' H2 x2 r2 => ⟨v, v2, rfl, ?_⟩⟩⟩
  obtain ⟨sv, w, R1, e1⟩ := put2 oi R e x1 i r1 (WP.bind.mp w)
  obtain ⟨sv2, w, R2, e2⟩ := put2 oj R1 e1 x2 j r2 (WP.bind.mp w)
  exact w _ H2' H2 R2 e2
theorem par_imp2 {K : PySem.W.Frag} {i j : Nat} {oi oj : Bool} {σ : L2.St} {H : Hp} {D : Ends} (hij : i ≠ j) (h : tS g fa H0s Hs Z (fun ρ => (f1 ρ).bind fun x => (f2 ρ).bind fun y => (mkW oi x).bind fun v => (mkW oj y).bind fun w => M.ret (Out.nx (put (put ρ i v) j w))) D σ H) :
    tAsg (tTup (tCons (tG g fa (mdO oi) f1) (tCons (tG g fa (mdO oj) f2) tNil))) (gTup K 2 (gCons (gName i) (gCons (gName j) gNil))) D σ H := by
  obtain ⟨H0, ρ, R, e, w⟩ := h
  refine ⟨H0, ρ, R, (WP.bind.mp w).mono fun d w v H1' H1 x1 r1 => ⟨H1', ρ, R.ext x1, (WP.bind.mp w).mono fun d2 w v2 H2' H2 x2 r2 => ⟨by show 2 ≤ sizeLine; decide, fun p hp => ?_⟩⟩⟩
  obtain ⟨sv, w, R1, e1⟩ := put2 oi R e x1 i r1 (WP.bind.mp w)
  obtain ⟨sv2, w, R2, e2⟩ := put2 oj R1 e1 x2 j r2 (WP.bind.mp w)
  have x3 := x2.bs.allocP (o := .tup [v, v2]) hp
  exact ⟨p, [v, v2], rfl, .inl (.inl upd_same), rfl, v, [v2], rfl, v2, [], rfl, rfl, w _ _ _ (R2.ext x3) (e2.ext x3)⟩
/-- x = e if c else y, y an own list: x may be it -/
theorem x_bor {i j : Nat} {x y : Str} {p p2 ip : Pos} (hN : X.N.Nodup) (hi : X.N[i]? = some x) (hx : Loc X.env.scope x) (hf : X.fn x = true ∨ X.env.scope.names.lookup x = some .local)
    (hj : X.N[j]? = some y) (hy : Vis X.env.scope y) (h1 : (y == ("__debug__" : Str)) = false) (h2 : (y == ("__classdict__" : Str)) = false) (hij : i ≠ j) (hc : PT X E3 (tB1 g fa b1)) (h : PE X E (tG g fa .p f)) :
    PS X (.Assign [.Name x p] (.IfExp E3 E (.Name y p2) ip) pos) (tS g fa H0s Hs Z fun ρ => (b1 ρ).bind fun k => if k = true then (f ρ).bind fun d => M.ret (Out.nx (put ρ i (.dat d))) else (go ρ j).bind fun ds => need (noOwn ρ i) (M.ret (Out.nx (put ρ i (.bor (.list ds)))))) :=
  ps_imp (ps_set hN hi hx (pe_ifExp hc h (pe_var hj hy h1 h2)) rfl hf) fun D σ H ⟨H0, ρ, R, e, w⟩ => ⟨H0, ρ, R, (WP.bind.mp w).mono fun k w H1' H1 x1 => by
    cases k with
    | true =>
      rw [if_pos rfl] at w ⊢
      exact ⟨H1', ρ, R.ext x1, (WP.bind.mp w).mono fun d w v H2' H2 x2 r2 => w _ H2' H2 ((R.ext (x1.trans x2)).putD i r2) ((e.ext (x1.trans x2)).kp (Kp.put fun _ z => by cases z))⟩
    | false =>
      rw [if_neg (by intro z; cases z)] at w ⊢
      obtain ⟨ds, ho, w⟩ := go_ok (WP.bind.mp w)
      obtain ⟨hno, w⟩ := wp_need w
      have R1 := R.ext x1
      obtain ⟨a, xs, hs, h0, ha, ra⟩ := R1.ownAt ho
      have hn : ∀ e, ρ[i]? ≠ some (some (.own e)) := fun e' z => by unfold noOwn at hno; rw [z] at hno; cases hno
      refine ⟨_, hs, w _ H1' H1 (R1.put i (.inr ⟨j, hs, clr_own ho⟩) (fun _ _ => hn) (fun _ z => by cases z)) ((e.ext x1).kp (Kp.put fun _ z => by cases z))⟩⟩
/-! changes of own lists -/
theorem x_meth {i : Nat} {x : Str} {name : Str} {id : String} {r : V → List V → Hp → VK → Prop} {apos cpos : Pos} (hN : X.N[i]? = some x) (hv : Vis X.env.scope x) (h1 : (x == ("__debug__" : Str)) = false) (h2 : (x == ("__classdict__" : Str)) = false)
    (slot : Slot "list" name id) (ty : typeOf (.builtin id) = pure (.type "method_descriptor")) (hm : MtR X id r) (hl : (apos.endLine == cpos.line) = true) (hs : starEach [E] X.env = (false, eval E X.env) :: starEach [] X.env) {te : TE} (h : PE X E te) :
    PE X (.Call (.Attribute (.Name x p) name apos) [E] [] cpos) (tBM X.K "list" r (tVar i) (tCons te tNil)) :=
  pe_bm PySem.F.plainAttrs_list slot ty hm (pe_var hN hv h1 h2) (pa_cons h pa_nil hs) rfl (by rw [hs]; rfl) hl hs rfl
theorem tyV_own {K : PySem.W.Frag} {H : Hp} {a : Addr} {xs : List V} (h : H a = some (.lst xs)) : tyV K "list" (.ref a) H := .inl ⟨rfl, xs, .inl (.inl h)⟩
theorem x_app {i : Nat} {x : Str} {apos cpos : Pos} (hN : X.N[i]? = some x) (hv : Vis X.env.scope x) (h1 : (x == ("__debug__" : Str)) = false) (h2 : (x == ("__classdict__" : Str)) = false)
    (hl : (apos.endLine == cpos.line) = true) (hs : starEach [E] X.env = (false, eval E X.env) :: starEach [] X.env) (h : PE X E (tG g fa .p f)) :
    PS X (.Expr (.Call (.Attribute (.Name x p) "append" apos) [E] [] cpos) pos) (tS g fa H0s Hs Z fun ρ => (go ρ i).bind fun ds => (f ρ).bind fun d => need (decide (ds.length < sizeLine)) (M.ret (Out.nx (chg ρ i (ds ++ [d]))))) :=
  ps_imp (ps_expr (x_meth hN hv h1 h2 PySem.F.slot_list_append PySem.F.type_list_append mt_append hl hs h)) fun D σ H ⟨H0, ρ, R, e, w⟩ => by
    obtain ⟨ds, ho, w⟩ := go_ok (WP.bind.mp w)
    obtain ⟨a, xs, hs, h0, ha, ra⟩ := R.ownAt ho
    refine ⟨_, hs, tyV_own ha, H0, ρ, R, (WP.bind.mp w).mono fun d w v H1' H1 x1 r1 => ?_⟩
    obtain ⟨hc, w⟩ := wp_need w
    have ha1 := x1.ownAt R.bs ha
    exact ⟨a, xs, v, rfl, rfl, ha1, by rw [ra.len]; exact of_decide_eq_true hc, w σ H1' _ ((R.ext x1).chg ho hs ha1 ((ra.mono x1.lo).append (.one r1))) ((e.ext x1).chg (R.ext x1) ho hs ha1)⟩
theorem x_ext {i : Nat} {x : Str} {apos cpos : Pos} (hN : X.N[i]? = some x) (hv : Vis X.env.scope x) (h1 : (x == ("__debug__" : Str)) = false) (h2 : (x == ("__classdict__" : Str)) = false)
    (hl : (apos.endLine == cpos.line) = true) (hs : starEach [E] X.env = (false, eval E X.env) :: starEach [] X.env) (h : PE X E (tG g fa .v f)) :
    PS X (.Expr (.Call (.Attribute (.Name x p) "extend" apos) [E] [] cpos) pos) (tS g fa H0s Hs Z fun ρ => (go ρ i).bind fun ds => (f ρ).bind fun d => (lstD d).bind fun es => need (decide (ds.length + es.length ≤ sizeLine)) (M.ret (Out.nx (chg ρ i (ds ++ es))))) :=
  ps_imp (ps_expr (x_meth hN hv h1 h2 PySem.F.slot_list_extend PySem.F.type_list_extend mt_extend hl hs h)) fun D σ H ⟨H0, ρ, R, e, w⟩ => by
    obtain ⟨ds, ho, w⟩ := go_ok (WP.bind.mp w)
    obtain ⟨a, xs, hs, h0, ha, ra⟩ := R.ownAt ho
    refine ⟨_, hs, tyV_own ha, H0, ρ, R, (WP.bind.mp w).mono fun d w v H1' H1 x1 r1 => ?_⟩
    obtain ⟨es, rfl, w⟩ := lstD_ok (WP.bind.mp w)
    obtain ⟨hc, w⟩ := wp_need w
    have ha1 := x1.ownAt R.bs ha
    obtain ⟨b, ys, rfl, hb, rb⟩ := Rv.list r1 x1.bs
    exact ⟨a, b, xs, ys, rfl, rfl, ha1, hb, by rw [ra.len, rb.len]; exact of_decide_eq_true hc, w σ H1' _ ((R.ext x1).chg ho hs ha1 ((ra.mono x1.lo).append rb)) ((e.ext x1).chg (R.ext x1) ho hs ha1)⟩
theorem popD_ok {ds es : List D} {k : Int} {z : D} (h : popD ds k = some (z, es)) : -(2 ^ 63) ≤ k ∧ k < 2 ^ 63 ∧ ∃ j, seqIndex? k ds.length = some j ∧ ds[j]? = some z ∧ es = ds.eraseIdx j := by
  unfold popD at h
  split at h
  · rename_i hc
    refine ⟨by omega, by omega, ?_⟩
    cases e : seqIndex? k ds.length with
    | none => rw [e] at h; cases h
    | some j =>
      rw [e] at h
      have h : (ds[j]?).map (fun d => (d, ds.eraseIdx j)) = some (z, es) := h
      cases e2 : ds[j]? with
      | none => rw [e2] at h; cases h
      | some d =>
        rw [e2] at h
        cases h
        exact ⟨j, rfl, e2, rfl⟩
  · cases h
theorem x_pop {i : Nat} {x : Str} {apos cpos : Pos} (hN : X.N[i]? = some x) (hv : Vis X.env.scope x) (h1 : (x == ("__debug__" : Str)) = false) (h2 : (x == ("__classdict__" : Str)) = false)
    (hl : (apos.endLine == cpos.line) = true) (hs : starEach [E] X.env = (false, eval E X.env) :: starEach [] X.env) (h : PE X E (tG g fa .p f)) :
    PS X (.Expr (.Call (.Attribute (.Name x p) "pop" apos) [E] [] cpos) pos) (tS g fa H0s Hs Z fun ρ => (go ρ i).bind fun ds => (f ρ).bind fun d => (intD d).bind fun k => match popD ds k with
    | some (_, es) => M.ret (Out.nx (chg ρ i es))
    | none => .bad) :=
  ps_imp (ps_expr (x_meth hN hv h1 h2 PySem.F.slot_list_pop PySem.F.type_list_pop mt_popAt hl hs h)) fun D σ H ⟨H0, ρ, R, e, w⟩ => by
    obtain ⟨ds, ho, w⟩ := go_ok (WP.bind.mp w)
    obtain ⟨a, xs, hs, h0, ha, ra⟩ := R.ownAt ho
    refine ⟨_, hs, tyV_own ha, H0, ρ, R, (WP.bind.mp w).mono fun d w v H1' H1 x1 r1 => ?_⟩
    obtain ⟨k, ek, w2⟩ := intD_ok (WP.bind.mp w)
    clear w
    have w := w2
    subst ek
    cases r1
    cases hp : popD ds k with
    | none => rw [hp] at w; exact w.elim
    | some q =>
      obtain ⟨z, es⟩ := q
      rw [hp] at w
      obtain ⟨c1, c2, j, hj, hz, rfl⟩ := popD_ok hp
      have ha1 := x1.ownAt R.bs ha
      obtain ⟨u, hu, _⟩ := ra.get' hz
      exact ⟨a, xs, k, j, u, rfl, rfl, ha1, c1, c2, by rw [ra.len]; exact hj, hu, w σ H1' _ ((R.ext x1).chg ho hs ha1 ((ra.mono x1.lo).erase j)) ((e.ext x1).chg (R.ext x1) ho hs ha1)⟩
theorem chg_other {ρ : Ev} {i j : Nat} {ds es : List D} (hij : i ≠ j) (h : ρ[i]? = some (some (.own (.list ds)))) : (chg ρ j es)[i]? = some (some (.own (.list ds))) := by
  unfold chg
  rw [List.getElem?_set_ne (fun z => hij z.symm)]
  exact clr_own h
theorem x_appPop {i j : Nat} {x y : Str} {apos cpos apos2 cpos2 p2 : Pos} (hN : X.N[i]? = some x) (hv : Vis X.env.scope x) (h1 : (x == ("__debug__" : Str)) = false) (h2 : (x == ("__classdict__" : Str)) = false)
    (hN' : X.N[j]? = some y) (hv' : Vis X.env.scope y) (h1' : (y == ("__debug__" : Str)) = false) (h2' : (y == ("__classdict__" : Str)) = false)
    (hl : (apos.endLine == cpos.line) = true) (hl2 : (apos2.endLine == cpos2.line) = true) (hs : starEach [E] X.env = (false, eval E X.env) :: starEach [] X.env) (h : PE X E (tG g fa .p f)) :
    PS X (.Expr (.Call (.Attribute (.Name x p) "append" apos) [.Call (.Attribute (.Name y p2) "pop" apos2) [E] [] cpos2] [] cpos) pos) (tS g fa H0s Hs Z fun ρ => (go ρ i).bind fun cs => (go ρ j).bind fun ds => (f ρ).bind fun d => (intD d).bind fun k => match popD ds k with
    | some (z, es) => need (decide (cs.length < sizeLine ∧ i ≠ j)) (M.ret (Out.nx (chg (chg ρ j es) i (cs ++ [z]))))
    | none => .bad) :=
  ps_imp (ps_expr (x_meth hN hv h1 h2 PySem.F.slot_list_append PySem.F.type_list_append mt_append hl rfl (x_meth hN' hv' h1' h2' PySem.F.slot_list_pop PySem.F.type_list_pop mt_popAt hl2 hs h))) fun D σ H ⟨H0, ρ, R, e, w⟩ => by
    obtain ⟨cs, hoi, w⟩ := go_ok (WP.bind.mp w)
    obtain ⟨ds, hoj, w⟩ := go_ok (WP.bind.mp w)
    obtain ⟨a, xs, hsi, h0, ha, ra⟩ := R.ownAt hoi
    obtain ⟨b, ys, hsj, g0, hb, rb⟩ := R.ownAt hoj
    refine ⟨_, hsi, tyV_own ha, _, hsj, tyV_own hb, H0, ρ, R, (WP.bind.mp w).mono fun d w v H1' H1 x1 r1 => ?_⟩
    obtain ⟨k, ek, w2⟩ := intD_ok (WP.bind.mp w)
    clear w
    have w := w2
    subst ek
    cases r1
    cases hp : popD ds k with
    | none => rw [hp] at w; exact w.elim
    | some q =>
      obtain ⟨z, es⟩ := q
      rw [hp] at w
      obtain ⟨hc, w⟩ := wp_need w
      obtain ⟨hc, hij⟩ := of_decide_eq_true hc
      obtain ⟨c1, c2, m, hm, hz, rfl⟩ := popD_ok hp
      have ha1 := x1.ownAt R.bs ha
      have hb1 := x1.ownAt R.bs hb
      obtain ⟨u, hu, ru⟩ := rb.get' hz
      have hab : a ≠ b := fun q => hij (R.own i j _ _ _ hoi hoj hsi (q ▸ hsj))
      have R1 := (R.ext x1).chg hoj hsj hb1 ((rb.mono x1.lo).erase m)
      have e1 := (e.ext x1).chg (ys := ys.eraseIdx m) (es := ds.eraseIdx m) (R.ext x1) hoj hsj hb1
      have ha2 : upd H1 b (.lst (ys.eraseIdx m)) a = some (.lst xs) := by rw [upd_ne hab]; exact ha1
      have hoi2 := chg_other (es := ds.eraseIdx m) hij hoi
      refine ⟨b, ys, k, m, u, rfl, rfl, hb1, c1, c2, by rw [rb.len]; exact hm, hu, a, xs, u, rfl, rfl, ha2, by rw [ra.len]; exact hc, w σ H1' _ (R1.chg hoi2 hsi ha2 ((ra.mono x1.lo).append (.one (Rp.mono x1.lo ru)))) (e1.chg R1 hoi2 hsi ha2)⟩
theorem map_erase {α β : Type} (f : α → β) : ∀ (l : List α) (j : Nat), (l.map f).eraseIdx j = (l.eraseIdx j).map f
  | [], _ => rfl
  | _ :: _, 0 => rfl
  | a :: l, j + 1 => by
    show f a :: (l.map f).eraseIdx j = f a :: (l.eraseIdx j).map f
    rw [map_erase f l j]
theorem rmvD_ok {x : Int} : ∀ {ns : List Int} {ds es : List D}, intsOf ds = some ns → rmvD (.int x) ds = some es → ∃ j : Nat, ns[j]? = some x ∧ (∀ m : Nat, m < j → ns[m]? ≠ some x) ∧ es = ds.eraseIdx j
  | ns, [], es, _, h => by cases h
  | ns, d :: ds, es, hi, h => by
    cases d with
    | int y =>
      simp only [intsOf] at hi
      cases e : intsOf ds with
      | none => rw [e] at hi; cases hi
      | some ms =>
        rw [e] at hi
        have hns : ns = y :: ms := by simpa using hi.symm
        subst hns
        unfold rmvD at h
        by_cases hy : y = x
        · subst hy
          rw [if_pos (by simp [PyData.eqv])] at h
          cases h
          exact ⟨0, rfl, fun m hm => by omega, rfl⟩
        · rw [if_neg (by simp [PyData.eqv]; exact hy)] at h
          cases e2 : rmvD (.int x) ds with
          | none => rw [e2] at h; cases h
          | some es' =>
            rw [e2] at h
            cases h
            obtain ⟨j, h1, h2, h3⟩ := rmvD_ok e e2
            refine ⟨j + 1, by simpa using h1, fun m hm => ?_, by rw [h3]; rfl⟩
            cases m with
            | zero => simpa using hy
            | succ m => simpa using h2 m (by omega)
    | _ => simp [intsOf] at hi
theorem x_rmv {i : Nat} {x : Str} {apos cpos : Pos} (hN : X.N[i]? = some x) (hv : Vis X.env.scope x) (h1 : (x == ("__debug__" : Str)) = false) (h2 : (x == ("__classdict__" : Str)) = false)
    (hl : (apos.endLine == cpos.line) = true) (hs : starEach [E] X.env = (false, eval E X.env) :: starEach [] X.env) (h : PE X E (tG g fa .p f)) :
    PS X (.Expr (.Call (.Attribute (.Name x p) "remove" apos) [E] [] cpos) pos) (tS g fa H0s Hs Z fun ρ => (go ρ i).bind fun ds => (f ρ).bind fun d => match intsOf ds, d, rmvD d ds with
    | some _, .int _, some es => M.ret (Out.nx (chg ρ i es))
    | _, _, _ => .bad) :=
  ps_imp (ps_expr (x_meth hN hv h1 h2 PySem.F.slot_list_remove PySem.F.type_list_remove mt_remove hl hs h)) fun D σ H ⟨H0, ρ, R, e, w⟩ => by
    obtain ⟨ds, ho, w⟩ := go_ok (WP.bind.mp w)
    obtain ⟨a, xs, hs, h0, ha, ra⟩ := R.ownAt ho
    refine ⟨_, hs, tyV_own ha, H0, ρ, R, (WP.bind.mp w).mono fun d w v H1' H1 x1 r1 => ?_⟩
    cases hi : intsOf ds with
    | none => rw [hi] at w; exact w.elim
    | some ns =>
      rw [hi] at w
      cases d with
      | int k =>
        cases hr : rmvD (.int k) ds with
        | none => rw [hr] at w; exact w.elim
        | some es =>
          rw [hr] at w
          cases r1
          obtain ⟨j, q1, q2, rfl⟩ := rmvD_ok hi hr
          have ha1 := x1.ownAt R.bs ha
          have ex := ra.nums hi
          subst ex
          refine ⟨a, ns, k, j, rfl, rfl, ha1, q1, q2, w σ H1' _ ((R.ext x1).chg ho hs ha1 ?_) ((e.ext x1).chg (R.ext x1) ho hs ha1)⟩
          rw [← map_erase]
          exact (ra.mono x1.lo).erase j
      | _ => exact w.elim
theorem x_aug {i : Nat} {x : Str} {p : Pos} (hN : X.N.Nodup) (hi : X.N[i]? = some x) (hx : Loc X.env.scope x) (hf : X.fn x = true ∨ X.env.scope.names.lookup x = some .local) (h : PE X E (tG g fa .p f)) :
    PS X (.AugAssign (.Name x p) .Add E pos) (tS g fa H0s Hs Z fun ρ => (gs ρ i).bind fun x => (f ρ).bind fun y => (intD x).bind fun a => (intD y).bind fun b => M.ret (Out.nx (put ρ i (.dat (.int (a + b)))))) :=
  ps_imp (ps_aug hN hi hx h ip_add hf) fun D σ H ⟨H0, ρ, R, e, w⟩ => by
    obtain ⟨d, hd, w1⟩ := gs_ok (WP.bind.mp w)
    obtain ⟨v, hv, s⟩ := R.slot i _ hd
    refine ⟨v, hv, H0, ρ, R, (WP.bind.mp w1).mono fun y w2 u H1' H1 x1 r1 => ?_⟩
    obtain ⟨a, ea, w3⟩ := intD_ok (WP.bind.mp w2)
    obtain ⟨b, eb, w4⟩ := intD_ok (WP.bind.mp w3)
    subst ea eb
    have s : Rp g fa H0 v (.int a) := s
    cases s
    cases r1
    exact ⟨a, b, rfl, rfl, w4 _ H1' H1 ((R.ext x1).putD i (.int _)) ((e.ext x1).kp (Kp.put fun _ z => by cases z))⟩
theorem x_fput {i q : Nat} {x y : Str} {j : Nat} {p p2 p3 : Pos} (hu : X.A.units + 1 < cLine) (ok : FkOk g.fk) (hk : fkAt g.fk q = some y) (hN : X.N[i]? = some x) (hv : Vis X.env.scope x) (h1 : (x == ("__debug__" : Str)) = false) (h2 : (x == ("__classdict__" : Str)) = false) (h : PE X E (tG g fa .p f)) (hs : swapsWith E (some (.Subscript (.Name x p) (.Constant (.str y) j p2) p3)) pos.line X.env = pure false) :
    PS X (.Assign [.Subscript (.Name x p) (.Constant (.str y) j p2) p3] E pos) (tS g fa H0s Hs Z fun ρ => (f ρ).bind fun d => (intD d).bind fun _ => (gs ρ i).bind fun x => (cellsOf x).bind fun _ => M.ret (Out.nx ρ)) :=
  ps_imp (ps_dput hu (pe_var hN hv h1 h2) pe_str h hs) fun D σ H ⟨H0, ρ, R, e, w⟩ => ⟨H0, ρ, R, (WP.bind.mp w).mono fun d w v H1' H1 x1 r1 => by
    obtain ⟨n, rfl, w⟩ := intD_ok (WP.bind.mp w)
    cases r1
    obtain ⟨t, et, w⟩ := gs_ok (WP.bind.mp w)
    obtain ⟨l, ed, w⟩ := cellsOf_ok (WP.bind.mp w)
    obtain ⟨v, hv, s⟩ := (R.ext x1).slot i _ et
    have s : Rp g fa H1' v t := s
    obtain ⟨a, rfl, hf, el⟩ := rp_feed s ed
    obtain ⟨H2, hp, x2⟩ := feed_put n x1.bs hf ok hk
    exact ⟨_, hv, a, H2, rfl, hp, w σ H1' H2 ((R.ext x1).ext x2) ((e.ext x1).ext x2)⟩⟩
theorem x_for {iter : Expr} {body : List Stmt} {fi : Ev → M (List D)} {ts : List Nat} {ft : D → Ev → M Ev} (hx : X.xe = fun _ _ => False) (hc : X.calm = true) (hi : PI X tg iter (tWD g fa fi)) (hg : PG X tg (gT g fa ts ft)) (hb : ∀ Z, PSs X body (tS g fa H0s Hs Z o1))
    (hs : ∀ x, foldedSetIterable iter X.env x = pure x) : PS X (.For tg iter body [] pos) (tS g fa H0s Hs Z fun ρ => (fi ρ).bind fun ds => forGo ft o1 ds ρ) := by
  have hb' : PSs X body (fun D σ H => ∃ Z, tS g fa H0s Hs Z o1 D σ H) := ⟨fun ps s σ H D I ⟨Z, q⟩ => (hb Z).run ps s σ H D I q⟩
  refine ps_imp (ps_for (hx ▸ PassesOwn.never) hc hi hg hb' hs) fun D σ H ⟨H0, ρ, R, e, w⟩ => ⟨H0, ρ, R, (WP.bind.mp w).mono fun ds w hz J H1' H1 x1 wk => ?_⟩
  have zz : ∀ a o, Z a = some o → H1' a = some o := fun a o h => x1.lo a o (e.z a o h)
  refine ⟨fun i m σ H => i + m = ds.length ∧ ∃ H0 ρ, RepS g fa H0 H σ ρ ∧ Ent g fa H0s Hs H1' H0 H σ ρ ∧ WP (forGo ft o1 (ds.drop i) ρ) fun o => match o with
    | .nx ρ' => ∀ σ' H0' H', RepS g fa H0' H' σ' ρ' → Ent g fa H0s Hs Z H0' H' σ' ρ' → D.nx σ' H'
    | .ct ρ' => ∀ σ' H0' H', RepS g fa H0' H' σ' ρ' → Ent g fa H0s Hs Z H0' H' σ' ρ' → D.ct σ' H'
    | .bk ρ' => ∀ σ' H0' H', RepS g fa H0' H' σ' ρ' → Ent g fa H0s Hs Z H0' H' σ' ρ' → D.bk σ' H'
    | .rt d => ∀ v H0' H', Ext g fa H0s Hs H0' H' → Rp g fa H0' v d → D.rt v H', ⟨ds.length, by omega, H1', ρ, R.ext x1, ⟨e.x.trans x1, e.own, e.b0, fun _ _ h => h⟩, w⟩, fun i m σ H hW => ?_⟩
  obtain ⟨em, H0, ρ, R, e, w⟩ := hW
  have wki := wk i H0 H R.bs e.z
  have back : ∀ {H0 H : Hp} {σ : L2.St} {ρ : Ev}, Ent g fa H0s Hs H1' H0 H σ ρ → Ent g fa H0s Hs Z H0 H σ ρ := fun e => ⟨e.x, e.own, e.b0, fun a o h => e.z a o (zz a o h)⟩
  by_cases hlt : i < ds.length
  · obtain ⟨d, hd, hdr⟩ : ∃ d, ds[i]? = some d ∧ ds.drop i = d :: ds.drop (i + 1) := ⟨ds[i], List.getElem?_eq_getElem hlt, List.drop_eq_getElem_cons hlt⟩
    obtain ⟨go, yl⟩ := wki.1 d hd
    refine .inr ⟨go, fun σ' H' => ∃ m', m' < m ∧ _, fun σ' H' h => h, fun x H' hy => ?_⟩
    obtain ⟨H02, x2, rx⟩ := yl x H' hy
    rw [hdr] at w
    refine ⟨H02, ρ, d, R.ext x2, rx, (WP.bind.mp w).mono fun ρ1 w σ1 off k R1 => ⟨H1', H02, ρ1, R1, (e.ext x2).kp k, (WP.bind.mp w).mono fun o w => ?_⟩⟩
    cases o with
    | nx ρ2 => exact fun σ' H0' H' R' e' => ⟨m - 1, by omega, by omega, H0', ρ2, R', e', w⟩
    | ct ρ2 => exact fun σ' H0' H' R' e' => ⟨m - 1, by omega, by omega, H0', ρ2, R', e', w⟩
    | bk ρ2 => exact fun σ' H0' H' R' e' => w σ' H0' H' R' (back e')
    | rt d => exact w
  · have ei : ds.drop i = [] := List.drop_eq_nil_of_le (by omega)
    rw [ei] at w
    exact .inl ⟨wki.2 (by omega), w σ H0 H R (back e)⟩
/-! dicts of the def's own -/
theorem x_dnew {i : Nat} {x : Str} {p : Pos} {dk : Ev → M (List D)} (hN : X.N.Nodup) (hi : X.N[i]? = some x) (hx : Loc X.env.scope x) (hf : X.fn x = true ∨ X.env.scope.names.lookup x = some .local) (hs : swapsWith E (some (.Name x p)) pos.line X.env = pure false) (h : PE X E (tGD g fa dk)) :
    PS X (.Assign [.Name x p] E pos) (tS g fa H0s Hs Z fun ρ => (dk ρ).bind fun ks => M.ret (Out.nx (put ρ i (.own (dctD ks))))) := ps_imp (ps_set hN hi hx h hs hf) fun D σ H ⟨H0, ρ, R, e, w⟩ =>
  ⟨H0, ρ, R, (WP.bind.mp w).mono fun ks w a H1' H1 x1 hs o => let ⟨R', e'⟩ := own_new R e x1 i hs o; w _ H1' H1 R' e'⟩
theorem addAll_D : ∀ {α : Type} (us : List α) (c : List α × List D) (ds : List D), us.length = ds.length → (Pm.addAll c us ds).2 = addD c.2 ds
  | _, [], c, [], _ => rfl
  | _, u :: us, c, d :: ds, h => by
    simp only [Pm.addAll, addD]
    rw [addAll_D us _ ds (by simpa using h)]
    congr 1
    unfold Pm.addK
    split <;> rfl
theorem addAll_rp {H0 : Hp} : ∀ {us : List V} {ds : List D} (c : List V × List D), RpAll g fa H0 c.1 c.2 → RpAll g fa H0 us ds → RpAll g fa H0 (Pm.addAll c us ds).1 (Pm.addAll c us ds).2
  | _, _, c, r, .nil => r
  | _, _, c, r, .cons r1 t => by
    simp only [Pm.addAll]
    exact addAll_rp _ (addK_rp r r1) t
theorem x_dupd {i : Nat} {x : Str} {apos cpos : Pos} {dk : Ev → M (List D)} (hKE : KE g X) (hu : X.A.units + 2 < cLine) (hN : X.N[i]? = some x) (hv : Vis X.env.scope x) (h1 : (x == ("__debug__" : Str)) = false) (h2 : (x == ("__classdict__" : Str)) = false) (hl : (apos.endLine == cpos.line) = true) (hs : starEach [E] X.env = (false, eval E X.env) :: starEach [] X.env) (h : PE X E (tGD g fa dk)) :
    PS X (.Expr (.Call (.Attribute (.Name x p) "update" apos) [E] [] cpos) pos) (tS g fa H0s Hs Z fun ρ => (god ρ i).bind fun cs => (dk ρ).bind fun ks => need (decide (cs ≠ [] ∧ cs.length + ks.length ≤ sizeLine)) (M.ret (Out.nx (chgD ρ i (addD cs ks))))) :=
  ps_imp (ps_expr (Pm.pe_updM hu (pe_var hN hv h1 h2) h rfl hl hs)) fun D σ H ⟨H0, ρ, R, e, w⟩ => by
    obtain ⟨cs, ho, w⟩ := god_ok (WP.bind.mp w)
    obtain ⟨a, xs, ep, hs, h0, ha, ra, gd⟩ := R.ownD ho
    refine ⟨_, hs, ⟨a, xs, cs, ep, rfl, by rw [hKE.P, hKE.w]; exact ha⟩, H0, ρ, R, (WP.bind.mp w).mono fun ks w b H1' H1 x1 hb o => ?_⟩
    obtain ⟨hc, w⟩ := wp_need w
    obtain ⟨hne, hz⟩ := of_decide_eq_true hc
    have hfa : fa ≠ some a := fne_own R.bs (.inr ⟨rfl, gd, ep, rfl⟩) ha
    have ha1 := x1.hi a _ hfa ha
    obtain ⟨b', ys, ep', e', hb', rb, gb⟩ := Rv.dct x1.bs (.inr ⟨b, rfl, o⟩)
    cases e'
    have hab : a ≠ b := fun z => by
      subst z
      rw [hb] at ha
      cases ha
    have ra1 := ra.mono x1.lo
    refine ⟨a, b, xs, cs, ys, ks, ep, ep', rfl, rfl, hab, by rw [hKE.P, hKE.w]; exact ha1, by rw [hKE.P, hKE.w]; exact hb', hKE.K ▸ RpAll.dp _ (canLay_all gd) (ra1.mono x1.bs.sub), hKE.K ▸ RpAll.dp _ (canLay_all gb) (rb.mono x1.bs.sub), gd, gb, hne, hz, fun ep2 => ?_⟩
    rw [hKE.P, hKE.w]
    have rr := addAll_rp (xs, cs) ra1 rb
    have gg := Pm.addAll_good ys (xs, cs) ks gd gb.1
    have ed := addAll_D ys (xs, cs) ks rb.len
    have w : ∀ σ' H0' H', RepS g fa H0' H' σ' (chgD ρ i (addD cs ks)) → Ent g fa H0s Hs Z H0' H' σ' (chgD ρ i (addD cs ks)) → D.nx σ' H' := w
    have ed : (Pm.addAll (xs, cs) ys ks).2 = addD cs ks := ed
    rw [ed] at rr gg ⊢
    exact w σ H1' _ ((R.ext x1).chgO ho hs hfa (.inr ⟨rfl, gg, ep2, rfl⟩) rr) ((e.ext x1).chgO (R.ext x1) ho hs hfa)
end
end Pf
/-! PfJ: the matcher: that a piece of Python's tree is a piece of the small language. -/
namespace Pf
open PySem PySem.Spec PyProof.Rows L2

/-- what is known of a block, by sight -/
structure Sc where
  N : List Str
  sc : Scope
  cel : Str → Bool
  tb : List (Str × List Str)
  bn : List Str
  cs : List (Str × D)
  fk : Str × Str × Str × Str
  kb : List (Nat × List Str × List Nat)
def Sc.blk (c : Sc) (scope : Scope) : Sc := { c with sc := relS scope c.sc, cel := fun x => scope.names.lookup x == some .cell }
def Sc.vis (c : Sc) (i : Nat) (x : Str) : Bool := decide (c.N[i]? = some x) && (match c.sc.names.lookup x with
  | some .local => true
  | some .cell => true
  | some .free => true
  | _ => false) && !(x == ("__debug__" : Str)) && !(x == ("__classdict__" : Str))
def Sc.loc (c : Sc) (i : Nat) (x : Str) : Bool := decide (c.N[i]? = some x) && (match c.sc.names.lookup x with
  | some .local => true
  | some .cell => c.cel x
  | _ => false)
def Sc.gl (c : Sc) (x : Str) : Bool := decide (c.sc.names.lookup x = some .globalImplicit) && !(x == ("__debug__" : Str)) && decide (x ≠ "__name__")
def Sc.blt (c : Sc) (x : Str) : Bool := c.gl x && decide (x ∈ c.bn)

def notStar : Expr → Bool
  | .Starred .. => false
  | _ => true
def notSet : Expr → Bool
  | .Set .. => false
  | _ => true
def notComp : Expr → Bool
  | .ListComp .. => false
  | .SetComp .. => false
  | .DictComp .. => false
  | _ => true
def notSlice : Expr → Bool
  | .Slice .. => false
  | _ => true
def plainT : Expr → Bool
  | .UnaryOp .Not _ _ => false
  | .BoolOp .. => false
  | .IfExp .. => false
  | .Compare .. => false
  | _ => true
def baseOk : Expr → Bool
  | .Call .. => false
  | _ => true
inductive Syn where
  | e (x : Expr)
  | a (xs : List Expr)
  | t (x : Expr)
  | ts (xs : List Expr)
  | i (tg x : Expr)
  | o (x : Option Expr)
  | f (xs : List Expr)
  | s (x : Stmt)
  | b (xs : List Stmt)
def Syn.ex? : Syn → Option Expr
  | .e x => some x
  | .i _ x => if notSet x = true then some x else none
  | .o (some x) => some x
  | .f [x] => some x
  | _ => none
def cstOk : Const → D → Bool
  | .none, .none => true
  | .bool a, .bool b => a == b
  | .int a, .int b => decide (a = b)
  | .str a, .str b => decide (a = b)
  | _, _ => false
def eqS : D → D → Bool
  | .int a, .int b => decide (a = b)
  | .str a, .str b => decide (a = b)
  | _, _ => false
def tyStr : Ty → Str
  | .int => "int"
  | .bool => "bool"
  | .str => "str"
  | .tup => "tuple"
  | .lst => "list"
def isTupE : Expr → Bool
  | .Tuple .. => true
  | _ => false
def opEq : Op2 → Operator → Bool
  | .add, .Add => true
  | .sub, .Sub => true
  | .mul, .Mult => true
  | .mod, .Mod => true
  | .fdiv, .FloorDiv => true
  | .pow, .Pow => true
  | _, _ => false
def cmEq : Cm → CmpOp → Bool
  | .lt, .Lt => true
  | .le, .LtE => true
  | .gt, .Gt => true
  | .ge, .GtE => true
  | .eq, .Eq => true
  | .ne, .NotEq => true
  | .isin, .In => true
  | .notin, .NotIn => true
  | _, _ => false
def Sc.ownL (c : Sc) (own : List Nat) : List (Str × Nat) := own.map fun i => (c.N.getD i Str.empty, i)
def isFrz : Sx → Bool
  | .frz _ => true
  | _ => false
/-- whether a store of this value into this name is done within the comprehension's frame -/
def Sc.swp (c : Sc) : Expr → Expr → Bool
  | .Name t p, .ListComp elt gs scope pos => decide (c.sc.names.lookup t = some .local) && (p.line == (Expr.ListComp elt gs scope pos).pos.line) && !(scope.names.any fun (n, k) => n == t && (k == .local || k == .cell))
  | _, _ => false
/-- a target and a value of a plain store -/
def Sc.stOk (c : Sc) (tg v : Expr) : Bool := notStar tg && (match tg, v with
  | .Tuple .., .Tuple .. => false
  | .List .., _ => false
  | .Name .., .SetComp .. => false
  | .Name .., .DictComp .. => false
  | .Name .., _ => true
  | _, v => notComp v)

def mt : Sx → Sc → Syn → Bool
  | .var i, c, y => match y with
    | .t (.Name x _) => c.loc i x
    | y => match y.ex? with
      | some (.Name x _) => c.vis i x
      | _ => false
  | .cst d, c, y => match y.ex? with
    | some (.Constant k _ _) => cstOk k d
    | _ => false
  | .glob x d, c, y => match y.ex? with
    | some (.Name z _) => decide (z = x) && c.gl x && c.cs.any fun p => decide (p.1 = x) && eqS p.2 d
    | _ => false
  | .fref x k, c, y => match y.ex? with
    | some (.Name z _) => decide (z = x) && c.gl x && decide ((c.tb[k]?).map (·.1) = some x)
    | _ => false
  | .nil, c, y => match y with
    | .a [] => true
    | .ts [] => true
    | .b [] => true
    | _ => false
  | .cons e a, c, y => match y with
    | .a (x :: r) => notStar x && mt e c (.e x) && mt a c (.a r)
    | .ts (x :: r) => notStar x && mt e c (.t x) && mt a c (.ts r)
    | .b sts => if isFrz e = true then mt a c (.b sts) else match sts with
      | st :: r => mt e c (.s st) && mt a c (.b r)
      | [] => false
    | _ => false
  | .tup a, c, y => match y with
    | .t (.Tuple es _ _) => mt a c (.ts es)
    | y => match y.ex? with
      | some (.Tuple es _ _) => mt a c (.a es)
      | _ => false
  | .lst a, c, y => match y.ex? with
    | some (.List es _) => mt a c (.a es)
    | _ => false
  | .call k a, c, y => match y.ex? with
    | some (.Call (.Name x _) args [] _) => c.gl x && decide ((c.tb[k]?).map (·.1) = some x) && mt a c (.a args)
    | _ => false
  | .callv i a, c, y => match y.ex? with
    | some (.Call (.Name x _) (z :: args) [] _) => c.vis i x && mt a c (.a (z :: args))
    | _ => false
  | .callk k p a, c, y => match y.ex? with
    | some (.Call (.Name x _) [] (q :: kws) _) => c.gl x && decide ((c.tb[k]?).map (·.1) = some x) && (c.kb.any fun z => decide (z.1 = k) && decide (z.2.2 = p) && decide ((q :: kws).map (·.arg) = z.2.1.map some)) && mt a c (.a ((q :: kws).map (·.value)))
    | _ => false
  | .fld i q, c, y => match y.ex? with
    | some (.Subscript (.Name x _) (.Constant (.str s) _ _) _) => c.vis i x && decide (fkAt c.fk q = some s)
    | _ => false
  | .fcl i, c, y => match y.ex? with
    | some (.Subscript (.Name x _) (.Constant (.str s) _ _) _) => c.vis i x && decide (c.fk.1 = s)
    | _ => false
  | .fput i q e, c, y => match y with
    | .s (.Assign [.Subscript (.Name x _) (.Constant (.str s) _ _) _] v _) => c.vis i x && decide (fkAt c.fk q = some s) && notComp v && mt e c (.e v)
    | _ => false
  | .bi b e, c, y => match y.ex? with
    | some (.Call (.Name x _) [z] [] _) => decide (x = biName b) && c.blt x && notStar z && mt e c (.e z)
    | _ => false
  | .biIf b k e d, c, y => match y.ex? with
    | some (.Call (.Name x _) [.IfExp z u v _] [] _) => decide (x = biName b) && c.blt x && !(isNone_ k) && mt k c (.e z) && mt e c (.e u) && mt d c (.e v)
    | _ => false
  | .isi e t, c, y => match y.ex? with
    | some (.Call (.Name x _) [z, .Name T _] [] _) => decide (x = "isinstance") && c.blt x && decide (T = tyStr t) && c.blt T && notStar z && mt e c (.e z)
    | _ => false
  | .upper e, c, y => match y.ex? with
    | some (.Call (.Attribute z m apos) [] [] pos) => decide (m = "upper") && baseOk z && (apos.endLine == pos.line) && mt e c (.e z)
    | _ => false
  | .bin o a b, c, y => match y.ex? with
    | some (.BinOp x op z _) => opEq o op && mt a c (.e x) && mt b c (.e z)
    | _ => false
  | .cmp o a b, c, y => match y.ex? with
    | some (.Compare x [op] [z] _) => cmEq o op && notSet z && mt a c (.e x) && mt b c (.e z)
    | _ => false
  | .chain o o' a b d, c, y => match y.ex? with
    | some (.Compare x [op, op'] [z, z'] _) => cmEq o op && cmEq o' op' && notSet z' && mt a c (.e x) && mt b c (.e z) && mt d c (.e z')
    | _ => false
  | .neg a, c, y => match y.ex? with
    | some (.UnaryOp .USub x _) => mt a c (.e x)
    | _ => false
  | .nt a, c, y => match y.ex? with
    | some (.UnaryOp .Not x _) => !(isNone_ a) && mt a c (.e x)
    | _ => false
  | .and a b, c, y => match y.ex? with
    | some (.BoolOp .And [x, z] _) => mt a c (.e x) && mt b c (.e z)
    | some (.BoolOp .And (x :: z :: z' :: rest) p) => mt a c (.e x) && mt b c (.e (.BoolOp .And (z :: z' :: rest) p))
    | _ => false
  | .or a b, c, y => match y.ex? with
    | some (.BoolOp .Or [x, z] _) => mt a c (.e x) && mt b c (.e z)
    | some (.BoolOp .Or (x :: z :: z' :: rest) p) => mt a c (.e x) && mt b c (.e (.BoolOp .Or (z :: z' :: rest) p))
    | _ => false
  | .ifx k a b, c, y => match y.ex? with
    | some (.IfExp z x x' _) => !(isNone_ k) && mt k c (.e z) && mt a c (.e x) && mt b c (.e x')
    | _ => false
  | .idx a b, c, y => match y.ex? with
    | some (.Subscript x z _) => notSlice z && mt a c (.e x) && mt b c (.e z)
    | _ => false
  | .sl a lo hi, c, y => match y.ex? with
    | some (.Subscript x (.Slice l h none _) _) => mt a c (.e x) && mt lo c (.o l) && mt hi c (.o h)
    | _ => false
  | .rev a, c, y => match y.ex? with
    | some (.Subscript x (.Slice none none (some (.UnaryOp .USub (.Constant (.int 1) _ _) _)) _) _) => mt a c (.e x)
    | _ => false
  | .step a lo n, c, y => match y.ex? with
    | some (.Subscript x (.Slice (some l) none (some (.Constant (.int m) _ _)) _) _) => decide (m = (n : Int)) && mt a c (.e x) && mt lo c (.e l)
    | _ => false
  | .none_, c, y => match y with
    | .o none => true
    | .f [] => true
    | _ => false
  | .lc own tg it cd elt, c, y => match y.ex? with
    | some (.ListComp elt' [⟨tg', iter, ifs, 0⟩] scope _) => blkC c.N c.sc scope (c.ownL own) && (slotsOf tg).all (own.contains ·) && notSet iter && mt it c (.i tg' iter) && mt tg (c.blk scope) (.t tg') && mt cd (c.blk scope) (.f ifs) && mt elt (c.blk scope) (.e elt')
    | _ => false
  | .rng1 a, c, y => match y with
    | .i _ (.Call (.Name x _) [z] [] _) => decide (x = "range") && c.blt x && notStar z && mt a c (.e z)
    | _ => false
  | .rng2 a b, c, y => match y with
    | .i _ (.Call (.Name x _) [z, z'] [] _) => decide (x = "range") && c.blt x && notStar z && notStar z' && mt a c (.e z) && mt b c (.e z')
    | _ => false
  | .zip a b, c, y => match y with
    | .i tg (.Call (.Name x _) [z, z'] [] _) => isTupE tg && decide (x = "zip") && c.blt x && notStar z && notStar z' && mt a c (.e z) && mt b c (.e z')
    | _ => false
  | .enum a, c, y => match y with
    | .i tg (.Call (.Name x _) [z] [] _) => isTupE tg && decide (x = "enumerate") && c.blt x && notStar z && mt a c (.e z)
    | _ => false
  | .sset a, c, y => match y.ex? with
    | some (.Call (.Name l _) [.Call (.Name x _) [z] [] _] [] _) => decide (l = "sorted") && c.blt l && decide (x = "set") && c.blt x && notStar z && mt a c (.e z)
    | _ => false
  | .trng2 a b, c, y => match y.ex? with
    | some (.Call (.Name l _) [.Call (.Name x _) [z, z'] [] _] [] _) => decide (l = "tuple") && c.blt l && decide (x = "range") && c.blt x && notStar z && notStar z' && mt a c (.e z) && mt b c (.e z')
    | _ => false
  | .lrng a, c, y => match y.ex? with
    | some (.Call (.Name l _) [.Call (.Name x _) [z] [] _] [] _) => decide (l = "list") && c.blt l && decide (x = "range") && c.blt x && notStar z && mt a c (.e z)
    | _ => false
  | .trng a, c, y => match y.ex? with
    | some (.Call (.Name l _) [.Call (.Name x _) [z] [] _] [] _) => decide (l = "tuple") && c.blt l && decide (x = "range") && c.blt x && notStar z && mt a c (.e z)
    | _ => false
  | .asg tg e, c, y => match y with
    | .s (.Assign [t] v _) => c.stOk t v && mt tg c (.t t) && mt e c (.e v)
    | _ => false
  | .asgO i e, c, y => match y with
    | .s (.Assign [.Name x p] v _) => c.stOk (.Name x p) v && c.loc i x && isFr e && mt e c (.e v)
    | _ => false
  | .dnew i own tg it key, c, y => match y with
    | .s (.Assign [.Name x _] (.DictComp kx (.Constant (.bool true) _ _) [⟨tg', iter, [], 0⟩] scope _) _) => c.loc i x && !(decide (c.sc.names.lookup x = some .local)) && blkC c.N c.sc scope (c.ownL own) && (slotsOf tg).all (own.contains ·) && notSet iter && mt it c (.i tg' iter) && mt tg (c.blk scope) (.t tg') && mt key (c.blk scope) (.e kx)
    | _ => false
  | .dupd i own tg it key, c, y => match y with
    | .s (.Expr (.Call (.Attribute (.Name x _) m apos) [.DictComp kx (.Constant (.bool true) _ _) [⟨tg', iter, [], 0⟩] scope _] [] cpos) _) => c.vis i x && decide (m = "update") && (apos.endLine == cpos.line) && blkC c.N c.sc scope (c.ownL own) && (slotsOf tg).all (own.contains ·) && notSet iter && mt it c (.i tg' iter) && mt tg (c.blk scope) (.t tg') && mt key (c.blk scope) (.e kx)
    | _ => false
  | .par i oi a j oj b, c, y => match y with
    | .s (.Assign [.Tuple [.Name x p, .Name x' p'] _ _] (.Tuple [v, v'] _ _) _) => c.loc i x && c.loc j x' && decide (i ≠ j) && notStar v && notStar v' && decide (x ≠ x') && (p.line == p'.line) && ((!oi) || isFr a) && ((!oj) || isFr b) &&
        !(foldedForSure 8 v && foldedForSure 8 v') && !(constantsAlone 8 v && constantsAlone 8 v') && mt a c (.e v) && mt b c (.e v')
    | _ => false
  | .bor i j k e, c, y => match y with
    | .s (.Assign [.Name x _] (.IfExp z v (.Name x' _) _) _) => c.loc i x && c.vis j x' && decide (i ≠ j) && !(isNone_ k) && mt k c (.e z) && mt e c (.e v)
    | _ => false
  | .app i e, c, y => match y with
    | .s (.Expr (.Call (.Attribute (.Name x _) m apos) [z] [] cpos) _) => c.vis i x && decide (m = "append") && (apos.endLine == cpos.line) && notStar z && mt e c (.e z)
    | _ => false
  | .ext i e, c, y => match y with
    | .s (.Expr (.Call (.Attribute (.Name x _) m apos) [z] [] cpos) _) => c.vis i x && decide (m = "extend") && (apos.endLine == cpos.line) && notStar z && mt e c (.e z)
    | _ => false
  | .rmv i e, c, y => match y with
    | .s (.Expr (.Call (.Attribute (.Name x _) m apos) [z] [] cpos) _) => c.vis i x && decide (m = "remove") && (apos.endLine == cpos.line) && notStar z && mt e c (.e z)
    | _ => false
  | .popS i e, c, y => match y with
    | .s (.Expr (.Call (.Attribute (.Name x _) m apos) [z] [] cpos) _) => c.vis i x && decide (m = "pop") && (apos.endLine == cpos.line) && notStar z && mt e c (.e z)
    | _ => false
  | .appPop i j e, c, y => match y with
    | .s (.Expr (.Call (.Attribute (.Name x _) m apos) [.Call (.Attribute (.Name x' _) m' apos') [z] [] cpos'] [] cpos) _) => c.vis i x && decide (m = "append") && (apos.endLine == cpos.line) && c.vis j x' && decide (m' = "pop") && (apos'.endLine == cpos'.line) && notStar z && mt e c (.e z)
    | _ => false
  | .augI i e, c, y => match y with
    | .s (.AugAssign (.Name x _) .Add v _) => c.loc i x && mt e c (.e v)
    | _ => false
  | .iff k a b, c, y => match y with
    | .s (.If z x x' _) => !(isNone_ k) && mt k c (.e z) && mt a c (.b x) && mt b c (.b x')
    | _ => false
  | .forS tg it b, c, y => match y with
    | .s (.For tg' iter body [] _) => notSet iter && mt it c (.i tg' iter) && mt tg c (.t tg') && mt b c (.b body)
    | _ => false
  | .whil k b, c, y => match y with
    | .s (.While z body [] _) => !(isNone_ k) && mt k c (.e z) && mt b c (.b body)
    | _ => false
  | .ret e, c, y => match y with
    | .s (.Return (some v) _) => mt e c (.e v)
    | _ => false
  | .retN, c, y => match y with
    | .s (.Return none _) => true
    | _ => false
  | .expr e, c, y => match y with
    | .s (.Expr v _) => notComp v && mt e c (.e v)
    | _ => false
  | .cont, c, y => match y with
    | .s (.Continue _) => true
    | _ => false
  | .brk, c, y => match y with
    | .s (.Break _) => true
    | _ => false
  | .pas, c, y => match y with
    | .s (.Pass _) => true
    | _ => false
  | .never, c, y => match y with
    | .s _ => true
    | _ => false
  | _, _, _ => false
end Pf
/-! PfK: what matches runs as it evaluates: expressions. -/
namespace Pf
open PySem PySem.Spec PyProof.Rows L2

/-! ### the tree's own small facts -/
theorem star_of {x : Expr} {es : List Expr} {env : Env} (h : notStar x = true) : starEach (x :: es) env = (false, eval x env) :: starEach es env := by
  cases x <;> first | rfl | cases h
theorem asg_of {x : Expr} {es : List Expr} {env : Env} (h : notStar x = true) : assignEach (x :: es) env = (false, assign x env) :: assignEach es env := by
  cases x <;> first | rfl | cases h
theorem fold_of {x : Expr} {env : Env} (h : notSet x = true) (v : Value) : foldedSetIterable x env v = pure v := by
  cases x <;> first | rfl | cases h
theorem mark_of {x : Expr} {op : CmpOp} (h : notSet x = true) : behindInMarks op x = false := by
  cases x <;> first | rfl | cases h
theorem ix_of {x : Expr} (h : notSlice x = true) : PlainIx x := by
  intro o i
  cases x <;> first | rfl | cases h
theorem true_of {x : Expr} {env : Env} (h : plainT x = true) : ∀ whole, isTrue x env whole = (do let v ← whole; standAt x.pos; holding [v] (truthy v)) := by
  intro whole
  cases x with
  | UnaryOp op e p => cases op <;> first | rfl | cases h
  | _ => first | rfl | cases h
theorem base_of {x : Expr} {m : Str} {env : Env} (h : baseOk x = true) : attributeBase x m env (eval x env) = eval x env := by
  cases x <;> first | rfl | cases h
theorem swapN_of {x : Expr} {l : Nat} {env : Env} (h : notComp x = true) : swapsWith x none l env = pure false := by
  cases x <;> first | rfl | cases h
theorem swapS_of {x t : Expr} {l : Nat} {env : Env} (h : notComp x = true) : swapsWith x (some t) l env = pure false := by
  cases x <;> first | rfl | cases h
theorem noStars {es : List Expr} {env : Env} {pos : Pos} (h : es.all notStar = true) : (backTo pos (starEach es env)).any (·.1) = false := by
  induction es with
  | nil => rfl
  | cons x r ih =>
    rw [List.all_cons, Bool.and_eq_true] at h
    rw [star_of h.1]
    show (false || (backTo pos (starEach r env)).any (·.1)) = false
    rw [ih h.2]; rfl
theorem asgs_len {es : List Expr} {env : Env} (h : es.all notStar = true) : (assignEach es env).length = es.length ∧ List.findIdx? (fun x => x.fst) (assignEach es env) = none := by
  induction es with
  | nil => exact ⟨rfl, rfl⟩
  | cons x r ih =>
    rw [List.all_cons, Bool.and_eq_true] at h
    rw [asg_of h.1]
    obtain ⟨h1, h2⟩ := ih h.2
    refine ⟨by rw [List.length_cons, List.length_cons, h1], ?_⟩
    rw [List.findIdx?_cons]
    simp [h2]

/-- the context is as the static part says -/
structure XOk (g : Gc) (F : Nat → List D → M D) (c : Sc) (X : Cx) : Prop where
  N : X.N = c.N
  nd : X.N.Nodup
  sc : X.env.scope = c.sc
  kd : c.sc.kind = .function
  cel : X.fn = c.cel
  calm : X.calm = true
  xe : X.xe = fun _ _ => False
  KE : KE g X
  gd : X.A.guards = some []
  rm : ∃ lv, Room lv X.A ∧ (∀ k x ps, c.tb[k]? = some (x, ps) → FnIn g F X lv k x ps) ∧
    ∀ k a, g.fn k = some a → ∃ (fd : FuncData) (j : Nat) (ps : List Str), j ≤ lv ∧ PySem.W.keepIn X.K (.ref a) = true ∧ Binds X.K fd ps [] ∧ FnG X.prog X.w X.K X.mg X.base j a fd ps (spD g ps.length (F k)) ∧ ∀ ds Q, WP (F k ds) Q → ds.length = ps.length
  bn : ∀ x ∈ c.bn, X.mg x = none
  cs : ∀ x d, (x, d) ∈ c.cs → ∃ u v, X.mg x = some u ∧ RelV v u ∧ (∀ fa H, Rp g fa H v d) ∧ ∀ ds, d ≠ .list ds
  fk : c.fk = g.fk
  fko : FkOk g.fk
  kb : ∀ k ks p x ps, (k, ks, p) ∈ c.kb → c.tb[k]? = some (x, ps) → ∃ (lv j : Nat) (a : Addr) (fd : FuncData), Room lv X.A ∧ j ≤ lv ∧ X.mg x = some (.ref a) ∧ PySem.W.keepIn X.K (.ref a) = true ∧ FnG X.prog X.w X.K X.mg X.base j a fd ps (spD g ps.length (F k)) ∧
    (∀ ds Q, WP (F k ds) Q → ds.length = ps.length) ∧ KBd X.K fd ps ks p
section
variable {g : Gc} {F : Nat → List D → M D} {c : Sc} {X : Cx}
theorem XOk.K (o : XOk g F c X) : X.K = g.K := o.KE.K
theorem XOk.blk (o : XOk g F c X) {scope : Scope} (hk : scope.kind = .function) (s : Shared) (H : Hp) (C : Addr) (cl : List (Str × Addr)) (fp : List Addr) : XOk g F (c.blk scope) (X.blk s H scope (compEnvC scope cl C X.env) fp) where
  N := o.N
  nd := o.nd
  sc := by show relS scope X.env.scope = relS scope c.sc; rw [o.sc]
  kd := hk
  cel := rfl
  calm := o.calm
  xe := rfl
  KE := ⟨o.KE.K, o.KE.P, o.KE.w⟩
  gd := o.gd
  rm := by
    obtain ⟨lv, h1, h2, h3⟩ := o.rm
    exact ⟨lv, h1, fun k x ps h => ⟨(h2 k x ps h).ex, (h2 k x ps h).ln⟩, h3⟩
  bn := o.bn
  cs := o.cs
  fk := o.fk
  fko := o.fko
  kb := o.kb
theorem XOk.u (o : XOk g F c X) : X.A.units + 66 < cLine := by
  obtain ⟨lv, h1, _⟩ := o.rm
  have := h1.un
  omega
theorem XOk.vis (o : XOk g F c X) {i : Nat} {x : Str} (h : c.vis i x = true) : X.N[i]? = some x ∧ Vis X.env.scope x ∧ (x == ("__debug__" : Str)) = false ∧ (x == ("__classdict__" : Str)) = false := by
  unfold Sc.vis at h
  simp only [Bool.and_eq_true, decide_eq_true_eq, Bool.not_eq_true'] at h
  obtain ⟨⟨⟨h1, h2⟩, h3⟩, h4⟩ := h
  refine ⟨by rw [o.N]; exact h1, ?_, h3, h4⟩
  unfold Vis
  rw [o.sc]
  split at h2
  · exact .inl (by assumption)
  · exact .inr (.inl (by assumption))
  · exact .inr (.inr (by assumption))
  · cases h2
theorem XOk.loc (o : XOk g F c X) {i : Nat} {x : Str} (h : c.loc i x = true) : X.N[i]? = some x ∧ L2.Loc X.env.scope x ∧ (X.fn x = true ∨ X.env.scope.names.lookup x = some .local) := by
  unfold Sc.loc at h
  simp only [Bool.and_eq_true, decide_eq_true_eq] at h
  obtain ⟨h1, h2⟩ := h
  refine ⟨by rw [o.N]; exact h1, ?_⟩
  unfold L2.Loc
  rw [o.sc, o.cel]
  split at h2
  · exact ⟨.inl (by assumption), .inr (by assumption)⟩
  · exact ⟨.inr (by assumption), .inl h2⟩
  · cases h2
theorem XOk.gl (o : XOk g F c X) {x : Str} (h : c.gl x = true) : Gl X x ∧ (x == ("__debug__" : Str)) = false ∧ x ≠ "__name__" := by
  unfold Sc.gl at h
  simp only [Bool.and_eq_true, decide_eq_true_eq, Bool.not_eq_true'] at h
  obtain ⟨⟨h1, h2⟩, h3⟩ := h
  refine ⟨?_, h2, h3⟩
  show X.env.scope.names.lookup x = some .globalImplicit
  rw [o.sc]; exact h1
theorem XOk.blt (o : XOk g F c X) {x : Str} (h : c.blt x = true) : Gl X x ∧ X.mg x = none ∧ (x == ("__debug__" : Str)) = false ∧ x ≠ "__name__" := by
  unfold Sc.blt at h
  simp only [Bool.and_eq_true, decide_eq_true_eq] at h
  obtain ⟨h1, h2, h3⟩ := o.gl h.1
  exact ⟨h1, o.bn x h.2, h2, h3⟩
end
theorem mtA_noStar : ∀ {a : Sx} {c : Sc} {es : List Expr}, mt a c (.a es) = true → es.all notStar = true := by
  intro a
  induction a with
  | nil =>
    intro c es h
    cases es with
    | nil => rfl
    | cons x r => cases h
  | cons e a _ ih =>
    intro c es h
    cases es with
    | nil => rfl
    | cons x r =>
      simp only [mt, Bool.and_eq_true] at h
      rw [List.all_cons, Bool.and_eq_true]
      exact ⟨h.1.1, ih h.2⟩
  | _ => intro c es h; simp [mt, Syn.ex?] at h
theorem mtT_noStar : ∀ {a : Sx} {c : Sc} {es : List Expr}, mt a c (.ts es) = true → es.all notStar = true := by
  intro a
  induction a with
  | nil =>
    intro c es h
    cases es with
    | nil => rfl
    | cons x r => cases h
  | cons e a _ ih =>
    intro c es h
    cases es with
    | nil => rfl
    | cons x r =>
      simp only [mt, Bool.and_eq_true] at h
      rw [List.all_cons, Bool.and_eq_true]
      exact ⟨h.1.1, ih h.2⟩
  | _ => intro c es h; simp [mt, Syn.ex?] at h

/-- all that is told of a piece -/
structure Snd (g : Gc) (F : Nat → List D → M D) (fa : Option Addr) (e : Sx) : Prop where
  ex : ∀ c X E, XOk g F c X → mt e c (.e E) = true → PE X E (tG g fa .p (ev F e))
  fr : ∀ c X E, XOk g F c X → mt e c (.e E) = true → isFr e = true → PE X E (tG g fa .f (ev F e))
  rd : ∀ c X E, XOk g F c X → mt e c (.e E) = true → PE X E (tG g fa .v (rdv e (ev F e)))
  ts : ∀ c X E, XOk g F c X → isNone_ e = false → mt e c (.e E) = true → PT X E (tB1 g fa (tst e (ev F e)))
  ar : ∀ c X es, XOk g F c X → mt e c (.a es) = true → PA X es (tArg g fa (ev F e)) ∧ (∀ kws : List Keyword, kws.map (·.value) = es → PK X kws (tArg g fa (ev F e))) ∧ ∀ ρ Q, WP (ev F e ρ) Q → WP (ev F e ρ) fun d => Q d ∧ ∀ ds, d = .list ds → ds.length = es.length
  tg : ∀ c X E, XOk g F c X → mt e c (.t E) = true → PG X E (gT g fa (slotsOf e) (tgt e))
  tgs : ∀ c X es, XOk g F c X → mt e c (.ts es) = true → PGs X es (gTs g fa (slotsOf e) (tgt e)) ∧ ∀ ρ ds Q, WP (tgt e (.list ds) ρ) Q → ds.length = es.length
  it : ∀ c X tg E, XOk g F c X → mt e c (.i tg E) = true → PI X tg E (tWE g fa (itmv e (ev F e))) ∧ PI X tg E (tWD g fa fun ρ => (ev F e ρ).bind itmD)
  op : ∀ c X x, XOk g F c X → mt e c (.o x) = true → PO X x (tOpt g fa (optv e (ev F e)))
  fs : ∀ c X xs, XOk g F c X → mt e c (.f xs) = true → PTs X xs (tB1 g fa (tst e (ev F e)))
  sw : ∀ c X E x p pos i, XOk g F c X → mt e c (.e E) = true → c.swp (.Name x p) E = true → X.N[i]? = some x → ∃ t, PS X (.Assign [.Name x p] E pos) (tAsg t (gName i)) ∧ ∀ σ H Q, tG g fa .f (ev F e) σ H Q → t σ H Q
theorem ts_nil {X : Cx} {g : Gc} {fa : Option Addr} : PTs X [] (tB1 g fa fun _ => .ret true) := ⟨fun ps s σ H Q I ⟨H0, ρ, R, w⟩ => pts_nil.run ps s σ H Q I (w H0 H (Ext.refl R.bs))⟩
section
variable {g : Gc} {F : Nat → List D → M D} {fa : Option Addr} {e : Sx}
/-- an expression that is no name -/
theorem Snd.mk' (hv : ∀ f, rdv e f = f) (ht : ∀ f, tst e f = fun ρ => (rdv e f ρ).bind truD) (ho : ∀ f, optv e f = fun ρ => (f ρ).bind fun d => (intD d).bind fun i => .ret (some i)) (hn : ∀ c y, mt e c y = true → ∃ E, y.ex? = some E)
    (hx : ∀ c X E, XOk g F c X → mt e c (.e E) = true → PE X E (tG g fa .p (ev F e)))
    (hf : ∀ c X E, XOk g F c X → mt e c (.e E) = true → isFr e = true → PE X E (tG g fa .f (ev F e)))
    (hy : ∀ c y E, y.ex? = some E → mt e c y = true → mt e c (.e E) = true)
    (hT : ∀ c X E, XOk g F c X → mt e c (.e E) = true → PT X E (tB1 g fa (tst e (ev F e))))
    (hs : ∀ c X E x p pos i, XOk g F c X → mt e c (.e E) = true → c.swp (.Name x p) E = true → X.N[i]? = some x → ∃ t, PS X (.Assign [.Name x p] E pos) (tAsg t (gName i)) ∧ ∀ σ H Q, tG g fa .f (ev F e) σ H Q → t σ H Q) : Snd g F fa e where
  ex := hx
  fr := hf
  rd := fun c X E o h => by rw [hv]; exact v_of_p (hx c X E o h)
  ts := fun c X E o _ h => hT c X E o h
  ar := fun c X es o h => by obtain ⟨E, q⟩ := hn c _ h; cases q
  tg := fun c X E o h => by obtain ⟨E, q⟩ := hn c _ h; cases q
  tgs := fun c X es o h => by obtain ⟨E, q⟩ := hn c _ h; cases q
  it := fun c X tg E o h => by
    obtain ⟨E', q⟩ := hn c _ h
    have he : E' = E := by
      have q : (if notSet E = true then some E else none) = some E' := q
      split at q
      · cases q; rfl
      · cases q
    subst he
    have hp := hx c X E' o (hy c _ E' q h)
    exact ⟨by unfold itmv; rw [hv]; exact w_e (w_val o.KE hp), w_val o.KE hp⟩
  op := fun c X x o h => by
    obtain ⟨E, q⟩ := hn c _ h
    cases x with
    | none => cases q
    | some x =>
      rw [ho]
      exact s_optS (hx c X x o (hy c (.o (some x)) x rfl h))
  fs := fun c X xs o h => by
    obtain ⟨E, q⟩ := hn c _ h
    cases xs with
    | nil => cases q
    | cons x r =>
      cases r with
      | nil => exact ⟨fun ps s σ H Q I w => (pts_one (hT c X x o (hy c (.f [x]) x rfl h))).run ps s σ H Q I w⟩
      | cons _ _ => cases q
  sw := hs
end
end Pf
/-! PfL: soundness, piece by piece. -/
namespace Pf
open PySem PySem.Spec PyProof.Rows L2
section
variable {g : Gc} {F : Nat → List D → M D} {fa : Option Addr}
theorem swp_comp {c : Sc} {t E : Expr} (h : c.swp t E = true) : notComp E = false := by
  unfold Sc.swp at h
  split at h
  · rfl
  · cases h
/-- how a piece hangs on its tree alone -/
def ExOnly (e : Sx) : Prop := (∀ c y, mt e c y = true → ∃ E, y.ex? = some E) ∧ ∀ c y E, y.ex? = some E → mt e c y = true → mt e c (.e E) = true
theorem Snd.gen {e : Sx} (hv : ∀ f, rdv e f = f) (ht : ∀ f, tst e f = fun ρ => (rdv e f ρ).bind truD) (ho : ∀ f, optv e f = fun ρ => (f ρ).bind fun d => (intD d).bind fun i => .ret (some i)) (hn : ExOnly e)
    (hp : ∀ c X E, XOk g F c X → mt e c (.e E) = true → PE X E (tG g fa .p (ev F e)) ∧ (isFr e = true → PE X E (tG g fa .f (ev F e))) ∧ notComp E = true)
    (hT : ∀ c X E, XOk g F c X → mt e c (.e E) = true → PT X E (tB1 g fa (tst e (ev F e)))) : Snd g F fa e :=
  Snd.mk' hv ht ho hn.1 (fun c X E o h => (hp c X E o h).1) (fun c X E o h h3 => (hp c X E o h).2.1 h3) hn.2 hT
    (fun c X E x p pos i o h hw => by have := swp_comp hw; rw [(hp c X E o h).2.2] at this; cases this)
theorem Snd.f {e : Sx} (hv : ∀ f, rdv e f = f) (ht : ∀ f, tst e f = fun ρ => (rdv e f ρ).bind truD) (ho : ∀ f, optv e f = fun ρ => (f ρ).bind fun d => (intD d).bind fun i => .ret (some i)) (hn : ExOnly e)
    (hp : ∀ c X E, XOk g F c X → mt e c (.e E) = true → PE X E (tG g fa .f (ev F e)) ∧ plainT E = true ∧ notComp E = true) : Snd g F fa e :=
  Snd.gen hv ht ho hn (fun c X E o h => ⟨p_of_f (hp c X E o h).1, fun _ => (hp c X E o h).1, (hp c X E o h).2.2⟩)
    (fun c X E o h => by rw [ht, hv]; exact t_truth o.K (true_of (hp c X E o h).2.1) (v_of_p (p_of_f (hp c X E o h).1)))
theorem Snd.p {e : Sx} (hv : ∀ f, rdv e f = f) (ht : ∀ f, tst e f = fun ρ => (rdv e f ρ).bind truD) (ho : ∀ f, optv e f = fun ρ => (f ρ).bind fun d => (intD d).bind fun i => .ret (some i)) (hn : ExOnly e) (hf : isFr e = false)
    (hp : ∀ c X E, XOk g F c X → mt e c (.e E) = true → PE X E (tG g fa .p (ev F e)) ∧ plainT E = true ∧ notComp E = true) : Snd g F fa e :=
  Snd.gen hv ht ho hn (fun c X E o h => ⟨(hp c X E o h).1, fun z => by (rw [hf] at z; cases z), (hp c X E o h).2.2⟩)
    (fun c X E o h => by rw [ht, hv]; exact t_truth o.K (true_of (hp c X E o h).2.1) (v_of_p (hp c X E o h).1))
theorem exonly_of {e : Sx} (h : ∀ c y, mt e c y = match y.ex? with
    | some E => mt e c (.e E)
    | none => false) : ExOnly e := by
  refine ⟨fun c y q => ?_, fun c y E h1 q => ?_⟩
  · rw [h] at q
    cases he : y.ex? with
    | none => rw [he] at q; cases q
    | some E => exact ⟨E, rfl⟩
  · rw [h, h1] at q
    exact q

theorem cst_ok {X : Cx} {k : Const} {d : D} {j : Nat} {p : Pos} {m : Md} (h : cstOk k d = true) : PE X (.Constant k j p) (tG g fa m fun _ => .ret d) := by
  unfold cstOk at h
  split at h
  · exact s_const pe_non (fun _ => .non) (fun _ z => by cases z)
  · cases eq_of_beq h; exact s_const pe_bl (fun _ => .bl _) (fun _ z => by cases z)
  · cases of_decide_eq_true h; exact s_const pe_int (fun _ => .int _) (fun _ z => by cases z)
  · cases of_decide_eq_true h; exact s_const pe_str (fun _ => .str _) (fun _ z => by cases z)
  · cases h
theorem snd_cst (d : D) : Snd g F fa (.cst d) := by
  refine Snd.f (fun _ => rfl) (fun _ => rfl) (fun _ => rfl) (exonly_of fun c y => by cases h : y.ex? <;> simp only [mt, h] <;> rfl) fun c X E o h => ?_
  simp only [mt, Syn.ex?] at h
  split at h
  · rename_i q
    cases q
    exact ⟨cst_ok h, rfl, rfl⟩
  · cases h
theorem eqS_eq {a b : D} (h : eqS a b = true) : a = b := by
  unfold eqS at h
  split at h
  · rw [of_decide_eq_true h]
  · rw [of_decide_eq_true h]
  · cases h
theorem snd_glob (x : Str) (d : D) : Snd g F fa (.glob x d) := by
  refine Snd.f (fun _ => rfl) (fun _ => rfl) (fun _ => rfl) (exonly_of fun c y => by cases h : y.ex? <;> simp only [mt, h] <;> rfl) fun c X E o h => ?_
  simp only [mt, Syn.ex?] at h
  split at h
  · rename_i q
    cases q
    simp only [Bool.and_eq_true, decide_eq_true_eq, List.any_eq_true] at h
    obtain ⟨⟨h1, h2⟩, ⟨x', d'⟩, hm, h3, h4⟩ := h
    subst h1
    dsimp only at h3 h4
    subst h3
    have := eqS_eq h4
    subst this
    obtain ⟨u, v, hu, r, rp, hd⟩ := o.cs _ _ hm
    obtain ⟨g1, g2, g3⟩ := o.gl h2
    exact ⟨s_const (pe_glob g1 hu r g2) (fun H => rp fa H) hd, rfl, rfl⟩
  · cases h
theorem snd_fref (x : Str) (k : Nat) : Snd g F fa (.fref x k) := by
  refine Snd.f (fun _ => rfl) (fun _ => rfl) (fun _ => rfl) (exonly_of fun c y => by cases h : y.ex? <;> simp only [mt, h] <;> rfl) fun c X E o h => ?_
  simp only [mt, Syn.ex?] at h
  split at h
  · rename_i q
    cases q
    simp only [Bool.and_eq_true, decide_eq_true_eq] at h
    obtain ⟨⟨h1, h2⟩, h3⟩ := h
    subst h1
    cases ht : c.tb[k]? with
    | none => rw [ht] at h3; cases h3
    | some p =>
      obtain ⟨nm, ps⟩ := p
      rw [ht] at h3
      cases h3
      obtain ⟨lv, r1, r2, r3⟩ := o.rm
      obtain ⟨g1, g2, g3⟩ := o.gl h2
      exact ⟨s_fref (r2 k _ ps ht) g1 g2, rfl, rfl⟩
  · cases h
theorem opEq_eq {o : Op2} {op : Operator} (h : opEq o op = true) : op = toOp o := by
  cases o <;> cases op <;> first | rfl | cases h
theorem cmEq_eq {o : Cm} {op : CmpOp} (h : cmEq o op = true) : op = toCm o := by
  cases o <;> cases op <;> first | rfl | cases h
theorem snd_bin (o : Op2) {a b : Sx} (ha : Snd g F fa a) (hb : Snd g F fa b) : Snd g F fa (.bin o a b) := by
  refine Snd.f (fun _ => rfl) (fun _ => rfl) (fun _ => rfl) (exonly_of fun c y => by cases h : y.ex? <;> simp only [mt, h] <;> rfl) fun c X E k h => ?_
  simp only [mt, Syn.ex?] at h
  split at h
  · rename_i q
    cases q
    simp only [Bool.and_eq_true] at h
    obtain ⟨⟨h1, h2⟩, h3⟩ := h
    have := opEq_eq h1
    subst this
    exact ⟨s_bin o k.K (ha.rd c X _ k h2) (hb.rd c X _ k h3), rfl, rfl⟩
  · cases h
theorem snd_cmp (o : Cm) {a b : Sx} (ha : Snd g F fa a) (hb : Snd g F fa b) : Snd g F fa (.cmp o a b) := by
  have key : ∀ c X E, XOk g F c X → mt (.cmp o a b) c (.e E) = true → PE X E (tG g fa .f (ev F (.cmp o a b))) ∧ PT X E (tB1 g fa (tst (.cmp o a b) (ev F (.cmp o a b)))) ∧ notComp E = true := fun c X E k h => by
    simp only [mt, Syn.ex?] at h
    split at h
    · rename_i q
      cases q
      simp only [Bool.and_eq_true] at h
      obtain ⟨⟨⟨h1, h2⟩, h3⟩, h4⟩ := h
      have := cmEq_eq h1
      subst this
      have hu : X.A.units + 65 < cLine := Nat.lt_of_succ_lt k.u
      exact ⟨s_cmp o k.KE hu (mark_of h2) (ha.rd c X _ k h3) (hb.rd c X _ k h4), t_cmp o k.KE hu (mark_of h2) (ha.rd c X _ k h3) (hb.rd c X _ k h4), rfl⟩
    · cases h
  exact Snd.gen (fun _ => rfl) (fun _ => rfl) (fun _ => rfl) (exonly_of fun c y => by cases h : y.ex? <;> simp only [mt, h] <;> rfl) (fun c X E k h => ⟨p_of_f (key c X E k h).1, fun _ => (key c X E k h).1, (key c X E k h).2.2⟩) fun c X E k h => (key c X E k h).2.1
theorem snd_chain (o o' : Cm) {a b d : Sx} (ha : Snd g F fa a) (hb : Snd g F fa b) (hd : Snd g F fa d) : Snd g F fa (.chain o o' a b d) := by
  have key : ∀ c X E, XOk g F c X → mt (.chain o o' a b d) c (.e E) = true → PE X E (tG g fa .f (ev F (.chain o o' a b d))) ∧ PT X E (tB1 g fa (tst (.chain o o' a b d) (ev F (.chain o o' a b d)))) ∧ notComp E = true := fun c X E k h => by
    simp only [mt, Syn.ex?] at h
    split at h
    · rename_i q
      cases q
      simp only [Bool.and_eq_true] at h
      obtain ⟨⟨⟨⟨⟨h1, h2⟩, h3⟩, h4⟩, h5⟩, h6⟩ := h
      have := cmEq_eq h1
      subst this
      have := cmEq_eq h2
      subst this
      have hu : X.A.units + 65 < cLine := Nat.lt_of_succ_lt k.u
      have hm := mark_of (op := toCm o') h3
      exact ⟨s_chain o o' k.KE hu hm (ha.rd c X _ k h4) (hb.rd c X _ k h5) (hd.rd c X _ k h6), t_chain o o' k.KE hu hm (ha.rd c X _ k h4) (hb.rd c X _ k h5) (hd.rd c X _ k h6), rfl⟩
    · cases h
  exact Snd.gen (fun _ => rfl) (fun _ => rfl) (fun _ => rfl) (exonly_of fun c y => by cases h : y.ex? <;> simp only [mt, h] <;> rfl) (fun c X E k h => ⟨p_of_f (key c X E k h).1, fun _ => (key c X E k h).1, (key c X E k h).2.2⟩) fun c X E k h => (key c X E k h).2.1
theorem snd_neg {a : Sx} (ha : Snd g F fa a) : Snd g F fa (.neg a) := by
  refine Snd.f (fun _ => rfl) (fun _ => rfl) (fun _ => rfl) (exonly_of fun c y => by cases h : y.ex? <;> simp only [mt, h] <;> rfl) fun c X E k h => ?_
  simp only [mt, Syn.ex?] at h
  split at h
  · rename_i q
    cases q
    exact ⟨s_neg (ha.ex c X _ k h), rfl, rfl⟩
  · cases h
theorem tst_eq {a : Sx} (h : isNone_ a = false) (f : Ev → M D) : tst a f = fun ρ => (rdv a f ρ).bind truD := by
  cases a <;> first | rfl | cases h
theorem snd_nt {a : Sx} (ha : Snd g F fa a) : Snd g F fa (.nt a) := by
  have key : ∀ c X E, XOk g F c X → mt (.nt a) c (.e E) = true → PE X E (tG g fa .f (ev F (.nt a))) ∧ PT X E (tB1 g fa (tst (.nt a) (ev F (.nt a)))) ∧ notComp E = true := fun c X E k h => by
    simp only [mt, Syn.ex?] at h
    split at h
    · rename_i q
      cases q
      simp only [Bool.and_eq_true, Bool.not_eq_true'] at h
      obtain ⟨h1, h2⟩ := h
      refine ⟨?_, t_not (ha.ts c X _ k h1 h2), rfl⟩
      have := s_nt (pos := by assumption) k.K (ha.rd c X _ k h2)
      show PE X _ (tG g fa .f fun ρ => (tst a (ev F a) ρ).bind fun k => .ret (.bool !k))
      rw [tst_eq h1]
      exact this
    · cases h
  exact Snd.gen (fun _ => rfl) (fun _ => rfl) (fun _ => rfl) (exonly_of fun c y => by cases h : y.ex? <;> simp only [mt, h] <;> rfl) (fun c X E k h => ⟨p_of_f (key c X E k h).1, fun _ => (key c X E k h).1, (key c X E k h).2.2⟩) fun c X E k h => (key c X E k h).2.1
theorem wp_and {f1 f2 : Ev → M D} {ρ : Ev} {Q : Bool → Prop} (w : WP (((f1 ρ).bind fun x => (truD x).bind fun k => if k = true then f2 ρ else .ret x).bind truD) Q) : WP (((f1 ρ).bind truD).bind fun k => if k = true then (f2 ρ).bind truD else .ret false) Q := by
  refine WP.bind.mpr (WP.bind.mpr ((WP.bind.mp (WP.bind.mp w)).mono fun x w => ?_))
  obtain ⟨k, e, w⟩ := truD_ret (WP.bind.mp w)
  rw [e]
  cases k with
  | true => exact WP.bind.mpr w
  | false =>
    have w : WP (truD x) Q := w
    rw [e] at w
    exact w
theorem wp_or {f1 f2 : Ev → M D} {ρ : Ev} {Q : Bool → Prop} (w : WP (((f1 ρ).bind fun x => (truD x).bind fun k => if k = true then .ret x else f2 ρ).bind truD) Q) : WP (((f1 ρ).bind truD).bind fun k => if k = true then .ret true else (f2 ρ).bind truD) Q := by
  refine WP.bind.mpr (WP.bind.mpr ((WP.bind.mp (WP.bind.mp w)).mono fun x w => ?_))
  obtain ⟨k, e, w⟩ := truD_ret (WP.bind.mp w)
  rw [e]
  cases k with
  | false => exact WP.bind.mpr w
  | true =>
    have w : WP (truD x) Q := w
    rw [e] at w
    exact w
theorem rd_ts {a : Sx} {c : Sc} {X : Cx} {E : Expr} (ha : Snd g F fa a) (k : XOk g F c X) (h : mt a c (.e E) = true) : PT X E (tB1 g fa fun ρ => (ev F a ρ).bind truD) := by
  by_cases hn : isNone_ a = true
  · cases a <;> first | (cases hn; done) | (cases h; done) | skip
  · have := ha.ts c X E k (by simpa using hn) h
    rw [tst_eq (by simpa using hn)] at this
    refine pt_weak this fun ρ Q w => ?_
    cases a <;> first | exact w | (simp [mt] at h; done) | skip
    rename_i i
    have w : WP ((gs ρ i).bind truD) Q := w
    obtain ⟨d, hd, w⟩ := gs_ok (WP.bind.mp w)
    show WP ((gr ρ i).bind truD) Q
    unfold gr
    rw [hd]
    exact w
theorem snd_and {a b : Sx} (ha : Snd g F fa a) (hb : Snd g F fa b) : Snd g F fa (.and a b) := by
  have key : ∀ c X E, XOk g F c X → mt (.and a b) c (.e E) = true → PE X E (tG g fa .p (ev F (.and a b))) ∧ PT X E (tB1 g fa (tst (.and a b) (ev F (.and a b)))) ∧ notComp E = true := fun c X E k h => by
    simp only [mt, Syn.ex?] at h
    split at h
    · rename_i q
      cases q
      simp only [Bool.and_eq_true] at h
      obtain ⟨h1, h2⟩ := h
      exact ⟨s_and k.K (ha.ex c X _ k h1) (pe_one (hb.ex c X _ k h2)), (pw_weak (t_and (rd_ts ha k h1) (pw_and1 (rd_ts hb k h2))) fun ρ Q w => wp_and w).pt, rfl⟩
    · rename_i q
      cases q
      simp only [Bool.and_eq_true] at h
      obtain ⟨h1, h2⟩ := h
      refine ⟨s_and k.K (ha.ex c X _ k h1) (hb.ex c X _ k h2), (pw_weak (t_and (rd_ts ha k h1) ?_) fun ρ Q w => wp_and w).pt, rfl⟩
      have := rd_ts hb k h2
      exact ⟨fun wh ps s σ H Q I q => this.run ps s σ H Q I q⟩
    · cases h
  exact Snd.gen (fun _ => rfl) (fun _ => rfl) (fun _ => rfl) (exonly_of fun c y => by cases h : y.ex? <;> simp only [mt, h] <;> rfl) (fun c X E k h => ⟨(key c X E k h).1, (fun z => by cases z), (key c X E k h).2.2⟩) fun c X E k h => (key c X E k h).2.1
theorem snd_or {a b : Sx} (ha : Snd g F fa a) (hb : Snd g F fa b) : Snd g F fa (.or a b) := by
  have key : ∀ c X E, XOk g F c X → mt (.or a b) c (.e E) = true → PE X E (tG g fa .p (ev F (.or a b))) ∧ PT X E (tB1 g fa (tst (.or a b) (ev F (.or a b)))) ∧ notComp E = true := fun c X E k h => by
    simp only [mt, Syn.ex?] at h
    split at h
    · rename_i q
      cases q
      simp only [Bool.and_eq_true] at h
      obtain ⟨h1, h2⟩ := h
      exact ⟨s_or k.K (ha.ex c X _ k h1) (pe_one (hb.ex c X _ k h2)), (pw_weak (t_or (rd_ts ha k h1) (pw_or1 (rd_ts hb k h2))) fun ρ Q w => wp_or w).pt, rfl⟩
    · rename_i q
      cases q
      simp only [Bool.and_eq_true] at h
      obtain ⟨h1, h2⟩ := h
      refine ⟨s_or k.K (ha.ex c X _ k h1) (hb.ex c X _ k h2), (pw_weak (t_or (rd_ts ha k h1) ?_) fun ρ Q w => wp_or w).pt, rfl⟩
      have := rd_ts hb k h2
      exact ⟨fun wh ps s σ H Q I q => this.run ps s σ H Q I q⟩
    · cases h
  exact Snd.gen (fun _ => rfl) (fun _ => rfl) (fun _ => rfl) (exonly_of fun c y => by cases h : y.ex? <;> simp only [mt, h] <;> rfl) (fun c X E k h => ⟨(key c X E k h).1, (fun z => by cases z), (key c X E k h).2.2⟩) fun c X E k h => (key c X E k h).2.1
theorem snd_ifx {d a b : Sx} (hd : Snd g F fa d) (ha : Snd g F fa a) (hb : Snd g F fa b) : Snd g F fa (.ifx d a b) := by
  have key : ∀ c X E, XOk g F c X → mt (.ifx d a b) c (.e E) = true → PE X E (tG g fa .p (ev F (.ifx d a b))) ∧ PT X E (tB1 g fa (tst (.ifx d a b) (ev F (.ifx d a b)))) ∧ notComp E = true := fun c X E k h => by
    simp only [mt, Syn.ex?] at h
    split at h
    · rename_i q
      cases q
      simp only [Bool.and_eq_true, Bool.not_eq_true'] at h
      obtain ⟨⟨⟨h1, h2⟩, h3⟩, h4⟩ := h
      refine ⟨s_ifx (hd.ts c X _ k h1 h2) (ha.ex c X _ k h3) (hb.ex c X _ k h4), pt_weak (t_if (hd.ts c X _ k h1 h2) (rd_ts ha k h3) (rd_ts hb k h4)) fun ρ Q w => ?_, rfl⟩
      have w : WP (((tst d (ev F d) ρ).bind fun k => if k = true then ev F a ρ else ev F b ρ).bind truD) Q := w
      refine WP.bind.mpr ((WP.bind.mp (WP.bind.mp w)).mono fun k w => ?_)
      cases k with
      | true => exact WP.bind.mpr w
      | false => exact WP.bind.mpr w
    · cases h
  exact Snd.gen (fun _ => rfl) (fun _ => rfl) (fun _ => rfl) (exonly_of fun c y => by cases h : y.ex? <;> simp only [mt, h] <;> rfl) (fun c X E k h => ⟨(key c X E k h).1, (fun z => by cases z), (key c X E k h).2.2⟩) fun c X E k h => (key c X E k h).2.1
theorem snd_idx {a b : Sx} (ha : Snd g F fa a) (hb : Snd g F fa b) : Snd g F fa (.idx a b) := by
  refine Snd.p (fun _ => rfl) (fun _ => rfl) (fun _ => rfl) (exonly_of fun c y => by cases h : y.ex? <;> simp only [mt, h] <;> rfl) rfl fun c X E k h => ?_
  simp only [mt, Syn.ex?] at h
  split at h
  · rename_i q
    cases q
    simp only [Bool.and_eq_true] at h
    obtain ⟨⟨h1, h2⟩, h3⟩ := h
    exact ⟨s_idx k.K (ix_of h1) (ha.rd c X _ k h2) (hb.ex c X _ k h3), rfl, rfl⟩
  · cases h
theorem snd_sl {a lo hi : Sx} (ha : Snd g F fa a) (hl : Snd g F fa lo) (hh : Snd g F fa hi) : Snd g F fa (.sl a lo hi) := by
  refine Snd.f (fun _ => rfl) (fun _ => rfl) (fun _ => rfl) (exonly_of fun c y => by cases h : y.ex? <;> simp only [mt, h] <;> rfl) fun c X E k h => ?_
  simp only [mt, Syn.ex?] at h
  split at h
  · rename_i q
    cases q
    simp only [Bool.and_eq_true] at h
    obtain ⟨⟨h1, h2⟩, h3⟩ := h
    exact ⟨s_sl k.K (ha.rd c X _ k h1) (hl.op c X _ k h2) (hh.op c X _ k h3), rfl, rfl⟩
  · cases h
theorem snd_lst {a : Sx} (ha : Snd g F fa a) : Snd g F fa (.lst a) := by
  refine Snd.f (fun _ => rfl) (fun _ => rfl) (fun _ => rfl) (exonly_of fun c y => by cases h : y.ex? <;> simp only [mt, h] <;> rfl) fun c X E k h => ?_
  simp only [mt, Syn.ex?] at h
  split at h
  · rename_i q
    cases q
    exact ⟨s_lst (ha.ar c X _ k h).1, rfl, rfl⟩
  · cases h
theorem snd_bi (b : Bi) {a : Sx} (ha : Snd g F fa a) : Snd g F fa (.bi b a) := by
  refine Snd.f (fun _ => rfl) (fun _ => rfl) (fun _ => rfl) (exonly_of fun c y => by cases h : y.ex? <;> simp only [mt, h] <;> rfl) fun c X E k h => ?_
  simp only [mt, Syn.ex?] at h
  split at h
  · rename_i q
    cases q
    simp only [Bool.and_eq_true, decide_eq_true_eq] at h
    obtain ⟨⟨⟨h1, h2⟩, h3⟩, h4⟩ := h
    subst h1
    obtain ⟨g1, g2, g3, g4⟩ := k.blt h2
    exact ⟨s_bi b k.K k.calm k.gd k.u g1 g2 (star_of h3) (ha.rd c X _ k h4), rfl, rfl⟩
  · cases h
theorem snd_biIf (b : Bi) {d a e : Sx} (hd : Snd g F fa d) (ha : Snd g F fa a) (he : Snd g F fa e) : Snd g F fa (.biIf b d a e) := by
  refine Snd.f (fun _ => rfl) (fun _ => rfl) (fun _ => rfl) (exonly_of fun c y => by cases h : y.ex? <;> simp only [mt, h] <;> rfl) fun c X E k h => ?_
  simp only [mt, Syn.ex?] at h
  split at h
  · rename_i q
    cases q
    simp only [Bool.and_eq_true, decide_eq_true_eq, Bool.not_eq_true'] at h
    obtain ⟨⟨⟨⟨⟨h1, h2⟩, h3⟩, h4⟩, h5⟩, h6⟩ := h
    subst h1
    obtain ⟨g1, g2, g3, g4⟩ := k.blt h2
    exact ⟨s_bi b k.K k.calm k.gd k.u g1 g2 (star_of rfl) (s_ifxV (hd.ts c X _ k h3 h4) (ha.rd c X _ k h5) (he.rd c X _ k h6)), rfl, rfl⟩
  · cases h
theorem ty_boot (t : Ty) : bootBuiltins (tyStr t) = some (.type (tyName t)) := by cases t <;> decide +kernel
theorem snd_isi {a : Sx} (t : Ty) (ha : Snd g F fa a) : Snd g F fa (.isi a t) := by
  refine Snd.f (fun _ => rfl) (fun _ => rfl) (fun _ => rfl) (exonly_of fun c y => by cases h : y.ex? <;> simp only [mt, h] <;> rfl) fun c X E k h => ?_
  simp only [mt, Syn.ex?] at h
  split at h
  · rename_i q
    cases q
    simp only [Bool.and_eq_true, decide_eq_true_eq] at h
    obtain ⟨⟨⟨⟨⟨h1, h2⟩, h3⟩, h4⟩, h5⟩, h6⟩ := h
    subst h1 h3
    obtain ⟨g1, g2, g3, g4⟩ := k.blt h2
    obtain ⟨t1, t2, t3, t4⟩ := k.blt h4
    exact ⟨s_isi t (ty_boot t) k.K g1 g2 t1 t2 t4 t3 (star_of h5) (ha.rd c X _ k h6), rfl, rfl⟩
  · cases h
theorem snd_upper {a : Sx} (ha : Snd g F fa a) : Snd g F fa (.upper a) := by
  refine Snd.f (fun _ => rfl) (fun _ => rfl) (fun _ => rfl) (exonly_of fun c y => by cases h : y.ex? <;> simp only [mt, h] <;> rfl) fun c X E k h => ?_
  simp only [mt, Syn.ex?] at h
  split at h
  · rename_i q
    cases q
    simp only [Bool.and_eq_true, decide_eq_true_eq] at h
    obtain ⟨⟨⟨h1, h2⟩, h3⟩, h4⟩ := h
    subst h1
    exact ⟨s_upper (base_of h2) h3 (ha.ex c X _ k h4), rfl, rfl⟩
  · cases h
theorem snd_call (j : Nat) {a : Sx} (ha : Snd g F fa a) : Snd g F fa (.call j a) := by
  refine Snd.p (fun _ => rfl) (fun _ => rfl) (fun _ => rfl) (exonly_of fun c y => by cases h : y.ex? <;> simp only [mt, h] <;> rfl) rfl fun c X E k h => ?_
  simp only [mt, Syn.ex?] at h
  split at h
  · rename_i q
    cases q
    simp only [Bool.and_eq_true, decide_eq_true_eq] at h
    obtain ⟨⟨h1, h2⟩, h3⟩ := h
    obtain ⟨lv, r1, r2, r3⟩ := k.rm
    obtain ⟨g1, g2, g3⟩ := k.gl h1
    cases ht : c.tb[j]? with
    | none => rw [ht] at h2; cases h2
    | some p =>
      obtain ⟨nm, ps⟩ := p
      rw [ht] at h2
      cases h2
      have G := r2 j _ ps ht
      have hst := mtA_noStar h3
      rename_i args _
      cases args with
      | nil =>
        refine ⟨?_, rfl, rfl⟩
        have hp := (ha.ar c X [] k h3).1
        refine pe_imp (s_call0 (fa := fa) G r1 k.gd g1 g2) fun σ H Q ⟨H0, ρ, R, w⟩ => ⟨H0, ρ, R, ?_⟩
        cases a <;> first | (simp [mt, Syn.ex?] at h3; done) | exact w
      | cons z args =>
        rw [List.all_cons, Bool.and_eq_true] at hst
        exact ⟨s_call G r1 k.gd g1 (ha.ar c X _ k h3).1 g2 (star_of hst.1) (noStars hst.2), rfl, rfl⟩
  · cases h
theorem snd_callv (i : Nat) {a : Sx} (ha : Snd g F fa a) : Snd g F fa (.callv i a) := by
  refine Snd.p (fun _ => rfl) (fun _ => rfl) (fun _ => rfl) (exonly_of fun c y => by cases h : y.ex? <;> simp only [mt, h] <;> rfl) rfl fun c X E k h => ?_
  simp only [mt, Syn.ex?] at h
  split at h
  · rename_i q
    cases q
    simp only [Bool.and_eq_true] at h
    obtain ⟨h1, h3⟩ := h
    obtain ⟨lv, r1, r2, r3⟩ := k.rm
    obtain ⟨v1, v2, v3, v4⟩ := k.vis h1
    have hst := mtA_noStar h3
    rw [List.all_cons, Bool.and_eq_true] at hst
    exact ⟨s_callv r3 r1 k.gd v1 v2 (ha.ar c X _ k h3).1 v3 v4 (star_of hst.1) (noStars hst.2), rfl, rfl⟩
  · cases h
theorem snd_callk (j : Nat) (pm : List Nat) {a : Sx} (ha : Snd g F fa a) : Snd g F fa (.callk j pm a) := by
  refine Snd.p (fun _ => rfl) (fun _ => rfl) (fun _ => rfl) (exonly_of fun c y => by cases h : y.ex? <;> simp only [mt, h] <;> rfl) rfl fun c X E k h => ?_
  simp only [mt, Syn.ex?] at h
  split at h
  · rename_i q
    cases q
    rename_i q kws _
    simp only [Bool.and_eq_true, decide_eq_true_eq, List.any_eq_true] at h
    obtain ⟨⟨⟨h1, h2⟩, ⟨⟨z1, z2, z3⟩, hz, ⟨e1, e2⟩, e3⟩⟩, h3⟩ := h
    dsimp only at e1 e2 e3
    subst e1 e2
    obtain ⟨g1, g2, g3⟩ := k.gl h1
    cases ht : c.tb[z1]? with
    | none => rw [ht] at h2; cases h2
    | some p =>
      obtain ⟨nm, ps⟩ := p
      rw [ht] at h2
      cases h2
      obtain ⟨lv, j, ad, fd, r1, r2, r3, r4, r5, r6, r7⟩ := k.kb _ _ _ _ _ hz ht
      obtain ⟨_, hk, hl⟩ := ha.ar c X _ k h3
      refine ⟨s_callk r2 r3 r4 r5 r6 r7 r1 k.gd g1 g2 (hk _ rfl) (fun ρ Q w => (hl ρ Q w).mono fun d ⟨q1, q2⟩ => ⟨q1, fun ds e => ?_⟩) e3, rfl, rfl⟩
      rw [q2 ds e, List.length_map, ← List.length_map (f := fun x : Keyword => x.arg), e3, List.length_map]
  · cases h
theorem snd_fld (i q : Nat) : Snd g F fa (.fld i q) := by
  refine Snd.p (fun _ => rfl) (fun _ => rfl) (fun _ => rfl) (exonly_of fun c y => by cases h : y.ex? <;> simp only [mt, h] <;> rfl) rfl fun c X E k h => ?_
  simp only [mt, Syn.ex?] at h
  split at h
  · rename_i q
    cases q
    simp only [Bool.and_eq_true, decide_eq_true_eq] at h
    obtain ⟨v1, v2, v3, v4⟩ := k.vis h.1
    exact ⟨s_fld (by have := k.u; omega) k.fko (k.fk ▸ h.2) v1 v2 v3 v4, rfl, rfl⟩
  · cases h
theorem snd_fcl (i : Nat) : Snd g F fa (.fcl i) := by
  refine Snd.p (fun _ => rfl) (fun _ => rfl) (fun _ => rfl) (exonly_of fun c y => by cases h : y.ex? <;> simp only [mt, h] <;> rfl) rfl fun c X E k h => ?_
  simp only [mt, Syn.ex?] at h
  split at h
  · rename_i q
    cases q
    simp only [Bool.and_eq_true, decide_eq_true_eq] at h
    obtain ⟨v1, v2, v3, v4⟩ := k.vis h.1
    have e := h.2
    rw [k.fk] at e
    subst e
    exact ⟨s_fcl (by have := k.u; omega) v1 v2 v3 v4, rfl, rfl⟩
  · cases h
end
end Pf
/-! PfM: soundness: names, lists of arguments, walks, comprehensions. -/
namespace Pf
open PySem PySem.Spec PyProof.Rows L2
section
variable {g : Gc} {F : Nat → List D → M D} {fa : Option Addr}
theorem zipGo_get : ∀ {ds es : List D} {i : Nat} {d : D}, (zipGo ds es)[i]? = some d → ∃ x y, ds[i]? = some x ∧ es[i]? = some y ∧ d = .tuple [x, y]
  | [], _, _, _, h => by simp [zipGo] at h
  | _ :: _, [], _, _, h => by simp [zipGo] at h
  | x :: ds, y :: es, 0, d, h => ⟨x, y, rfl, rfl, by simpa [zipGo] using h.symm⟩
  | x :: ds, y :: es, i + 1, d, h => by
    obtain ⟨x', y', h1, h2, h3⟩ := zipGo_get (i := i) (by simpa [zipGo] using h)
    exact ⟨x', y', by simpa using h1, by simpa using h2, h3⟩
theorem zipGo_len : ∀ (ds es : List D), (zipGo ds es).length = min ds.length es.length
  | [], es => by simp [zipGo]
  | _ :: _, [] => by simp [zipGo]
  | _ :: ds, _ :: es => by simp only [zipGo, List.length_cons, zipGo_len ds es]; omega
theorem wk_zip {H0 : Hp} {J : It} {xs ys : List V} {ds es : List D} (r1 : RpAll g fa H0 xs ds) (r2 : RpAll g fa H0 ys es)
    (h : ∀ H0' H', Bs g fa H0' H' → (∀ a o, H0 a = some o → H0' a = some o) → ∀ i, (∀ x y, xs[i]? = some x → ys[i]? = some y → J.go i H' ∧ ∀ v H'', J.yld i H' v H'' → ∃ T, v = .ref T ∧ H' T = none ∧ H'' = upd H' T (.tup [x, y])) ∧ (xs.length ≤ i ∨ ys.length ≤ i → J.stop i H')) :
    WkD g fa H0 J (zipGo ds es) := fun i H0' H' b lo => by
  obtain ⟨h1, h2⟩ := h H0' H' b lo i
  refine ⟨fun d e => ?_, fun hl => h2 ?_⟩
  · obtain ⟨x, y, hx, hy, rfl⟩ := zipGo_get e
    obtain ⟨vx, hvx, rx⟩ := r1.get' hx
    obtain ⟨vy, hvy, ry⟩ := r2.get' hy
    obtain ⟨go, yl⟩ := h1 vx vy hvx hvy
    refine ⟨go, fun v H'' hy => ?_⟩
    obtain ⟨T, rfl, hT, rfl⟩ := yl v H'' hy
    have x3 := b.alloc (o := .tup [vx, vy]) hT
    exact ⟨_, x3, .tup (.inl (.inl upd_same)) (.cons (Rp.mono x3.lo (Rp.mono lo rx)) (.one (Rp.mono x3.lo (Rp.mono lo ry))))⟩
  · rw [zipGo_len] at hl
    rw [r1.len, r2.len]
    omega
theorem wk_zipL {H0 : Hp} {a b : Addr} {xs ys : List V} {ds es : List D} (h1 : H0 a = some (.lst xs)) (h2 : H0 b = some (.lst ys)) (r1 : RpAll g fa H0 xs ds) (r2 : RpAll g fa H0 ys es) : WkD g fa H0 (Itz g.K a b) (zipGo ds es) :=
  wk_zip r1 r2 fun H0' H' bs lo i => by
    have ha : SqL g.K H' a xs := .inl (.inl (bs.sub _ _ (lo _ _ h1)))
    have hb : SqL g.K H' b ys := .inl (.inl (bs.sub _ _ (lo _ _ h2)))
    refine ⟨fun x y hx hy => ⟨⟨xs, ys, x, y, ha, hb, hx, hy⟩, fun v H'' hyl => ?_⟩, fun hl => ⟨xs, ys, ha, hb, hl⟩⟩
    obtain ⟨T, x', y', rfl, hT, rfl, f1, f2⟩ := hyl
    have e1 := f1 xs ha
    have e2 := f2 ys hb
    rw [hx] at e1
    rw [hy] at e2
    cases e1
    cases e2
    exact ⟨T, rfl, hT, rfl⟩
theorem wk_zipT {H0 : Hp} {a b : Addr} {xs ys : List V} {ds es : List D} (h1 : SqT g.K H0 a xs) (h2 : SqT g.K H0 b ys) (r1 : RpAll g fa H0 xs ds) (r2 : RpAll g fa H0 ys es) : WkD g fa H0 (RZ.ItzT g.K a b) (zipGo ds es) :=
  wk_zip r1 r2 fun H0' H' bs lo i => by
    have ha : SqT g.K H' a xs := sqT_mono bs.sub (sqT_mono lo h1)
    have hb : SqT g.K H' b ys := sqT_mono bs.sub (sqT_mono lo h2)
    refine ⟨fun x y hx hy => ⟨⟨xs, ys, x, y, ha, hb, hx, hy⟩, fun v H'' hyl => ?_⟩, fun hl => ⟨xs, ys, ha, hb, hl⟩⟩
    obtain ⟨T, x', y', rfl, hT, rfl, f1, f2⟩ := hyl
    have e1 := f1 xs ha
    have e2 := f2 ys hb
    rw [hx] at e1
    rw [hy] at e2
    cases e1
    cases e2
    exact ⟨T, rfl, hT, rfl⟩
theorem w_zip {X : Cx} {E1 E2 : Expr} {f1 f2 : Ev → M D} {elts : List Expr} {kk : Nat} {tpos p pos : Pos} (hK : X.K = g.K) (hg : Gl X "zip") (hm : X.mg "zip" = none) (hs : starEach [E1, E2] X.env = (false, eval E1 X.env) :: starEach [E2] X.env) (hs2 : starEach [E2] X.env = [(false, eval E2 X.env)])
    (h1 : PE X E1 (tG g fa .p f1)) (h2 : PE X E2 (tG g fa .p f2)) : PI X (.Tuple elts kk tpos) (.Call (.Name "zip" p) [E1, E2] [] pos) (tWD g fa fun ρ => ((f1 ρ).bind fun x => (f2 ρ).bind fun y => zipD x y).bind itmD) := by
  have hpl : (backTo pos (starEach [E2] X.env)).any (·.1) = false := by rw [hs2]; rfl
  refine pi_imp (RZ.pi_zipA hg hm (pa_cons h1 (pa_cons h2 pa_nil hs2) hs) hs hpl) fun σ H R ⟨H0, ρ, S, w⟩ => ⟨H0, ρ, S, (WP.bind.mp (WP.bind.mp w)).mono fun d w v H1' H1 x1 r1 => ⟨H1', ρ, S.ext x1, (WP.bind.mp w).mono fun e w u H2' H2 x2 r2 => ?_⟩⟩
  have r1' := Rp.mono x2.lo r1
  cases d with
  | list ds =>
    cases e with
    | list es =>
      obtain ⟨hc, w⟩ := wp_need w
      cases r1' with
      | lst ha ra =>
        cases r2 with
        | lst hb rb =>
          exact ⟨_, _, _, _, rfl, .inl ⟨.inl (.inl (x2.bs.sub _ _ ha)), .inl (.inl (x2.bs.sub _ _ hb)), hK ▸ w (of_decide_eq_true hc) _ H2' H2 (x1.trans x2) (wk_zipL ha hb ra rb)⟩⟩
    | _ => exact w.elim
  | tuple ds =>
    cases e with
    | tuple es =>
      obtain ⟨hc, w⟩ := wp_need w
      cases r1' with
      | tup ha ra =>
        cases r2 with
        | tup hb rb =>
          exact ⟨_, _, _, _, rfl, .inr ⟨hK ▸ sqT_mono x2.bs.sub ha, hK ▸ sqT_mono x2.bs.sub hb, hK ▸ w (of_decide_eq_true hc) _ H2' H2 (x1.trans x2) (wk_zipT ha hb ra rb)⟩⟩
    | _ => exact w.elim
  | _ => exact w.elim

/-- a piece that matches walks alone -/
theorem Snd.walk {e : Sx} (hv : ∀ f, rdv e f = f) (hn : ∀ c y, mt e c y = true → ∃ tg E, y = .i tg E) (hw : ∀ c X tg E, XOk g F c X → mt e c (.i tg E) = true → PI X tg E (tWD g fa fun ρ => (ev F e ρ).bind itmD)) : Snd g F fa e where
  ex := fun c X E o h => by obtain ⟨_, _, q⟩ := hn c _ h; cases q
  fr := fun c X E o h => by obtain ⟨_, _, q⟩ := hn c _ h; cases q
  rd := fun c X E o h => by obtain ⟨_, _, q⟩ := hn c _ h; cases q
  ts := fun c X E o _ h => by obtain ⟨_, _, q⟩ := hn c _ h; cases q
  ar := fun c X E o h => by obtain ⟨_, _, q⟩ := hn c _ h; cases q
  tg := fun c X E o h => by obtain ⟨_, _, q⟩ := hn c _ h; cases q
  tgs := fun c X E o h => by obtain ⟨_, _, q⟩ := hn c _ h; cases q
  it := fun c X tg E o h => ⟨by unfold itmv; rw [hv]; exact w_e (hw c X tg E o h), hw c X tg E o h⟩
  op := fun c X E o h => by obtain ⟨_, _, q⟩ := hn c _ h; cases q
  fs := fun c X E o h => by obtain ⟨_, _, q⟩ := hn c _ h; cases q
  sw := fun c X E x p pos i o h => by obtain ⟨_, _, q⟩ := hn c _ h; cases q
theorem wd_eq {X : Cx} {tg E : Expr} {f f' : Ev → M (List D)} (h : PI X tg E (tWD g fa f)) (e : ∀ ρ Q, WP (f' ρ) Q → WP (f ρ) Q) : PI X tg E (tWD g fa f') := pi_imp h fun σ H R ⟨H0, ρ, S, w⟩ => ⟨H0, ρ, S, e ρ _ w⟩
theorem snd_rng1 {a : Sx} (ha : Snd g F fa a) : Snd g F fa (.rng1 a) := by
  refine Snd.walk (fun _ => rfl) (fun c y h => ?_) fun c X tg E k h => ?_
  · unfold mt at h
    split at h
    · exact ⟨_, _, rfl⟩
    · cases h
  · simp only [mt] at h
    split at h
    · rename_i q
      cases q
      simp only [Bool.and_eq_true, decide_eq_true_eq] at h
      obtain ⟨⟨⟨h1, h2⟩, h3⟩, h4⟩ := h
      subst h1
      obtain ⟨g1, g2, g3, g4⟩ := k.blt h2
      refine wd_eq (w_rng1 g1 g2 (star_of h3) (ha.ex c X _ k h4)) fun ρ Q w => ?_
      refine WP.bind.mpr ((WP.bind.mp (WP.bind.mp w)).mono fun d w => WP.bind.mpr ((WP.bind.mp w).mono fun i w => ?_))
      obtain ⟨hc, w⟩ := wp_need w
      rw [need_of hc]
      exact w
    · cases h
theorem snd_rng2 {a b : Sx} (ha : Snd g F fa a) (hb : Snd g F fa b) : Snd g F fa (.rng2 a b) := by
  refine Snd.walk (fun _ => rfl) (fun c y h => ?_) fun c X tg E k h => ?_
  · unfold mt at h
    split at h
    · exact ⟨_, _, rfl⟩
    · cases h
  · simp only [mt] at h
    split at h
    · rename_i q
      cases q
      simp only [Bool.and_eq_true, decide_eq_true_eq] at h
      obtain ⟨⟨⟨⟨⟨h1, h2⟩, h3⟩, h3'⟩, h4⟩, h5⟩ := h
      subst h1
      obtain ⟨g1, g2, g3, g4⟩ := k.blt h2
      refine wd_eq (w_rng2 g1 g2 (by rw [star_of h3, star_of h3']; rfl) (star_of h3') (ha.ex c X _ k h4) (hb.ex c X _ k h5)) fun ρ Q w => ?_
      refine WP.bind.mpr ((WP.bind.mp (WP.bind.mp w)).mono fun d w => WP.bind.mpr ((WP.bind.mp w).mono fun e w => WP.bind.mpr ((WP.bind.mp w).mono fun i w => WP.bind.mpr ((WP.bind.mp w).mono fun j w => ?_))))
      obtain ⟨hc, w⟩ := wp_need w
      rw [need_of hc]
      exact w
    · cases h
theorem snd_zip {a b : Sx} (ha : Snd g F fa a) (hb : Snd g F fa b) : Snd g F fa (.zip a b) := by
  refine Snd.walk (fun _ => rfl) (fun c y h => ?_) fun c X tg E k h => ?_
  · unfold mt at h
    split at h
    · exact ⟨_, _, rfl⟩
    · cases h
  · simp only [mt] at h
    split at h
    · rename_i q
      cases q
      simp only [Bool.and_eq_true, decide_eq_true_eq] at h
      obtain ⟨⟨⟨⟨⟨⟨h0, h1⟩, h2⟩, h3⟩, h3'⟩, h4⟩, h5⟩ := h
      subst h1
      obtain ⟨g1, g2, g3, g4⟩ := k.blt h2
      cases tg <;> first | (cases h0; done) | skip
      exact w_zip k.K g1 g2 (star_of h3) (star_of h3') (ha.ex c X _ k h4) (hb.ex c X _ k h5)
    · cases h
theorem enum_fs {a : Sx} (ha : Snd g F fa a) {c : Sc} {X : Cx} {tg E : Expr} (k : XOk g F c X) (h : mt (.enum a) c (.i tg E) = true) : PI X tg E (tWE g fa fun ρ => ((rdv a (ev F a) ρ).bind enumM).bind itmD) ∧ PI X tg E (tWD g fa fun ρ => ((ev F a ρ).bind enumM).bind itmD) := by
  simp only [mt] at h
  split at h
  · rename_i q
    cases q
    simp only [Bool.and_eq_true, decide_eq_true_eq] at h
    obtain ⟨⟨⟨⟨h0, h1⟩, h2⟩, h3⟩, h4⟩ := h
    subst h1
    obtain ⟨g1, g2, g3, g4⟩ := k.blt h2
    cases tg <;> first | (cases h0; done) | skip
    exact ⟨w_enumE k.K g1 g2 (star_of h3) (ha.rd c X _ k h4), w_enumD k.K g1 g2 (star_of h3) (ha.ex c X _ k h4)⟩
  · cases h
theorem snd_enum {a : Sx} (ha : Snd g F fa a) : Snd g F fa (.enum a) := by
  have hn : ∀ c y, mt (.enum a) c y = true → ∃ tg E, y = .i tg E := fun c y h => by
    unfold mt at h
    split at h
    · exact ⟨_, _, rfl⟩
    · cases h
  exact {
    ex := fun c X E o h => by obtain ⟨_, _, q⟩ := hn c _ h; cases q
    fr := fun c X E o h => by obtain ⟨_, _, q⟩ := hn c _ h; cases q
    rd := fun c X E o h => by obtain ⟨_, _, q⟩ := hn c _ h; cases q
    ts := fun c X E o _ h => by obtain ⟨_, _, q⟩ := hn c _ h; cases q
    ar := fun c X E o h => by obtain ⟨_, _, q⟩ := hn c _ h; cases q
    tg := fun c X E o h => by obtain ⟨_, _, q⟩ := hn c _ h; cases q
    tgs := fun c X E o h => by obtain ⟨_, _, q⟩ := hn c _ h; cases q
    it := fun c X tg E o h => by
      obtain ⟨h1, h2⟩ := enum_fs ha o h
      refine ⟨?_, h2⟩
      cases a <;> first | exact h1 | exact w_e h2
    op := fun c X E o h => by obtain ⟨_, _, q⟩ := hn c _ h; cases q
    fs := fun c X E o h => by obtain ⟨_, _, q⟩ := hn c _ h; cases q
    sw := fun c X E x p pos i o h => by obtain ⟨_, _, q⟩ := hn c _ h; cases q }
theorem snd_var (i : Nat) : Snd g F fa (.var i) where
  ex := fun c X E k h => by
    simp only [mt, Syn.ex?] at h
    split at h
    · rename_i q; cases q
      obtain ⟨v1, v2, v3, v4⟩ := k.vis h
      exact s_var v1 v2 v3 v4
    · cases h
  fr := fun c X E k h z => by cases z
  rd := fun c X E k h => by
    simp only [mt, Syn.ex?] at h
    split at h
    · rename_i q; cases q
      obtain ⟨v1, v2, v3, v4⟩ := k.vis h
      exact s_varR v1 v2 v3 v4
    · cases h
  ts := fun c X E k _ h => by
    simp only [mt, Syn.ex?] at h
    split at h
    · rename_i q; cases q
      obtain ⟨v1, v2, v3, v4⟩ := k.vis h
      exact t_truth k.K (true_of rfl) (s_varR v1 v2 v3 v4)
    · cases h
  ar := fun c X es k h => by simp [mt, Syn.ex?] at h
  tg := fun c X E k h => by
    cases E <;> first | (simp [mt, Syn.ex?] at h; done) | skip
    obtain ⟨v1, v2, v3⟩ := k.loc h
    exact g_var k.nd v1 v2 v3
  tgs := fun c X es k h => by simp [mt, Syn.ex?] at h
  it := fun c X tg E k h => by
    simp only [mt, Syn.ex?] at h
    by_cases hs : notSet E = true
    · rw [if_pos hs] at h
      split at h
      · rename_i q; cases q
        obtain ⟨v1, v2, v3, v4⟩ := k.vis h
        exact ⟨w_look k.KE (s_varR v1 v2 v3 v4), w_val k.KE (s_var v1 v2 v3 v4)⟩
      · cases h
    · rw [if_neg hs] at h
      cases h
  op := fun c X x k h => by
    cases x with
    | none => simp [mt, Syn.ex?] at h
    | some x =>
      simp only [mt, Syn.ex?] at h
      split at h
      · rename_i q; cases q
        obtain ⟨v1, v2, v3, v4⟩ := k.vis h
        exact s_optS (s_var v1 v2 v3 v4)
      · cases h
  fs := fun c X xs k h => by
    cases xs with
    | nil => simp [mt, Syn.ex?] at h
    | cons x r =>
      cases r with
      | nil =>
        simp only [mt, Syn.ex?] at h
        split at h
        · rename_i q; cases q
          obtain ⟨v1, v2, v3, v4⟩ := k.vis h
          exact ⟨fun ps s σ H Q I w => (pts_one (t_truth k.K (true_of rfl) (s_varR v1 v2 v3 v4))).run ps s σ H Q I w⟩
        · cases h
      | cons _ _ => simp [mt, Syn.ex?] at h
  sw := fun c X E x p pos j k h hw => by
    have := swp_comp hw
    simp only [mt, Syn.ex?] at h
    split at h
    · rename_i q; cases q; cases this
    · cases h
end
end Pf
/-! PfN: soundness: displays, targets, comprehensions, the whole of expressions. -/
namespace Pf
open PySem PySem.Spec PyProof.Rows L2
section
variable {g : Gc} {F : Nat → List D → M D} {fa : Option Addr}
theorem tgt_tup (a : Sx) : tgt (.tup a) = fun d ρ => match d with
    | .tuple ds => tgt a (.list ds) ρ
    | _ => .bad := by
  funext d ρ
  cases d <;> rfl
theorem tgt_nil : tgt .nil = fun d ρ => match d with
    | .list [] => .ret ρ
    | _ => .bad := by
  funext d ρ
  cases d with
  | list ds => cases ds <;> rfl
  | _ => rfl
theorem tgt_cons (t a : Sx) : tgt (.cons t a) = fun d ρ => match d with
    | .list (d :: ds) => (tgt t d ρ).bind fun ρ1 => tgt a (.list ds) ρ1
    | _ => .bad := by
  funext d ρ
  cases d with
  | list ds => cases ds <;> rfl
  | _ => rfl
theorem snd_tup {a : Sx} (ha : Snd g F fa a) : Snd g F fa (.tup a) := by
  have key : ∀ c X E, XOk g F c X → mt (.tup a) c (.e E) = true → PE X E (tG g fa .f (ev F (.tup a))) ∧ plainT E = true ∧ notComp E = true := fun c X E k h => by
    simp only [mt, Syn.ex?] at h
    split at h
    · rename_i q
      cases q
      exact ⟨s_tup (ha.ar c X _ k h).1, rfl, rfl⟩
    · cases h
  have hy : ∀ c y E, y.ex? = some E → mt (.tup a) c y = true → mt (.tup a) c (.e E) = true := fun c y E h1 h2 => by
    cases y with
    | t z => cases h1
    | _ => simp only [mt] at h2 ⊢; rw [h1] at h2; exact h2
  exact {
    ex := fun c X E k h => p_of_f (key c X E k h).1
    fr := fun c X E k h z => by cases z
    rd := fun c X E k h => v_of_p (p_of_f (key c X E k h).1)
    ts := fun c X E k _ h => t_truth k.K (true_of (key c X E k h).2.1) (v_of_p (p_of_f (key c X E k h).1))
    ar := fun c X es k h => by simp [mt, Syn.ex?] at h
    tg := fun c X E k h => by
      cases E <;> first | (simp [mt, Syn.ex?] at h; done) | skip
      have h : mt a c (.ts _) = true := h
      obtain ⟨h1, h2⟩ := ha.tgs c X _ k h
      obtain ⟨l1, l2⟩ := asgs_len (env := X.env) (mtT_noStar h)
      rw [tgt_tup]
      exact g_tup k.K k.calm h1 l1 l2 h2
    tgs := fun c X es k h => by simp [mt, Syn.ex?] at h
    it := fun c X tg E k h => by
      have q : ∃ E', (Syn.i tg E).ex? = some E' ∧ E' = E := by
        by_cases hs : notSet E = true
        · exact ⟨E, by simp [Syn.ex?, hs], rfl⟩
        · simp [mt, Syn.ex?, hs] at h
      obtain ⟨E', q, rfl⟩ := q
      have hp := p_of_f (key c X E' k (hy c _ E' q h)).1
      exact ⟨w_e (w_val k.KE hp), w_val k.KE hp⟩
    op := fun c X x k h => by
      cases x with
      | none => simp [mt, Syn.ex?] at h
      | some x => exact s_optS (p_of_f (key c X x k (hy c (.o (some x)) x rfl h)).1)
    fs := fun c X xs k h => by
      cases xs with
      | nil => simp [mt, Syn.ex?] at h
      | cons x r =>
        cases r with
        | nil =>
          have hk := key c X x k (hy c (.f [x]) x rfl h)
          exact ⟨fun ps s σ H Q I w => (pts_one (t_truth k.K (true_of hk.2.1) (v_of_p (p_of_f hk.1)))).run ps s σ H Q I w⟩
        | cons _ _ => simp [mt, Syn.ex?] at h
    sw := fun c X E x p pos j k h hw => by
      have := swp_comp hw
      rw [(key c X E k h).2.2] at this
      cases this }
theorem snd_nil : Snd g F fa .nil where
  ex := fun c X E k h => by simp [mt] at h
  fr := fun c X E k h => by simp [mt] at h
  rd := fun c X E k h => by simp [mt] at h
  ts := fun c X E k _ h => by simp [mt] at h
  ar := fun c X es k h => by
    cases es with
    | nil =>
      refine ⟨a_nil, fun kws e => ?_, fun ρ Q w => ⟨w, fun ds e => by cases e; rfl⟩⟩
      cases kws with
      | nil => exact k_nil
      | cons _ _ => cases e
    | cons x r => simp [mt] at h
  tg := fun c X E k h => by simp [mt] at h
  tgs := fun c X es k h => by
    cases es with
    | nil =>
      rw [tgt_nil]
      refine ⟨gs_nil, fun ρ ds Q w => ?_⟩
      cases ds with
      | nil => rfl
      | cons _ _ => exact w.elim
    | cons x r => simp [mt] at h
  it := fun c X tg E k h => by simp [mt] at h
  op := fun c X x k h => by simp [mt] at h
  fs := fun c X xs k h => by simp [mt] at h
  sw := fun c X E x p pos j k h => by simp [mt] at h
theorem snd_cons {e a : Sx} (he : Snd g F fa e) (ha : Snd g F fa a) : Snd g F fa (.cons e a) where
  ex := fun c X E k h => by simp [mt] at h
  fr := fun c X E k h => by simp [mt] at h
  rd := fun c X E k h => by simp [mt] at h
  ts := fun c X E k _ h => by simp [mt] at h
  ar := fun c X es k h => by
    cases es with
    | nil => simp [mt] at h
    | cons x r =>
      simp only [mt, Bool.and_eq_true] at h
      obtain ⟨a1, a2, a3⟩ := ha.ar c X r k h.2
      refine ⟨a_cons (star_of h.1.1) (he.ex c X x k h.1.2) a1, fun kws e => ?_, fun ρ Q w => ?_⟩
      · cases kws with
        | nil => cases e
        | cons q kws =>
          obtain ⟨nm, z, kp⟩ := q
          have e : z :: kws.map (·.value) = x :: r := e
          injection e with e1 e2
          subst e1
          exact k_cons (he.ex c X z k h.1.2) (a2 kws e2)
      · have w : WP ((ev F e ρ).bind fun d => (ev F a ρ).bind fun x => (lstD x).bind fun ds => .ret (.list (d :: ds))) Q := w
        show WP ((ev F e ρ).bind fun d => (ev F a ρ).bind fun x => (lstD x).bind fun ds => M.ret (PyData.list (d :: ds))) _
        refine WP.bind.mpr ((WP.bind.mp w).mono fun d w => WP.bind.mpr ((a3 ρ _ (WP.bind.mp w)).mono fun y ⟨w, hl⟩ => ?_))
        cases y with
        | list ds =>
          have w : Q (.list (d :: ds)) := w
          exact ⟨w, fun ds' e => by cases e; rw [List.length_cons, hl ds rfl, List.length_cons]⟩
        | _ => exact w.elim
  tg := fun c X E k h => by simp [mt] at h
  tgs := fun c X es k h => by
    cases es with
    | nil => simp [mt] at h
    | cons x r =>
      simp only [mt, Bool.and_eq_true] at h
      obtain ⟨h1, h2⟩ := ha.tgs c X r k h.2
      rw [tgt_cons]
      refine ⟨gs_cons (he.tg c X x k h.1.2) h1 (by rw [asg_of h.1.1]; rfl), fun ρ ds Q w => ?_⟩
      cases ds with
      | nil => exact w.elim
      | cons d ds =>
        have w : WP ((tgt e d ρ).bind fun ρ1 => tgt a (.list ds) ρ1) Q := w
        have : ∃ ρ1 Q', WP (tgt a (.list ds) ρ1) Q' := by
          have := WP.bind.mp w
          revert this
          generalize tgt e d ρ = m
          intro this
          induction m with
          | ret ρ1 => exact ⟨ρ1, Q, this⟩
          | bad => exact this.elim
          | draw n k ih => exact ih 0 (this.2 0 this.1)
          | any k ih => exact ih 0 (this 0)
        obtain ⟨ρ1, Q', w⟩ := this
        rw [List.length_cons, List.length_cons, h2 _ _ _ w]
  it := fun c X tg E k h => by simp [mt] at h
  op := fun c X x k h => by simp [mt] at h
  fs := fun c X xs k h => by simp [mt] at h
  sw := fun c X E x p pos j k h => by simp [mt] at h
theorem snd_none : Snd g F fa .none_ where
  ex := fun c X E k h => by simp [mt] at h
  fr := fun c X E k h => by simp [mt] at h
  rd := fun c X E k h => by simp [mt] at h
  ts := fun c X E k _ h => by simp [mt] at h
  ar := fun c X es k h => by simp [mt] at h
  tg := fun c X E k h => by simp [mt] at h
  tgs := fun c X es k h => by simp [mt] at h
  it := fun c X tg E k h => by simp [mt] at h
  op := fun c X x k h => by
    cases x with
    | none => exact s_optN
    | some x => simp [mt] at h
  fs := fun c X xs k h => by
    cases xs with
    | nil => exact ts_nil
    | cons x r => simp [mt] at h
  sw := fun c X E x p pos j k h => by simp [mt] at h
/-- a statement is no expression -/
theorem Snd.stmt {e : Sx} (hn : ∀ c y, mt e c y = true → ∃ st, y = .s st) : Snd g F fa e where
  ex := fun c X E o h => by obtain ⟨_, q⟩ := hn c _ h; cases q
  fr := fun c X E o h => by obtain ⟨_, q⟩ := hn c _ h; cases q
  rd := fun c X E o h => by obtain ⟨_, q⟩ := hn c _ h; cases q
  ts := fun c X E o _ h => by obtain ⟨_, q⟩ := hn c _ h; cases q
  ar := fun c X E o h => by obtain ⟨_, q⟩ := hn c _ h; cases q
  tg := fun c X E o h => by obtain ⟨_, q⟩ := hn c _ h; cases q
  tgs := fun c X E o h => by obtain ⟨_, q⟩ := hn c _ h; cases q
  it := fun c X tg E o h => by obtain ⟨_, q⟩ := hn c _ h; cases q
  op := fun c X E o h => by obtain ⟨_, q⟩ := hn c _ h; cases q
  fs := fun c X E o h => by obtain ⟨_, q⟩ := hn c _ h; cases q
  sw := fun c X E x p pos i o h => by obtain ⟨_, q⟩ := hn c _ h; cases q
/-! list(range(n)), tuple(range(n)) -/
theorem rg_all (lo : Int) : ∀ (l : List Nat) {H0 : Hp}, RpAll g fa H0 (l.map fun i : Nat => V.int (lo + i)) (l.map fun i : Nat => PyData.int (lo + i))
  | [], _ => .nil
  | i :: l, _ => .cons (.int _) (rg_all lo l)
theorem s_lrng {X : Cx} {E : Expr} {f : Ev → M D} {p p2 pos pos2 : Pos} (hc : X.calm = true) (hg : Gl X "list") (hm : X.mg "list" = none) (hg2 : Gl X "range") (hm2 : X.mg "range" = none) (hs : starEach [E] X.env = (false, eval E X.env) :: starEach [] X.env) (h : PE X E (tG g fa .p f)) :
    PE X (.Call (.Name "list" p) [.Call (.Name "range" p2) [E] [] pos2] [] pos) (tG g fa .f fun ρ => (f ρ).bind fun x => (intD x).bind fun i => need (decide (-(2 ^ 62) ≤ i ∧ i ≤ 1000000)) (.ret (.list (intR 0 i.toNat)))) :=
  pe_imp (pe_listRg hc hg hm (prg_1 hg2 hm2 h hs) rfl) fun σ H Q ⟨H0, ρ, R, w⟩ => ⟨H0, ρ, R, (WP.bind.mp w).mono fun d w v H1' H1 x1 r1 => by
    obtain ⟨i, ei, w2⟩ := intD_ok (WP.bind.mp w)
    obtain ⟨hc, w3⟩ := wp_need w2
    obtain ⟨c1, c2⟩ := of_decide_eq_true hc
    subst ei
    cases r1
    refine ⟨i, rfl, ⟨by omega, by omega, c1, by omega, by omega⟩, fun q hq => Aft.newL x1.bs (Aft.of_ext R.bs x1 w3) ?_ hq⟩
    unfold rgV intR
    rw [Int.sub_zero]
    exact rg_all 0 _⟩
theorem s_trng {X : Cx} {E : Expr} {f : Ev → M D} {p p2 pos pos2 : Pos} (hc : X.calm = true) (hg : Gl X "tuple") (hm : X.mg "tuple" = none) (hg2 : Gl X "range") (hm2 : X.mg "range" = none) (hs : starEach [E] X.env = (false, eval E X.env) :: starEach [] X.env) (h : PE X E (tG g fa .p f)) :
    PE X (.Call (.Name "tuple" p) [.Call (.Name "range" p2) [E] [] pos2] [] pos) (tG g fa .f fun ρ => (f ρ).bind fun x => (intD x).bind fun i => need (decide (-(2 ^ 62) ≤ i ∧ i ≤ 1000000)) (.ret (.tuple (intR 0 i.toNat)))) :=
  pe_imp (pe_tupRg hc hg hm (prg_1 hg2 hm2 h hs) rfl) fun σ H Q ⟨H0, ρ, R, w⟩ => ⟨H0, ρ, R, (WP.bind.mp w).mono fun d w v H1' H1 x1 r1 => by
    obtain ⟨i, ei, w2⟩ := intD_ok (WP.bind.mp w)
    obtain ⟨hc, w3⟩ := wp_need w2
    obtain ⟨c1, c2⟩ := of_decide_eq_true hc
    subst ei
    cases r1
    refine ⟨i, rfl, ⟨by omega, by omega, c1, by omega, by omega⟩, fun q hq => Aft.newT x1.bs (Aft.of_ext R.bs x1 w3) ?_ hq⟩
    unfold rgV intR
    rw [Int.sub_zero]
    exact rg_all 0 _⟩
theorem snd_lrng {a : Sx} (ha : Snd g F fa a) : Snd g F fa (.lrng a) := by
  refine Snd.f (fun _ => rfl) (fun _ => rfl) (fun _ => rfl) (exonly_of fun c y => by cases h : y.ex? <;> simp only [mt, h] <;> rfl) fun c X E k h => ?_
  simp only [mt, Syn.ex?] at h
  split at h
  · rename_i q
    cases q
    simp only [Bool.and_eq_true, decide_eq_true_eq] at h
    obtain ⟨⟨⟨⟨⟨h1, h2⟩, h3⟩, h4⟩, h5⟩, h6⟩ := h
    subst h1 h3
    obtain ⟨g1, g2, g3, g4⟩ := k.blt h2
    obtain ⟨t1, t2, t3, t4⟩ := k.blt h4
    exact ⟨s_lrng k.calm g1 g2 t1 t2 (star_of h5) (ha.ex c X _ k h6), rfl, rfl⟩
  · cases h
theorem snd_trng {a : Sx} (ha : Snd g F fa a) : Snd g F fa (.trng a) := by
  refine Snd.f (fun _ => rfl) (fun _ => rfl) (fun _ => rfl) (exonly_of fun c y => by cases h : y.ex? <;> simp only [mt, h] <;> rfl) fun c X E k h => ?_
  simp only [mt, Syn.ex?] at h
  split at h
  · rename_i q
    cases q
    simp only [Bool.and_eq_true, decide_eq_true_eq] at h
    obtain ⟨⟨⟨⟨⟨h1, h2⟩, h3⟩, h4⟩, h5⟩, h6⟩ := h
    subst h1 h3
    obtain ⟨g1, g2, g3, g4⟩ := k.blt h2
    obtain ⟨t1, t2, t3, t4⟩ := k.blt h4
    exact ⟨s_trng k.calm g1 g2 t1 t2 (star_of h5) (ha.ex c X _ k h6), rfl, rfl⟩
  · cases h
theorem insU_mem (x z : Int) : ∀ l : List Int, z ∈ insU x l ↔ z = x ∨ z ∈ l
  | [] => by simp [insU]
  | y :: r => by
    unfold insU
    split
    · simp
    · split
      · rename_i h; subst h; simp
      · simp only [List.mem_cons, insU_mem x z r]
        constructor
        · rintro (h | h | h) <;> simp [h]
        · rintro (h | h | h) <;> simp [h]
theorem insU_pw (x : Int) : ∀ l : List Int, l.Pairwise (· < ·) → (insU x l).Pairwise (· < ·)
  | [], _ => by simp [insU]
  | y :: r, h => by
    unfold insU
    obtain ⟨h1, h2⟩ := List.pairwise_cons.mp h
    split
    · rename_i q
      exact List.pairwise_cons.mpr ⟨fun z hz => by
        rcases List.mem_cons.mp hz with e | e
        · rw [e]; exact q
        · have := h1 z e; omega, h⟩
    · split
      · exact h
      · rename_i q1 q2
        refine List.pairwise_cons.mpr ⟨fun z hz => ?_, insU_pw x r h2⟩
        rcases (insU_mem x z r).mp hz with e | e
        · omega
        · exact h1 z e
theorem ssetI_mem (z : Int) : ∀ l : List Int, z ∈ ssetI l ↔ z ∈ l
  | [] => Iff.rfl
  | x :: r => by rw [ssetI, insU_mem, ssetI_mem z r, List.mem_cons]
theorem ssetI_pw : ∀ l : List Int, (ssetI l).Pairwise (· < ·)
  | [] => .nil
  | x :: r => insU_pw x _ (ssetI_pw r)
theorem pw_unique : ∀ {a b : List Int}, a.Pairwise (· < ·) → b.Pairwise (· < ·) → (∀ z, z ∈ a ↔ z ∈ b) → a = b
  | [], [], _, _, _ => rfl
  | [], y :: b, _, _, h => absurd ((h y).mpr List.mem_cons_self) (by simp)
  | x :: a, [], _, _, h => absurd ((h x).mp List.mem_cons_self) (by simp)
  | x :: a, y :: b, ha, hb, h => by
    obtain ⟨a1, a2⟩ := List.pairwise_cons.mp ha
    obtain ⟨b1, b2⟩ := List.pairwise_cons.mp hb
    have e : x = y := by
      rcases List.mem_cons.mp ((h x).mp List.mem_cons_self) with e | e
      · exact e
      · rcases List.mem_cons.mp ((h y).mpr List.mem_cons_self) with e2 | e2
        · exact e2.symm
        · have := b1 x e; have := a1 y e2; omega
    subst e
    rw [pw_unique a2 b2 fun z => ?_]
    constructor
    · intro hz
      rcases List.mem_cons.mp ((h z).mp (List.mem_cons_of_mem _ hz)) with e | e
      · have := a1 z hz; omega
      · exact e
    · intro hz
      rcases List.mem_cons.mp ((h z).mpr (List.mem_cons_of_mem _ hz)) with e | e
      · have := b1 z hz; omega
      · exact e
theorem s_sset {X : Cx} {E : Expr} {f : Ev → M D} {p p2 pos pos2 : Pos} (hK : X.K = g.K) (hc : X.calm = true) (hg : Gl X "sorted") (hm : X.mg "sorted" = none) (hg2 : Gl X "set") (hm2 : X.mg "set" = none) (hs : starEach [E] X.env = (false, eval E X.env) :: starEach [] X.env) (h : PE X E (tG g fa .v f)) :
    PE X (.Call (.Name "sorted" p) [.Call (.Name "set" p2) [E] [] pos2] [] pos) (tG g fa .f fun ρ => (f ρ).bind ssetM) :=
  pe_imp (Pm.pe_sset hc hg hm hg2 hm2 h hs) fun σ H Q ⟨H0, ρ, R, w⟩ => ⟨H0, ρ, R, (WP.bind.mp w).mono fun d w v H1' H1 x1 r1 => by
    have r1 : Rv g fa H1' H1 v d := r1
    have fin : ∀ (a : Addr) (xs : List V) (ds : List D), v = .ref a → (SqL g.K H1 a xs ∨ SqT g.K H1 a xs) → RpAll g fa H1' xs ds → WP (match intsOf ds with
        | some ns => need (decide (ns.length < 60)) (M.ret (PyData.list ((ssetI ns).map .int)))
        | none => .bad) (fun d => ∀ v H0' H', Ext g fa H0 H H0' H' → Rel g fa .f H H0' H' v d → Q v H') →
        ∃ (l : Addr) (ns : List Int), v = .ref l ∧ (SqL X.K H1 l (ns.map V.int) ∨ SqT X.K H1 l (ns.map V.int)) ∧ ns.length < 60 ∧ ∀ (ms : List Int) (p : Addr), ms.Pairwise (· < ·) → (∀ k : Int, k ∈ ms ↔ k ∈ ns) → H1 p = none → Q (.ref p) (upd H1 p (.lst (ms.map V.int))) := fun a xs ds e hq ra w => by
      cases en : intsOf ds with
      | none => rw [en] at w; exact w.elim
      | some ns =>
        rw [en] at w
        obtain ⟨hcc, w⟩ := wp_need w
        have ex := ra.nums en
        subst ex
        refine ⟨a, ns, e, hK ▸ hq, of_decide_eq_true hcc, fun ms p h1 h2 hp => ?_⟩
        have es : ms = ssetI ns := pw_unique h1 (ssetI_pw ns) fun z => (h2 z).trans (ssetI_mem z ns).symm
        subst es
        exact Aft.newL x1.bs (Aft.of_ext R.bs x1 w) (rpAll_ints _) hp
    cases d with
    | list ds =>
      obtain ⟨a, xs, e, ha, ra⟩ := r1.list x1.bs
      exact fin a xs ds e (.inl (.inl (.inl ha))) ra w
    | tuple ds =>
      obtain ⟨a, xs, e, ha, ra⟩ := r1.tuple x1.bs
      exact fin a xs ds e (.inr ha) ra w
    | _ => exact w.elim⟩
theorem snd_sset {a : Sx} (ha : Snd g F fa a) : Snd g F fa (.sset a) := by
  refine Snd.f (fun _ => rfl) (fun _ => rfl) (fun _ => rfl) (exonly_of fun c y => by cases h : y.ex? <;> simp only [mt, h] <;> rfl) fun c X E k h => ?_
  simp only [mt, Syn.ex?] at h
  split at h
  · rename_i q
    cases q
    simp only [Bool.and_eq_true, decide_eq_true_eq] at h
    obtain ⟨⟨⟨⟨⟨h1, h2⟩, h3⟩, h4⟩, h5⟩, h6⟩ := h
    subst h1 h3
    obtain ⟨g1, g2, g3, g4⟩ := k.blt h2
    obtain ⟨t1, t2, t3, t4⟩ := k.blt h4
    exact ⟨s_sset k.K k.calm g1 g2 t1 t2 (star_of h5) (ha.rd c X _ k h6), rfl, rfl⟩
  · cases h
theorem s_trng2 {X : Cx} {E E2 : Expr} {f f2 : Ev → M D} {p p2 pos pos2 : Pos} (hc : X.calm = true) (hg : Gl X "tuple") (hm : X.mg "tuple" = none) (hg2 : Gl X "range") (hm2 : X.mg "range" = none) (hs : starEach [E, E2] X.env = (false, eval E X.env) :: starEach [E2] X.env) (hs2 : starEach [E2] X.env = [(false, eval E2 X.env)]) (h : PE X E (tG g fa .p f)) (h2 : PE X E2 (tG g fa .p f2)) :
    PE X (.Call (.Name "tuple" p) [.Call (.Name "range" p2) [E, E2] [] pos2] [] pos) (tG g fa .f fun ρ => (f ρ).bind fun x => (f2 ρ).bind fun y => (intD x).bind fun i => (intD y).bind fun j => need (decide (-(2 ^ 62) ≤ i ∧ i < 2 ^ 62 ∧ -(2 ^ 62) ≤ j ∧ j < 2 ^ 62 ∧ j - i ≤ 1000000)) (.ret (.tuple (intR i (j - i).toNat)))) :=
  pe_imp (pe_tupRg hc hg hm (prg_2 hg2 hm2 h h2 hs hs2 (by rw [hs2]; rfl)) rfl) fun σ H Q ⟨H0, ρ, R, w⟩ => ⟨H0, ρ, R, (WP.bind.mp w).mono fun d w v H1' H1 x1 r1 => ⟨H1', ρ, R.ext x1, (WP.bind.mp w).mono fun e w u H2' H2 x2 r2 => by
    obtain ⟨i, ei, w2⟩ := intD_ok (WP.bind.mp w)
    obtain ⟨j, ej, w2⟩ := intD_ok (WP.bind.mp w2)
    obtain ⟨hc, w3⟩ := wp_need w2
    obtain ⟨c1, c2, c3, c4, c5⟩ := of_decide_eq_true hc
    subst ei ej
    cases r1
    cases r2
    refine ⟨i, j, rfl, rfl, ⟨by omega, by omega, by omega, by omega, by omega⟩, fun q hq => Aft.newT x2.bs (Aft.of_ext R.bs (x1.trans x2) w3) ?_ hq⟩
    unfold rgV intR
    exact rg_all i _⟩⟩
theorem snd_trng2 {a b : Sx} (ha : Snd g F fa a) (hb : Snd g F fa b) : Snd g F fa (.trng2 a b) := by
  refine Snd.f (fun _ => rfl) (fun _ => rfl) (fun _ => rfl) (exonly_of fun c y => by cases h : y.ex? <;> simp only [mt, h] <;> rfl) fun c X E k h => ?_
  simp only [mt, Syn.ex?] at h
  split at h
  · rename_i q
    cases q
    simp only [Bool.and_eq_true, decide_eq_true_eq] at h
    obtain ⟨⟨⟨⟨⟨⟨⟨h1, h2⟩, h3⟩, h4⟩, h5⟩, h5'⟩, h6⟩, h7⟩ := h
    subst h1 h3
    obtain ⟨g1, g2, g3, g4⟩ := k.blt h2
    obtain ⟨t1, t2, t3, t4⟩ := k.blt h4
    exact ⟨s_trng2 k.calm g1 g2 t1 t2 (star_of h5) (star_of h5') (ha.ex c X _ k h6) (hb.ex c X _ k h7), rfl, rfl⟩
  · cases h
/-! comprehensions -/
theorem ownL_map (c : Sc) : ∀ own : List Nat, (c.ownL own).map (·.2) = own
  | [] => rfl
  | i :: own => by
    show i :: (c.ownL own).map (·.2) = i :: own
    rw [ownL_map c own]
theorem snd_lc {own : List Nat} {tg it cd elt : Sx} (htg : Snd g F fa tg) (hit : Snd g F fa it) (hcd : Snd g F fa cd) (hel : Snd g F fa elt) : Snd g F fa (.lc own tg it cd elt) := by
  have key : ∀ c X E, XOk g F c X → mt (.lc own tg it cd elt) c (.e E) = true → PE X E (tG g fa .f (ev F (.lc own tg it cd elt))) ∧ plainT E = true ∧
      ∀ x p pos i, c.swp (.Name x p) E = true → X.N[i]? = some x → ∃ t, PS X (.Assign [.Name x p] E pos) (tAsg t (gName i)) ∧ ∀ σ H Q, tG g fa .f (ev F (.lc own tg it cd elt)) σ H Q → t σ H Q := fun c X E k h => by
    simp only [mt, Syn.ex?] at h
    split at h
    · rename_i q
      cases q
      simp only [Bool.and_eq_true, List.all_eq_true] at h
      obtain ⟨⟨⟨⟨⟨⟨h1, h2⟩, h3⟩, h4⟩, h5⟩, h6⟩, h7⟩ := h
      have hb := blkOk_by h1
      rw [← k.N, ← k.sc] at hb
      have hts : ∀ i ∈ slotsOf tg, i ∈ (c.ownL own).map (·.2) := fun i hi => by
        rw [ownL_map]
        have := h2 i hi
        simpa using this
      have i1 := (hit.it c X _ _ k h4).1
      have hg := fun s H C cl fp => htg.tg _ _ _ (k.blk hb.kind s H C cl fp) h5
      have ht := fun s H C cl fp => hcd.fs _ _ _ (k.blk hb.kind s H C cl fp) h6
      have he := fun s H C cl fp => hel.ex _ _ _ (k.blk hb.kind s H C cl fp) h7
      refine ⟨?_, rfl, fun x p pos i hw hi => ?_⟩
      · have := s_lc (pos := by assumption) k.calm k.nd i1 hb hg ht he (fold_of h3) hts
        rw [ownL_map] at this
        exact this
      · simp only [Sc.swp, Bool.and_eq_true, decide_eq_true_eq, Bool.not_eq_true'] at hw
        obtain ⟨⟨w1, w2⟩, w3⟩ := hw
        have hy : X.env.scope.names.lookup x = some .local := by rw [k.sc]; exact w1
        have hk : X.env.scope.kind = .function := by rw [k.sc]; exact k.kd
        refine ⟨_, ps_setLc k.calm k.nd hi hy (sw_true hk hy w2 w3) i1 hb hg ht he (fold_of h3), fun σ H Q w => ?_⟩
        rw [ownL_map]
        exact lc_imp (fun i hi => by have := hts i hi; rw [ownL_map] at this; exact this) w
    · cases h
  exact Snd.mk' (fun _ => rfl) (fun _ => rfl) (fun _ => rfl) (exonly_of fun c y => by cases h : y.ex? <;> simp only [mt, h] <;> rfl).1 (fun c X E k h => p_of_f (key c X E k h).1) (fun c X E k h _ => (key c X E k h).1) (exonly_of fun c y => by cases h : y.ex? <;> simp only [mt, h] <;> rfl).2
    (fun c X E k h => t_truth k.K (true_of (key c X E k h).2.1) (v_of_p (p_of_f (key c X E k h).1))) fun c X E x p pos i k h => (key c X E k h).2.2 x p pos i
end
end Pf
/-! PfR: x[::-1] of a list or a tuple; xs[i::3] of a list. -/
namespace Pf
open PySem PySem.Spec PyProof.Rows L2
section
variable {prog : Program} {w : World} {A : Around} {E : Value → Shared → Prop} {s : Shared}
theorem filterMap_some {α β : Type} {f : α → Option β} {h : α → β} : ∀ {l : List α}, (∀ k ∈ l, f k = some (h k)) → l.filterMap f = l.map h
  | [], _ => rfl
  | a :: l, q => by
    rw [List.filterMap_cons, q a List.mem_cons_self, List.map_cons, filterMap_some fun k hk => q k (List.mem_cons_of_mem _ hk)]
theorem rev_pick (xs : Array Value) : ((List.range xs.size).filterMap fun (k : Nat) => xs[(((xs.size : Int) - 1) + (k : Int) * (-1)).toNat]?).toArray = xs.toList.reverse.toArray := by
  congr 1
  apply List.ext_getElem?
  intro i
  have e : (List.range xs.size).filterMap (fun (k : Nat) => xs[(((xs.size : Int) - 1) + (k : Int) * (-1)).toNat]?) = (List.range xs.size).map (fun k => xs.toList.reverse[k]?.getD .none) := by
    apply filterMap_some
    intro k hk
    have hk := List.mem_range.mp hk
    have h1 : (((xs.size : Int) - 1) + (k : Int) * (-1)).toNat = xs.size - 1 - k := by omega
    have h2 : xs.toList.reverse[k]? = xs[xs.size - 1 - k]? := by
      rw [List.getElem?_reverse (by simpa using hk)]
      simp
    rw [h1]
    show _ = some (xs.toList.reverse[k]?.getD .none)
    rw [h2]
    have : xs.size - 1 - k < xs.size := by omega
    rw [Array.getElem?_eq_getElem this]
    rfl
  rw [e, List.getElem?_map]
  by_cases hi : i < xs.size
  · rw [List.getElem?_range hi]
    have : i < xs.toList.reverse.length := by simpa using hi
    show some (xs.toList.reverse[i]?.getD Value.none) = _
    rw [List.getElem?_eq_getElem this]
    rfl
  · rw [List.getElem?_eq_none (by rw [List.length_range]; omega), List.getElem?_eq_none (by simp; omega)]
    rfl
theorem getItem_tuple_rev {t sl : Addr} {items : Array Value} {tk : Tok} {Q : Value → Shared → Prop} (ht : IsTup s.heap t items) (hs : s.heap.IsSliceOf sl .none .none (.int (-1) tk))
    (h : Q (.ref s.heap.objs.size) { s with heap := s.heap.push { cls := .type "tuple", data := .seq items.toList.reverse.toArray } }) (hsz : items.size ≤ sizeLine) : wpAny (model prog w) A (getItem (.ref t) (.ref sl)) Q E s := by
  have hfit : sizeOk (.seq items.toList.reverse.toArray) := by
    show items.toList.reverse.toArray.size ≤ sizeLine
    rw [List.size_toArray, List.length_reverse, Array.length_toList]
    exact hsz
  obtain ⟨os, hos, hcs, hds⟩ := id hs
  have hTs : s.TypeIs (.ref sl) "slice" := ⟨os, hos, hcs⟩
  unfold getItem
  try with_reducible refine wpAny_holding ?_
  first | refine wpAny_bind (wpAny_pure ?_) | skip
  refine wpAny_bind (wpAny_sequenceKey ht.typeIs (by decide) ?_)
  refine wpAny_bind (wpAny_callSpecial?_slot (name := Str.ofString "__getitem__") ht.typeIs PyProof.Rows.slot_tuple_getitem
    (wpAny_call_entry PyProof.Rows.slot_tuple_getitem ht.typeIs entry_tuple_getitem ?_ (args_tuple_getitem _ _)))
  show wpAny _ _ (Builtin.Tuple.tupleItemsOf (.ref t) >>= _) _ _ s
  refine wpAny_bind (tupleItemsOf_ ht ?_)
  refine wpAny_bind (wpAny_typeOf hTs ?_)
  rw [if_pos (by decide)]
  have app : ∀ {R : Int × Int × Nat → Shared → Prop}, R ((items.size : Int) - 1, -1, items.size) s → wpAny (model prog w) (A.in1) (Builtin.Slice.sliceApplied (.ref sl) (pure (items.size : Int))) R E s := fun {R} hR => by
    unfold Builtin.Slice.sliceApplied Builtin.Slice.sliceFields
    refine wpAny_bind (wpAny_bind (wpAny_field hos hds (x := .none) rfl (wpAny_bind (wpAny_field hos hds (x := .none) rfl (wpAny_bind (wpAny_field hos hds (x := .int (-1) tk) rfl (wpAny_pure ?_)))))))
    refine wpAny_bind (slicePart_int ?_)
    show wpAny _ _ (if ((-1 : Int) == 0) = true then _ else _) _ _ s
    rw [if_neg (by decide)]
    refine wpAny_bind (slicePart_none (wpAny_bind (slicePart_none (wpAny_bind (wpAny_pure ?_)))))
    refine wpAny_pure ?_
    have e : Builtin.Slice.slicePlaces ((items.size : Int) - 1) (-1) (-1) = items.size := by
      unfold Builtin.Slice.slicePlaces
      simp only [show ¬ ((-1 : Int) > 0) by omega, if_false, show (- -1 : Int) = 1 by decide, Int.ediv_one]
      split <;> omega
    show R ((items.size : Int) - 1, -1, Builtin.Slice.slicePlaces ((items.size : Int) - 1) (-1) (-1)) s
    rw [e]
    exact hR
  refine wpAny_bind (app ?_)
  have hno : ¬ ((((items.size : Int) - 1) == 0 && (-1 : Int) == 1 && items.size == items.size) = true) := by
    intro q
    rw [Bool.and_eq_true, Bool.and_eq_true] at q
    have q1 : (-1 : Int) = 1 := eq_of_beq q.1.2
    omega
  show wpAny _ _ (if (((items.size : Int) - 1) == 0 && (-1 : Int) == 1 && items.size == items.size) = true then _ else _) _ _ s
  rw [if_neg hno, rev_pick]
  first
    | exact wpAny_bind (m := Builtin.Tuple.tupleExact _) (wpAny_newObj_type (wpAny_pure ⟨_, rfl, wpAny_pure h⟩) hfit)
    | exact wpAny_bind (m := Builtin.Tuple.tupleExact _) (wpAny_newObj_type (wpAny_bind (wpAny_pure (wpAny_pure ⟨_, rfl, wpAny_pure h⟩))) hfit)
    | exact wpAny_bind (wpAny_bind (m := Builtin.Tuple.tupleExact _) (wpAny_newObj_type (wpAny_pure (wpAny_pure ⟨_, rfl, wpAny_pure h⟩)) hfit))
    | exact wpAny_bind (wpAny_bind (m := Builtin.Tuple.tupleExact _) (wpAny_newObj_type (wpAny_pure ⟨_, rfl, wpAny_pure h⟩) hfit))
end
section
variable {X : Cx} {g : Gc} {fa : Option Addr} {F : Nat → List D → M D}
theorem Vals.rev {xs : List V} {us : List Value} (r : Vals xs us) : Vals xs.reverse us.reverse := r.reverse
theorem s_rev {E : Expr} {f : Ev → M D} {k : Nat} {p1 p2 p3 pos : Pos} (hK : X.K = g.K) (he : PE X E (tG g fa .v f)) :
    PE X (.Subscript E (.Slice none none (some (.UnaryOp .USub (.Constant (.int 1) k p1) p2)) p3) pos) (tG g fa .f fun ρ => (f ρ).bind fun x => match x with
    | .list ds => .ret (.list ds.reverse)
    | .tuple ds => .ret (.tuple ds.reverse)
    | _ => .bad) := by
  refine ⟨fun ps s σ H Q I ⟨H0, ρ, R, w0⟩ => ?_⟩
  refine Subscript_ (thn (he.run ps s σ H (fun v H1 => ∃ H1' d, Ext g fa H0 H H1' H1 ∧ Rv g fa H1' H1 v d ∧ WP (match d with
    | .list ds => M.ret (PyData.list ds.reverse)
    | .tuple ds => .ret (.tuple ds.reverse)
    | _ => .bad) (Aft g fa H1' H1 Q)) I ⟨H0, ρ, R, (WP.bind.mp w0).mono fun d w v H1' H1 x1 r1 => ⟨H1', d, x1, r1, w.mono fun z q => Aft.of_ext R.bs x1 q⟩⟩) fun v s1 ⟨x, H1, I1, r1, H1', d, x1, rv, q⟩ => ?_)
  have hst : PO X (some (.UnaryOp .USub (.Constant (.int 1) k p1) p2)) (tPart (tUn (rU fun i => .int (-i)) (tC (.int 1)))) := po_some (pe_un un_neg pe_int)
  refine wpAny_Slice (thn (po_none.run ps s1 σ H1 (fun o H2 => o = none ∧ H2 = H1) I1 ⟨rfl, rfl⟩) fun vl s2 ⟨l, H2, I2, pl, el, e2⟩ => ?_)
  subst el e2
  refine thn (po_none.run ps s2 σ H2 (fun o H3 => o = none ∧ H3 = H2) I2 ⟨rfl, rfl⟩) fun vu s3 ⟨u, H3, I3, pu, eu, e3⟩ => ?_
  subst eu e3
  refine thn (hst.run ps s3 σ H3 (fun o H4 => o = some (-1) ∧ H4 = H3) I3 ⟨1, rfl, -1, rfl, rfl, rfl⟩) fun vs s4 ⟨o, H4, I4, pst, eo, e4⟩ => ?_
  subst eo e4
  have I5 : Inv X ps σ H4 { s4 with heap := s4.heap.push { cls := .type "slice", data := .fields #[vl, vu, vs] } } := I4.kept (t' := s4.toks) fun b ob q => Heap.get?_push_of_some _ q
  cases d with
  | list ds =>
    obtain ⟨a, xs, rfl, ha, ra⟩ := rv.list x1.bs
    cases r1
    obtain ⟨its, r, ht, hz⟩ := I5.list (a := a) (xs := xs) (.inl (.inl ha))
    have hlen := r.length
    show wpAny (model X.prog X.w) X.A (subscriptTail E (.Slice none none (some (.UnaryOp .USub (.Constant (.int 1) k p1) p2)) p3) (.ref a) (.ref s4.heap.objs.size)) (EP X ps σ Q) X.xe { s4 with heap := s4.heap.push { cls := .type "slice", data := .fields #[vl, vu, vs] } }
    refine tail_any (ops := [.ref a, .ref s4.heap.objs.size]) ht.isList.typeIs (PySem.slot_list_getitem.lookup) ?_ (by with_unfolding_all rfl)
    refine wpAny_getItem_list_slice ht.isList (Heap.IsSliceOf.new _ vl vu vs) pl pu pst (by decide) ?_ (by rw [List.size_toArray]; omega)
    rw [PySem.W.krv_pick]
    refine ⟨.ref _, _, I5.laid (t' := s4.toks) (o := .lst xs.reverse) (fun b ob q => Heap.get?_push_of_some _ q) (Nat.le_refl _) ?_, rfl, Aft.newL x1.bs q ra.reverse (I5.hok.fresh (Nat.le_refl _))⟩
    exact ⟨by rw [List.length_reverse]; exact hz, _, 0, r.reverse, Heap.get?_push_size _ rfl⟩
  | tuple ds =>
    obtain ⟨a, xs, rfl, ha, ra⟩ := rv.tuple x1.bs
    cases r1
    obtain ⟨its, r, ht, hz⟩ := I5.tuple (a := a) (xs := xs) (hK ▸ ha)
    have hlen := r.length
    show wpAny (model X.prog X.w) X.A (subscriptTail E (.Slice none none (some (.UnaryOp .USub (.Constant (.int 1) k p1) p2)) p3) (.ref a) (.ref s4.heap.objs.size)) (EP X ps σ Q) X.xe { s4 with heap := s4.heap.push { cls := .type "slice", data := .fields #[vl, vu, vs] } }
    refine tail_any (ops := [.ref a, .ref s4.heap.objs.size]) ht.typeIs (PyProof.Rows.slot_tuple_getitem.lookup) ?_ (by with_unfolding_all rfl)
    cases pl
    cases pu
    cases pst
    refine getItem_tuple_rev ht (Heap.IsSliceOf.new _ _ _ _) ?_ (by rw [List.size_toArray]; omega)
    refine ⟨.ref _, _, I5.laid (t' := s4.toks) (o := .tup xs.reverse) (fun b ob q => Heap.get?_push_of_some _ q) (Nat.le_refl _) ?_, rfl, Aft.newT x1.bs q ra.reverse (I5.hok.fresh (Nat.le_refl _))⟩
    exact ⟨by rw [List.length_reverse]; exact hz, _, r.reverse, ⟨_, Heap.get?_push_size _ rfl, rfl, _, rfl⟩⟩
  | _ => exact q.elim
theorem snd_rev {a : Sx} (ha : Snd g F fa a) : Snd g F fa (.rev a) := by
  refine Snd.f (fun _ => rfl) (fun _ => rfl) (fun _ => rfl) (exonly_of fun c y => by cases h : y.ex? <;> simp only [mt, h] <;> rfl) fun c X E k h => ?_
  simp only [mt, Syn.ex?] at h
  split at h
  · rename_i q
    cases q
    exact ⟨s_rev k.K (ha.rd c X _ k h), rfl, rfl⟩
  · cases h
theorem RpAll.pick {H0 : Hp} {xs : List V} {ds : List D} (r : RpAll g fa H0 xs ds) : ∀ l : List Nat, RpAll g fa H0 (l.filterMap (xs[·]?)) (l.filterMap (ds[·]?))
  | [] => .nil
  | k :: l => by
    rw [List.filterMap_cons, List.filterMap_cons]
    cases e : ds[k]? with
    | none =>
      have : xs[k]? = none := by
        rw [List.getElem?_eq_none_iff] at e ⊢
        rw [r.len]; exact e
      rw [this]
      exact RpAll.pick r l
    | some d =>
      obtain ⟨v, hv, rv⟩ := r.get' e
      rw [hv]
      exact .cons rv (RpAll.pick r l)
theorem vals_pick {xs : List V} {us : List Value} (r : Vals xs us) : ∀ l : List Nat, Vals (l.filterMap (xs[·]?)) (l.filterMap (us[·]?))
  | [] => .nil
  | k :: l => by
    rw [List.filterMap_cons, List.filterMap_cons]
    cases e : xs[k]? with
    | none => rw [r.none_of e]; exact vals_pick r l
    | some d =>
      obtain ⟨u, hu, ru⟩ := r.get e
      rw [hu]
      exact .cons ru (vals_pick r l)
theorem s_step {E E2 : Expr} {f f2 : Ev → M D} {n k : Nat} {p1 p3 pos : Pos} (hK : X.K = g.K) (he : PE X E (tG g fa .v f)) (hl : PE X E2 (tG g fa .p f2)) :
    PE X (.Subscript E (.Slice (some E2) none (some (.Constant (.int (n : Int)) k p1)) p3) pos) (tG g fa .f fun ρ => (f ρ).bind fun x => (f2 ρ).bind fun y => match x, y with
    | .list ds, .int i => need (decide (n ≠ 0 ∧ (stepD ds i n).length ≤ sizeLine)) (.ret (.list (stepD ds i n)))
    | _, _ => .bad) := by
  refine ⟨fun ps s σ H Q I ⟨H0, ρ, R, w0⟩ => ?_⟩
  refine Subscript_ (thn (he.run ps s σ H (fun v H1 => ∃ H1' d, Ext g fa H0 H H1' H1 ∧ Rv g fa H1' H1 v d ∧ WP ((f2 ρ).bind fun y => match d, y with
    | .list ds, .int i => need (decide (n ≠ 0 ∧ (stepD ds i n).length ≤ sizeLine)) (M.ret (PyData.list (stepD ds i n)))
    | _, _ => .bad) (Aft g fa H1' H1 Q)) I ⟨H0, ρ, R, (WP.bind.mp w0).mono fun d w v H1' H1 x1 r1 => ⟨H1', d, x1, r1, w.mono fun z q => Aft.of_ext R.bs x1 q⟩⟩) fun v s1 ⟨x, H1, I1, r1, H1', d, x1, rv, q⟩ => ?_)
  have hlo : PO X (some E2) (tOpt g fa fun ρ => (f2 ρ).bind fun d => (intD d).bind fun i => .ret (some i)) := s_optS hl
  have hst : PO X (some (.Constant (.int (n : Int)) k p1)) (tPart (tC (.int (n : Int)))) := po_some pe_int
  refine wpAny_Slice (thn ((po_some hl).run ps s1 σ H1 (fun o H2 => ∃ i H2', o = some i ∧ Ext g fa H1' H1 H2' H2 ∧ ∃ ds, d = .list ds ∧ n ≠ 0 ∧ (stepD ds i n).length ≤ sizeLine ∧ Aft g fa H2' H2 Q (.list (stepD ds i n))) I1 ⟨H1', ρ, R.ext x1, (WP.bind.mp q).mono fun y w vy H2' H2 x2 r2 => ?_⟩) fun vl s2 ⟨l, H2, I2, pl, i, H2', el, x2, ds, ed, hn, hz2, q2⟩ => ?_)
  · cases d with
    | list ds =>
      cases y with
      | int i =>
        obtain ⟨hc, w⟩ := wp_need w
        obtain ⟨c1, c2⟩ := of_decide_eq_true hc
        cases r2
        exact ⟨i, rfl, i, H2', rfl, x2, ds, rfl, c1, c2, Aft.of_ext x1.bs x2 w⟩
      | _ => exact w.elim
    | _ => exact w.elim
  subst el ed
  refine thn (po_none.run ps s2 σ H2 (fun o H3 => o = none ∧ H3 = H2) I2 ⟨rfl, rfl⟩) fun vu s3 ⟨u, H3, I3, pu, eu, e3⟩ => ?_
  subst eu e3
  refine thn (hst.run ps s3 σ H3 (fun o H4 => o = some (n : Int) ∧ H4 = H3) I3 ⟨n, rfl, rfl, rfl⟩) fun vs s4 ⟨o, H4, I4, pst, eo, e4⟩ => ?_
  subst eo e4
  have I5 : Inv X ps σ H4 { s4 with heap := s4.heap.push { cls := .type "slice", data := .fields #[vl, vu, vs] } } := I4.kept (t' := s4.toks) fun b ob q => Heap.get?_push_of_some _ q
  obtain ⟨a, xs, rfl, ha, ra⟩ := (Rv.ext rv x1.bs x2).list x2.bs
  cases r1
  obtain ⟨its, r, ht, hz⟩ := I5.list (a := a) (xs := xs) (.inl (.inl ha))
  have hlen := r.length
  show wpAny (model X.prog X.w) X.A (subscriptTail E (.Slice (some E2) none (some (.Constant (.int (n : Int)) k p1)) p3) (.ref a) (.ref s4.heap.objs.size)) (EP X ps σ Q) X.xe { s4 with heap := s4.heap.push { cls := .type "slice", data := .fields #[vl, vu, vs] } }
  refine tail_any (ops := [.ref a, .ref s4.heap.objs.size]) ht.isList.typeIs (PySem.slot_list_getitem.lookup) ?_ (by with_unfolding_all rfl)
  refine wpAny_getItem_list_slice ht.isList (Heap.IsSliceOf.new _ vl vu vs) pl pu pst (by intro z; exact hn (by have := Option.some.inj z; omega)) ?_ (by rw [List.size_toArray]; omega)
  have hrl := ra.len
  have e1 : slicePick its.toArray (some i) none (some (n : Int)) = ((sliceRange (sliceBounds (some i) none (some (n : Int)) ds.length).1 (sliceBounds (some i) none (some (n : Int)) ds.length).2.1 (sliceBounds (some i) none (some (n : Int)) ds.length).2.2).filterMap (its[·]?)).toArray := by
    unfold slicePick
    rw [List.size_toArray, ← hlen, hrl]
    simp
  rw [e1]
  refine ⟨.ref _, _, I5.laid (t' := s4.toks) (o := .lst ((sliceRange (sliceBounds (some i) none (some (n : Int)) ds.length).1 (sliceBounds (some i) none (some (n : Int)) ds.length).2.1 (sliceBounds (some i) none (some (n : Int)) ds.length).2.2).filterMap (xs[·]?))) (fun b ob q => Heap.get?_push_of_some _ q) (Nat.le_refl _) ?_, rfl, Aft.newL x2.bs q2 (ra.pick _) (I5.hok.fresh (Nat.le_refl _))⟩
  refine ⟨?_, _, 0, vals_pick r _, Heap.get?_push_size _ rfl⟩
  rw [(ra.pick _).len]
  exact hz2
theorem snd_step {a lo : Sx} (n : Nat) (ha : Snd g F fa a) (hl : Snd g F fa lo) : Snd g F fa (.step a lo n) := by
  refine Snd.f (fun _ => rfl) (fun _ => rfl) (fun _ => rfl) (exonly_of fun c y => by cases h : y.ex? <;> simp only [mt, h] <;> rfl) fun c X E k h => ?_
  simp only [mt, Syn.ex?] at h
  split at h
  · rename_i q
    cases q
    simp only [Bool.and_eq_true, decide_eq_true_eq] at h
    obtain ⟨⟨h1, h2⟩, h3⟩ := h
    subst h1
    exact ⟨s_step k.K (ha.rd c X _ k h2) (hl.ex c X _ k h3), rfl, rfl⟩
  · cases h
end
end Pf
/-! PfO: soundness, whole. -/
namespace Pf
open PySem PySem.Spec PyProof.Rows L2
section
variable {g : Gc} {F : Nat → List D → M D} {fa : Option Addr}
theorem snd (e : Sx) : Snd g F fa e := by
  induction e with
  | var i => exact snd_var i
  | cst d => exact snd_cst d
  | glob x d => exact snd_glob x d
  | fref x k => exact snd_fref x k
  | tup a ha => exact snd_tup ha
  | lst a ha => exact snd_lst ha
  | nil => exact snd_nil
  | cons e a he ha => exact snd_cons he ha
  | call k a ha => exact snd_call k ha
  | callk k p a ha => exact snd_callk k p ha
  | fld i q => exact snd_fld i q
  | fcl i => exact snd_fcl i
  | callv i a ha => exact snd_callv i ha
  | bi b a ha => exact snd_bi b ha
  | biIf b k a d hk ha hd => exact snd_biIf b hk ha hd
  | isi e t he => exact snd_isi t he
  | upper e he => exact snd_upper he
  | bin o a b ha hb => exact snd_bin o ha hb
  | cmp o a b ha hb => exact snd_cmp o ha hb
  | chain o o' a b c ha hb hc => exact snd_chain o o' ha hb hc
  | neg a ha => exact snd_neg ha
  | nt a ha => exact snd_nt ha
  | and a b ha hb => exact snd_and ha hb
  | or a b ha hb => exact snd_or ha hb
  | ifx c a b hc ha hb => exact snd_ifx hc ha hb
  | idx a b ha hb => exact snd_idx ha hb
  | sl a lo hi ha hl hh => exact snd_sl ha hl hh
  | rev a ha => exact snd_rev ha
  | step a lo n ha hl => exact snd_step n ha hl
  | none_ => exact snd_none
  | lc own tg it cd elt h1 h2 h3 h4 => exact snd_lc h1 h2 h3 h4
  | rng1 a ha => exact snd_rng1 ha
  | rng2 a b ha hb => exact snd_rng2 ha hb
  | zip a b ha hb => exact snd_zip ha hb
  | enum a ha => exact snd_enum ha
  | sset a ha => exact snd_sset ha
  | trng2 a b ha hb => exact snd_trng2 ha hb
  | lrng a ha => exact snd_lrng ha
  | trng a ha => exact snd_trng ha
  | _ =>
    refine Snd.stmt fun c y h => ?_
    unfold mt at h
    first
      | (cases h; done)
      | (split at h <;> first | exact ⟨_, rfl⟩ | (cases h; done))

theorem tgt_ne {c : Sc} {tg E : Expr} (h : c.stOk tg E = true) : notStar tg = true := by
  unfold Sc.stOk at h
  rw [Bool.and_eq_true] at h
  exact h.1
/-- a plain store's side conditions -/
theorem st_ok {c : Sc} {X : Cx} (k : XOk g F c X) {tg E : Expr} {pos : Pos} (h : c.stOk tg E = true) (hs : c.swp tg E = false) : swapsWithSole [tg] E pos.line X.env = pure false ∧ swappedStores [tg] E X.env = pure none ∧ List.map (fun x => x.snd) (assignEach [tg] X.env) = [assign tg X.env] := by
  refine ⟨?_, ?_, by rw [asg_of (tgt_ne h)]; rfl⟩
  · show swapsWith E (some tg) pos.line X.env = pure false
    by_cases hc : notComp E = true
    · exact swapS_of hc
    · unfold Sc.stOk at h
      rw [Bool.and_eq_true] at h
      cases tg <;> first
        | (cases E <;> first | (exact absurd rfl hc) | (cases h.2; done) | rfl | skip)
      rename_i x p elt gs scope pos2
      show (pure (X.env.blockKind == .function && X.env.kindOf x == some .local && p.line == _ && !(scope.names.any fun (n, k) => n == x && (k == .local || k == .cell))) : Sem Bool) = pure false
      congr 1
      simp only [Sc.swp] at hs
      have hk : X.env.kindOf x = c.sc.names.lookup x := by unfold Env.kindOf; rw [k.sc]
      rw [hk]
      cases h1 : decide (c.sc.names.lookup x = some .local) with
      | false =>
        have : (c.sc.names.lookup x == some .local) = false := by
          rw [beq_eq_false_iff_ne]
          exact of_decide_eq_false h1
        rw [this]
        simp
      | true =>
        rw [h1, Bool.true_and] at hs
        rw [Bool.and_assoc, hs, Bool.and_false]
  · unfold Sc.stOk at h
    rw [Bool.and_eq_true] at h
    cases tg <;> first
      | rfl
      | (cases E <;> first | rfl | (cases h.2; done))
theorem swp_name {c : Sc} {tg E : Expr} (h : c.swp tg E = true) : ∃ x p, tg = .Name x p ∧ notComp E = false := by
  unfold Sc.swp at h
  split at h
  · exact ⟨_, _, rfl, rfl⟩
  · cases h
/-- statements and blocks -/
structure Std (g : Gc) (F : Nat → List D → M D) (fa : Option Addr) (fu : Nat) (e : Sx) : Prop where
  st : ∀ H0s Hs Z c X s, XOk g F c X → mt e c (.s s) = true → PS X s (tS g fa H0s Hs Z (exGo fu F e))
  bl : ∀ H0s Hs Z c X s, XOk g F c X → mt e c (.b s) = true → PSs X s (tS g fa H0s Hs Z (exGo fu F e))
variable {fu : Nat}
theorem Std.no {e : Sx} (h1 : ∀ c s, mt e c (.s s) = true → False) (h2 : ∀ c s, mt e c (.b s) = true → False) : Std g F fa fu e := ⟨fun _ _ _ c _ s _ h => (h1 c s h).elim, fun _ _ _ c _ s _ h => (h2 c s h).elim⟩
theorem Std.s {e : Sx} (h1 : ∀ H0s Hs Z c X s, XOk g F c X → mt e c (.s s) = true → PS X s (tS g fa H0s Hs Z (exGo fu F e))) (h2 : ∀ c s, mt e c (.b s) = true → False) : Std g F fa fu e := ⟨h1, fun _ _ _ c _ s _ h => (h2 c s h).elim⟩
theorem ts_eq {X : Cx} {st : Stmt} {H0s Hs Z : Hp} {f f' : Ev → M Out} (h : PS X st (tS g fa H0s Hs Z f)) (e : ∀ ρ Q, WP (f' ρ) Q → WP (f ρ) Q) : PS X st (tS g fa H0s Hs Z f') := ps_imp h fun D σ H ⟨H0, ρ, R, en, w⟩ => ⟨H0, ρ, R, en, e ρ _ w⟩
theorem tss_eq {X : Cx} {st : List Stmt} {H0s Hs Z : Hp} {f f' : Ev → M Out} (h : PSs X st (tS g fa H0s Hs Z f)) (e : ∀ ρ Q, WP (f' ρ) Q → WP (f ρ) Q) : PSs X st (tS g fa H0s Hs Z f') := pss_imp h fun D σ H ⟨H0, ρ, R, en, w⟩ => ⟨H0, ρ, R, en, e ρ _ w⟩
theorem std_asg (tg e : Sx) : Std g F fa fu (.asg tg e) := Std.s (fun H0s Hs Z c X s k h => by
  unfold mt at h
  split at h
  · rename_i q
    cases q
    rename_i t v pos
    simp only [Bool.and_eq_true] at h
    obtain ⟨⟨h1, h2⟩, h3⟩ := h
    cases hs : c.swp t v with
    | false =>
      obtain ⟨s1, s2, s3⟩ := st_ok k (pos := pos) h1 hs
      exact x_asg s1 s2 s3 ((snd e).ex c X v k h3) ((snd tg).tg c X t k h2)
    | true =>
      obtain ⟨x, p, rfl, _⟩ := swp_name hs
      -- the target is a name: tg is a slot
      cases tg <;> first | (simp [mt, Syn.ex?] at h2; done) | skip
      rename_i i
      have h2 : c.loc i x = true := h2
      obtain ⟨v1, v2, v3⟩ := k.loc h2
      obtain ⟨t, ht, hi⟩ := (snd (g := g) (F := F) (fa := fa) e).sw c X v x p pos i k h3 hs v1
      refine ps_imp ht fun D σ H ⟨H0, ρ, R, en, w⟩ => hi σ H _ ⟨H0, ρ, R, (WP.bind.mp w).mono fun d w v H1' H1 x1 r1 => ?_⟩
      obtain ⟨H0'', x2, lo, r2⟩ := Rel.data (Hs := H) x1 r1
      exact w _ H0'' H1 ((R.ext x2).putD i r2) ((en.ext x2).kp (Kp.put fun _ z => by cases z))
  · cases h) (fun c s h => by simp [mt] at h)
theorem std_asgO (i : Nat) (e : Sx) : Std g F fa fu (.asgO i e) := Std.s (fun H0s Hs Z c X s k h => by
  unfold mt at h
  split at h
  · rename_i q
    cases q
    rename_i x p v pos
    simp only [Bool.and_eq_true] at h
    obtain ⟨⟨⟨h1, h2⟩, hf⟩, h3⟩ := h
    obtain ⟨v1, v2, v3⟩ := k.loc h2
    have weak : ∀ ρ Q, WP (exGo fu F (.asgO i e) ρ) Q → WP ((ev F e ρ).bind fun d => match d with
        | .list ds => M.ret (Out.nx (put ρ i (.own (.list ds))))
        | _ => .bad) Q := fun ρ Q w => by
      have w : WP ((ev F e ρ).bind fun d => match d with
        | .list ds => need (isFr e) (M.ret (Out.nx (put ρ i (.own (.list ds)))))
        | _ => .bad) Q := w
      refine WP.bind.mpr ((WP.bind.mp w).mono fun d w => ?_)
      cases d with
      | list ds => exact (wp_need w).2
      | _ => exact w
    cases hs : c.swp (.Name x p) v with
    | false =>
      obtain ⟨s1, s2, s3⟩ := st_ok k (pos := pos) h1 hs
      exact ts_eq (x_asgO k.nd v1 v2 v3 s1 ((snd e).fr c X v k h3 hf)) weak
    | true =>
      obtain ⟨t, ht, hi⟩ := (snd (g := g) (F := F) (fa := fa) e).sw c X v x p pos i k h3 hs v1
      refine ts_eq (ps_imp ht fun D σ H h => ?_) weak
      exact hi σ H _ (own_imp (isFr_ := true) rfl h)
  · cases h) (fun c s h => by simp [mt] at h)
theorem std_ret (e : Sx) : Std g F fa fu (.ret e) := Std.s (fun H0s Hs Z c X s k h => by
  unfold mt at h
  split at h
  · rename_i q
    cases q
    cases e with
    | var i =>
      simp only [mt, Syn.ex?] at h
      split at h
      · rename_i q; cases q
        obtain ⟨v1, v2, v3, v4⟩ := k.vis h
        exact x_retV v1 v2 v3 v4
      · cases h
    | enum a => simp [mt] at h
    | _ => exact x_ret ((snd _).ex c X _ k h)
  · cases h) (fun c s h => by simp [mt] at h)
theorem std_expr (e : Sx) : Std g F fa fu (.expr e) := Std.s (fun H0s Hs Z c X s k h => by
  unfold mt at h
  split at h
  · rename_i q
    cases q
    simp only [Bool.and_eq_true] at h
    exact x_expr (swapN_of h.1) ((snd _).ex c X _ k h.2)
  · cases h) (fun c s h => by simp [mt] at h)
theorem std_bor (i j : Nat) (d e : Sx) : Std g F fa fu (.bor i j d e) := Std.s (fun H0s Hs Z c X s k h => by
  unfold mt at h
  split at h
  · rename_i q
    cases q
    simp only [Bool.and_eq_true, decide_eq_true_eq, Bool.not_eq_true'] at h
    obtain ⟨⟨⟨⟨⟨h1, h2⟩, h3⟩, h4⟩, h5⟩, h6⟩ := h
    obtain ⟨v1, v2, v3⟩ := k.loc h1
    obtain ⟨w1, w2, w3, w4⟩ := k.vis h2
    exact x_bor k.nd v1 v2 v3 w1 w2 w3 w4 h3 ((snd d).ts c X _ k h4 h5) ((snd e).ex c X _ k h6)
  · cases h) (fun c s h => by simp [mt] at h)
theorem std_app (i : Nat) (e : Sx) : Std g F fa fu (.app i e) := Std.s (fun H0s Hs Z c X s k h => by
  unfold mt at h
  split at h
  · rename_i q
    cases q
    simp only [Bool.and_eq_true, decide_eq_true_eq] at h
    obtain ⟨⟨⟨⟨h1, h2⟩, h3⟩, h4⟩, h5⟩ := h
    subst h2
    obtain ⟨w1, w2, w3, w4⟩ := k.vis h1
    exact x_app w1 w2 w3 w4 h3 (star_of h4) ((snd e).ex c X _ k h5)
  · cases h) (fun c s h => by simp [mt] at h)
theorem s_dc {own : List Nat} {tg it key : Sx} {c : Sc} {X : Cx} {kx tg' iter : Expr} {scope : Scope} {j : Nat} {p q : Pos} (k : XOk g F c X) (h1 : blkC c.N c.sc scope (c.ownL own) = true) (h2 : (slotsOf tg).all (own.contains ·) = true) (h3 : notSet iter = true) (h4 : mt it c (.i tg' iter) = true) (h5 : mt tg (c.blk scope) (.t tg') = true) (h6 : mt key (c.blk scope) (.e kx) = true) :
    PE X (.DictComp kx (.Constant (.bool true) j p) [⟨tg', iter, [], 0⟩] scope q) (tGD g fa (dcF (itmv it (ev F it)) (tgt tg) (ev F key) own)) := by
  have hb := blkOk_by h1
  rw [← k.N, ← k.sc] at hb
  have hts : ∀ i ∈ slotsOf tg, i ∈ own := fun i hi => by
    have := List.all_eq_true.mp h2 i hi
    simpa using this
  have i1 := ((snd (g := g) (F := F) (fa := fa) it).it c X _ _ k h4).1
  have hg := fun s H C cl fp => (snd (g := g) (F := F) (fa := fa) tg).tg _ _ _ (k.blk hb.kind s H C cl fp) h5
  have he := fun s H C cl fp => (snd (g := g) (F := F) (fa := fa) key).ex _ _ _ (k.blk hb.kind s H C cl fp) h6
  have ht : ∀ s H C cl fp, PTs (Pm.Blk X scope s H C cl fp) [] (tB1 g fa fun _ => .ret true) := fun s H C cl fp => ts_nil
  have hv : ∀ s H C cl fp, PE (Pm.Blk X scope s H C cl fp) (.Constant (.bool true) j p) (tC (.bl true)) := fun s H C cl fp => pe_bl
  have r := Pm.pe_mc (pos := q) (Nat.lt_of_le_of_lt (Nat.add_le_add_left (by decide) _) k.u) k.calm k.nd i1 hb hg ht he hv (fold_of h3)
  rw [k.KE.P, k.KE.w, k.KE.K, ownL_map] at r
  exact pe_imp r fun σ H Q h => dc_imp hts h
theorem std_dnew (i : Nat) (own : List Nat) (tg it key : Sx) : Std g F fa fu (.dnew i own tg it key) := Std.s (fun H0s Hs Z c X s k h => by
  unfold mt at h
  split at h
  · rename_i q
    cases q
    rename_i x p kx j p2 tg' iter scope q2 pos
    simp only [Bool.and_eq_true, Bool.not_eq_true', decide_eq_false_iff_not] at h
    obtain ⟨⟨⟨⟨⟨⟨⟨h1, h2⟩, h3⟩, h4⟩, h5⟩, h6⟩, h7⟩, h8⟩ := h
    obtain ⟨v1, v2, v3⟩ := k.loc h1
    refine x_dnew k.nd v1 v2 v3 ?_ (s_dc k h3 h4 h5 h6 h7 h8)
    show (pure (X.env.blockKind == .function && X.env.kindOf x == some .local && p.line == _ && !(scope.names.any fun (n, k) => n == x && (k == .local || k == .cell))) : Sem Bool) = pure false
    have hk : X.env.kindOf x = c.sc.names.lookup x := by unfold Env.kindOf; rw [k.sc]
    rw [hk, show (c.sc.names.lookup x == some .local) = false from beq_eq_false_iff_ne.mpr h2]
    simp
  · cases h) (fun c s h => by simp [mt] at h)
theorem std_dupd (i : Nat) (own : List Nat) (tg it key : Sx) : Std g F fa fu (.dupd i own tg it key) := Std.s (fun H0s Hs Z c X s k h => by
  unfold mt at h
  split at h
  · rename_i q
    cases q
    simp only [Bool.and_eq_true, decide_eq_true_eq] at h
    obtain ⟨⟨⟨⟨⟨⟨⟨⟨h1, h2⟩, h3⟩, h4⟩, h5⟩, h6⟩, h7⟩, h8⟩, h9⟩ := h
    subst h2
    obtain ⟨w1, w2, w3, w4⟩ := k.vis h1
    exact x_dupd k.KE (Nat.lt_of_le_of_lt (Nat.add_le_add_left (by decide) _) k.u) w1 w2 w3 w4 h3 (star_of rfl) (s_dc k h4 h5 h6 h7 h8 h9)
  · cases h) (fun c s h => by simp [mt] at h)
theorem std_ext (i : Nat) (e : Sx) : Std g F fa fu (.ext i e) := Std.s (fun H0s Hs Z c X s k h => by
  unfold mt at h
  split at h
  · rename_i q
    cases q
    simp only [Bool.and_eq_true, decide_eq_true_eq] at h
    obtain ⟨⟨⟨⟨h1, h2⟩, h3⟩, h4⟩, h5⟩ := h
    subst h2
    obtain ⟨w1, w2, w3, w4⟩ := k.vis h1
    exact x_ext w1 w2 w3 w4 h3 (star_of h4) ((snd e).rd c X _ k h5)
  · cases h) (fun c s h => by simp [mt] at h)
theorem std_rmv (i : Nat) (e : Sx) : Std g F fa fu (.rmv i e) := Std.s (fun H0s Hs Z c X s k h => by
  unfold mt at h
  split at h
  · rename_i q
    cases q
    simp only [Bool.and_eq_true, decide_eq_true_eq] at h
    obtain ⟨⟨⟨⟨h1, h2⟩, h3⟩, h4⟩, h5⟩ := h
    subst h2
    obtain ⟨w1, w2, w3, w4⟩ := k.vis h1
    exact x_rmv w1 w2 w3 w4 h3 (star_of h4) ((snd e).ex c X _ k h5)
  · cases h) (fun c s h => by simp [mt] at h)
theorem std_pop (i : Nat) (e : Sx) : Std g F fa fu (.popS i e) := Std.s (fun H0s Hs Z c X s k h => by
  unfold mt at h
  split at h
  · rename_i q
    cases q
    simp only [Bool.and_eq_true, decide_eq_true_eq] at h
    obtain ⟨⟨⟨⟨h1, h2⟩, h3⟩, h4⟩, h5⟩ := h
    subst h2
    obtain ⟨w1, w2, w3, w4⟩ := k.vis h1
    exact x_pop w1 w2 w3 w4 h3 (star_of h4) ((snd e).ex c X _ k h5)
  · cases h) (fun c s h => by simp [mt] at h)
theorem std_appPop (i j : Nat) (e : Sx) : Std g F fa fu (.appPop i j e) := Std.s (fun H0s Hs Z c X s k h => by
  unfold mt at h
  split at h
  · rename_i q
    cases q
    simp only [Bool.and_eq_true, decide_eq_true_eq] at h
    obtain ⟨⟨⟨⟨⟨⟨⟨h1, h2⟩, h3⟩, h4⟩, h5⟩, h6⟩, h7⟩, h8⟩ := h
    subst h2 h5
    obtain ⟨w1, w2, w3, w4⟩ := k.vis h1
    obtain ⟨u1, u2, u3, u4⟩ := k.vis h4
    exact x_appPop w1 w2 w3 w4 u1 u2 u3 u4 h3 h6 (star_of h7) ((snd e).ex c X _ k h8)
  · cases h) (fun c s h => by simp [mt] at h)
theorem std_aug (i : Nat) (e : Sx) : Std g F fa fu (.augI i e) := Std.s (fun H0s Hs Z c X s k h => by
  unfold mt at h
  split at h
  · rename_i q
    cases q
    simp only [Bool.and_eq_true] at h
    obtain ⟨v1, v2, v3⟩ := k.loc h.1
    exact x_aug k.nd v1 v2 v3 ((snd e).ex c X _ k h.2)
  · cases h) (fun c s h => by simp [mt] at h)
theorem std_fput (i q : Nat) (e : Sx) : Std g F fa fu (.fput i q e) := Std.s (fun H0s Hs Z c X s k h => by
  unfold mt at h
  split at h
  · rename_i q
    cases q
    simp only [Bool.and_eq_true, decide_eq_true_eq] at h
    obtain ⟨⟨⟨h1, h2⟩, h3⟩, h4⟩ := h
    obtain ⟨v1, v2, v3, v4⟩ := k.vis h1
    exact x_fput (by have := k.u; omega) k.fko (k.fk ▸ h2) v1 v2 v3 v4 ((snd e).ex c X _ k h4) (swapS_of h3)
  · cases h) (fun c s h => by simp [mt] at h)
theorem std_iff {d a b : Sx} (ha : Std g F fa fu a) (hb : Std g F fa fu b) : Std g F fa fu (.iff d a b) := Std.s (fun H0s Hs Z c X s k h => by
  unfold mt at h
  split at h
  · rename_i q
    cases q
    simp only [Bool.and_eq_true, Bool.not_eq_true'] at h
    obtain ⟨⟨⟨h1, h2⟩, h3⟩, h4⟩ := h
    exact x_if ((snd d).ts c X _ k h1 h2) (ha.bl H0s Hs Z c X _ k h3) (hb.bl H0s Hs Z c X _ k h4)
  · cases h) (fun c s h => by simp [mt] at h)
theorem std_for {tg it b : Sx} (hb : Std g F fa fu b) : Std g F fa fu (.forS tg it b) := Std.s (fun H0s Hs Z c X s k h => by
  unfold mt at h
  split at h
  · rename_i q
    cases q
    simp only [Bool.and_eq_true] at h
    obtain ⟨⟨⟨h1, h2⟩, h3⟩, h4⟩ := h
    refine ts_eq (x_for k.xe k.calm ((snd it).it c X _ _ k h2).2 ((snd tg).tg c X _ k h3) (fun Z => hb.bl H0s Hs Z c X _ k h4) (fold_of h1)) fun ρ Q w => ?_
    have w : WP ((ev F it ρ).bind fun d => (itmD d).bind fun ds => forGo (tgt tg) (exGo fu F b) ds ρ) Q := w
    exact WP.bind.mpr (WP.bind.mpr ((WP.bind.mp w).mono fun d w => WP.bind.mp w))
  · cases h) (fun c s h => by simp [mt] at h)
theorem std_whil {d b : Sx} (hb : Std g F fa fu b) : Std g F fa fu (.whil d b) := Std.s (fun H0s Hs Z c X s k h => by
  unfold mt at h
  split at h
  · rename_i q
    cases q
    simp only [Bool.and_eq_true, Bool.not_eq_true'] at h
    obtain ⟨⟨h1, h2⟩, h3⟩ := h
    exact x_while k.xe ((snd d).ts c X _ k h1 h2) (hb.bl H0s Hs Z c X _ k h3) fu
  · cases h) (fun c s h => by simp [mt] at h)
end
end Pf
/-! PfP: two stores at once; blocks; the whole of statements. -/
namespace Pf
open PySem PySem.Spec PyProof.Rows L2
section
variable {g : Gc} {F : Nat → List D → M D} {fa : Option Addr} {fu : Nat}
theorem swap2 {env : Env} {x y : Str} {p p' q q' : Pos} {kt k2 : Nat} {v v' : Expr} (hk : env.scope.kind = .function) (hxy : x ≠ y) (hl : (p.line == p'.line) = true) (h1 : notStar v = true) (h2 : notStar v' = true)
    (h3 : (foldedForSure 8 v && foldedForSure 8 v') = false) (h4 : (constantsAlone 8 v && constantsAlone 8 v') = false) :
    swappedStores [.Tuple [.Name x p, .Name y p'] kt q] (.Tuple [v, v'] k2 q') env = pure (if (env.kindOf x == some .local && env.kindOf y == some .local) = true then some [x, y] else none) := by
  have hb : env.blockKind = .function := by unfold Env.blockKind; rw [hk]; rfl
  have hf : ([v, v'].all (foldedForSure 8)) = false := by simpa using h3
  have hc : ([v, v'].all (constantsAlone 8)) = false := by simpa using h4
  have hl' : p'.line = p.line := (eq_of_beq hl).symm
  unfold swappedStores
  simp only [hb]
  rw [if_neg (by simp)]
  rw [if_neg (by
    intro z
    simp only [List.any_cons, List.any_nil, Bool.or_false, Bool.or_eq_true] at z
    rcases z with z | z
    · cases v <;> first | (cases z; done) | (cases h1; done)
    · cases v' <;> first | (cases z; done) | (cases h2; done))]
  cases e1 : env.kindOf x == some .local <;> cases e2 : env.kindOf y == some .local
  all_goals
    simp [e1, e2, hl', Expr.pos, List.filterMap, hxy, hxy.symm, List.eraseDups_cons, hf, hc] 
theorem mkV_mkW {o : Bool} {e : Sx} {d : D} {Q : SV → Prop} (w : WP (mkV o e d) Q) : WP (mkW o d) Q := by
  unfold mkV at w
  unfold mkW
  cases o with
  | true =>
    rw [if_pos rfl] at w ⊢
    exact WP.bind.mpr ((WP.bind.mp w).mono fun ds w => (wp_need w).2)
  | false =>
    rw [if_neg (by intro z; cases z)] at w ⊢
    exact w
theorem md_ex {o : Bool} {e : Sx} {c : Sc} {X : Cx} {E : Expr} (k : XOk g F c X) (h : mt e c (.e E) = true) (hf : (!o || isFr e) = true) : PE X E (tG g fa (mdO o) (ev F e)) := by
  cases o with
  | true => exact (snd e).fr c X E k h (by simpa using hf)
  | false => exact (snd e).ex c X E k h
theorem std_par (i : Nat) (oi : Bool) (a : Sx) (j : Nat) (oj : Bool) (b : Sx) : Std g F fa fu (.par i oi a j oj b) := Std.s (fun H0s Hs Z c X s k h => by
  unfold mt at h
  split at h
  · rename_i q
    cases q
    simp only [Bool.and_eq_true, decide_eq_true_eq, Bool.not_eq_true'] at h
    obtain ⟨⟨⟨⟨⟨⟨⟨⟨⟨⟨⟨⟨h1, h2⟩, h3⟩, h4⟩, h5⟩, h6⟩, h7⟩, h8⟩, h9⟩, h10⟩, h11⟩, h12⟩, h13⟩ := h
    rename_i x p x' p' _ _ v v' _ _ _
    have hk : X.env.scope.kind = .function := by rw [k.sc]; exact k.kd
    have hsw := swap2 (q := by assumption) (q' := by assumption) (kt := by assumption) (k2 := by assumption) hk h6 h7 h4 h5 h10 h11
    obtain ⟨v1, v2, v3⟩ := k.loc h1
    obtain ⟨u1, u2, u3⟩ := k.loc h2
    have PA2 : PA X [v, v'] (tCons (tG g fa (mdO oi) (ev F a)) (tCons (tG g fa (mdO oj) (ev F b)) tNil)) := pa_cons (md_ex k h12 h8) (pa_cons (md_ex k h13 h9) pa_nil (star_of h5)) (star_of h4)
    have weak : ∀ ρ Q, WP (exGo fu F (.par i oi a j oj b) ρ) Q → WP ((ev F a ρ).bind fun x => (ev F b ρ).bind fun y => (mkW oi x).bind fun v => (mkW oj y).bind fun w => M.ret (Out.nx (put (put ρ i v) j w))) Q := fun ρ Q w => by
      have w : WP ((ev F a ρ).bind fun x => (ev F b ρ).bind fun y => need (decide (i ≠ j)) ((mkV oi a x).bind fun v => (mkV oj b y).bind fun w => M.ret (Out.nx (put (put ρ i v) j w)))) Q := w
      exact WP.bind.mpr ((WP.bind.mp w).mono fun x w => WP.bind.mpr ((WP.bind.mp w).mono fun y w => WP.bind.mpr ((mkV_mkW (WP.bind.mp (wp_need w).2)).mono fun v w => WP.bind.mpr (mkV_mkW (WP.bind.mp w)))))
    by_cases hB : (X.env.kindOf x == some .local && X.env.kindOf x' == some .local) = true
    · rw [if_pos hB] at hsw
      rw [Bool.and_eq_true] at hB
      exact ts_eq (ps_imp (ps_par k.calm k.nd v1 u1 h3 (eq_of_beq hB.1) (eq_of_beq hB.2) PA2 hsw) fun D σ H h => par_imp h3 h) weak
    · rw [if_neg hB] at hsw
      exact ts_eq (ps_imp (ps_asg (pe_tup PA2) (pg_tup k.calm (pgs_cons (pg_name k.nd v1 v2 v3) (pgs_cons (pg_name k.nd u1 u2 u3) pgs_nil))) rfl hsw) fun D σ H h => par_imp2 h3 h) weak
  · cases h) (fun c s h => by simp [mt] at h)
theorem std_cons {e a : Sx} (he : Std g F fa fu e) (ha : Std g F fa fu a) : Std g F fa fu (.cons e a) := by
  refine ⟨fun _ _ _ c _ s _ h => by simp [mt] at h, fun H0s Hs Z c X s k h => ?_⟩
  by_cases hz : isFrz e = true
  · cases e <;> first | (cases hz; done) | skip
    rename_i i
    simp only [mt, isFrz, if_true] at h
    exact b_frz (ha.bl H0s Hs Z c X s k h)
  · simp only [mt] at h
    rw [if_neg hz] at h
    cases s with
    | nil => cases h
    | cons st r =>
      simp only [Bool.and_eq_true] at h
      exact b_cons (he.st H0s Hs Z c X st k h.1) (ha.bl H0s Hs Z c X r k h.2)
theorem std (e : Sx) : Std g F fa fu e := by
  induction e with
  | nil =>
    refine ⟨fun _ _ _ c _ s _ h => by simp [mt] at h, fun H0s Hs Z c X s k h => ?_⟩
    cases s with
    | nil => exact b_nil
    | cons _ _ => simp [mt] at h
  | cons e a he ha => exact std_cons he ha
  | asg tg e => exact std_asg tg e
  | asgO i e => exact std_asgO i e
  | par i oi a j oj b => exact std_par i oi a j oj b
  | bor i j d e => exact std_bor i j d e
  | app i e => exact std_app i e
  | ext i e => exact std_ext i e
  | dnew i own tg it key => exact std_dnew i own tg it key
  | dupd i own tg it key => exact std_dupd i own tg it key
  | rmv i e => exact std_rmv i e
  | popS i e => exact std_pop i e
  | appPop i j e => exact std_appPop i j e
  | augI i e => exact std_aug i e
  | fput i q e => exact std_fput i q e
  | iff d a b _ ha hb => exact std_iff ha hb
  | forS tg it b _ _ hb => exact std_for hb
  | whil d b _ hb => exact std_whil hb
  | ret e => exact std_ret e
  | expr e => exact std_expr e
  | retN =>
    refine Std.s (fun H0s Hs Z c X s k h => ?_) (fun c s h => by simp [mt] at h)
    unfold mt at h
    split at h
    · rename_i q; cases q; exact x_retN
    · cases h
  | cont =>
    refine Std.s (fun H0s Hs Z c X s k h => ?_) (fun c s h => by simp [mt] at h)
    unfold mt at h
    split at h
    · rename_i q; cases q; exact x_cont
    · cases h
  | brk =>
    refine Std.s (fun H0s Hs Z c X s k h => ?_) (fun c s h => by simp [mt] at h)
    unfold mt at h
    split at h
    · rename_i q; cases q; exact x_brk
    · cases h
  | pas =>
    refine Std.s (fun H0s Hs Z c X s k h => ?_) (fun c s h => by simp [mt] at h)
    unfold mt at h
    split at h
    · rename_i q; cases q; exact x_pas
    · cases h
  | never => exact Std.s (fun H0s Hs Z c X s k h => x_never) (fun c s h => by simp [mt] at h)
  | _ => exact Std.no (fun c s h => by simp [mt, Syn.ex?] at h) (fun c s h => by simp [mt, Syn.ex?] at h)
end
end Pf
/-! PfQ: defs by their bodies; the end of a law. -/
namespace Pf
open PySem PySem.Spec PyProof.Rows L2
section
variable {P : Program} {w : World} {K : PySem.W.Frag} {mg : Str → Option Value} {base : Heap}
/-- a def by its body, where no repr is under way -/
theorem fn_g {x qual : Str} {st : Stmt} {f : Addr} {fd : FuncData} {N ps : List Str} {k : Nat} {sp : Sp} (Fn : Fun K x qual st f fd) (S : FnScope N ps (defScope st)) (ln : ∀ vs H Q E, sp vs H Q E → vs.length = ps.length)
    (body : ∀ (cdv : Value) (A : Around) (outer : List Env) (s : Shared) (H : Hp) (vs : List V) (Q : VK) (E : XK), Room k (A.deeper (envOfC qual (defScope st) s.heap.objs.size f cdv)) → A.guards = some [] → sp vs H Q E →
      ∃ t, PSs (cxOf L2.CX0 P w K mg base N qual (defScope st) f cdv A outer s H E).nox (defBody st) t ∧ t { nx := fun _ H' => Q .non H', rt := Q } (start N vs) H) : FnG P w K mg base (k + 1) f fd ps sp := by
  obtain ⟨oc, od, kV, doc, pm, an, cdv, ct, osl, e, lk, hcd⟩ := Fn.ex
  subst e
  refine ⟨ln, fun A outer s H args us vs Q E room gd env0 binds rel want => ?_⟩
  have hlen := ln _ _ _ _ want
  have inK : K.In s.heap := env0.mod.kin.keeps fun b o q => (env0.bs b o q).1
  have nolim : s.heap.NoLimit := env0.mod.nolimit.keeps fun b o q => (env0.bs b o q).1
  refine codeAny_call_function room.depth (inK _ _ lk) rfl S.co S.gen rfl (PySem.W.codeRec_of inK hcd) (binds _ _ _ _ ?_)
  refine wpAny_newFunctionEnv_cells S.kind (fun ⟨n, v⟩ hy => ?_) fun env he s1 made => ?_
  · rcases S.par n (List.of_mem_zip hy).1 with q | q
    · exact .inl q
    · exact .inr ⟨q, PySem.W.cellsFrom_some _ _ _ (.inl q)⟩
  subst he
  refine ⟨nolim.keeps made.toInCall.keep, codeAny_func ?_⟩
  obtain ⟨t, run, hold⟩ := body cdv A outer s H vs Q E (room.deeper _) gd want
  have I := inv_start (CX := L2.CX0) (E := E) (f := f) (cd := cdv) S room.hd env0 hlen rel made
  have fin : ∀ {σ2 : L2.St} {H2 : Hp} {s2 : Shared} {v : V} {u : Value}, Inv (cxOf L2.CX0 P w K mg base N qual (defScope st) f cdv A outer s H E) [] σ2 H2 s2 → RelV v u → Q v H2 → CE outer P w H s Q u s2 :=
    fun {σ2 H2 s2 v u} J rv q => ⟨v, H2, J.os, J.bare, J.base, J.hok, rv, q⟩
  refine wpAny_mono (run.nox.run [] s1 _ H _ I hold) (fun fl s2 hs => ?_) fun e s2 hs => hs
  cases fl with
  | ret u => obtain ⟨v, σ2, H2, J, rv, q⟩ := hs; exact fin J rv q
  | next => obtain ⟨σ2, H2, J, q⟩ := hs; exact fin (v := V.non) (u := Value.none) J rfl q
  | brk => obtain ⟨_, _, _, q⟩ := hs; exact q.elim
  | cont => obtain ⟨_, _, _, q⟩ := hs; exact q.elim
theorem FnG.mono {j k : Nat} {f : Addr} {fd : FuncData} {ps : List Str} {sp : Sp} (G : FnG P w K mg base j f fd ps sp) (h : j ≤ k) : FnG P w K mg base k f fd ps sp :=
  ⟨G.len, fun A outer s H args us vs Q E room => G.run A outer s H args us vs Q E (room.mono h)⟩
/-- nothing is promised -/
theorem fn_bad {g : Gc} {k n : Nat} {f : Addr} {fd : FuncData} {ps : List Str} (hn : ps.length = n) {m : List D → M D} (hm : ∀ ds, m ds = .bad) : FnG P w K mg base k f fd ps (spD g n m) :=
  ⟨fun vs H Q E h => h.1.trans hn.symm, fun A outer s H args us vs Q E _ _ _ _ _ h => by
    obtain ⟨_, _, _, ds, _, _, q⟩ := h
    rw [hm] at q
    exact q.elim⟩

/-! ### the table of defs -/
/-- a def of the text, as the head leaves it -/
structure Dfn where
  nm : Str
  ps : List Str
  st : Stmt
  kb : List (List Str × List Nat)
structure DfnIn (K : PySem.W.Frag) (mg : Str → Option Value) (d : Dfn) (a : Addr) (fd : FuncData) : Prop where
  fn : Fun K d.nm d.nm d.st a fd
  mg_ : mg d.nm = some (.ref a)
  bd : Binds K fd d.ps []
  kb : ∀ q ∈ d.kb, KBd K fd d.ps q.1 q.2
/-- what a stage of the table gives -/
structure Stg (g : Gc) (tb : List Dfn) (P : Program) (w : World) (K : PySem.W.Frag) (mg : Str → Option Value) (base : Heap) (F : Nat → List D → M D) (lv : Nat) : Prop where
  fns : ∀ k d, tb[k]? = some d → ∃ a fd, DfnIn K mg d a fd ∧ g.fn k = some a ∧ FnG P w K mg base lv a fd d.ps (spD g d.ps.length (F k)) ∧ ∀ ds Q, WP (F k ds) Q → ds.length = d.ps.length
  vals : ∀ k a, g.fn k = some a → ∃ d, tb[k]? = some d
  pw : P = g.P ∧ w = g.w
def updF (F : Nat → List D → M D) (i : Nat) (f : List D → M D) : Nat → List D → M D := fun k => if k = i then f else F k
def nFn (n : Nat) (f : List D → M D) : List D → M D := fun ds => need (decide (ds.length = n)) (f ds)
theorem nFn_len {n : Nat} {f : List D → M D} {ds : List D} {Q : D → Prop} (w : WP (nFn n f ds) Q) : ds.length = n := of_decide_eq_true (wp_need w).1
theorem stg_zero {g : Gc} {tb : List Dfn} (h : ∀ k d, tb[k]? = some d → ∃ a fd, DfnIn K mg d a fd ∧ g.fn k = some a) (hv : ∀ k a, g.fn k = some a → ∃ d, tb[k]? = some d) (pw : P = g.P ∧ w = g.w) : Stg g tb P w K mg base (fun _ _ => .bad) 0 :=
  ⟨fun k d e => let ⟨a, fd, i, q⟩ := h k d e; ⟨a, fd, i, q, fn_bad rfl fun _ => rfl, fun _ _ z => z.elim⟩, hv, pw⟩
/-- one def more -/
theorem Stg.add {g : Gc} {tb : List Dfn} {F : Nat → List D → M D} {lv i : Nat} {f : List D → M D} {d : Dfn} (S : Stg g tb P w K mg base F lv) (hd : tb[i]? = some d)
    (h : ∀ a fd, DfnIn K mg d a fd → g.fn i = some a → FnG P w K mg base (lv + 1) a fd d.ps (spD g d.ps.length f)) (hl : ∀ ds Q, WP (f ds) Q → ds.length = d.ps.length) : Stg g tb P w K mg base (updF F i f) (lv + 1) := by
  refine ⟨fun k d' e => ?_, S.vals, S.pw⟩
  obtain ⟨a, fd, i1, i2, i3, i4⟩ := S.fns k d' e
  refine ⟨a, fd, i1, i2, ?_⟩
  unfold updF
  by_cases hk : k = i
  · subst hk
    rw [hd] at e
    cases e
    rw [if_pos rfl]
    exact ⟨h a fd i1 i2, hl⟩
  · rw [if_neg hk]
    exact ⟨i3.mono (Nat.le_succ _), i4⟩
/-- the static part at a def's entry -/
def kbAll (tb : List Dfn) : List (Nat × List Str × List Nat) := (List.range tb.length).flatMap fun k => match tb[k]? with
  | some d => d.kb.map fun q => (k, q.1, q.2)
  | none => []
def sc0 (fk : Str × Str × Str × Str) (tb : List Dfn) (bn : List Str) (cs : List (Str × D)) (N : List Str) (st : Stmt) : Sc := ⟨N, defScope st, fun _ => true, tb.map fun d => (d.nm, d.ps), bn, cs, fk, kbAll tb⟩
/-- the globals -/
structure Glb (g : Gc) (mg : Str → Option Value) (bn : List Str) (cs : List (Str × D)) : Prop where
  fko : FkOk g.fk
  bn : ∀ x ∈ bn, mg x = none
  cs : ∀ x d, (x, d) ∈ cs → ∃ u v, mg x = some u ∧ RelV v u ∧ (∀ fa H, Rp g fa H v d) ∧ ∀ ds, d ≠ .list ds
theorem xok_of {g : Gc} {tb : List Dfn} {bn : List Str} {cs : List (Str × D)} {F : Nat → List D → M D} {lv : Nat} (S : Stg g tb P w K mg base F lv) (G : Glb g mg bn cs) (hK : K = g.K) {N ps : List Str} {st : Stmt} (sc : FnScope N ps (defScope st)) {qual : Str} {f : Addr} {cdv : Value} {A : Around} {outer : List Env} {s : Shared} {H : Hp} {E : XK}
    (hr : Room lv (A.deeper (envOfC qual (defScope st) s.heap.objs.size f cdv))) (gd : A.guards = some []) :
    XOk g F (sc0 g.fk tb bn cs N st) (cxOf L2.CX0 P w K mg base N qual (defScope st) f cdv A outer s H E).nox where
  N := rfl
  nd := sc.nd
  sc := rfl
  kd := sc.kind
  cel := rfl
  calm := rfl
  xe := rfl
  KE := ⟨hK, S.pw.1, S.pw.2⟩
  gd := gd
  rm := by
    refine ⟨lv, hr, fun k x ps h => ?_, fun k a h => ?_⟩
    · have h : (tb.map fun d => (d.nm, d.ps))[k]? = some (x, ps) := h
      rw [List.getElem?_map] at h
      cases e : tb[k]? with
      | none => rw [e] at h; cases h
      | some d =>
        rw [e] at h
        cases h
        obtain ⟨a, fd, i1, i2, i3, i4⟩ := S.fns k d e
        exact ⟨⟨a, fd, lv, Nat.le_refl _, i1.mg_, i1.fn.kp, i1.bd, i2, i3⟩, i4⟩
    · obtain ⟨d, e⟩ := S.vals k a h
      obtain ⟨a', fd, i1, i2, i3, i4⟩ := S.fns k d e
      rw [h] at i2
      cases i2
      exact ⟨fd, lv, d.ps, Nat.le_refl _, i1.fn.kp, i1.bd, i3, i4⟩
  bn := G.bn
  cs := G.cs
  fk := rfl
  fko := G.fko
  kb := fun k ks p x ps hz h => by
    have h : (tb.map fun d => (d.nm, d.ps))[k]? = some (x, ps) := h
    rw [List.getElem?_map] at h
    cases e : tb[k]? with
    | none => rw [e] at h; cases h
    | some d =>
      rw [e] at h
      cases h
      obtain ⟨a, fd, i1, i2, i3, i4⟩ := S.fns k d e
      have hz : (k, ks, p) ∈ (List.range tb.length).flatMap fun k => (match tb[k]? with
        | some d => d.kb.map fun q => (k, q.1, q.2)
        | none => []) := hz
      obtain ⟨k', _, hk⟩ := List.mem_flatMap.mp hz
      cases e' : tb[k']? with
      | none => rw [e'] at hk; cases hk
      | some d' =>
        rw [e'] at hk
        obtain ⟨q, hq, eq⟩ := List.mem_map.mp hk
        cases eq
        rw [e] at e'
        cases e'
        exact ⟨lv, lv, a, fd, hr, Nat.le_refl _, i1.mg_, i1.fn.kp, i3, i4, i1.kb q hq⟩
/-- the slots at the entry -/
theorem rep_start {g : Gc} {fa : Option Addr} {H0 H : Hp} {N : List Str} {vs : List V} {ds : List D} (b : Bs g fa H0 H) (r : RpAll g fa H0 vs ds) : RepS g fa H0 H (L2.start N vs) (ev0 N.length ds) := by
  have hl := r.len
  have noO : ∀ (i : Nat) d, (ev0 N.length ds)[i]? ≠ some (some (SV.own d)) := fun i d h => by
    unfold ev0 at h
    by_cases hi : i < ds.length
    · rw [List.getElem?_append_left (by simpa using hi), List.getElem?_map] at h
      cases e : ds[i]? <;> rw [e] at h <;> cases h
    · rw [List.getElem?_append_right (by simpa using hi), List.getElem?_replicate] at h
      split at h <;> cases h
  refine ⟨b, ?_, fun i sv e => ?_, fun i j d e v h => absurd h (noO i d)⟩
  · unfold L2.start ev0
    simp only [List.length_append, List.length_map, List.length_replicate]
    omega
  · unfold ev0 at e
    by_cases hi : i < ds.length
    · rw [List.getElem?_append_left (by simpa using hi), List.getElem?_map] at e
      cases e1 : ds[i]? with
      | none => rw [e1] at e; cases e
      | some d =>
        rw [e1] at e
        cases e
        obtain ⟨v, hv, rv⟩ := r.get' e1
        refine ⟨v, ?_, rv⟩
        unfold L2.start
        rw [List.getElem?_append_left (by rw [List.length_map]; omega), List.getElem?_map, hv]
        rfl
    · rw [List.getElem?_append_right (by simpa using hi), List.getElem?_replicate] at e
      split at e <;> cases e
/-- A DEF BY ITS MATCHED BODY -/
theorem fn_body {g : Gc} {tb : List Dfn} {bn : List Str} {cs : List (Str × D)} {F : Nat → List D → M D} {lv : Nat} (S : Stg g tb P w K mg base F lv) (G : Glb g mg bn cs) (hK : K = g.K) {N : List Str} {d : Dfn} {b : Sx} (fu : Nat) (sc : FnScope N d.ps (defScope d.st))
    (hm : mt b (sc0 g.fk tb bn cs N d.st) (.b (defBody d.st)) = true) {a : Addr} {fd : FuncData} (i : DfnIn K mg d a fd) : FnG P w K mg base (lv + 1) a fd d.ps (spD g d.ps.length (nFn d.ps.length (runD fu N.length F b))) := by
  refine fn_g i.fn sc (fun vs H Q E h => h.1) fun cdv A outer s H vs Q E room gd h => ?_
  obtain ⟨_, fa, H0, ds, bs, r, w⟩ := h
  obtain ⟨_, w⟩ := wp_need w
  refine ⟨_, (std (fa := fa) (fu := fu) b).bl H0 H H0 _ _ _ (xok_of S G hK sc room gd) hm, H0, ev0 N.length ds, rep_start bs r, ⟨Ext.refl bs, fun i' d' a' h1 => ?_, bs, fun _ _ q => q⟩, (WP.bind.mp w).mono fun o w => ?_⟩
  · exact absurd h1 (fun z => by
      unfold ev0 at z
      by_cases hi : i' < ds.length
      · rw [List.getElem?_append_left (by simpa using hi), List.getElem?_map] at z
        cases e : ds[i']? <;> rw [e] at z <;> cases z
      · rw [List.getElem?_append_right (by simpa using hi), List.getElem?_replicate] at z
        split at z <;> cases z)
  · cases o with
    | nx ρ => exact fun σ' H0' H' R' e' => w .non H0' H' e'.x .non
    | ct ρ => exact w.elim
    | bk ρ => exact w.elim
    | rt d => exact fun v H0' H' x r' => w v H0' H' x r'
end
end Pf
/-! PfS: the feed's def, the law's def, the law's end. -/
namespace Pf
open PySem PySem.Spec PyProof.Rows L2
section
variable {P : Program} {w : World} {K : PySem.W.Frag} {mg : Str → Option Value} {base : Heap}
/-! ### the end -/
/-- the law's call at the heap behind the top, by a promise that holds where no repr is under way -/
theorem law_run {lv : Nat} {fA sA : Addr} {fd : FuncData} {nm : Str} {sp : Sp} {S : Shared} {its : List Value} {ns : List Int} {mb : Str → Option Value}
    (kin : K.In S.heap) (g1 : S.heap.Ns mainGlobals mg) (g2 : S.heap.Ns builtinsNs mb) (g3 : ∀ y : Str, y ≠ "__name__" → mb y = bootBuiltins y) (g4 : S.heap.NoLimit) (g5 : S.gens = #[])
    (sc : S.heap.get? sA = some { cls := .type "list", data := .seq its.toArray }) (isI : IntsAre its ns) (few : ns.length ≤ sizeLine) (room : Room lv callerA)
    (fn : ∀ B : Heap, K.In B → B.Ns mainGlobals mg → FnG P w K mg B lv fA fd [nm] sp) (bnd : ∀ (T : Shared) (u : Value), BindsTo T fd ⟨[u], []⟩ [(nm, u)])
    (ask : ∀ H : Hp, Only H → SqL K H sA (ns.map V.int) → sp [.ref sA] H (fun v _ => v = .bl true) fun _ _ _ => False) :
    codeAny (model P w) callerA (.call (.ref fA) ⟨[.ref sA], []⟩) (fun r T => r = .ok (.ret (.bool true)) ∧ OldK S.heap T.heap ∧ T.os = S.os ∧ AllBare T.gens) S := by
  have body : ∀ H : Hp, Only H → SqL K H sA (ns.map V.int) → HOk P w H S.heap → (∀ c, H c ≠ none → c = sA) → (H sA ≠ none → K.lookup sA = none) →
      codeAny (model P w) callerA (.call (.ref fA) ⟨[.ref sA], []⟩) (fun r T => r = .ok (.ret (.bool true)) ∧ OldK S.heap T.heap ∧ T.os = S.os ∧ AllBare T.gens) S := by
    intro H only sq okH onlyS notK
    have untr : ∀ {c : Addr}, c ≠ sA → H c = none := fun {c} ne => Classical.byContradiction fun z => ne (onlyS c z)
    have dicts : ∀ {c : Addr} {m : Str → Option Value}, S.heap.Ns c m → (hidT S.heap H).Ns c m := fun {c m} q => by
      obtain ⟨o, es, ep, q1, q2, q3⟩ := q
      refine ⟨o, es, ep, hidT_get q1 (untr ?_), q2, q3⟩
      rintro rfl
      rw [sc] at q1
      cases q1
      cases q2
    have kinB : K.In (hidT S.heap H) := fun c o e => by
      refine hidT_get (kin c o e) (Classical.byContradiction fun z => ?_)
      have := onlyS c z
      subst this
      rw [notK z] at e
      cases e
    have md : Mod K mg (hidT S.heap H) := by
      refine ⟨kinB, dicts g1, ⟨mb, dicts g2, g3⟩, ?_⟩
      obtain ⟨mc, q1, q2⟩ := g4
      exact ⟨mc, dicts q1, q2⟩
    have en : Env0 P w K mg (hidT S.heap H) callerA [] S H := by
      refine ⟨rfl, md, fun c o e => of_hidT e, Nat.le_of_eq (hidT_size _ _), trivial, fun c hc => ?_, okH, .of_eq g5⟩
      exact absurd (show c ∈ ([] : List Addr) from hc) (by simp)
    have run := (fn _ kinB (dicts g1)).run callerA [] S H ⟨[.ref sA], []⟩ [.ref sA] [.ref sA] _ _ room rfl en (bnd S (.ref sA)) (.cons rfl .nil) (ask H only sq)
    refine codeAny_mono run fun r T q => ?_
    cases r with
    | error e => exact False.elim q
    | ok fl =>
      cases fl with
      | ret u =>
        obtain ⟨v, H', o1, o2, o3, o4, rv, qv⟩ := q
        have qv : v = .bl true := qv
        subst qv
        obtain rfl : u = Value.bool true := rv
        refine ⟨rfl, OldK.of_keep fun c o e => ?_, o1, o2⟩
        cases hc : H c with
        | none => exact o3.keep c o e hc (fun z => absurd (show c ∈ ([] : List Addr) from z) (by simp)) (by simp)
        | some q =>
          rcases only c with z | ⟨ob, xs, z⟩
          · rw [hc] at z; cases z
          · obtain ⟨e1, _⟩ := okH c _ z
            obtain ⟨e2, _⟩ := o4 c _ (o3.frzs c ob _ z)
            rw [e] at e1
            cases e1
            exact e2
      | next => exact False.elim q
      | brk => exact False.elim q
      | cont => exact False.elim q
  have rel := vals_ints isI
  have len := isI.length
  by_cases hk : K.lookup sA = none
  · let ob : Obj := { cls := .type "list", data := .seq its.toArray }
    have at' : ∀ c, (if c = sA then some (HO.frz ob (.lst (ns.map V.int))) else none) ≠ none → c = sA := fun c z => Classical.byContradiction fun ne => z (if_neg ne)
    refine body (fun c => if c = sA then some (.frz ob (.lst (ns.map V.int))) else none) (fun c => ?_) (.inl (.inr ⟨ob, if_pos rfl⟩)) (fun c u z => ?_) at' fun _ => hk
    · by_cases ec : c = sA
      · exact .inr ⟨_, _, if_pos ec⟩
      · exact .inl (if_neg ec)
    · have ec := at' c (by intro q; have z : (if c = sA then some (HO.frz ob (.lst (ns.map V.int))) else none) = some u := z; rw [q] at z; cases z)
      subst ec
      have z := (if_pos rfl).symm.trans z
      cases z
      exact ⟨sc, by rw [List.length_map]; exact few, its, _, rel, sc⟩
  · cases e : K.lookup sA with
    | none => exact absurd e hk
    | some o =>
      have q := kin sA o e
      rw [sc] at q
      cases q
      exact body (fun _ => none) (fun _ => .inl rfl) (.inr ⟨_, its.toArray, _, e, rfl, rfl, rfl, by rw [List.size_toArray, len]; exact few, by simpa using rel⟩) (fun c u z => by have z : (none : Option HO) = some u := z; cases z) (fun c z => absurd rfl z) fun z => absurd rfl z
end
/-- THE LAW'S END -/
theorem law_end {l : PySem.W.OpenLaw} {n lv : Nat} {q : Program} {loose : List Str} {XP : (Str → Option Value) → Heap → Prop} {YP : World → Heap → Prop} {d : DefRec} {nm : Str} (hm : l.most = some n) (hz : n ≤ sizeLine) (nod : d.params.defaults = []) (room : Room lv callerA)
    (given : ∀ (w : World) (mg : Str → Option Value) (fA : Addr) (h : Heap), YP w h → h.Ns mainGlobals mg → mg d.name = some (.ref fA) → ∃ (K : PySem.W.Frag) (fd : FuncData) (sp : Sp), K.In h ∧ (∀ (s : Shared) (u : Value), BindsTo s fd ⟨[u], []⟩ [(nm, u)]) ∧
      (∀ (H : Hp) (a : Addr) (ns : List Int), ns.length ≤ n → Only H → SqL K H a (ns.map V.int) → sp [.ref a] H (fun v _ => v = .bl true) fun _ _ _ => False) ∧ ∀ B : Heap, K.In B → B.Ns mainGlobals mg → FnG l.prog w K mg B lv fA fd [nm] sp) :
    PySem.W.WalkO q loose XP YP l.row.toRowW d [] (fun f vs => PySem.call f vs) := by
  refine Att.attach_call hm nod fun w S0 S mg mb fA o pm cd doc sA its ns G Y ho hd hcd hmg sc isI few gens => ?_
  obtain ⟨K, fd, sp, kin, bnd, ask, fn⟩ := given w mg fA _ Y G.T.g hmg
  exact law_run kin G.T.g G.T.b G.T.builtins G.T.nolimit gens sc isI (Nat.le_trans few hz) room fn bnd fun H a b => ask H sA ns few a b
end Pf
/-! PfT: the feed's def, the law's def. -/
namespace Pf
open PySem PySem.Spec PyProof.Rows L2
/-- return {.. list(script[:n]), .. 0, .. 0, .. 0} -/
def isFeed (x : Str) (fk : Str × Str × Str × Str) (cut : Int) : List Stmt → Bool
  | [.Return (some (.Dict [some (.Constant (.str a) _ _), some (.Constant (.str b) _ _), some (.Constant (.str c) _ _), some (.Constant (.str d) _ _)] [.Call (.Name l _) [.Subscript (.Name y _) (.Slice none (some (.Constant (.int n) _ _)) none _) _] [] _, .Constant (.int i) _ _, .Constant (.int j) _ _, .Constant (.int k) _ _] _)) _] =>
    decide (a = fk.1) && decide (b = fk.2.1) && decide (c = fk.2.2.1) && decide (d = fk.2.2.2) && decide (l = "list") && decide (y = x) && decide (n = cut) && decide (i = 0) && decide (j = 0) && decide (k = 0)
  | _ => false
/-- the feed's first state -/
def feed0 (fk : Str × Str × Str × Str) (ca : Addr) : List (Key × V) := [(.inr fk.1, .ref ca), (.inr fk.2.1, .int 0), (.inr fk.2.2.1, .int 0), (.inr fk.2.2.2, .int 0)]
def spFeed (K : PySem.W.Frag) (fk : Str × Str × Str × Str) (cut : Int) : Sp := fun vs H Q _ => ∃ (a : Addr) (ns : List Int), vs = [.ref a] ∧ SqL K H a (ns.map V.int) ∧
  ∀ (H' : Hp) (f ca : Addr), H' f = some (.dK (feed0 fk ca)) → H' ca = some (.lst (cutV (ns.map V.int) none (some cut))) → (∀ b o, H b = some o → H' b = some o) → H f = none → H ca = none → Q (.ref f) H'
section
variable {P : Program} {w : World} {K : PySem.W.Frag} {mg : Str → Option Value} {base : Heap}
theorem upd_self {H : Hp} {a : Addr} {o : HO} : upd H a o a = some o := if_pos rfl
theorem upd_ne {H : Hp} {a b : Addr} {o : HO} (h : b ≠ a) : upd H a o b = H b := if_neg h
theorem fn_feed {x : Str} {d : Dfn} {fk : Str × Str × Str × Str} {cut : Int} {a : Addr} {fd : FuncData} (i : DfnIn K mg d a fd) (hps : d.ps = [x]) (hx1 : (x == ("__debug__" : Str)) = false) (hx2 : (x == ("__classdict__" : Str)) = false) (sc : FnScope [x] [x] (defScope d.st)) (hb : isFeed x fk cut (defBody d.st) = true) (ok : FkOk fk) (ml : mg "list" = none) (gl : (defScope d.st).names.lookup ("list" : Str) = some .globalImplicit) :
    FnG P w K mg base 1 a fd d.ps (spFeed K fk cut) := by
  rw [hps]
  refine fn_g i.fn sc (fun vs H Q E h => ?_) fun cdv A outer s H vs Q E room gd h => ?_
  · obtain ⟨a, ns, rfl, _⟩ := h
    rfl
  · generalize defBody d.st = bd at hb ⊢
    unfold isFeed at hb
    split at hb
    · simp only [Bool.and_eq_true, decide_eq_true_eq] at hb
      obtain ⟨⟨⟨⟨⟨⟨⟨⟨⟨rfl, rfl⟩, rfl⟩, rfl⟩, rfl⟩, rfl⟩, rfl⟩, rfl⟩, rfl⟩, rfl⟩ := hb
      have hv : ∀ pv : Pos, PE (cxOf L2.CX0 P w K mg base [_] d.nm (defScope d.st) a cdv A outer s H E).nox (.Name _ pv) (tVar 0) := fun pv => pe_var rfl (by
        rcases sc.par _ (List.mem_singleton.mpr rfl) with q | q
        · exact .inl q
        · exact .inr (.inl q)) hx1 hx2
      refine ⟨_, pss_one (ps_ret (pe_disp (pps_cons pe_str (pe_callTy (call_list_of) gl ml (by decide +kernel) (pa_cons (pe_slice sl_list (hv _) po_none (po_some pe_int)) pa_nil)) (pps_cons pe_str pe_int (pps_cons pe_str pe_int (pps_cons pe_str pe_int pps_nil)))) rfl rfl (by simp) (by show (4 : Nat) ≤ 15; decide))), ?_⟩
      obtain ⟨sa, ns, rfl, hS, q⟩ := h
      intro p hp
      have hS1 : SqL K (upd H p (.dK [])) sa (ns.map V.int) := by
        rcases hS with hR | hR
        · exact .inl (by
            have ne : sa ≠ p := by
              rintro rfl
              rcases hR with hR | ⟨o, hR⟩ <;> rw [hp] at hR <;> cases hR
            rcases hR with hR | ⟨o, hR⟩
            · exact .inl ((upd_ne ne).trans hR)
            · exact .inr ⟨o, (upd_ne ne).trans hR⟩)
        · exact .inr hR
      refine ⟨_, rfl, _, rfl, sa, _, rfl, hS1, fun l1 hl1 => ⟨l1, _, rfl, .inl (.inl (.inl upd_self)), fun l2 hl2 => ?_⟩⟩
      have n21 : l2 ≠ l1 := by rintro rfl; rw [upd_self] at hl2; cases hl2
      have n1p : l1 ≠ p := by rintro rfl; rw [upd_self] at hl1; cases hl1
      rw [upd_ne n21] at hl2
      have n2p : l2 ≠ p := by rintro rfl; rw [upd_self] at hl2; cases hl2
      rw [upd_ne n2p] at hl2
      rw [upd_ne n1p] at hl1
      refine ⟨by rw [upd_ne n2p.symm, upd_ne n1p.symm, upd_self], feed0 _ l2, rfl, (by show (4 : Nat) ≤ 15; decide), ?_⟩
      have em : ∀ fk : Str × Str × Str × Str, FkOk fk → mergeK [] (feed0 fk l2) = feed0 fk l2 := fun fk ok => by
        have a1 := inr_ne ok.a; have a2 := inr_ne ok.b; have a3 := inr_ne ok.c; have a4 := inr_ne ok.d; have a5 := inr_ne ok.e; have a6 := inr_ne ok.f
        simp [mergeK, feed0, putK, a1, a2, a3, a4, a5, a6, ok.a, ok.b, ok.c, ok.d, ok.e, ok.f]
      rw [em _ ok]
      refine q _ p l2 upd_self (by rw [upd_ne n2p, upd_self]) (fun b o hb => ?_) hp hl2
      have nb : ∀ c, H c = none → b ≠ c := fun c hc z => by rw [z, hc] at hb; cases hb
      rw [upd_ne (nb _ hp), upd_ne (nb _ hl2), upd_ne (nb _ hl1), upd_ne (nb _ hp)]
      exact hb
    · cases hb
/-- feed = _law_feed(script) -/
def isFst (f fe x : Str) : Stmt → Bool
  | .Assign [.Name a _] (.Call (.Name b _) [.Name c _] [] _) _ => decide (a = f) && decide (b = fe) && decide (c = x)
  | _ => false
/-- the law's promise -/
def spLaw (K : PySem.W.Frag) (n : Nat) : Sp := fun vs H Q _ => ∃ (a : Addr) (ns : List Int), vs = [.ref a] ∧ ns.length ≤ n ∧ SqL K H a (ns.map V.int) ∧ ∀ H', Q (.bl true) H'
theorem cut_int (ns : List Int) (c : Int) : ∃ ms : List Int, cutV (ns.map V.int) none (some c) = ms.map V.int := by
  refine ⟨(ns.drop (HT.sIx (ns.map V.int).length 0 none)).take (HT.sIx (ns.map V.int).length (ns.map V.int).length (some c) - HT.sIx (ns.map V.int).length 0 none), ?_⟩
  unfold cutV
  rw [List.map_take, List.map_drop]
theorem fn_law {fn : Nat → Option Addr} {fk : Str × Str × Str × Str} {tb : List Dfn} {bn : List Str} {cs : List (Str × D)} {F : Nat → List D → M D} {lv n : Nat} {cut : Int} (S : ∀ ns, Stg ⟨K, fn, fk, ns, P, w⟩ tb P w K mg base F lv) (G : ∀ ns, Glb ⟨K, fn, fk, ns, P, w⟩ mg bn cs) (hlv : 1 ≤ lv)
    {N : List Str} {d df : Dfn} {b : Sx} {s0 : Stmt} {rest : List Stmt} {f x : Str} (fu : Nat) (sc : FnScope N d.ps (defScope d.st)) (hps : d.ps = [x]) (hN1 : N[1]? = some f) (hB : defBody d.st = s0 :: rest) (h0 : isFst f df.nm x s0 = true)
    (hv0 : (sc0 fk tb bn cs N d.st).vis 0 x = true) (hl1 : (sc0 fk tb bn cs N d.st).loc 1 f = true) (hgl : (sc0 fk tb bn cs N d.st).gl df.nm = true)
    {fA : Addr} {ffd : FuncData} (fi : DfnIn K mg df fA ffd) (hfp : df.ps.length = 1) (ff : FnG P w K mg base 1 fA ffd df.ps (spFeed K fk cut))
    (hm : mt b (sc0 fk tb bn cs N d.st) (.b rest) = true) (hw : ∀ ns : List Int, WP (exGo fu F b (none :: some (.dat (feedD ns)) :: List.replicate (N.length - 2) none)) fun o => match o with
      | .rt v => v = .bool true
      | _ => False)
    {a : Addr} {fd : FuncData} (i : DfnIn K mg d a fd) : FnG P w K mg base (lv + 1) a fd d.ps (spLaw K n) := by
  rw [hps]
  refine fn_g i.fn (hps ▸ sc) (fun vs H Q E h => ?_) fun cdv A outer s H vs Q E room gd h => ?_
  · obtain ⟨a, ns, rfl, _⟩ := h
    rfl
  · obtain ⟨sa, ns, rfl, hn, hS, q⟩ := h
    rw [hB]
    obtain ⟨ms, ems⟩ := cut_int ns cut
    have xo := xok_of (outer := outer) (H := H) (E := E) (qual := d.nm) (f := a) (cdv := cdv) (s := s) (S ms) (G ms) rfl sc room gd
    unfold isFst at h0
    split at h0
    · simp only [Bool.and_eq_true, decide_eq_true_eq] at h0
      obtain ⟨⟨rfl, rfl⟩, rfl⟩ := h0
      obtain ⟨v1, v2, v3, v4⟩ := xo.vis hv0
      obtain ⟨l1, l2, l3⟩ := xo.loc hl1
      obtain ⟨g1, g2, g3⟩ := xo.gl hgl
      -- the call
      rename_i c p2 p1 p0
      have hcall : ∀ p1 p2 p3, PE (cxOf L2.CX0 P w K mg base N d.nm (defScope d.st) a cdv A outer s H E).nox (.Call (.Name df.nm p1) [.Name c p2] [] p3) (fun σ H Q => ∃ v, σ[0]? = some (some v) ∧ spFeed K fk cut [v] H Q E0) := by
        refine fun p1 p2 p3 => ⟨fun pins s1 σ H1 Q I ⟨v, e1, e2⟩ => ?_⟩
        refine wpAny_Call_Name_kw (ld_glob I g1 fi.mg_ ?_ g2)
        exact PySem.W.callWith_K (h₀ := base) I.ok.mod.kin fi.fn.kp (thn ((pa_cons (pe_var v1 v2 v3 v4) pa_nil).run p3 pins s1 σ H1 (fun vs H1 => spFeed K fk cut vs H1 Q E0) I ⟨v, e1, e2⟩) fun us s2 ⟨vs, H2, I2, r, q⟩ => ⟨I2.kIn, run_g ff (room.mono hlv) gd fi.bd I2 r q⟩) rfl rfl
      have hrest : PSs (cxOf L2.CX0 P w K mg base N d.nm (defScope d.st) a cdv A outer s H E).nox rest (fun D σ H => ∃ fa H0s Hs, tS ⟨K, fn, fk, ms, P, w⟩ fa H0s Hs (fun _ => none) (exGo fu F b) D σ H) :=
        ⟨fun ps s σ H D I ⟨fa, H0s, Hs, q⟩ => ((std (fa := fa) (F := F) (fu := fu) b).bl H0s Hs _ _ _ rest xo hm).run ps s σ H D I q⟩
      refine ⟨_, pss_cons (ps_set xo.nd l1 l2 (hcall _ _ _) rfl l3) hrest, ?_⟩
      refine ⟨.ref sa, rfl, sa, ns, rfl, hS, fun H' f ca hf hca hmono hn1 hn2 => ?_⟩
      have nfc : ca ≠ f := by rintro rfl; rw [hf] at hca; cases hca
      let H0 : Hp := fun b => if b = ca then H' ca else none
      have hb : Bs ⟨K, fn, fk, ms, P, w⟩ (some f) H0 H' := by
        refine ⟨fun b o hb => ?_, fun b hb => ?_⟩
        · have hb : (if b = ca then H' ca else none) = some o := hb
          split at hb
          · rename_i e; rw [e]; exact hb
          · cases hb
        · cases hb
          refine ⟨⟨ca, (), 0, 0, 0, hf, ?_⟩, if_neg nfc.symm⟩
          show (if ca = ca then H' ca else none) = _
          rw [if_pos rfl, hca, ems]
      have hlen : 2 ≤ N.length := by
        have := (List.getElem?_eq_some_iff.mp hN1).1
        omega
      refine ⟨some f, H0, H', H0, none :: some (.dat (feedD ms)) :: List.replicate (N.length - 2) none, ⟨hb, ?_, fun j sv hj => ?_, fun j k d e v hj => ?_⟩, ⟨Ext.refl hb, fun j d a hj => ?_, hb, fun _ _ z => by cases z⟩, (hw ms).mono fun o ho => ?_⟩
      · show ((L2.start N [V.ref sa]).set 1 (some (V.ref f))).length = _
        rw [List.length_set]
        unfold L2.start
        simp only [List.length_append, List.length_map, List.length_replicate, List.length_cons, List.length_nil]
        omega
      · match j, hj with
        | 0, hj => cases hj
        | 1, hj =>
          cases hj
          refine ⟨.ref f, ?_, .feed rfl⟩
          show ((L2.start N [V.ref sa]).set 1 (some (V.ref f)))[1]? = _
          rw [List.getElem?_set_self]
          unfold L2.start
          simp only [List.length_append, List.length_map, List.length_replicate, List.length_cons, List.length_nil]
          omega
        | j + 2, hj =>
          rw [List.getElem?_cons_succ, List.getElem?_cons_succ, List.getElem?_replicate] at hj
          split at hj <;> cases hj
      · match j, hj with
        | 0, hj => cases hj
        | 1, hj => cases hj
        | j + 2, hj =>
          rw [List.getElem?_cons_succ, List.getElem?_cons_succ, List.getElem?_replicate] at hj
          split at hj <;> cases hj
      · match j, hj with
        | 0, hj => cases hj
        | 1, hj => cases hj
        | j + 2, hj =>
          rw [List.getElem?_cons_succ, List.getElem?_cons_succ, List.getElem?_replicate] at hj
          split at hj <;> cases hj
      · cases o with
        | rt v =>
          have ho : v = .bool true := ho
          subst ho
          intro v H0' H'' x r
          cases r
          exact q H''
        | _ => exact ho.elim
    · cases h0
end
end Pf
/-! PfU: the head's facts as one table; the stages of a law. -/
namespace Pf
open PySem PySem.Spec PyProof.Rows L2
/-- how a def binds, by sight -/
def BdOk (d : Dfn) : Prop := ∀ (kV doc pm : Value) (an : Option Addr) (cd ct : Value) (us : List Value), us.length = d.ps.length → bindArgs (PySem.W.fnOf d.nm d.nm (defArgs d.st) (defBody d.st) (defScope d.st) .none kV doc pm an cd ct) ⟨us, []⟩ = pure (d.ps.zip us)
def KbOk (d : Dfn) (q : List Str × List Nat) : Prop := ∀ (kV doc pm : Value) (an : Option Addr) (cd ct : Value) (ws : List Value), ws.length = q.1.length → ∃ zs, q.2.mapM (ws[·]?) = some zs ∧ bindArgs (PySem.W.fnOf d.nm d.nm (defArgs d.st) (defBody d.st) (defScope d.st) .none kV doc pm an cd ct) ⟨[], q.1.zip ws⟩ = pure (d.ps.zip zs)
theorem dfn_in {K : PySem.W.Frag} {h : Heap} {mg : Str → Option Value} {d : Dfn} {f : Addr} {oc kV dc pm cd ct : Value} {od an : Option Addr} {sl : Array (Option Value)} (X : K.In h) (G : h.Ns mainGlobals mg) (hb : BdOk d) (hk : ∀ q ∈ d.kb, KbOk d q)
    (a1 : PySem.W.nsIn K mainGlobals d.nm = some (some (.ref f))) (a2 : K.lookup f = some ⟨oc, od, .func (PySem.W.fnOf d.nm d.nm (defArgs d.st) (defBody d.st) (defScope d.st) .none kV dc pm an cd ct), sl⟩) (a3 : PySem.W.codeIn K cd d.nm = true) (a4 : PySem.W.keepIn K (.ref f) = true) : ∃ fd, DfnIn K mg d f fd := by
  have Fn := fun_mk (st := d.st) a2 a3 a4
  refine ⟨_, Fn, PySem.W.mg_of X G a1, Fn.binds fun kV doc pm an cd ct us hl => hb kV doc pm an cd ct us hl, fun q hq s ws zs _ hl hz => ?_⟩
  obtain ⟨zs', e1, e2⟩ := hk q hq kV dc pm an cd ct ws hl
  rw [hz] at e1
  cases e1
  exact .of_eq e2
/-- the table stands in the heap -/
structure AllAt (K : PySem.W.Frag) (mg : Str → Option Value) (tb : List Dfn) (as : List Addr) : Prop where
  ln : as.length = tb.length
  at_ : ∀ (k : Nat) d, tb[k]? = some d → ∃ a fd, as[k]? = some a ∧ DfnIn K mg d a fd
theorem all_nil {K : PySem.W.Frag} {mg : Str → Option Value} : AllAt K mg [] [] := ⟨rfl, fun k d e => by simp at e⟩
theorem all_cons {K : PySem.W.Frag} {mg : Str → Option Value} {d : Dfn} {a : Addr} {tb : List Dfn} {as : List Addr} (h : ∃ fd, DfnIn K mg d a fd) (t : AllAt K mg tb as) : AllAt K mg (d :: tb) (a :: as) := by
  refine ⟨by rw [List.length_cons, List.length_cons, t.ln], fun k e hk => ?_⟩
  cases k with
  | zero =>
    rw [List.getElem?_cons_zero] at hk
    cases hk
    obtain ⟨fd, h⟩ := h
    exact ⟨a, fd, rfl, h⟩
  | succ k => rw [List.getElem?_cons_succ] at hk ⊢; exact t.at_ k e hk
/-- the built-ins' names are free -/
theorem bn_of {K : PySem.W.Frag} {h : Heap} {mg : Str → Option Value} {bn : List Str} (X : K.In h) (G : h.Ns mainGlobals mg) (hb : ∀ x ∈ bn, PySem.W.nsIn K mainGlobals x = some none) : ∀ x ∈ bn, mg x = none := fun x hx => PySem.W.mg_none_of X G (hb x hx)
def CsAt (K : PySem.W.Frag) (x : Str) (d : D) : Prop := (∃ z t, d = .str z ∧ PySem.W.nsIn K mainGlobals x = some (some (.str z t))) ∨ ∃ i t, d = .int i ∧ PySem.W.nsIn K mainGlobals x = some (some (.int i t))
theorem cs_str {K : PySem.W.Frag} {x z : Str} {t : Tok} (h : PySem.W.nsIn K mainGlobals x = some (some (.str z t))) : CsAt K x (.str z) := .inl ⟨z, t, rfl, h⟩
theorem cs_int {K : PySem.W.Frag} {x : Str} {i : Int} {t : Tok} (h : PySem.W.nsIn K mainGlobals x = some (some (.int i t))) : CsAt K x (.int i) := .inr ⟨i, t, rfl, h⟩
theorem glb_of {P : Program} {w : World} {K : PySem.W.Frag} {h : Heap} {mg : Str → Option Value} {fn : Nat → Option Addr} {fk : Str × Str × Str × Str} {ns : List Int} {bn : List Str} {cs : List (Str × D)} (X : K.In h) (G : h.Ns mainGlobals mg) (ok : FkOk fk) (hb : ∀ x ∈ bn, PySem.W.nsIn K mainGlobals x = some none) (hc : ∀ p ∈ cs, CsAt K p.1 p.2) : Glb ⟨K, fn, fk, ns, P, w⟩ mg bn cs := by
  refine ⟨ok, bn_of X G hb, fun x d hx => ?_⟩
  rcases hc _ hx with ⟨z, t, e, q⟩ | ⟨i, t, e, q⟩
  · dsimp only at e q
    subst e
    exact ⟨_, .str z, PySem.W.mg_of X G q, ⟨t, rfl⟩, fun _ _ => .str z, fun _ z => by cases z⟩
  · dsimp only at e q
    subst e
    exact ⟨_, .int i, PySem.W.mg_of X G q, ⟨t, rfl⟩, fun _ _ => .int i, fun _ z => by cases z⟩
section
variable {P : Program} {w : World} {K : PySem.W.Frag} {mg : Str → Option Value} {base : Heap}
theorem AllAt.stg {tb : List Dfn} {as : List Addr} (A : AllAt K mg tb as) {fk : Str × Str × Str × Str} (ns : List Int) : Stg ⟨K, fun k => as[k]?, fk, ns, P, w⟩ tb P w K mg base (fun _ _ => .bad) 0 := by
  refine stg_zero (fun k d e => ?_) (fun k a e => ?_) ⟨rfl, rfl⟩
  · obtain ⟨a, fd, h1, h2⟩ := A.at_ k d e
    exact ⟨a, fd, h2, h1⟩
  · have : k < tb.length := by rw [← A.ln]; exact (List.getElem?_eq_some_iff.mp e).1
    exact ⟨tb[k], List.getElem?_eq_getElem this⟩
/-- one def more, by its matched body -/
theorem Stg.next {g : Gc} {tb : List Dfn} {bn : List Str} {cs : List (Str × D)} {F : Nat → List D → M D} {lv : Nat} (S : Stg g tb P w g.K mg base F lv) (G : Glb g mg bn cs) (i : Nat) {d : Dfn} {N : List Str} {b : Sx} (fu : Nat) (hd : tb[i]? = some d) (sc : FnScope N d.ps (defScope d.st)) (hm : mt b (sc0 g.fk tb bn cs N d.st) (.b (defBody d.st)) = true) :
    Stg g tb P w g.K mg base (updF F i (nFn d.ps.length (runD fu N.length F b))) (lv + 1) :=
  S.add hd (fun a fd h _ => fn_body S G rfl fu sc hm h) fun ds Q z => nFn_len z
/-- a def that calls itself, to a depth -/
def itF (F : Nat → List D → M D) (i n m fu : Nat) (b : Sx) : Nat → Nat → List D → M D
  | 0 => F
  | k + 1 => updF (itF F i n m fu b k) i (nFn n (runD fu m (itF F i n m fu b k) b))
theorem Stg.deep {g : Gc} {tb : List Dfn} {bn : List Str} {cs : List (Str × D)} {F : Nat → List D → M D} {lv : Nat} (S : Stg g tb P w g.K mg base F lv) (G : Glb g mg bn cs) (i : Nat) {d : Dfn} {N : List Str} {b : Sx} (fu : Nat) (hd : tb[i]? = some d) (sc : FnScope N d.ps (defScope d.st)) (hm : mt b (sc0 g.fk tb bn cs N d.st) (.b (defBody d.st)) = true) :
    ∀ k, Stg g tb P w g.K mg base (itF F i d.ps.length N.length fu b k) (lv + k)
  | 0 => S
  | k + 1 => (Stg.deep S G i fu hd sc hm k).next G i fu hd sc hm
/-- THE LAW, from its last stage -/
theorem law_of {h : Heap} {fA : Addr} {as : List Addr} {tb : List Dfn} {bn : List Str} {cs : List (Str × D)} {fk : Str × Str × Str × Str} {F : Nat → List D → M D} {lv n kl kf : Nat} {cut : Int} {d df : Dfn} {N : List Str} {b : Sx} {s0 : Stmt} {rest : List Stmt} {f x xf : Str}
    (X : K.In h) (hfa : mg d.nm = some (.ref fA)) (A : AllAt K mg tb as) (G : ∀ ns, Glb ⟨K, fun k => as[k]?, fk, ns, P, w⟩ mg bn cs) (hlv : 1 ≤ lv)
    (S : ∀ (B : Heap) (ns : List Int), Stg ⟨K, fun k => as[k]?, fk, ns, P, w⟩ tb P w K mg B F lv) (fu : Nat) (hd : tb[kl]? = some d) (hdf : tb[kf]? = some df) (hxf : df.ps = [xf]) (hx1 : (xf == ("__debug__" : Str)) = false) (hx2 : (xf == ("__classdict__" : Str)) = false) (scf : FnScope [xf] [xf] (defScope df.st)) (hbf : isFeed xf fk cut (defBody df.st) = true) (glf : (defScope df.st).names.lookup ("list" : Str) = some .globalImplicit) (hbl : ("list" : Str) ∈ bn)
    (sc : FnScope N d.ps (defScope d.st)) (hps : d.ps = [x]) (bdl : BdOk d) (hN1 : N[1]? = some f) (hB : defBody d.st = s0 :: rest) (h0 : isFst f df.nm x s0 = true) (hv0 : (sc0 fk tb bn cs N d.st).vis 0 x = true) (hl1 : (sc0 fk tb bn cs N d.st).loc 1 f = true) (hgl : (sc0 fk tb bn cs N d.st).gl df.nm = true)
    (hm : mt b (sc0 fk tb bn cs N d.st) (.b rest) = true) (hw : ∀ ns : List Int, WP (exGo fu F b (none :: some (.dat (feedD ns)) :: List.replicate (N.length - 2) none)) fun o => match o with
      | .rt v => v = .bool true
      | _ => False) :
    ∃ (K : PySem.W.Frag) (fd : FuncData) (sp : Sp), K.In h ∧ (∀ (s : Shared) (u : Value), BindsTo s fd ⟨[u], []⟩ [(x, u)]) ∧
      (∀ (H : Hp) (a : Addr) (ns : List Int), ns.length ≤ n → Only H → SqL K H a (ns.map V.int) → sp [.ref a] H (fun v _ => v = .bl true) fun _ _ _ => False) ∧ ∀ B : Heap, K.In B → B.Ns mainGlobals mg → FnG P w K mg B (lv + 1) fA fd [x] sp := by
  obtain ⟨a, fd, e1, i⟩ := A.at_ kl d hd
  obtain ⟨af, ffd, e2, fi⟩ := A.at_ kf df hdf
  have ea := i.mg_
  rw [hfa] at ea
  cases ea
  refine ⟨K, fd, spLaw K n, X, fun s u => ?_, fun H a ns hn _ hS => ⟨a, ns, rfl, hn, hS, fun _ => rfl⟩, fun B kB gB => ?_⟩
  · obtain ⟨oc, od, kV, doc, pm, an, cdv, ct, osl, e, _⟩ := i.fn.ex
    subst e
    have := bdl kV doc pm an cdv ct [u] (by rw [hps]; rfl)
    rw [hps] at this
    exact .of_eq this
  · have ff : FnG P w K mg B 1 af ffd df.ps (spFeed K fk cut) := fn_feed fi hxf hx1 hx2 scf hbf (G []).fko ((G []).bn _ hbl) glf
    have := fn_law (n := n) (S B) G hlv fu sc hps hN1 hB h0 hv0 hl1 hgl fi (by rw [hxf]; rfl) ff hm hw i
    rw [hps] at this
    exact this
end
end Pf
/-! PfV: small facts for the plain side. -/
namespace Pf
open PySem
theorem b_ret {α β : Type} (a : α) (f : α → M β) : (M.ret a).bind f = f a := rfl
theorem b_bad {α β : Type} (f : α → M β) : (M.bad : M α).bind f = .bad := rfl
theorem b_any {α β : Type} (k : Int → M α) (f : α → M β) : (M.any k).bind f = .any fun n => (k n).bind f := rfl
theorem need_if {α : Type} {c : Bool} {m : M α} (h : c = true) : need c m = m := need_of h
/-- a comprehension whose test and element are plain -/
theorem lcGo_eq {b : D → M Ev} {t : Ev → M Bool} {e : Ev → M D} {p : D → Bool} {f : D → D} : ∀ (ds : List D), (∀ d ∈ ds, ∃ ρ, b d = .ret ρ ∧ t ρ = .ret (p d) ∧ (p d = true → e ρ = .ret (f d))) → lcGo b t e ds = .ret ((ds.filter p).map f)
  | [], _ => rfl
  | d :: r, h => by
    obtain ⟨ρ, h1, h2, h3⟩ := h d List.mem_cons_self
    have ih := lcGo_eq (p := p) (f := f) r fun x hx => h x (List.mem_cons_of_mem _ hx)
    unfold lcGo
    rw [h1, b_ret, h2, b_ret]
    cases hp : p d with
    | true => rw [if_pos rfl, h3 hp, b_ret, ih, b_ret, List.filter_cons_of_pos hp]; rfl
    | false => rw [if_neg (by intro z; cases z), ih, List.filter_cons_of_neg (by rw [hp]; intro z; cases z)]
theorem lcGo_map {b : D → M Ev} {t : Ev → M Bool} {e : Ev → M D} {f : D → D} (ds : List D) (h : ∀ d ∈ ds, ∃ ρ, b d = .ret ρ ∧ t ρ = .ret true ∧ e ρ = .ret (f d)) : lcGo b t e ds = .ret (ds.map f) := by
  have := lcGo_eq (b := b) (t := t) (e := e) (p := fun _ => true) (f := f) ds fun d hd => let ⟨ρ, h1, h2, h3⟩ := h d hd; ⟨ρ, h1, h2, fun _ => h3⟩
  rw [this]
  congr 2
  exact List.filter_eq_self.mpr fun _ _ => rfl
theorem lcGo_flt {b : D → M Ev} {t : Ev → M Bool} {e : Ev → M D} {p : D → Bool} (ds : List D) (h : ∀ d ∈ ds, ∃ ρ, b d = .ret ρ ∧ t ρ = .ret (p d) ∧ e ρ = .ret d) : lcGo b t e ds = .ret (ds.filter p) := by
  have := lcGo_eq (b := b) (t := t) (e := e) (p := p) (f := id) ds fun d hd => let ⟨ρ, h1, h2, h3⟩ := h d hd; ⟨ρ, h1, h2, fun _ => h3⟩
  rw [this, List.map_id]
theorem flt_nil {α : Type} (p : α → Bool) (xs : List α) : (xs.filter fun x => !p x).isEmpty = xs.all p := by
  induction xs with
  | nil => rfl
  | cons x r ih =>
    cases h : p x with
    | true => rw [List.filter_cons_of_neg (by simp [h]), ih, List.all_cons, h]; rfl
    | false => rw [List.filter_cons_of_pos (by simp [h]), List.all_cons, h]; rfl
theorem boolsOf_map {α : Type} (f : α → Bool) : ∀ xs : List α, boolsOf (xs.map fun x => .bool (f x)) = some (xs.map f)
  | [] => rfl
  | x :: r => by show (boolsOf (r.map fun x => .bool (f x))).map (f x :: ·) = _; rw [boolsOf_map f r]; rfl
theorem all_id {α : Type} (f : α → Bool) (xs : List α) : ((xs.map f).all id) = xs.all f := by rw [List.all_map]; rfl
/-- [..] == [] -/
theorem eqv_nil (xs : List D) : PyData.eqv (.list xs) (.list []) = xs.isEmpty := by cases xs <;> simp [PyData.eqv, PyData.eqvAll]
theorem shaped_nil : SeqAt.shaped (.list []) = true := by decide


theorem c_lt (a b : Int) : cmp2 .lt (.int a) (.int b) = .ret (.bool (decide (a < b))) := rfl
theorem c_le (a b : Int) : cmp2 .le (.int a) (.int b) = .ret (.bool (decide (a ≤ b))) := rfl
theorem c_gt (a b : Int) : cmp2 .gt (.int a) (.int b) = .ret (.bool (decide (b < a))) := rfl
theorem c_ge (a b : Int) : cmp2 .ge (.int a) (.int b) = .ret (.bool (decide (b ≤ a))) := rfl
theorem c_ltS (a b : Str) : cmp2 .lt (.str a) (.str b) = .ret (.bool (decide (a.cps.toList < b.cps.toList))) := rfl
theorem c_geS (a b : Str) : cmp2 .ge (.str a) (.str b) = .ret (.bool (!decide (a.cps.toList < b.cps.toList))) := rfl
theorem c_eq (a b : D) : cmp2 .eq a b = need (eqOk a b) (.ret (.bool (PyData.eqv a b))) := by cases a <;> cases b <;> rfl
theorem c_ne (a b : D) : cmp2 .ne a b = need (eqOk a b) (.ret (.bool (!PyData.eqv a b))) := by cases a <;> cases b <;> rfl
theorem k_l (a : List D) (b : D) : eqOk (.list a) b = (SeqAt.shaped (.list a) && SeqAt.shaped b) := by cases b <;> rfl
theorem k_i (a : Int) (b : D) : eqOk (.int a) b = (SeqAt.shaped (.int a) && SeqAt.shaped b) := by cases b <;> rfl
theorem k_rt (a : D) (b : List D) : eqOk a (.tuple b) = (SeqAt.shaped a && SeqAt.shaped (.tuple b)) := by cases a <;> rfl
theorem k_sh {a b : D} (h1 : SeqAt.shaped a = true) (h2 : SeqAt.shaped b = true) : eqOk a b = true := by
  unfold eqOk
  split
  · rfl
  · rw [h1, h2]; rfl
theorem c_inS (a b : Str) : cmp2 .isin (.str a) (.str b) = need (decide (a.length = 1)) (.ret (.bool (decide (a.cps.toList.headD 0 ∈ b.cps.toList)))) := rfl
theorem c_niT (a : D) (b : List D) : cmp2 .notin a (.tuple b) = need (SeqAt.shaped a && SeqAt.shaped (.tuple b)) (.ret (.bool (!b.any fun z => PyData.eqv z a))) := by cases a <;> rfl
theorem c_niL (a : D) (b : List D) : cmp2 .notin a (.list b) = need (SeqAt.shaped a && SeqAt.shaped (.list b)) (.ret (.bool (!b.any fun z => PyData.eqv z a))) := by cases a <;> rfl
theorem c_inL (a : D) (b : List D) : cmp2 .isin a (.list b) = need (SeqAt.shaped a && SeqAt.shaped (.list b)) (.ret (.bool (b.any fun z => PyData.eqv z a))) := by cases a <;> rfl
theorem l_lst (a : List D) : bi1 .len (.list a) = .ret (.int a.length) := rfl
theorem l_tup (a : List D) : bi1 .len (.tuple a) = .ret (.int a.length) := rfl
theorem l_str (a : Str) : bi1 .len (.str a) = need (decide (a.length ≤ sizeLine)) (.ret (.int a.length)) := rfl
theorem b_all (a : List D) : bi1 .all (.list a) = (match boolsOf a with
    | some bs => .ret (.bool (bs.all id))
    | none => .bad) := rfl
theorem b_ord (a : Str) : bi1 .ord (.str a) = need (decide (a.length = 1)) (.ret (.int (a.cps.toList.headD 0 : Nat))) := rfl
theorem b_repr (a : D) : bi1 .repr a = need (a.showable && SeqAt.shaped a && decide (a.shown.length ≤ sizeLine)) (.ret (.str a.shown)) := by cases a <;> rfl
theorem t_b (b : Bool) : truD (.bool b) = .ret b := rfl
theorem bo_b (b : Bool) : boolD (.bool b) = .ret b := rfl
theorem in_i (i : Int) : intD (.int i) = .ret i := rfl
theorem ls_l (a : List D) : lstD (.list a) = .ret a := rfl
theorem it_l (a : List D) : itmD (.list a) = .ret a := rfl
theorem it_t (a : List D) : itmD (.tuple a) = .ret a := rfl
theorem it_s (a : Str) : itmD (.str a) = need (decide (a.cps.toList.length ≤ sizeLine)) (.ret (a.cps.toList.map fun c => .str ⟨#[c]⟩)) := rfl
theorem b_assoc {α β γ : Type} (f : α → M β) (k : β → M γ) : ∀ m : M α, (m.bind f).bind k = m.bind fun a => (f a).bind k
  | .ret _ => rfl
  | .bad => rfl
  | .draw n h => by show M.draw n (fun r => ((h r).bind f).bind k) = M.draw n fun r => (h r).bind fun a => (f a).bind k; congr 1; funext r; exact b_assoc f k (h r)
  | .any h => by show M.any (fun r => ((h r).bind f).bind k) = M.any fun r => (h r).bind fun a => (f a).bind k; congr 1; funext r; exact b_assoc f k (h r)
theorem b_id {α : Type} : ∀ m : M α, m.bind M.ret = m
  | .ret _ => rfl
  | .bad => rfl
  | .draw n h => by show M.draw n (fun r => (h r).bind M.ret) = _; congr 1; funext r; exact b_id (h r)
  | .any h => by show M.any (fun r => (h r).bind M.ret) = _; congr 1; funext r; exact b_id (h r)
/-- a def of one return -/
theorem run_ret {fu n : Nat} {F : Nat → List D → M D} {e : Sx} {ds : List D} : runD fu n F (.cons (.ret e) .nil) ds = rdv e (ev F e) (ev0 n ds) := by
  show ((((rdv e (ev F e) (ev0 n ds)).bind fun d => M.ret (Out.rt d)).bind _).bind _) = _
  rw [b_assoc, b_assoc]
  exact b_id _
theorem lc_flt {F : Nat → List D → M D} {own : List Nat} {tg it cd elt : Sx} {ρ : Ev} {ds : List D} {p : D → Bool} (hit : itmv it (ev F it) ρ = .ret ds) (ho : datOnly ρ own = true) (h : ∀ d ∈ ds, ∃ ρ', tgt tg d (wip ρ own) = .ret ρ' ∧ tst cd (ev F cd) ρ' = .ret (p d) ∧ ev F elt ρ' = .ret d) : ev F (.lc own tg it cd elt) ρ = .ret (.list (ds.filter p)) := by
  show ((itmv it (ev F it) ρ).bind fun ds => need (datOnly ρ own) ((lcGo (fun d => tgt tg d (wip ρ own)) (tst cd (ev F cd)) (ev F elt) ds).bind fun ys => M.ret (PyData.list ys))) = _
  rw [hit, b_ret, ho, need_true, lcGo_flt ds h, b_ret]
theorem lc_map {F : Nat → List D → M D} {own : List Nat} {tg it cd elt : Sx} {ρ : Ev} {ds : List D} {f : D → D} (hit : itmv it (ev F it) ρ = .ret ds) (ho : datOnly ρ own = true) (h : ∀ d ∈ ds, ∃ ρ', tgt tg d (wip ρ own) = .ret ρ' ∧ tst cd (ev F cd) ρ' = .ret true ∧ ev F elt ρ' = .ret (f d)) : ev F (.lc own tg it cd elt) ρ = .ret (.list (ds.map f)) := by
  show ((itmv it (ev F it) ρ).bind fun ds => need (datOnly ρ own) ((lcGo (fun d => tgt tg d (wip ρ own)) (tst cd (ev F cd)) (ev F elt) ds).bind fun ys => M.ret (PyData.list ys))) = _
  rw [hit, b_ret, ho, need_true, lcGo_map ds h, b_ret]
theorem ev_and {F : Nat → List D → M D} {a b : Sx} {ρ : Ev} {x : Bool} (h : ev F a ρ = .ret (.bool x)) : ev F (.and a b) ρ = if x = true then ev F b ρ else .ret (.bool false) := by
  show ((ev F a ρ).bind fun x => (truD x).bind fun k => if k = true then ev F b ρ else M.ret x) = _
  rw [h, b_ret, t_b, b_ret]
  cases x <;> rfl
theorem ev_or {F : Nat → List D → M D} {a b : Sx} {ρ : Ev} {x : Bool} (h : ev F a ρ = .ret (.bool x)) : ev F (.or a b) ρ = if x = true then .ret (.bool true) else ev F b ρ := by
  show ((ev F a ρ).bind fun x => (truD x).bind fun k => if k = true then M.ret x else ev F b ρ) = _
  rw [h, b_ret, t_b, b_ret]
  cases x <;> rfl
theorem ev_nt {F : Nat → List D → M D} {a : Sx} {ρ : Ev} {x : Bool} (ht : tst a (ev F a) = fun ρ => (ev F a ρ).bind truD) (h : ev F a ρ = .ret (.bool x)) : ev F (.nt a) ρ = .ret (.bool !x) := by
  show ((tst a (ev F a) ρ).bind fun k => M.ret (PyData.bool !k)) = _
  rw [ht]
  dsimp only
  rw [h, b_ret, t_b, b_ret]
theorem ev_call1 {F : Nat → List D → M D} {k : Nat} {e : Sx} {ρ : Ev} {d : D} (h : ev F e ρ = .ret d) : ev F (.call k (.cons e .nil)) ρ = F k [d] := by
  show (((ev F e ρ).bind fun d => (M.ret (PyData.list [])).bind fun x => (lstD x).bind fun ds => M.ret (PyData.list (d :: ds))).bind fun x => (lstD x).bind fun ds => F k ds) = _
  rw [h]
  rfl
/-- if c: return a -/
theorem run_if {fu n : Nat} {F : Nat → List D → M D} {c a r : Sx} {ds : List D} {x : Bool} (h : tst c (ev F c) (ev0 n ds) = .ret x) : runD fu n F (.cons (.iff c (.cons (.ret a) .nil) .nil) r) ds = if x = true then rdv a (ev F a) (ev0 n ds) else runD fu n F r ds := by
  show (((((tst c (ev F c) (ev0 n ds)).bind fun k => if k = true then exGo fu F (.cons (.ret a) .nil) (ev0 n ds) else exGo fu F .nil (ev0 n ds)).bind _).bind _)) = _
  rw [h, b_ret]
  cases x with
  | true =>
    rw [if_pos rfl, if_pos rfl]
    show (((((rdv a (ev F a) (ev0 n ds)).bind fun d => M.ret (Out.rt d)).bind _).bind _).bind _) = _
    rw [b_assoc, b_assoc, b_assoc]
    exact b_id _
  | false => rfl
theorem p62 : (2 : Int) ^ 62 = 4611686018427387904 := by decide
theorem rng2_eq {F : Nat → List D → M D} {a b : Sx} {ρ : Ev} {i j : Int} (h1 : ev F a ρ = .ret (.int i)) (h2 : ev F b ρ = .ret (.int j)) (hi : 0 ≤ i ∧ i ≤ 1000000) (hj : 0 ≤ j ∧ j ≤ 1000000) : ev F (.rng2 a b) ρ = .ret (.list (intR i (j - i).toNat)) := by
  show ((ev F a ρ).bind fun x => (ev F b ρ).bind fun y => (intD x).bind fun i => (intD y).bind fun j => need (decide (-(2 ^ 62) ≤ i ∧ i < 2 ^ 62 ∧ -(2 ^ 62) ≤ j ∧ j < 2 ^ 62 ∧ j - i ≤ 1000000)) (M.ret (PyData.list (intR i (j - i).toNat)))) = _
  rw [h1, h2, b_ret, b_ret, in_i, in_i, b_ret, b_ret, need_of]
  rw [p62]
  exact decide_eq_true (by omega)
theorem rng1_eq {F : Nat → List D → M D} {a : Sx} {ρ : Ev} {i : Int} (h1 : ev F a ρ = .ret (.int i)) (hi : 0 ≤ i ∧ i ≤ 1000000) : ev F (.rng1 a) ρ = .ret (.list (intR 0 i.toNat)) := by
  show ((ev F a ρ).bind fun x => (intD x).bind fun i => need (decide (-(2 ^ 62) ≤ i ∧ i ≤ 1000000)) (M.ret (PyData.list (intR 0 i.toNat)))) = _
  rw [h1, b_ret, in_i, b_ret, need_of]
  rw [p62]
  exact decide_eq_true (by omega)
/-! ### tame data -/
structure Gd (d : D) : Prop where
  lay : d.canLay0 = true
  dep : d.depth ≤ 40
  wt : d.weight ≤ 500000
theorem lay_mem {xs : List D} (h : PyData.canLayAll0 xs = true) : ∀ d ∈ xs, d.canLay0 = true := by
  induction xs with
  | nil => intro d hd; cases hd
  | cons x r ih =>
    simp only [PyData.canLayAll0, Bool.and_eq_true] at h
    intro d hd
    rcases List.mem_cons.mp hd with e | hd
    · rw [e]; exact h.1
    · exact ih h.2 d hd
theorem lay_of {xs : List D} (h : ∀ d ∈ xs, d.canLay0 = true) : PyData.canLayAll0 xs = true := by
  induction xs with
  | nil => rfl
  | cons x r ih =>
    simp only [PyData.canLayAll0, Bool.and_eq_true]
    exact ⟨h x List.mem_cons_self, ih fun d hd => h d (List.mem_cons_of_mem _ hd)⟩
theorem dep_mem {xs : List D} : ∀ d ∈ xs, d.depth ≤ PyData.depthAll xs := by
  induction xs with
  | nil => intro d hd; cases hd
  | cons x r ih =>
    intro d hd
    unfold PyData.depthAll
    rcases List.mem_cons.mp hd with e | hd
    · rw [e]; exact Nat.le_max_left _ _
    · exact Nat.le_trans (ih d hd) (Nat.le_max_right _ _)
theorem dep_of {xs : List D} {n : Nat} (h : ∀ d ∈ xs, d.depth ≤ n) : PyData.depthAll xs ≤ n := by
  induction xs with
  | nil => exact Nat.zero_le _
  | cons x r ih =>
    unfold PyData.depthAll
    exact Nat.max_le.mpr ⟨h x List.mem_cons_self, ih fun d hd => h d (List.mem_cons_of_mem _ hd)⟩
theorem wt_mem {xs : List D} : ∀ d ∈ xs, d.weight ≤ PyData.weightAll xs := by
  induction xs with
  | nil => intro d hd; cases hd
  | cons x r ih =>
    intro d hd
    unfold PyData.weightAll
    rcases List.mem_cons.mp hd with e | hd
    · rw [e]; omega
    · have := ih d hd; omega
theorem wt_len (xs : List D) : xs.length ≤ PyData.weightAll xs := by
  induction xs with
  | nil => exact Nat.zero_le _
  | cons x r ih => unfold PyData.weightAll; rw [List.length_cons]; omega
theorem Gd.tup {xs : List D} (h : Gd (.tuple xs)) : ∀ d ∈ xs, Gd d := fun d hd => by
  have h1 := h.lay; have h2 := h.dep; have h3 := h.wt
  simp only [PyData.canLay0, PyData.depth, PyData.weight] at h1 h2 h3
  exact ⟨lay_mem h1 d hd, by have := dep_mem d hd; omega, by have := wt_mem d hd; omega⟩
theorem Gd.len {xs : List D} (h : Gd (.tuple xs)) : xs.length ≤ 500000 := by
  have h3 := h.wt
  simp only [PyData.weight] at h3
  have := wt_len xs
  omega
theorem Gd.plain {d : D} (h : Gd d) : plainD d = true := by
  cases d <;> first | rfl | (have := h.lay; simp [PyData.canLay0] at this)
theorem Gd.sh {d : D} (h : Gd d) : SeqAt.shaped d = true := by
  unfold SeqAt.shaped
  rw [h.lay, decide_eq_true (by have := h.dep; omega)]
  rfl
theorem Gd.shL {xs : List D} (h : ∀ d ∈ xs, Gd d) : SeqAt.shaped (.list xs) = true := by
  have h1 : (PyData.list xs).canLay0 = true := by simp only [PyData.canLay0]; exact lay_of fun d hd => (h d hd).lay
  have h2 : (PyData.list xs).depth ≤ 64 := by
    simp only [PyData.depth]
    have := dep_of fun d hd => (h d hd).dep
    omega
  unfold SeqAt.shaped
  rw [h1, decide_eq_true h2]
  rfl
theorem Gd.strL {a : Str} (h : Gd (.str a)) : a.length ≤ sizeLine := by
  have := h.wt
  simp only [PyData.weight] at this
  rw [sizeLine_eq]
  show a.cps.size ≤ _
  omega
theorem Gd.chr {a : Str} (h : Gd (.str a)) : ∀ c ∈ a.cps.toList, Gd (.str ⟨#[c]⟩) := fun c hc => by
  refine ⟨?_, Nat.zero_le _, by simp [PyData.weight]⟩
  have := h.lay
  simp only [PyData.canLay0, PyData.strOk, Array.all_eq_true'] at this ⊢
  intro x hx
  simp at hx
  subst hx
  exact this x (by simpa using hc)
end Pf
/-! PfW: the plain side by WP. -/
namespace Pf
open PySem
theorem wp_b {α β : Type} {Q : β → Prop} {R : α → Prop} {f : α → M β} {m : M α} (h : WP m R) (k : ∀ a, R a → WP (f a) Q) : WP (m.bind f) Q := WP.bind.mpr (h.mono k)
theorem wp_eq {α : Type} {m : M α} {a : α} {Q : α → Prop} (e : m = .ret a) (h : Q a) : WP m Q := by rw [e]; exact h
theorem wp_any {α : Type} {k : Int → M α} {Q : α → Prop} (h : ∀ n, WP (k n) Q) : WP (.any k) Q := h
theorem wp_nd {α : Type} {c : Bool} {m : M α} {Q : α → Prop} (h : c = true) (w : WP m Q) : WP (need c m) Q := by rw [need_of h]; exact w

/-! ### the usual draw -/
def drawA (c59 C1 C2 C3 C4 C5 C6 C7 C8 C9 C10 : Int) : Sx := (.cons (.fput 0 3 (.bin .add (.fld 0 3) (.cst (.int 1))))
    (.cons (.iff (.cmp .gt (.fld 0 2) (.cst (.int 0))) (.cons (.asg (.var 2) (.bin .mod (.bi .int (.fld 0 2)) (.var 1)))
    (.cons (.fput 0 2 (.bin .fdiv (.fld 0 2) (.var 1)))
    (.cons (.ret (.var 2))
    .nil))) .nil)
    (.cons (.asg (.var 3) (.fld 0 1))
    (.cons (.fput 0 1 (.bin .add (.var 3) (.cst (.int 1))))
    (.cons (.asg (.var 4) (.ifx (.cmp .ne (.fcl 0) (.lst .nil)) (.idx (.fcl 0) (.bin .mod (.bi .int (.var 3)) (.bi .len (.fcl 0)))) (.cst (.int c59))))
    (.cons (.iff (.and (.cmp .ge (.var 4) (.bin .pow (.cst (.int 10)) (.cst (.int 18)))) (.cmp .lt (.var 3) (.bi .len (.fcl 0)))) (.cons (.fput 0 2 (.bin .fdiv (.var 4) (.var 1)))
    (.cons (.ret (.bin .mod (.bi .int (.var 4)) (.var 1)))
    .nil)) .nil)
    (.cons (.asg (.var 5) (.bin .mod (.bi .int (.bin .add (.bin .add (.bin .mod (.bi .int (.var 4)) (.cst (.int C1))) (.bin .mul (.cst (.int C2)) (.fld 0 3))) (.cst (.int C3)))) (.cst (.int C4))))
    (.cons (.asg (.var 5) (.bin .mod (.bi .int (.bin .add (.bin .add (.bin .mul (.var 5) (.var 5)) (.bin .mul (.cst (.int C5)) (.fld 0 3))) (.cst (.int C6)))) (.cst (.int C7))))
    (.cons (.ret (.bin .mod (.bi .int (.bin .fdiv (.bin .mod (.bi .int (.bin .add (.bin .mul (.var 5) (.var 5)) (.bin .mul (.cst (.int C8)) (.var 5)))) (.cst (.int C9))) (.cst (.int C10)))) (.var 1)))
    .nil)))))))))
theorem fm (a : Int) {n : Nat} (h : 0 < n) : ∃ r : Nat, r < n ∧ a.fmod n = (r : Int) := by
  have h1 : 0 ≤ a.fmod n := Int.fmod_nonneg_of_pos a (by omega)
  have h2 : a.fmod n < n := Int.fmod_lt_of_pos a (by omega)
  exact ⟨(a.fmod n).toNat, by omega, by omega⟩
/-- a feed's draw answers below n -/
def DrawOk (f : List D → M D) : Prop := ∀ (ns : List Int) (n : Nat), 0 < n → n < 1073741824 → WP (f [feedD ns, .int n]) fun d => ∃ r : Nat, r < n ∧ d = .int r
end Pf
namespace Pf
open PySem
theorem op_add (a b : Int) : op2 .add (.int a) (.int b) = .ret (.int (a + b)) := rfl
theorem bi_int (a : Int) : bi1 .int (.int a) = .ret (.int a) := rfl
theorem op_mod (a b : Int) : op2 .mod (.int a) (.int b) = need (decide (b ≠ 0)) (.ret (.int (a.fmod b))) := rfl
theorem op_fdiv (a b : Int) : op2 .fdiv (.int a) (.int b) = need (decide (b ≠ 0 ∧ b.natAbs < 1073741824)) (.ret (.int (a.fdiv b))) := rfl
theorem cl_f (ns : List Int) : cellsOf (feedD ns) = .ret (ns.map .int) := rfl
theorem pw18 : op2 .pow (.int 10) (.int 18) = .ret (.int 1000000000000000000) := by rfl
theorem op_mul (a b : Int) (h : -18446744073709551616 < a ∧ a < 18446744073709551616) : op2 .mul (.int a) (.int b) = .ret (.int (a * b)) := by
  show need (decide (-(2 ^ 64) < a ∧ a < 2 ^ 64)) (M.ret (PyData.int (a * b))) = _
  rw [show (2 : Int) ^ 64 = 18446744073709551616 by decide, need_of (decide_eq_true h)]
theorem op_modN (a b : Int) (h : b ≠ 0) : op2 .mod (.int a) (.int b) = .ret (.int (a.fmod b)) := by
  rw [op_mod, need_of (decide_eq_true h)]
theorem op_divN (a b : Int) (h : b ≠ 0 ∧ b.natAbs < 1073741824) : op2 .fdiv (.int a) (.int b) = .ret (.int (a.fdiv b)) := by
  rw [op_fdiv, need_of (decide_eq_true h)]
theorem sh_ints (ns : List Int) : SeqAt.shaped (.list (ns.map .int)) = true := by
  have h1 : (PyData.list (ns.map .int)).canLay0 = true := by
    simp only [PyData.canLay0]
    exact lay_of fun d hd => by obtain ⟨i, _, rfl⟩ := List.mem_map.mp hd; rfl
  have h2 : (PyData.list (ns.map .int)).depth ≤ 64 := by
    simp only [PyData.depth]
    have := dep_of (n := 0) (xs := ns.map .int) fun d hd => by obtain ⟨i, _, rfl⟩ := List.mem_map.mp hd; simp [PyData.depth]
    omega
  unfold SeqAt.shaped
  rw [h1, decide_eq_true h2]
  rfl
theorem ix_inL {ds : List D} {i : Nat} {x : D} (h : ds[i]? = some x) : idx2 (.list ds) (.int (i : Int)) = .ret x := by
  have hi : i < ds.length := (List.getElem?_eq_some_iff.mp h).1
  have e : (ixAt ds.length (i : Int)).bind (ds[·]?) = some x := by
    have : ixAt ds.length (i : Int) = some i := by
      unfold ixAt L2.ixN
      simp [hi]
      try omega
    rw [this]
    exact h
  unfold idx2
  simp only [e]
theorem cell_ok (ns : List Int) (z : Int) (c59 : Int) : ∃ c : Int, (if (!(ns.map PyData.int).isEmpty) = true then (op2 .mod (.int z) (.int ((ns.map PyData.int).length : Nat))).bind fun y => idx2 (.list (ns.map .int)) y else .ret (.int c59)) = .ret (.int c) := by
  cases ns with
  | nil => exact ⟨c59, rfl⟩
  | cons x r =>
    have hl : 0 < ((x :: r).map PyData.int).length := by simp
    obtain ⟨k, hk, e⟩ := fm z hl
    have hk' : k < (x :: r).length := by simpa using hk
    refine ⟨(x :: r)[k], ?_⟩
    have hg : ((x :: r).map PyData.int)[k]? = some (.int (x :: r)[k]) := by rw [List.getElem?_map, List.getElem?_eq_getElem hk']; rfl
    rw [if_pos (by simp), op_mod, need_of (decide_eq_true (by omega)), b_ret, e]
    exact ix_inL hg
theorem wp_drawA {fu : Nat} {F : Nat → List D → M D} {c59 C1 C2 C3 C4 C5 C6 C7 C8 C9 C10 : Int} (k1 : C1 ≠ 0) (k2 : -18446744073709551616 < C2 ∧ C2 < 18446744073709551616) (k4 : 0 < C4 ∧ C4 < 18446744073709551616) (k5 : -18446744073709551616 < C5 ∧ C5 < 18446744073709551616) (k7 : 0 < C7 ∧ C7 < 18446744073709551616) (k8 : -18446744073709551616 < C8 ∧ C8 < 18446744073709551616) (k9 : C9 ≠ 0) (k10 : C10 ≠ 0 ∧ C10.natAbs < 1073741824) : DrawOk (runD fu 6 F (drawA c59 C1 C2 C3 C4 C5 C6 C7 C8 C9 C10)) := by
  intro ns n h0 h1
  have hn : (n : Int) ≠ 0 := by omega
  have hn2 : (n : Int).natAbs < 1073741824 := by omega
  unfold runD drawA
  simp only [exGo, ev, rdv, tst, ev0, gs, gr, cl_f, b_ret, b_any, b_assoc, in_i, op_add, bi_int, op_mod, op_fdiv, c_gt, t_b, List.map, List.append, List.replicate, List.length_cons, List.length_nil, List.cons_append, List.nil_append, List.getElem?_cons_zero, List.getElem?_cons_succ]
  refine wp_any fun z1 => ?_
  refine wp_any fun z2 => ?_
  by_cases hz : 0 < z2
  · simp only [decide_eq_true hz, if_true, SV.d, op_mod, op_fdiv, tgt, put, cl_f, in_i, b_ret, b_any, need, decide_eq_true hn, decide_eq_true (And.intro hn hn2), List.set, List.getElem?_cons_zero, List.getElem?_cons_succ]
    refine wp_any fun z3 => ?_
    refine wp_any fun z4 => ?_
    obtain ⟨r, hr, e⟩ := fm z3 h0
    exact ⟨r, hr, by rw [e]⟩
  · have hz' : decide (0 < z2) = false := decide_eq_false hz
    simp only [hz', SV.d, op_add, tgt, put, cl_f, in_i, b_ret, b_any, List.set, List.getElem?_cons_zero, List.getElem?_cons_succ, if_false, Bool.false_eq_true]
    refine wp_any fun z3 => ?_
    obtain ⟨c, hc⟩ := cell_ok ns z3 c59
    have hsz : decide (([] : List D).length ≤ sizeLine) = true := by rw [sizeLine_eq]; rfl
    simp only [ls_l, b_ret, hsz, need_true, c_ne, k_l, sh_ints, shaped_nil, Bool.and_self, eqv_nil, t_b, bi_int, l_lst, hc, pw18, c_ge]
    have tail : ∀ ρ : Ev, ρ = [some (SV.dat (feedD ns)), some (SV.dat (.int n)), none, some (.dat (.int z3)), some (.dat (.int c)), none] → True := fun _ _ => trivial
    by_cases hb : 1000000000000000000 ≤ c
    · simp only [decide_eq_true hb, if_true, c_lt, b_ret, t_b]
      by_cases hl : z3 < ((ns.map PyData.int).length : Nat)
      · simp only [decide_eq_true hl, if_true, b_ret, op_divN _ _ (And.intro hn hn2), in_i, op_modN _ _ hn]
        obtain ⟨r, hr, e⟩ := fm c h0
        exact ⟨r, hr, by rw [e]⟩
      · simp only [decide_eq_false hl, if_false, Bool.false_eq_true, b_ret, t_b, List.getElem?_cons_zero, List.getElem?_cons_succ, bi_int, op_modN _ _ k1, cl_f, b_any, op_mul _ _ k2, op_add]
        refine wp_any fun z4 => ?_
        have k4' : C4 ≠ 0 := by omega
        have k7' : C7 ≠ 0 := by omega
        have b4 := Int.fmod_nonneg_of_pos (c.fmod C1 + C2 * z4 + C3) k4.1
        have b4' := Int.fmod_lt_of_pos (c.fmod C1 + C2 * z4 + C3) k4.1
        rw [op_modN _ _ k4']
        generalize (c.fmod C1 + C2 * z4 + C3).fmod C4 = m at b4 b4' ⊢
        have bm : -18446744073709551616 < m ∧ m < 18446744073709551616 := by omega
        simp only [b_ret, List.set, List.getElem?_cons_zero, List.getElem?_cons_succ, op_mul _ _ bm, op_mul _ _ k5, cl_f, b_any, op_add, bi_int]
        refine wp_any fun z5 => ?_
        have b7 := Int.fmod_nonneg_of_pos (m * m + C5 * z5 + C6) k7.1
        have b7' := Int.fmod_lt_of_pos (m * m + C5 * z5 + C6) k7.1
        rw [op_modN _ _ k7']
        generalize (m * m + C5 * z5 + C6).fmod C7 = m2 at b7 b7' ⊢
        have bm2 : -18446744073709551616 < m2 ∧ m2 < 18446744073709551616 := by omega
        simp only [b_ret, List.set, List.getElem?_cons_zero, List.getElem?_cons_succ, op_mul _ _ bm2, op_mul _ _ k8, op_add, bi_int, op_modN _ _ k9, op_divN _ _ k10, op_modN _ _ hn]
        obtain ⟨r, hr, e⟩ := fm (((m2 * m2 + C8 * m2).fmod C9).fdiv C10) h0
        exact ⟨r, hr, by rw [e]⟩
    · simp only [decide_eq_false hb, if_false, Bool.false_eq_true, b_ret, t_b, List.getElem?_cons_zero, List.getElem?_cons_succ, bi_int, op_modN _ _ k1, cl_f, b_any, op_mul _ _ k2, op_add]
      refine wp_any fun z4 => ?_
      have k4' : C4 ≠ 0 := by omega
      have k7' : C7 ≠ 0 := by omega
      have b4 := Int.fmod_nonneg_of_pos (c.fmod C1 + C2 * z4 + C3) k4.1
      have b4' := Int.fmod_lt_of_pos (c.fmod C1 + C2 * z4 + C3) k4.1
      rw [op_modN _ _ k4']
      generalize (c.fmod C1 + C2 * z4 + C3).fmod C4 = m at b4 b4' ⊢
      have bm : -18446744073709551616 < m ∧ m < 18446744073709551616 := by omega
      simp only [b_ret, List.set, List.getElem?_cons_zero, List.getElem?_cons_succ, op_mul _ _ bm, op_mul _ _ k5, cl_f, b_any, op_add, bi_int]
      refine wp_any fun z5 => ?_
      have b7 := Int.fmod_nonneg_of_pos (m * m + C5 * z5 + C6) k7.1
      have b7' := Int.fmod_lt_of_pos (m * m + C5 * z5 + C6) k7.1
      rw [op_modN _ _ k7']
      generalize (m * m + C5 * z5 + C6).fmod C7 = m2 at b7 b7' ⊢
      have bm2 : -18446744073709551616 < m2 ∧ m2 < 18446744073709551616 := by omega
      simp only [b_ret, List.set, List.getElem?_cons_zero, List.getElem?_cons_succ, op_mul _ _ bm2, op_mul _ _ k8, op_add, bi_int, op_modN _ _ k9, op_divN _ _ k10, op_modN _ _ hn]
      obtain ⟨r, hr, e⟩ := fm (((m2 * m2 + C8 * m2).fmod C9).fdiv C10) h0
      exact ⟨r, hr, by rw [e]⟩
end Pf
/-! PfY: a for by an invariant over what is left. -/
namespace Pf
open PySem
theorem wp_for {b : D → Ev → M Ev} {s : Ev → M Out} {I : List D → Ev → Prop} {Q : Out → Prop} (step : ∀ d r ρ, I (d :: r) ρ → WP ((b d ρ).bind s) fun o => match o with
    | .nx ρ' => I r ρ'
    | .ct ρ' => I r ρ'
    | .bk ρ' => Q (.nx ρ')
    | .rt v => Q (.rt v)) (fin : ∀ ρ, I [] ρ → Q (.nx ρ)) : ∀ ds ρ, I ds ρ → WP (forGo b s ds ρ) Q
  | [], ρ, h => fin ρ h
  | d :: r, ρ, h => by
    unfold forGo
    have w := WP.bind.mp (step d r ρ h)
    refine WP.bind.mpr (w.mono fun ρ1 w => WP.bind.mpr (w.mono fun o w => ?_))
    cases o with
    | nx ρ2 => exact wp_for step fin r ρ2 w
    | ct ρ2 => exact wp_for step fin r ρ2 w
    | bk ρ2 => exact w
    | rt v => exact w
end Pf
/-! PfZ: a stage with a plainer meaning; rules for running by simp. -/
namespace Pf
open PySem L2
variable {P : Program} {w : World} {K : PySem.W.Frag} {mg : Str → Option Value} {base : Heap}
theorem spD_sub {g : Gc} {n : Nat} {f f' : List D → M D} (h : ∀ ds Q, WP (f' ds) Q → WP (f ds) Q) {vs : List V} {H : Hp} {Q : VK} {E : XK} (s : spD g n f' vs H Q E) : spD g n f vs H Q E := by
  obtain ⟨hl, fa, H0, ds, b, r, q⟩ := s
  exact ⟨hl, fa, H0, ds, b, r, h _ _ q⟩
theorem Stg.sub {g : Gc} {tb : List Dfn} {F F' : Nat → List D → M D} {lv : Nat} (S : Stg g tb P w K mg base F lv) (h : ∀ k ds Q, WP (F' k ds) Q → WP (F k ds) Q) : Stg g tb P w K mg base F' lv :=
  ⟨fun k d e => by
    obtain ⟨a, fd, i1, i2, i3, i4⟩ := S.fns k d e
    refine ⟨a, fd, i1, i2, ?_, fun ds Q q => i4 ds Q (h k ds Q q)⟩
    exact ⟨fun vs H Q E s => i3.len vs H Q E (spD_sub (h k) s), fun A outer s H args us vs Q E room h1 h2 h3 h4 h5 => i3.run A outer s H args us vs Q E room h1 h2 h3 h4 (spD_sub (h k) h5)⟩, S.vals, S.pw⟩
theorem upd_sub {F : Nat → List D → M D} {i : Nat} {f f' : List D → M D} (h : ∀ ds Q, WP (f' ds) Q → WP (f ds) Q) : ∀ k ds Q, WP (updF F i f' k ds) Q → WP (updF F i f k ds) Q := fun k ds Q q => by
  unfold updF at q ⊢
  by_cases hk : k = i
  · rw [if_pos hk] at q ⊢; exact h ds Q q
  · rw [if_neg hk] at q ⊢; exact q
/-- the draw -/
def drawM : List D → M D
  | [.dict [(.none, .list l)], .int n] => need ((intsOf l).isSome && decide (0 < n ∧ n < 1073741824)) (.draw n.toNat fun r => .ret (.int r))
  | _ => .bad
theorem intsOf_map : ∀ ns : List Int, intsOf (ns.map .int) = some ns
  | [] => rfl
  | n :: r => by show (intsOf (r.map .int)).map (n :: ·) = _; rw [intsOf_map r]; rfl
theorem of_intsOf : ∀ {l : List D} {ns : List Int}, intsOf l = some ns → l = ns.map .int
  | [], ns, h => by cases h; rfl
  | .int i :: r, ns, h => by
    have h : (intsOf r).map (i :: ·) = some ns := h
    cases e : intsOf r with
    | none => rw [e] at h; cases h
    | some ms => rw [e] at h; cases h; rw [of_intsOf e]; rfl
theorem W_bind {α β : Type} {Q : β → Prop} {f : α → M β} {m : M α} : WP (m.bind f) Q = WP m (fun a => WP (f a) Q) := propext WP.bind
theorem W_need {α : Type} {c : Bool} {m : M α} {Q : α → Prop} : WP (need c m) Q = (c = true ∧ WP m Q) := by
  unfold need
  cases c
  · simp [WP]
  · simp
theorem W_ret {α : Type} (a : α) (Q : α → Prop) : WP (.ret a) Q = Q a := rfl
theorem W_if {α : Type} {c : Prop} [Decidable c] {a b : M α} {Q : α → Prop} : WP (if c then a else b) Q = ((c → WP a Q) ∧ (¬ c → WP b Q)) := by
  by_cases h : c <;> simp [h]
theorem W_draw {ns : List Int} {n : Int} {Q : D → Prop} : WP (drawM [feedD ns, .int n]) Q = ((0 < n ∧ n < 1073741824) ∧ ∀ r : Nat, (r : Int) < n → Q (.int r)) := by
  show WP (need ((intsOf (ns.map .int)).isSome && decide (0 < n ∧ n < 1073741824)) (.draw n.toNat fun r => .ret (.int r))) Q = _
  rw [W_need, intsOf_map, Option.isSome_some, Bool.true_and, decide_eq_true_eq]
  show (_ ∧ (0 < n.toNat ∧ ∀ r, r < n.toNat → Q (.int r))) = _
  refine propext ⟨fun ⟨h, h1, h2⟩ => ⟨h, fun r hr => h2 r (by omega)⟩, fun ⟨h, h2⟩ => ⟨h, by omega, fun r hr => h2 r (by omega)⟩⟩
theorem draw_sub {f : List D → M D} (h : DrawOk f) : ∀ ds Q, WP (drawM ds) Q → WP (f ds) Q := fun ds Q q => by
  unfold drawM at q
  split at q
  · rename_i l n
    have q' := q
    rw [W_need, Bool.and_eq_true] at q
    obtain ⟨ns, e⟩ := Option.isSome_iff_exists.mp q.1.1
    rw [of_intsOf e] at q' ⊢
    have q2 : WP (drawM [feedD ns, .int n]) Q := q'
    rw [W_draw] at q2
    obtain ⟨⟨h0, h1⟩, q2⟩ := q2
    have e : n = (n.toNat : Int) := by omega
    rw [e]
    exact (h ns n.toNat (by omega) (by omega)).mono fun d ⟨r, hr, ed⟩ => ed ▸ q2 r (by omega)
  · exact q.elim
end Pf
/-! PfZ2: rules for running by simp. The env is a written list (x :: ρ): nothing is run before it is known. -/
namespace Pf
open PySem
def kOut (k : Ev → Prop) (Q : Out → Prop) : Out → Prop
  | .nx ρ => k ρ
  | .ct ρ => Q (.ct ρ)
  | .bk ρ => Q (.bk ρ)
  | .rt d => Q (.rt d)
theorem kO_nx {k : Ev → Prop} {Q : Out → Prop} {ρ : Ev} : kOut k Q (.nx ρ) = k ρ := rfl
theorem kO_ct {k : Ev → Prop} {Q : Out → Prop} {ρ : Ev} : kOut k Q (.ct ρ) = Q (.ct ρ) := rfl
theorem kO_bk {k : Ev → Prop} {Q : Out → Prop} {ρ : Ev} : kOut k Q (.bk ρ) = Q (.bk ρ) := rfl
theorem kO_rt {k : Ev → Prop} {Q : Out → Prop} {d : D} : kOut k Q (.rt d) = Q (.rt d) := rfl
/-- a test -/
def kIf (k : Bool) (a b : Prop) : Prop := if k = true then a else b
theorem kIf_t {a b : Prop} : kIf true a b = a := rfl
theorem kIf_f {a b : Prop} : kIf false a b = b := rfl
theorem kIf_d {p : Prop} [Decidable p] {a b : Prop} : kIf (decide p) a b = ((p → a) ∧ (¬ p → b)) := by
  unfold kIf
  by_cases h : p <;> simp [h]
theorem kIf_n {p : Bool} {a b : Prop} : kIf (!p) a b = kIf p b a := by cases p <;> rfl
theorem kIf_of {p : Bool} {a b : Prop} (h1 : p = true → a) (h2 : p = false → b) : kIf p a b := by cases p; exact h2 rfl; exact h1 rfl
theorem W_if' {α : Type} {k : Bool} {a b : M α} {Q : α → Prop} : WP (if k = true then a else b) Q = kIf k (WP a Q) (WP b Q) := by cases k <;> rfl
section
variable {fu : Nat} {F : Nat → List D → M D} {x : Option SV} {ρ : Ev} {Q : Out → Prop} {R : D → Prop}
theorem X_nil : WP (exGo fu F .nil (x :: ρ)) Q = Q (.nx (x :: ρ)) := rfl
theorem X_cons {s r : Sx} : WP (exGo fu F (.cons s r) (x :: ρ)) Q = WP (exGo fu F s (x :: ρ)) (kOut (fun ρ1 => WP (exGo fu F r ρ1) Q) Q) := by
  show WP ((exGo fu F s (x :: ρ)).bind _) Q = _
  rw [W_bind]
  congr 1
  funext o
  cases o <;> rfl
theorem X_asg {tg e : Sx} : WP (exGo fu F (.asg tg e) (x :: ρ)) Q = WP (ev F e (x :: ρ)) fun d => WP (tgt tg d (x :: ρ)) fun ρ1 => Q (.nx ρ1) := by
  show WP ((ev F e (x :: ρ)).bind fun d => (tgt tg d (x :: ρ)).bind fun ρ1 => .ret (.nx ρ1)) Q = _
  simp only [W_bind, W_ret]
theorem X_asgO {i : Nat} {e : Sx} : WP (exGo fu F (.asgO i e) (x :: ρ)) Q = WP (ev F e (x :: ρ)) fun d => WP (lstD d) fun ds => isFr e = true ∧ Q (.nx (put (x :: ρ) i (.own (.list ds)))) := by
  show WP ((ev F e (x :: ρ)).bind fun d => match d with | .list ds => need (isFr e) (.ret (.nx (put (x :: ρ) i (.own (.list ds))))) | _ => .bad) Q = _
  rw [W_bind]
  congr 1
  funext d
  cases d <;> first | rfl | exact W_need
theorem X_par {i j : Nat} {oi oj : Bool} {a b : Sx} : WP (exGo fu F (.par i oi a j oj b) (x :: ρ)) Q = WP (ev F a (x :: ρ)) fun u => WP (ev F b (x :: ρ)) fun v => i ≠ j ∧ WP (mkV oi a u) fun p => WP (mkV oj b v) fun q => Q (.nx (put (put (x :: ρ) i p) j q)) := by
  show WP ((ev F a (x :: ρ)).bind fun u => (ev F b (x :: ρ)).bind fun v => need (decide (i ≠ j)) ((mkV oi a u).bind fun p => (mkV oj b v).bind fun q => .ret (.nx (put (put (x :: ρ) i p) j q)))) Q = _
  simp only [W_bind, W_need, W_ret, decide_eq_true_eq]
theorem X_bor {i j : Nat} {c e : Sx} : WP (exGo fu F (.bor i j c e) (x :: ρ)) Q = WP (tst c (ev F c) (x :: ρ)) fun k => kIf k (WP (ev F e (x :: ρ)) fun d => Q (.nx (put (x :: ρ) i (.dat d)))) (WP (go (x :: ρ) j) fun ds => noOwn (x :: ρ) i = true ∧ Q (.nx (put (x :: ρ) i (.bor (.list ds))))) := by
  show WP ((tst c (ev F c) (x :: ρ)).bind fun k => if k = true then (ev F e (x :: ρ)).bind fun d => .ret (.nx (put (x :: ρ) i (.dat d))) else (go (x :: ρ) j).bind fun ds => need (noOwn (x :: ρ) i) (.ret (.nx (put (x :: ρ) i (.bor (.list ds)))))) Q = _
  simp only [W_bind, W_need, W_ret, W_if']
theorem X_app {i : Nat} {e : Sx} : WP (exGo fu F (.app i e) (x :: ρ)) Q = WP (go (x :: ρ) i) fun ds => WP (ev F e (x :: ρ)) fun d => ds.length < sizeLine ∧ Q (.nx (chg (x :: ρ) i (ds ++ [d]))) := by
  show WP ((go (x :: ρ) i).bind fun ds => (ev F e (x :: ρ)).bind fun d => need (decide (ds.length < sizeLine)) (.ret (.nx (chg (x :: ρ) i (ds ++ [d]))))) Q = _
  simp only [W_bind, W_need, W_ret, decide_eq_true_eq]
theorem X_ext {i : Nat} {e : Sx} : WP (exGo fu F (.ext i e) (x :: ρ)) Q = WP (go (x :: ρ) i) fun ds => WP (rdv e (ev F e) (x :: ρ)) fun d => WP (lstD d) fun es => ds.length + es.length ≤ sizeLine ∧ Q (.nx (chg (x :: ρ) i (ds ++ es))) := by
  show WP ((go (x :: ρ) i).bind fun ds => (rdv e (ev F e) (x :: ρ)).bind fun d => (lstD d).bind fun es => need (decide (ds.length + es.length ≤ sizeLine)) (.ret (.nx (chg (x :: ρ) i (ds ++ es))))) Q = _
  simp only [W_bind, W_need, W_ret, decide_eq_true_eq]
/-- what remove leaves -/
def rmvM (ds : List D) (d : D) : M (List D) := match intsOf ds, d, rmvD d ds with
    | some _, .int _, some es => .ret es
    | _, _, _ => .bad
theorem X_rmv {i : Nat} {e : Sx} : WP (exGo fu F (.rmv i e) (x :: ρ)) Q = WP (go (x :: ρ) i) fun ds => WP (ev F e (x :: ρ)) fun d => WP (rmvM ds d) fun es => Q (.nx (chg (x :: ρ) i es)) := by
  show WP ((go (x :: ρ) i).bind fun ds => (ev F e (x :: ρ)).bind fun d => match intsOf ds, d, rmvD d ds with
    | some _, .int _, some es => .ret (.nx (chg (x :: ρ) i es))
    | _, _, _ => .bad) Q = _
  simp only [W_bind]
  congr 1
  funext ds
  congr 1
  funext d
  unfold rmvM
  cases intsOf ds <;> cases d <;> cases rmvD _ ds <;> rfl
def popM (ds : List D) (k : Int) : M (D × List D) := match popD ds k with
    | some p => .ret p
    | none => .bad
theorem X_popS {i : Nat} {e : Sx} : WP (exGo fu F (.popS i e) (x :: ρ)) Q = WP (go (x :: ρ) i) fun ds => WP (ev F e (x :: ρ)) fun d => WP (intD d) fun k => WP (popM ds k) fun p => Q (.nx (chg (x :: ρ) i p.2)) := by
  show WP ((go (x :: ρ) i).bind fun ds => (ev F e (x :: ρ)).bind fun d => (intD d).bind fun k => match popD ds k with
    | some (_, es) => .ret (.nx (chg (x :: ρ) i es))
    | none => .bad) Q = _
  simp only [W_bind]
  congr 1; funext ds; congr 1; funext d; congr 1; funext k
  unfold popM
  cases popD ds k <;> rfl
theorem X_appPop {i j : Nat} {e : Sx} : WP (exGo fu F (.appPop i j e) (x :: ρ)) Q = WP (go (x :: ρ) i) fun cs => WP (go (x :: ρ) j) fun ds => WP (ev F e (x :: ρ)) fun d => WP (intD d) fun k => WP (popM ds k) fun p => (cs.length < sizeLine ∧ i ≠ j) ∧ Q (.nx (chg (chg (x :: ρ) j p.2) i (cs ++ [p.1]))) := by
  show WP ((go (x :: ρ) i).bind fun cs => (go (x :: ρ) j).bind fun ds => (ev F e (x :: ρ)).bind fun d => (intD d).bind fun k => match popD ds k with
    | some (z, es) => need (decide (cs.length < sizeLine ∧ i ≠ j)) (.ret (.nx (chg (chg (x :: ρ) j es) i (cs ++ [z]))))
    | none => .bad) Q = _
  simp only [W_bind]
  congr 1; funext cs; congr 1; funext ds; congr 1; funext d; congr 1; funext k
  unfold popM
  cases popD ds k with
  | none => rfl
  | some p =>
    obtain ⟨z, es⟩ := p
    show WP (need _ _) Q = _
    rw [W_need, decide_eq_true_eq]
    rfl
theorem X_augI {i : Nat} {e : Sx} : WP (exGo fu F (.augI i e) (x :: ρ)) Q = WP (gs (x :: ρ) i) fun u => WP (ev F e (x :: ρ)) fun v => WP (intD u) fun a => WP (intD v) fun b => Q (.nx (put (x :: ρ) i (.dat (.int (a + b))))) := by
  show WP ((gs (x :: ρ) i).bind fun u => (ev F e (x :: ρ)).bind fun v => (intD u).bind fun a => (intD v).bind fun b => .ret (.nx (put (x :: ρ) i (.dat (.int (a + b)))))) Q = _
  simp only [W_bind, W_ret]
theorem X_iff {c a b : Sx} : WP (exGo fu F (.iff c a b) (x :: ρ)) Q = WP (tst c (ev F c) (x :: ρ)) fun k => kIf k (WP (exGo fu F a (x :: ρ)) Q) (WP (exGo fu F b (x :: ρ)) Q) := by
  show WP ((tst c (ev F c) (x :: ρ)).bind fun k => if k = true then exGo fu F a (x :: ρ) else exGo fu F b (x :: ρ)) Q = _
  simp only [W_bind, W_if']
theorem X_for {tg it b : Sx} : WP (exGo fu F (.forS tg it b) (x :: ρ)) Q = WP (ev F it (x :: ρ)) fun d => WP (itmD d) fun ds => WP (forGo (tgt tg) (exGo fu F b) ds (x :: ρ)) Q := by
  show WP ((ev F it (x :: ρ)).bind fun d => (itmD d).bind fun ds => forGo (tgt tg) (exGo fu F b) ds (x :: ρ)) Q = _
  simp only [W_bind]
theorem X_ret {e : Sx} : WP (exGo fu F (.ret e) (x :: ρ)) Q = WP (rdv e (ev F e) (x :: ρ)) fun d => Q (.rt d) := by
  show WP ((rdv e (ev F e) (x :: ρ)).bind fun d => .ret (.rt d)) Q = _
  simp only [W_bind, W_ret]
theorem X_retN : WP (exGo fu F .retN (x :: ρ)) Q = Q (.rt .none) := rfl
theorem X_cont : WP (exGo fu F .cont (x :: ρ)) Q = Q (.ct (x :: ρ)) := rfl
theorem X_brk : WP (exGo fu F .brk (x :: ρ)) Q = Q (.bk (x :: ρ)) := rfl
theorem X_pas : WP (exGo fu F .pas (x :: ρ)) Q = Q (.nx (x :: ρ)) := rfl
theorem X_expr {e : Sx} : WP (exGo fu F (.expr e) (x :: ρ)) Q = WP (ev F e (x :: ρ)) fun _ => Q (.nx (x :: ρ)) := by
  show WP ((ev F e (x :: ρ)).bind fun _ => .ret (.nx (x :: ρ))) Q = _
  simp only [W_bind, W_ret]
theorem X_frz {i : Nat} : WP (exGo fu F (.frz i) (x :: ρ)) Q = WP (frzD (x :: ρ) i) fun ρ1 => Q (.nx ρ1) := by
  show WP ((frzD (x :: ρ) i).bind fun ρ1 => .ret (.nx ρ1)) Q = _
  simp only [W_bind, W_ret]
/-- a def's end -/
def kEnd (R : D → Prop) : Out → Prop
  | .rt d => R d
  | .nx _ => R .none
  | _ => False
theorem kE_rt {d : D} : kEnd R (.rt d) = R d := rfl
theorem kE_nx : kEnd R (.nx ρ) = R .none := rfl
theorem X_run {n : Nat} {b : Sx} {ds : List D} : WP (runD fu n F b ds) R = WP (exGo fu F b (ev0 n ds)) (kEnd R) := by
  show WP ((exGo fu F b (ev0 n ds)).bind _) R = _
  rw [W_bind]
  congr 1
  funext o
  cases o <;> rfl
theorem E_var {i : Nat} : WP (ev F (.var i) (x :: ρ)) R = WP (gs (x :: ρ) i) R := rfl
theorem E_cst {d : D} : WP (ev F (.cst d) (x :: ρ)) R = R d := rfl
theorem E_glob {n : Str} {d : D} : WP (ev F (.glob n d) (x :: ρ)) R = R d := rfl
theorem E_fref {n : Str} {k : Nat} : WP (ev F (.fref n k) (x :: ρ)) R = R (fnD k) := rfl
theorem E_nil : WP (ev F .nil (x :: ρ)) R = R (.list []) := rfl
theorem E_cons {e a : Sx} : WP (ev F (.cons e a) (x :: ρ)) R = WP (ev F e (x :: ρ)) fun d => WP (ev F a (x :: ρ)) fun u => WP (lstD u) fun ds => R (.list (d :: ds)) := by
  show WP ((ev F e (x :: ρ)).bind fun d => (ev F a (x :: ρ)).bind fun u => (lstD u).bind fun ds => .ret (.list (d :: ds))) R = _
  simp only [W_bind, W_ret]
theorem E_tup {a : Sx} : WP (ev F (.tup a) (x :: ρ)) R = WP (ev F a (x :: ρ)) fun u => WP (lstD u) fun ds => ds.length ≤ sizeLine ∧ R (.tuple ds) := by
  show WP ((ev F a (x :: ρ)).bind fun u => (lstD u).bind fun ds => need (decide (ds.length ≤ sizeLine)) (.ret (.tuple ds))) R = _
  simp only [W_bind, W_ret, W_need, decide_eq_true_eq]
theorem E_lst {a : Sx} : WP (ev F (.lst a) (x :: ρ)) R = WP (ev F a (x :: ρ)) fun u => WP (lstD u) fun ds => ds.length ≤ sizeLine ∧ R (.list ds) := by
  show WP ((ev F a (x :: ρ)).bind fun u => (lstD u).bind fun ds => need (decide (ds.length ≤ sizeLine)) (.ret (.list ds))) R = _
  simp only [W_bind, W_ret, W_need, decide_eq_true_eq]
theorem E_call {k : Nat} {a : Sx} : WP (ev F (.call k a) (x :: ρ)) R = WP (ev F a (x :: ρ)) fun u => WP (lstD u) fun ds => WP (F k ds) R := by
  show WP ((ev F a (x :: ρ)).bind fun u => (lstD u).bind fun ds => F k ds) R = _
  simp only [W_bind]
theorem E_callk {k : Nat} {p : List Nat} {a : Sx} : WP (ev F (.callk k p a) (x :: ρ)) R = WP (ev F a (x :: ρ)) fun u => WP (lstD u) fun vs => WP (permD vs p) fun ds => WP (F k ds) R := by
  show WP ((ev F a (x :: ρ)).bind fun u => (lstD u).bind fun vs => (permD vs p).bind fun ds => F k ds) R = _
  simp only [W_bind]
theorem E_bi {b : Bi} {a : Sx} : WP (ev F (.bi b a) (x :: ρ)) R = WP (rdv a (ev F a) (x :: ρ)) fun d => WP (bi1 b d) R := by
  show WP ((rdv a (ev F a) (x :: ρ)).bind fun d => bi1 b d) R = _
  simp only [W_bind]
theorem E_biIf {b : Bi} {k a d : Sx} : WP (ev F (.biIf b k a d) (x :: ρ)) R = WP (tst k (ev F k) (x :: ρ)) fun z => kIf z (WP (rdv a (ev F a) (x :: ρ)) fun u => WP (bi1 b u) R) (WP (rdv d (ev F d) (x :: ρ)) fun u => WP (bi1 b u) R) := by
  show WP (((tst k (ev F k) (x :: ρ)).bind fun z => if z = true then rdv a (ev F a) (x :: ρ) else rdv d (ev F d) (x :: ρ)).bind fun u => bi1 b u) R = _
  simp only [W_bind, W_if']
theorem E_isi {e : Sx} {t : Ty} : WP (ev F (.isi e t) (x :: ρ)) R = WP (rdv e (ev F e) (x :: ρ)) fun d => plainD d = true ∧ R (.bool (isTy t d)) := by
  show WP ((rdv e (ev F e) (x :: ρ)).bind fun d => need (plainD d) (.ret (.bool (isTy t d)))) R = _
  simp only [W_bind, W_need, W_ret]
theorem E_bin {o : Op2} {a b : Sx} : WP (ev F (.bin o a b) (x :: ρ)) R = WP (rdv a (ev F a) (x :: ρ)) fun u => WP (rdv b (ev F b) (x :: ρ)) fun v => WP (op2 o u v) R := by
  show WP ((rdv a (ev F a) (x :: ρ)).bind fun u => (rdv b (ev F b) (x :: ρ)).bind fun v => op2 o u v) R = _
  simp only [W_bind]
theorem E_cmp {o : Cm} {a b : Sx} : WP (ev F (.cmp o a b) (x :: ρ)) R = WP (rdv a (ev F a) (x :: ρ)) fun u => WP (rdv b (ev F b) (x :: ρ)) fun v => WP (cmp2 o u v) R := by
  show WP ((rdv a (ev F a) (x :: ρ)).bind fun u => (rdv b (ev F b) (x :: ρ)).bind fun v => cmp2 o u v) R = _
  simp only [W_bind]
theorem E_neg {a : Sx} : WP (ev F (.neg a) (x :: ρ)) R = WP (ev F a (x :: ρ)) fun u => WP (intD u) fun i => R (.int (-i)) := by
  show WP ((ev F a (x :: ρ)).bind fun u => (intD u).bind fun i => .ret (.int (-i))) R = _
  simp only [W_bind, W_ret]
theorem E_nt {a : Sx} : WP (ev F (.nt a) (x :: ρ)) R = WP (tst a (ev F a) (x :: ρ)) fun k => R (.bool !k) := by
  show WP ((tst a (ev F a) (x :: ρ)).bind fun k => .ret (.bool !k)) R = _
  simp only [W_bind, W_ret]
theorem E_and {a b : Sx} : WP (ev F (.and a b) (x :: ρ)) R = WP (ev F a (x :: ρ)) fun u => WP (truD u) fun k => kIf k (WP (ev F b (x :: ρ)) R) (R u) := by
  show WP ((ev F a (x :: ρ)).bind fun u => (truD u).bind fun k => if k = true then ev F b (x :: ρ) else .ret u) R = _
  simp only [W_bind, W_ret, W_if']
theorem E_or {a b : Sx} : WP (ev F (.or a b) (x :: ρ)) R = WP (ev F a (x :: ρ)) fun u => WP (truD u) fun k => kIf k (R u) (WP (ev F b (x :: ρ)) R) := by
  show WP ((ev F a (x :: ρ)).bind fun u => (truD u).bind fun k => if k = true then .ret u else ev F b (x :: ρ)) R = _
  simp only [W_bind, W_ret, W_if']
theorem E_ifx {c a b : Sx} : WP (ev F (.ifx c a b) (x :: ρ)) R = WP (tst c (ev F c) (x :: ρ)) fun k => kIf k (WP (ev F a (x :: ρ)) R) (WP (ev F b (x :: ρ)) R) := by
  show WP ((tst c (ev F c) (x :: ρ)).bind fun k => if k = true then ev F a (x :: ρ) else ev F b (x :: ρ)) R = _
  simp only [W_bind, W_if']
theorem E_idx {a b : Sx} : WP (ev F (.idx a b) (x :: ρ)) R = WP (rdv a (ev F a) (x :: ρ)) fun u => WP (ev F b (x :: ρ)) fun v => WP (idx2 u v) R := by
  show WP ((rdv a (ev F a) (x :: ρ)).bind fun u => (ev F b (x :: ρ)).bind fun v => idx2 u v) R = _
  simp only [W_bind]
theorem E_sl {a lo hi : Sx} : WP (ev F (.sl a lo hi) (x :: ρ)) R = WP (rdv a (ev F a) (x :: ρ)) fun u => WP (optv lo (ev F lo) (x :: ρ)) fun i => WP (optv hi (ev F hi) (x :: ρ)) fun j => WP (sl2 u i j) R := by
  show WP ((rdv a (ev F a) (x :: ρ)).bind fun u => (optv lo (ev F lo) (x :: ρ)).bind fun i => (optv hi (ev F hi) (x :: ρ)).bind fun j => sl2 u i j) R = _
  simp only [W_bind]
def revM : D → M D
  | .list ds => .ret (.list ds.reverse)
  | .tuple ds => .ret (.tuple ds.reverse)
  | _ => .bad
theorem E_rev {a : Sx} : WP (ev F (.rev a) (x :: ρ)) R = WP (rdv a (ev F a) (x :: ρ)) fun u => WP (revM u) R := by
  show WP ((rdv a (ev F a) (x :: ρ)).bind fun u => match u with
    | .list ds => .ret (.list ds.reverse)
    | .tuple ds => .ret (.tuple ds.reverse)
    | _ => .bad) R = _
  rw [W_bind]
  rfl
theorem rev_l {ds : List D} : revM (.list ds) = .ret (.list ds.reverse) := rfl
theorem rev_t {ds : List D} : revM (.tuple ds) = .ret (.tuple ds.reverse) := rfl
theorem E_rng1 {a : Sx} : WP (ev F (.rng1 a) (x :: ρ)) R = WP (ev F a (x :: ρ)) fun u => WP (intD u) fun i => (-4611686018427387904 ≤ i ∧ i ≤ 1000000) ∧ R (.list (intR 0 i.toNat)) := by
  show WP ((ev F a (x :: ρ)).bind fun u => (intD u).bind fun i => need (decide (-(2 ^ 62) ≤ i ∧ i ≤ 1000000)) (.ret (.list (intR 0 i.toNat)))) R = _
  simp only [W_bind, W_ret, W_need, decide_eq_true_eq, p62]
theorem E_lrng {a : Sx} : WP (ev F (.lrng a) (x :: ρ)) R = WP (ev F a (x :: ρ)) fun u => WP (intD u) fun i => (-4611686018427387904 ≤ i ∧ i ≤ 1000000) ∧ R (.list (intR 0 i.toNat)) := by
  show WP ((ev F a (x :: ρ)).bind fun u => (intD u).bind fun i => need (decide (-(2 ^ 62) ≤ i ∧ i ≤ 1000000)) (.ret (.list (intR 0 i.toNat)))) R = _
  simp only [W_bind, W_ret, W_need, decide_eq_true_eq, p62]
theorem E_trng {a : Sx} : WP (ev F (.trng a) (x :: ρ)) R = WP (ev F a (x :: ρ)) fun u => WP (intD u) fun i => (-4611686018427387904 ≤ i ∧ i ≤ 1000000) ∧ R (.tuple (intR 0 i.toNat)) := by
  show WP ((ev F a (x :: ρ)).bind fun u => (intD u).bind fun i => need (decide (-(2 ^ 62) ≤ i ∧ i ≤ 1000000)) (.ret (.tuple (intR 0 i.toNat)))) R = _
  simp only [W_bind, W_ret, W_need, decide_eq_true_eq, p62]
theorem E_lc {own : List Nat} {tg it cd elt : Sx} : WP (ev F (.lc own tg it cd elt) (x :: ρ)) R = WP (itmv it (ev F it) (x :: ρ)) fun ds => datOnly (x :: ρ) own = true ∧ WP (lcGo (fun d => tgt tg d (wip (x :: ρ) own)) (tst cd (ev F cd)) (ev F elt) ds) fun ys => R (.list ys) := by
  show WP ((itmv it (ev F it) (x :: ρ)).bind fun ds => need (datOnly (x :: ρ) own) ((lcGo (fun d => tgt tg d (wip (x :: ρ) own)) (tst cd (ev F cd)) (ev F elt) ds).bind fun ys => .ret (.list ys))) R = _
  simp only [W_bind, W_ret, W_need]
def upM : D → M D
  | .str a => need (decide (a.length ≤ 5592405)) (.ret (.str (Txt.upper a)))
  | _ => .bad
theorem E_upper {e : Sx} : WP (ev F (.upper e) (x :: ρ)) R = WP (ev F e (x :: ρ)) fun d => WP (upM d) R := by
  show WP ((ev F e (x :: ρ)).bind fun d => match d with
    | .str a => need (decide (a.length ≤ 5592405)) (.ret (.str (Txt.upper a)))
    | _ => .bad) R = _
  rw [W_bind]
  rfl
def stepM (n : Nat) : D → D → M D
  | .list ds, .int i => need (decide (n ≠ 0 ∧ (stepD ds i n).length ≤ sizeLine)) (.ret (.list (stepD ds i n)))
  | _, _ => .bad
theorem E_step {a lo : Sx} {n : Nat} : WP (ev F (.step a lo n) (x :: ρ)) R = WP (rdv a (ev F a) (x :: ρ)) fun u => WP (ev F lo (x :: ρ)) fun v => WP (stepM n u v) R := by
  show WP ((rdv a (ev F a) (x :: ρ)).bind fun u => (ev F lo (x :: ρ)).bind fun v => match u, v with
    | .list ds, .int i => need (decide (n ≠ 0 ∧ (stepD ds i n).length ≤ sizeLine)) (.ret (.list (stepD ds i n)))
    | _, _ => .bad) R = _
  simp only [W_bind]
  rfl
end
theorem T_var {i : Nat} {d : D} {x : Option SV} {ρ : Ev} {Q : Ev → Prop} : WP (tgt (.var i) d (x :: ρ)) Q = Q (put (x :: ρ) i (.dat d)) := rfl
theorem T_tup {a : Sx} {ds : List D} {x : Option SV} {ρ : Ev} {Q : Ev → Prop} : WP (tgt (.tup a) (.tuple ds) (x :: ρ)) Q = WP (tgt a (.list ds) (x :: ρ)) Q := rfl
theorem T_nil {x : Option SV} {ρ : Ev} {Q : Ev → Prop} : WP (tgt .nil (.list []) (x :: ρ)) Q = Q (x :: ρ) := rfl
theorem T_cons {t a : Sx} {d : D} {ds : List D} {x : Option SV} {ρ : Ev} {Q : Ev → Prop} : WP (tgt (.cons t a) (.list (d :: ds)) (x :: ρ)) Q = WP (tgt t d (x :: ρ)) fun ρ1 => WP (tgt a (.list ds) ρ1) Q := by
  show WP ((tgt t d (x :: ρ)).bind fun ρ1 => tgt a (.list ds) ρ1) Q = _
  rw [W_bind]
theorem tg_var {i : Nat} {d : D} {x : Option SV} {ρ : Ev} : tgt (.var i) d (x :: ρ) = .ret (put (x :: ρ) i (.dat d)) := rfl
/-- a slot with data or nothing -/
def dz (o : Option D) : Option SV := o.map .dat
theorem dz_n : (none : Option SV) = dz none := rfl
theorem dz_s {d : D} : some (SV.dat d) = dz (some d) := rfl
def isOwn : Option SV → Bool
  | some (.own _) => true
  | _ => false
theorem io_o {d : D} : isOwn (some (.own d)) = true := rfl
theorem io_d {d : D} : isOwn (some (.dat d)) = false := rfl
theorem io_b {d : D} : isOwn (some (.bor d)) = false := rfl
theorem io_n : isOwn none = false := rfl
theorem io_z {o : Option D} : isOwn (dz o) = false := by cases o <;> rfl
theorem put_eq {ρ : Ev} {i : Nat} {v : SV} : put ρ i v = if isOwn (ρ[i]?.getD none) = true then (clr ρ).set i (some v) else ρ.set i (some v) := by
  unfold put
  cases h : ρ[i]? with
  | none => rfl
  | some o =>
    cases o with
    | none => rfl
    | some x => cases x <;> rfl
theorem noOwn_eq {ρ : Ev} {i : Nat} : noOwn ρ i = !isOwn (ρ[i]?.getD none) := by
  unfold noOwn
  cases h : ρ[i]? with
  | none => rfl
  | some o =>
    cases o with
    | none => rfl
    | some x => cases x <;> rfl
theorem datOnly_eq {ρ : Ev} {vs : List Nat} : datOnly ρ vs = vs.all fun i => !isOwn (ρ[i]?.getD none) := by
  unfold datOnly
  congr 1
  funext i
  exact noOwn_eq
theorem clr_z {o : Option D} : clr1 (dz o) = dz o := by cases o <;> rfl
theorem clr_o {d : D} : clr1 (some (.own d)) = some (.own d) := rfl
theorem clr_d {d : D} : clr1 (some (.dat d)) = some (.dat d) := rfl
theorem clr_b {d : D} : clr1 (some (.bor d)) = none := rfl
theorem clr_n : clr1 none = none := rfl
/-- a for's step -/
def kFor (I : Ev → Prop) (Q : Out → Prop) : Out → Prop
  | .nx ρ => I ρ
  | .ct ρ => I ρ
  | .bk ρ => Q (.nx ρ)
  | .rt v => Q (.rt v)
theorem kF_nx {I : Ev → Prop} {Q : Out → Prop} {ρ : Ev} : kFor I Q (.nx ρ) = I ρ := rfl
theorem kF_ct {I : Ev → Prop} {Q : Out → Prop} {ρ : Ev} : kFor I Q (.ct ρ) = I ρ := rfl
theorem kF_bk {I : Ev → Prop} {Q : Out → Prop} {ρ : Ev} : kFor I Q (.bk ρ) = Q (.nx ρ) := rfl
theorem kF_rt {I : Ev → Prop} {Q : Out → Prop} {d : D} : kFor I Q (.rt d) = Q (.rt d) := rfl
/-- a for: what is left, and the env -/
theorem wp_forI {tg b : Sx} {fu : Nat} {F : Nat → List D → M D} (I : List D → Ev → Prop) {Q : Out → Prop} {ds : List D} {ρ : Ev} (h0 : I ds ρ) (step : ∀ d r ρ, I (d :: r) ρ → WP (tgt tg d ρ) fun ρ1 => WP (exGo fu F b ρ1) (kFor (I r) Q)) (fin : ∀ ρ, I [] ρ → Q (.nx ρ)) : WP (forGo (tgt tg) (exGo fu F b) ds ρ) Q :=
  wp_for (I := I) (fun d r ρ h => by
    rw [W_bind]
    refine (step d r ρ h).mono fun ρ1 h1 => h1.mono fun o ho => ?_
    cases o <;> exact ho) fin ds ρ h0
theorem sz0 (n : Nat) (h : n ≤ 100000) : n ≤ sizeLine := by rw [sizeLine_eq]; omega
theorem sz1 (n : Nat) (h : n < 100000) : n < sizeLine := by rw [sizeLine_eq]; omega
theorem ixq {ds : List D} {k : Nat} (hk : k < ds.length) : seqIndex? (k : Int) ds.length = some k := by
  unfold seqIndex?
  simp [hk]
  try omega
theorem popq {ds : List D} {k : Nat} (hk : k < ds.length) (hb : ds.length ≤ 1000) : popD ds (k : Int) = some (ds[k], ds.eraseIdx k) := by
  unfold popD
  rw [if_pos (by omega), ixq hk]
  simp [hk]
theorem popM_of {ds : List D} {k : Int} {p : D × List D} (h : popD ds k = some p) : popM ds k = .ret p := by simp only [popM, h]
theorem W_pop {ds : List D} {k : Nat} {Q : D × List D → Prop} (hk : k < ds.length) (hb : ds.length ≤ 1000) : WP (popM ds (k : Int)) Q = Q (ds[k], ds.eraseIdx k) := by
  rw [popM_of (popq hk hb), W_ret]
/-- the menu's item at a drawn place -/
theorem pick_l {ds : List D} {n : Int} {Q : D → Prop} (h : (ds.length : Int) = n) : (∀ r : Nat, (r : Int) < n → WP (idx2 (.list ds) (.int r)) Q) = ∀ d ∈ ds, Q d := by
  subst h
  refine propext ⟨fun w d hd => ?_, fun w r hr => ?_⟩
  · obtain ⟨i, hi, rfl⟩ := List.mem_iff_getElem.mp hd
    have := w i (by omega)
    rw [ix_inL (List.getElem?_eq_getElem hi)] at this
    exact this
  · have hr' : r < ds.length := by omega
    rw [ix_inL (List.getElem?_eq_getElem hr')]
    exact w _ (List.getElem_mem hr')
theorem pick_of {ds : List D} {n : Int} {Q : D → Prop} (h : (ds.length : Int) = n) (w : ∀ d ∈ ds, Q d) : ∀ r : Nat, (r : Int) < n → WP (idx2 (.list ds) (.int r)) Q := by
  rw [pick_l h]
  exact w
/-- a slot with an own list or nothing -/
def oz (o : Option (List D)) : Option SV := o.map fun ds => .own (.list ds)
theorem oz_c {o : Option (List D)} : clr1 (oz o) = oz o := by cases o <;> rfl
theorem oz_i {o : Option (List D)} : isOwn (oz o) = o.isSome := by cases o <;> rfl
theorem sh_i (a : Int) : SeqAt.shaped (.int a) = true := rfl
theorem eqv_i (a b : Int) : PyData.eqv (.int a) (.int b) = decide (a = b) := by
  simp only [PyData.eqv]
  rfl
theorem c_eqI (a b : Int) : cmp2 .eq (.int a) (.int b) = .ret (.bool (decide (a = b))) := by
  rw [c_eq, k_i, sh_i, sh_i, eqv_i]
  rfl
theorem wp_lc_flt {b : D → M Ev} {t : Ev → M Bool} {e : Ev → M D} {p : D → Bool} : ∀ {ds : List D} {Q : List D → Prop}, (∀ d ∈ ds, WP (b d) fun ρ => WP (t ρ) fun c => c = p d ∧ WP (e ρ) fun y => y = d) → Q (ds.filter p) → WP (lcGo b t e ds) Q
  | [], Q, _, q => q
  | d :: r, Q, h, q => by
    show WP ((b d).bind fun ρ => (t ρ).bind fun c => if c = true then (e ρ).bind fun y => (lcGo b t e r).bind fun ys => .ret (y :: ys) else lcGo b t e r) Q
    simp only [W_bind]
    refine (h d List.mem_cons_self).mono fun ρ h1 => h1.mono fun c ⟨h2, h3⟩ => ?_
    have hr : ∀ d ∈ r, _ := fun d hd => h d (List.mem_cons_of_mem _ hd)
    subst h2
    cases hp : p d with
    | true =>
      rw [if_pos rfl, W_bind]
      refine h3.mono fun y hy => ?_
      subst hy
      rw [W_bind]
      refine wp_lc_flt hr ?_
      rw [List.filter_cons, if_pos hp] at q
      exact q
    | false =>
      rw [if_neg (by simp)]
      refine wp_lc_flt hr ?_
      rw [List.filter_cons, if_neg (by rw [hp]; simp)] at q
      exact q
theorem wp_lc_map {b : D → M Ev} {t : Ev → M Bool} {e : Ev → M D} {f : D → D} : ∀ {ds : List D} {Q : List D → Prop}, (∀ d ∈ ds, WP (b d) fun ρ => WP (t ρ) fun c => c = true ∧ WP (e ρ) fun y => y = f d) → Q (ds.map f) → WP (lcGo b t e ds) Q
  | [], Q, _, q => q
  | d :: r, Q, h, q => by
    show WP ((b d).bind fun ρ => (t ρ).bind fun c => if c = true then (e ρ).bind fun y => (lcGo b t e r).bind fun ys => .ret (y :: ys) else lcGo b t e r) Q
    simp only [W_bind]
    refine (h d List.mem_cons_self).mono fun ρ h1 => h1.mono fun c ⟨h2, h3⟩ => ?_
    subst h2
    rw [if_pos rfl, W_bind]
    refine h3.mono fun y hy => ?_
    subst hy
    rw [W_bind]
    exact wp_lc_map (fun d hd => h d (List.mem_cons_of_mem _ hd)) q
end Pf
/-! PfZ3: tame data by their leaves, depth and size. -/
namespace Pf
open PySem
mutual
def lf (I : Nat) : D → Bool
  | .none => true
  | .bool _ => true
  | .int i => decide (i.natAbs ≤ I)
  | .str x => x.cps.toList.all fun c => decide (c < 128)
  | .list xs => lfA I xs
  | .tuple xs => lfA I xs
  | .dict _ => false
def lfA (I : Nat) : List D → Bool
  | [] => true
  | x :: xs => lf I x && lfA I xs
end
mutual
def sz : D → Nat
  | .none => 1
  | .bool _ => 1
  | .int _ => 1
  | .str x => x.cps.toList.length + 1
  | .list xs => szA xs + 1
  | .tuple xs => szA xs + 1
  | .dict _ => 1
def szA : List D → Nat
  | [] => 0
  | x :: xs => sz x + szA xs
end
theorem lfA_iff {I : Nat} : ∀ {xs : List D}, lfA I xs = true ↔ ∀ x ∈ xs, lf I x = true
  | [] => ⟨fun _ x h => (by cases h), fun _ => (by simp only [lfA])⟩
  | x :: xs => by
    simp only [lfA, Bool.and_eq_true, lfA_iff (xs := xs), List.mem_cons, forall_eq_or_imp]
theorem str_lay {x : Str} (h : x.cps.toList.all (fun c => decide (c < 128)) = true) : (PyData.str x).canLay0 = true := by
  simp only [PyData.canLay0, PyData.strOk, Array.all_eq_true']
  intro c hc
  have := List.all_eq_true.mp h c (Array.mem_toList_iff.mpr hc)
  simp only [decide_eq_true_eq] at this ⊢
  omega
mutual
theorem lf_mono {I J : Nat} (h : I ≤ J) : ∀ d : D, lf I d = true → lf J d = true
  | .none, _ => by simp only [lf]
  | .bool _, _ => by simp only [lf]
  | .int i, q => by simp only [lf, decide_eq_true_eq] at q ⊢; omega
  | .str x, q => by simp only [lf] at q ⊢; exact q
  | .list xs, q => by simp only [lf] at q ⊢; exact lfA_mono h xs q
  | .tuple xs, q => by simp only [lf] at q ⊢; exact lfA_mono h xs q
  | .dict _, q => by simp only [lf] at q; cases q
theorem lfA_mono {I J : Nat} (h : I ≤ J) : ∀ xs : List D, lfA I xs = true → lfA J xs = true
  | [], _ => by simp only [lfA]
  | x :: xs, q => by
    simp only [lfA, Bool.and_eq_true] at q ⊢
    exact ⟨lf_mono h x q.1, lfA_mono h xs q.2⟩
end
mutual
theorem lf_lay {I : Nat} : ∀ d : D, lf I d = true → d.canLay0 = true
  | .none, _ => by simp only [PyData.canLay0]
  | .bool _, _ => by simp only [PyData.canLay0]
  | .int i, q => by simp only [PyData.canLay0]
  | .str x, q => by simp only [lf] at q; exact str_lay q
  | .list xs, q => by simp only [lf, PyData.canLay0] at q ⊢; exact lfA_lay xs q
  | .tuple xs, q => by simp only [lf, PyData.canLay0] at q ⊢; exact lfA_lay xs q
  | .dict _, q => by simp only [lf] at q; cases q
theorem lfA_lay {I : Nat} : ∀ xs : List D, lfA I xs = true → PyData.canLayAll0 xs = true
  | [], _ => by simp only [PyData.canLayAll0]
  | x :: xs, q => by
    simp only [lfA, PyData.canLayAll0, Bool.and_eq_true] at q ⊢
    exact ⟨lf_lay x q.1, lfA_lay xs q.2⟩
end
theorem log_lt {n : Nat} (h : n ≤ 10 ^ 60) : n.log2 < 1920 := by
  rcases Nat.eq_zero_or_pos n with e | e
  · subst e; decide
  · exact (Nat.log2_lt (by omega)).mpr (Nat.lt_of_le_of_lt h (by decide +kernel))
mutual
theorem lf_show {I : Nat} (h : I ≤ 10 ^ 60) : ∀ d : D, lf I d = true → d.showable = true
  | .none, _ => by simp only [PyData.showable]
  | .bool _, _ => by simp only [PyData.showable]
  | .int i, q => by simp only [lf, PyData.showable, decide_eq_true_eq] at q ⊢; exact log_lt (Nat.le_trans q h)
  | .str x, q => by simp only [PyData.showable]
  | .list xs, q => by simp only [lf, PyData.showable] at q ⊢; exact lfA_show h xs q
  | .tuple xs, q => by simp only [lf, PyData.showable] at q ⊢; exact lfA_show h xs q
  | .dict _, q => by simp only [lf] at q; cases q
theorem lfA_show {I : Nat} (h : I ≤ 10 ^ 60) : ∀ xs : List D, lfA I xs = true → PyData.showableAll xs = true
  | [], _ => by simp only [PyData.showableAll]
  | x :: xs, q => by
    simp only [lfA, PyData.showableAll, Bool.and_eq_true] at q ⊢
    exact ⟨lf_show h x q.1, lfA_show h xs q.2⟩
end
theorem shw_int {i : Int} (h : i.natAbs ≤ 10 ^ 60) : (PyData.shown (.int i)).length ≤ 62 := by
  have e := int_text_length_le10 (a := i) (k := 61) (by decide) (Nat.lt_of_le_of_lt h (by decide +kernel))
  simp only [PyData.shown]
  show (Str.ofString (toString i)).length ≤ 62
  rw [ofString_length]
  exact e
mutual
theorem lf_short {I : Nat} (h : I ≤ 10 ^ 60) : ∀ d : D, lf I d = true → d.leavesShort 62 = true
  | .none, _ => by simp only [PyData.leavesShort]
  | .bool _, _ => by simp only [PyData.leavesShort]
  | .int i, q => by simp only [lf, PyData.leavesShort, decide_eq_true_eq] at q ⊢; exact shw_int (Nat.le_trans q h)
  | .str x, q => by
    simp only [lf, PyData.leavesShort, List.all_eq_true, decide_eq_true_eq] at q ⊢
    intro c hc
    exact Nat.lt_trans (q c hc) (by decide)
  | .list xs, q => by simp only [lf, PyData.leavesShort] at q ⊢; exact lfA_short h xs q
  | .tuple xs, q => by simp only [lf, PyData.leavesShort] at q ⊢; exact lfA_short h xs q
  | .dict _, q => by simp only [lf] at q; cases q
theorem lfA_short {I : Nat} (h : I ≤ 10 ^ 60) : ∀ xs : List D, lfA I xs = true → PyData.leavesShortAll 62 xs = true
  | [], _ => by simp only [PyData.leavesShortAll]
  | x :: xs, q => by
    simp only [lfA, PyData.leavesShortAll, Bool.and_eq_true] at q ⊢
    exact ⟨lf_short h x q.1, lfA_short h xs q.2⟩
end
theorem log10 {n : Nat} (h : n ≤ 1022) (h0 : n ≠ 0) : n.log2 < 10 := (Nat.log2_lt h0).mpr (by omega)
mutual
theorem lf_wt : ∀ d : D, lf 1022 d = true → d.weight + 1 ≤ 11 * sz d
  | .none, _ => by simp only [PyData.weight, sz]; omega
  | .bool _, _ => by simp only [PyData.weight, sz]; omega
  | .int i, q => by
    simp only [lf, PyData.weight, sz, decide_eq_true_eq] at q ⊢
    split
    · omega
    · rename_i hi
      have := log10 q (by intro e; apply hi; have : i = 0 := by omega
                          subst this; rfl)
      omega
  | .str x, q => by simp only [PyData.weight, sz, Array.length_toList]; omega
  | .list xs, q => by simp only [lf, PyData.weight, sz] at q ⊢; have := lfA_wt xs q; omega
  | .tuple xs, q => by simp only [lf, PyData.weight, sz] at q ⊢; have := lfA_wt xs q; omega
  | .dict _, q => by simp only [lf] at q; cases q
theorem lfA_wt : ∀ xs : List D, lfA 1022 xs = true → PyData.weightAll xs ≤ 11 * szA xs
  | [], _ => by simp only [PyData.weightAll, szA]; omega
  | x :: xs, q => by
    simp only [lfA, PyData.weightAll, szA, Bool.and_eq_true] at q ⊢
    have h1 := lf_wt x q.1
    have h2 := lfA_wt xs q.2
    omega
end
theorem szA_app (a b : List D) : szA (a ++ b) = szA a + szA b := by
  induction a with
  | nil => simp only [List.nil_append, szA, Nat.zero_add]
  | cons x r ih => simp only [List.cons_append, szA, ih]; omega
theorem szA_split (a : List D) (i : Nat) : szA a = szA (a.take i) + szA (a.drop i) := by
  rw [← szA_app, List.take_append_drop]
theorem szA_take (a : List D) (i : Nat) : szA (a.take i) ≤ szA a := by have := szA_split a i; omega
theorem szA_drop (a : List D) (i : Nat) : szA (a.drop i) ≤ szA a := by have := szA_split a i; omega
theorem szA_rev (a : List D) : szA a.reverse = szA a := by
  induction a with
  | nil => rfl
  | cons x r ih => rw [List.reverse_cons, szA_app, ih]; simp only [szA]; omega
theorem szA_mem {a : List D} {x : D} (h : x ∈ a) : sz x ≤ szA a := by
  induction a with
  | nil => cases h
  | cons y r ih =>
    simp only [szA]
    rcases List.mem_cons.mp h with e | e
    · subst e; omega
    · have := ih e; omega
/-- tame -/
structure Ta (I n s : Nat) (d : D) : Prop where
  lf : lf I d = true
  dep : d.depth ≤ n
  sz : sz d ≤ s
structure TaL (I n s : Nat) (ds : List D) : Prop where
  el : ∀ d ∈ ds, Pf.lf I d = true ∧ d.depth ≤ n
  sz : szA ds ≤ s
theorem Ta.mono {I n s I' n' s' : Nat} {d : D} (h : Ta I n s d) (h1 : I ≤ I') (h2 : n ≤ n') (h3 : s ≤ s') : Ta I' n' s' d := ⟨lf_mono h1 d h.lf, Nat.le_trans h.dep h2, Nat.le_trans h.sz h3⟩
theorem TaL.tup {I n s : Nat} {ds : List D} (h : TaL I n s ds) : Ta I (n + 1) (s + 1) (.tuple ds) := by
  refine ⟨?_, ?_, ?_⟩
  · simp only [Pf.lf]; exact lfA_iff.mpr fun x hx => (h.el x hx).1
  · simp only [PyData.depth]; have := dep_of fun x hx => (h.el x hx).2; omega
  · simp only [Pf.sz]; have := h.sz; omega
theorem TaL.lst {I n s : Nat} {ds : List D} (h : TaL I n s ds) : Ta I (n + 1) (s + 1) (.list ds) := by
  refine ⟨?_, ?_, ?_⟩
  · simp only [Pf.lf]; exact lfA_iff.mpr fun x hx => (h.el x hx).1
  · simp only [PyData.depth]; have := dep_of fun x hx => (h.el x hx).2; omega
  · simp only [Pf.sz]; have := h.sz; omega
theorem Ta.tupL {I n s : Nat} {ds : List D} (h : Ta I n s (.tuple ds)) : TaL I (n - 1) (s - 1) ds := by
  have h1 := h.lf; have h2 := h.dep; have h3 := h.sz
  simp only [Pf.lf, PyData.depth, Pf.sz] at h1 h2 h3
  exact ⟨fun d hd => ⟨lfA_iff.mp h1 d hd, by have := dep_mem d hd; omega⟩, by omega⟩
theorem TaL.app {I n s I' n' s' : Nat} {a b : List D} (h : TaL I n s a) (h' : TaL I' n' s' b) (hi : I' ≤ I) (hn : n' ≤ n) : TaL I n (s + s') (a ++ b) := ⟨fun d hd => by
  rcases List.mem_append.mp hd with q | q
  · exact h.el d q
  · exact ⟨lf_mono hi d (h'.el d q).1, Nat.le_trans (h'.el d q).2 hn⟩, by rw [szA_app]; have := h.sz; have := h'.sz; omega⟩
theorem TaL.mono {I n s I' n' s' : Nat} {ds : List D} (h : TaL I n s ds) (h1 : I ≤ I') (h2 : n ≤ n') (h3 : s ≤ s') : TaL I' n' s' ds := ⟨fun d hd => ⟨lf_mono h1 d (h.el d hd).1, Nat.le_trans (h.el d hd).2 h2⟩, Nat.le_trans h.sz h3⟩
theorem TaL.nil {I n s : Nat} : TaL I n s [] := ⟨fun d hd => (by cases hd), Nat.zero_le _⟩
theorem TaL.one {I n s : Nat} {d : D} (h : Ta I n s d) : TaL I n s [d] := ⟨fun x hx => by rw [List.mem_singleton.mp hx]; exact ⟨h.lf, h.dep⟩, by simp only [szA]; have := h.sz; omega⟩
theorem TaL.cons {I n s t : Nat} {d : D} {ds : List D} (h : Ta I n s d) (h' : TaL I n t ds) : TaL I n (s + t) (d :: ds) := (TaL.one h).app h' (Nat.le_refl _) (Nat.le_refl _)
theorem TaL.cut {I n s : Nat} {ds : List D} (h : TaL I n s ds) (lo hi : Option Int) : TaL I n s (cutD ds lo hi) := ⟨fun d hd => h.el d (List.mem_of_mem_drop (List.mem_of_mem_take hd)), Nat.le_trans (Nat.le_trans (szA_take _ _) (szA_drop _ _)) h.sz⟩
theorem TaL.rev {I n s : Nat} {ds : List D} (h : TaL I n s ds) : TaL I n s ds.reverse := ⟨fun d hd => h.el d (List.mem_reverse.mp hd), by rw [szA_rev]; exact h.sz⟩
theorem TaL.len {I n s : Nat} {ds : List D} (h : TaL I n s ds) : ds.length ≤ s := by
  refine Nat.le_trans ?_ h.sz
  clear h
  induction ds with
  | nil => exact Nat.zero_le _
  | cons x r ih =>
    have : 1 ≤ Pf.sz x := by cases x <;> simp only [Pf.sz] <;> omega
    simp only [List.length_cons, szA]; omega
theorem Ta.gd {I n s : Nat} {d : D} (h : Ta I n s d) (h1 : I ≤ 1022) (h2 : n ≤ 40) (h3 : s ≤ 40000) : Gd d := ⟨lf_lay d h.lf, Nat.le_trans h.dep h2, by have := lf_wt d (lf_mono h1 d h.lf); have := h.sz; omega⟩
theorem Ta.sh {I n s : Nat} {d : D} (h : Ta I n s d) (h2 : n ≤ 64) : SeqAt.shaped d = true := by
  unfold SeqAt.shaped
  rw [lf_lay d h.lf, decide_eq_true (Nat.le_trans h.dep h2)]
  rfl
end Pf
/-! Po1: openings as plain lists; had_by. -/
namespace Po
open PySem Pf Pm
abbrev Bx := D × List D
def bxD (b : Bx) : D := .tuple [b.1, .tuple b.2]
inductive Reach (ks : List D) (bs : List Bx) : D → Prop
  | key {d : D} : d ∈ ks → Reach ks bs d
  | box {b : Bx} : b ∈ bs → (∀ k ∈ b.2, Reach ks bs k) → Reach ks bs b.1
theorem Reach.mono {ks ks' : List D} {bs bs' : List Bx} (h1 : ∀ d ∈ ks, Reach ks' bs' d) (h2 : ∀ b ∈ bs, b ∈ bs' ∨ Reach ks' bs' b.1) {d : D} (r : Reach ks bs d) : Reach ks' bs' d := by
  induction r with
  | key h => exact h1 _ h
  | box h _ ih =>
    rcases h2 _ h with q | q
    · exact .box q ih
    · exact q
def rdy (fd : List D) (bs : List Bx) : List D := (bs.filter fun b => b.2.all (hasK fd)).map (·.1)
def lft (fd : List D) (bs : List Bx) : List Bx := bs.filter fun b => !b.2.all (hasK fd)
def hadGo : Nat → List D → List Bx → List D
  | 0, fd, _ => fd
  | n + 1, fd, bs => if (rdy fd bs).isEmpty = true then fd else hadGo n (addD fd (addD [] (rdy fd bs))) (lft fd bs)
def had (ks : List D) (bs : List Bx) : List D := hadGo (bs.length + 1) (addD [] ks) bs
structure BO (b : Bx) : Prop where
  own : keyOk b.1 = true
  nd : ∀ k ∈ b.2, keyOk k = true
  ne : b.2 ≠ []
theorem ko_k {d : D} (h : keyOk d = true) : keyD d = true := by unfold keyOk at h; rw [Bool.and_eq_true] at h; exact h.1
theorem ko_l {d : D} (h : keyOk d = true) : d.canLay0 = true := by unfold keyOk at h; rw [Bool.and_eq_true] at h; exact h.2
theorem ks_dep : ∀ {ds : List D}, (ksOf ds).isSome = true → PyData.depthAll ds = 0
  | [], _ => rfl
  | d :: r, h => by
    unfold ksOf at h
    unfold PyData.depthAll
    cases e : atK d with
    | none => rw [e] at h; cases h
    | some k =>
      cases e2 : ksOf r with
      | none => rw [e, e2] at h; cases h
      | some ks =>
        rw [ks_dep (ds := r) (by rw [e2]; rfl)]
        cases d <;> simp only [atK] at e <;> first | (cases e; done) | simp [PyData.depth]
theorem ko_d {d : D} (h : keyOk d = true) : d.depth ≤ 1 := by
  have := ko_k h
  cases d <;> simp only [keyD] at this <;> first | (cases this; done) | skip
  · simp [PyData.depth]
  · rw [PyData.depth, ks_dep this]; omega
theorem ko_has {c : List D} {d : D} (hc : ∀ e ∈ c, keyOk e = true) (hd : keyOk d = true) : hasK c d = true ↔ d ∈ c := hasK_iff (fun e he => ko_k (hc e he)) (ko_k hd)
theorem addD_ko : ∀ {r c : List D}, (∀ e ∈ c, keyOk e = true) → (∀ e ∈ r, keyOk e = true) → ∀ e ∈ addD c r, keyOk e = true
  | [], c, hc, _ => hc
  | d :: r, c, hc, hr => by
    refine addD_ko (r := r) (c := if hasK c d = true then c else c ++ [d]) (fun e he => ?_) fun e he => hr e (List.mem_cons_of_mem _ he)
    split at he
    · exact hc e he
    · rcases List.mem_append.mp he with q | q
      · exact hc e q
      · rw [List.mem_singleton.mp q]; exact hr d List.mem_cons_self
theorem addD_mem {x : D} : ∀ {r c : List D}, (∀ e ∈ c, keyOk e = true) → (∀ e ∈ r, keyOk e = true) → (x ∈ addD c r ↔ x ∈ c ∨ x ∈ r)
  | [], c, _, _ => by simp [addD]
  | d :: r, c, hc, hr => by
    have hd := hr d List.mem_cons_self
    have hr' : ∀ e ∈ r, keyOk e = true := fun e he => hr e (List.mem_cons_of_mem _ he)
    show x ∈ addD (if hasK c d = true then c else c ++ [d]) r ↔ _
    by_cases q : hasK c d = true
    · rw [if_pos q, addD_mem hc hr', List.mem_cons]
      have := (ko_has hc hd).mp q
      constructor
      · rintro (h | h)
        · exact .inl h
        · exact .inr (.inr h)
      · rintro (h | rfl | h)
        · exact .inl h
        · exact .inl this
        · exact .inr h
    · rw [if_neg q, addD_mem (fun e he => by
        rcases List.mem_append.mp he with q | q
        · exact hc e q
        · rw [List.mem_singleton.mp q]; exact hd) hr', List.mem_append, List.mem_singleton, List.mem_cons, or_assoc]
theorem addD_nodup : ∀ {r c : List D}, (∀ e ∈ c, keyOk e = true) → (∀ e ∈ r, keyOk e = true) → c.Nodup → (addD c r).Nodup
  | [], c, _, _, h => h
  | d :: r, c, hc, hr, h => by
    have hd := hr d List.mem_cons_self
    have hr' : ∀ e ∈ r, keyOk e = true := fun e he => hr e (List.mem_cons_of_mem _ he)
    show (addD (if hasK c d = true then c else c ++ [d]) r).Nodup
    by_cases q : hasK c d = true
    · rw [if_pos q]; exact addD_nodup hc hr' h
    · rw [if_neg q]
      refine addD_nodup (fun e he => ?_) hr' ?_
      · rcases List.mem_append.mp he with q | q
        · exact hc e q
        · rw [List.mem_singleton.mp q]; exact hd
      · rw [List.nodup_append]
        refine ⟨h, by simp, fun a ha b hb => ?_⟩
        rw [List.mem_singleton.mp hb]
        intro e
        rw [e] at ha
        exact q ((ko_has hc hd).mpr ha)
theorem addD_len : ∀ (r c : List D), (addD c r).length ≤ c.length + r.length
  | [], c => Nat.le_refl _
  | d :: r, c => by
    have := addD_len r (if hasK c d = true then c else c ++ [d])
    show (addD (if hasK c d = true then c else c ++ [d]) r).length ≤ _
    refine Nat.le_trans this ?_
    split <;> simp <;> omega
theorem rl_len (fd : List D) : ∀ bs : List Bx, (rdy fd bs).length + (lft fd bs).length = bs.length
  | [] => rfl
  | b :: r => by
    have ih := rl_len fd r
    unfold rdy lft at ih ⊢
    rw [List.length_map] at ih ⊢
    cases q : b.2.all (hasK fd) with
    | true => rw [List.filter_cons_of_pos (by rw [q]), List.filter_cons_of_neg (by rw [q]; decide)]; simp only [List.length_cons]; omega
    | false => rw [List.filter_cons_of_neg (by rw [q]; decide), List.filter_cons_of_pos (by rw [q]; rfl)]; simp only [List.length_cons]; omega
theorem rdy_ko {fd : List D} {bs : List Bx} (h : ∀ b ∈ bs, BO b) : ∀ e ∈ rdy fd bs, keyOk e = true := fun e he => by
  obtain ⟨b, hb, rfl⟩ := List.mem_map.mp he
  exact (h b (List.mem_filter.mp hb).1).own
theorem all_has {fd ks : List D} (hf : ∀ e ∈ fd, keyOk e = true) (hk : ∀ k ∈ ks, keyOk k = true) : ks.all (hasK fd) = true ↔ ∀ k ∈ ks, k ∈ fd := by
  rw [List.all_eq_true]
  exact forall_congr' fun k => ⟨fun h hk' => (ko_has hf (hk k hk')).mp (h hk'), fun h hk' => (ko_has hf (hk k hk')).mpr (h hk')⟩
/-- what it is: all things that are reached, each once -/
theorem hadGo_ok {ks : List D} {bs : List Bx} (hks : ∀ k ∈ ks, keyOk k = true) (hbs : ∀ b ∈ bs, BO b) : ∀ (n : Nat) (fd : List D) (left : List Bx), left.length < n → (∀ e ∈ fd, keyOk e = true) → fd.Nodup → (∀ e ∈ fd, Reach ks bs e) → (∀ k ∈ ks, k ∈ fd) → (∀ b ∈ left, b ∈ bs) → (∀ b ∈ bs, b ∈ left ∨ b.1 ∈ fd) →
    (hadGo n fd left).Nodup ∧ ∀ d, d ∈ hadGo n fd left ↔ Reach ks bs d
  | 0, _, _, h, _, _, _, _, _, _ => absurd h (Nat.not_lt_zero _)
  | n + 1, fd, left, hn, h1, h2, h3, h4, h5, h6 => by
    unfold hadGo
    have hl : ∀ b ∈ left, BO b := fun b hb => hbs b (h5 b hb)
    have hr := rl_len fd left
    cases e : (rdy fd left).isEmpty with
    | true =>
      rw [if_pos rfl]
      refine ⟨h2, fun d => ⟨h3 d, fun r => ?_⟩⟩
      induction r with
      | key h => exact h4 _ h
      | @box b hb _ ih =>
        rcases h6 b hb with q | q
        · have hall : b.2.all (hasK fd) = true := (all_has h1 (hl b q).nd).mpr ih
          have : b.1 ∈ rdy fd left := List.mem_map.mpr ⟨b, List.mem_filter.mpr ⟨q, hall⟩, rfl⟩
          rw [List.isEmpty_iff.mp e] at this
          cases this
        · exact q
    | false =>
      rw [if_neg (by decide)]
      have ro := rdy_ko (fd := fd) hl
      have ro2 := addD_ko (c := []) (by simp) ro
      have hpos : 0 < (rdy fd left).length := by
        cases q : rdy fd left with
        | nil => rw [q] at e; cases e
        | cons _ _ => simp
      refine hadGo_ok hks hbs n _ (lft fd left) (by omega) (addD_ko h1 ro2) (addD_nodup h1 ro2 h2) (fun x hx => ?_) (fun k hk => (addD_mem h1 ro2).mpr (.inl (h4 k hk))) (fun b hb => h5 b (List.mem_filter.mp hb).1) fun b hb => ?_
      · rcases (addD_mem h1 ro2).mp hx with q | q
        · exact h3 x q
        · rcases (addD_mem (by simp) ro).mp q with q | q
          · cases q
          · obtain ⟨b, hb, rfl⟩ := List.mem_map.mp q
            obtain ⟨b1, b2⟩ := List.mem_filter.mp hb
            exact .box (h5 b b1) fun k hk => h3 k ((all_has h1 (hl b b1).nd).mp b2 k hk)
      · rcases h6 b hb with q | q
        · cases q2 : b.2.all (hasK fd) with
          | true => exact .inr ((addD_mem h1 ro2).mpr (.inr ((addD_mem (by simp) ro).mpr (.inr (List.mem_map.mpr ⟨b, List.mem_filter.mpr ⟨q, q2⟩, rfl⟩)))))
          | false => exact .inl (List.mem_filter.mpr ⟨q, by rw [q2]; rfl⟩)
        · exact .inr ((addD_mem h1 ro2).mpr (.inl q))
theorem had_ok {ks : List D} {bs : List Bx} (hks : ∀ k ∈ ks, keyOk k = true) (hbs : ∀ b ∈ bs, BO b) : (had ks bs).Nodup ∧ ∀ d, d ∈ had ks bs ↔ Reach ks bs d :=
  hadGo_ok hks hbs _ _ bs (Nat.lt_succ_self _) (addD_ko (by simp) hks) (addD_nodup (by simp) hks .nil) (fun e he => by
    rcases (addD_mem (by simp) hks).mp he with q | q
    · cases q
    · exact .key q) (fun k hk => (addD_mem (by simp) hks).mpr (.inr hk)) (fun _ h => h) fun b hb => .inl hb
theorem reach_ko {ks : List D} {bs : List Bx} (hks : ∀ k ∈ ks, keyOk k = true) (hbs : ∀ b ∈ bs, BO b) {d : D} (r : Reach ks bs d) : keyOk d = true := by
  cases r with
  | key h => exact hks _ h
  | box h _ => exact (hbs _ h).own
theorem had_ko {ks : List D} {bs : List Bx} (hks : ∀ k ∈ ks, keyOk k = true) (hbs : ∀ b ∈ bs, BO b) : ∀ d ∈ had ks bs, keyOk d = true := fun d hd => reach_ko hks hbs (((had_ok hks hbs).2 d).mp hd)
theorem hadGo_len (N : Nat) : ∀ (n : Nat) (fd : List D) (bs : List Bx), fd.length + bs.length ≤ N → (hadGo n fd bs).length ≤ N
  | 0, fd, bs, h => by unfold hadGo; omega
  | n + 1, fd, bs, h => by
    unfold hadGo
    split
    · omega
    · have h1 := addD_len (addD [] (rdy fd bs)) fd
      have h2 := addD_len (rdy fd bs) []
      have h3 := rl_len fd bs
      simp only [List.length_nil] at h2
      exact hadGo_len N n _ _ (by omega)
theorem had_len (ks : List D) (bs : List Bx) : (had ks bs).length ≤ ks.length + bs.length := hadGo_len _ _ _ _ (by
  have := addD_len ks []
  simp only [List.length_nil] at this
  omega)
end Po
/-! Po2: had_by, opened, opens, openable run. -/
namespace Po
open PySem Pf Pm
variable {fu : Nat} {F : Nat → List D → M D}
theorem sh_of {d : D} (h1 : d.canLay0 = true) (h2 : d.depth ≤ 64) : SeqAt.shaped d = true := by
  unfold SeqAt.shaped
  rw [h1, decide_eq_true h2]
  rfl
theorem ko_sh {d : D} (h : keyOk d = true) : SeqAt.shaped d = true := sh_of (ko_l h) (by have := ko_d h; omega)
theorem kos_sh {ds : List D} (h : ∀ d ∈ ds, keyOk d = true) : SeqAt.shaped (.list ds) = true ∧ SeqAt.shaped (.tuple ds) = true := by
  have h1 := lay_of fun d hd => ko_l (h d hd)
  have h2 := dep_of fun d hd => ko_d (h d hd)
  exact ⟨sh_of (by simp only [PyData.canLay0]; exact h1) (by simp only [PyData.depth]; omega), sh_of (by simp only [PyData.canLay0]; exact h1) (by simp only [PyData.depth]; omega)⟩
theorem c_inD {fd : List D} {k : D} (h : keyOk k = true) : cmp2 .isin k (dctD fd) = .ret (.bool (hasK fd k)) := by
  have e : cmp2 .isin k (dctD fd) = need (keyOk k && kvOk (fd.map fun d => (d, PyData.bool true))) (.ret (.bool (hasK ((fd.map fun d => (d, PyData.bool true)).map (·.1)) k))) := by cases k <;> rfl
  rw [e, h, kvOk_d, dctD_k]
  rfl
theorem it_d (fd : List D) : itmD (dctD fd) = .ret fd := by
  show need (kvOk (fd.map fun d => (d, PyData.bool true))) (.ret ((fd.map fun d => (d, PyData.bool true)).map (·.1))) = _
  rw [kvOk_d, dctD_k]
  rfl
/-- all([key in found for key in needs]) -/
def allS : Sx := .bi .all (.lc [3] (.var 3) (.var 7) .none_ (.cmp .isin (.var 3) (.var 2)))
def allS' : Sx := .bi .all (.lc [3] (.var 3) (.idx (.var 8) (.cst (.int 1))) .none_ (.cmp .isin (.var 3) (.var 2)))
theorem all_run {F : Nat → List D → M D} {it : Sx} {ρ : Ev} {fd ks : List D} {r0 r1 r2 r4 r5 r6 r7 r8 : Option SV} (hρ : ρ = [r0, r1, r2, none, r4, r5, r6, r7, r8]) (h2 : r2 = some (.own (dctD fd))) (hit : itmv it (ev F it) ρ = .ret ks) (hk : ∀ k ∈ ks, keyOk k = true) : ev F (.bi .all (.lc [3] (.var 3) it .none_ (.cmp .isin (.var 3) (.var 2)))) ρ = .ret (.bool (ks.all (hasK fd))) := by
  subst hρ h2
  have e : ev F (.lc [3] (.var 3) it .none_ (.cmp .isin (.var 3) (.var 2))) [r0, r1, some (.own (dctD fd)), none, r4, r5, r6, r7, r8] = .ret (.list (ks.map fun k => .bool (hasK fd k))) := by
    refine lc_map hit rfl fun k h => ⟨_, rfl, rfl, ?_⟩
    show cmp2 .isin k (dctD fd) = _
    rw [c_inD (hk k h)]
  show ((ev F (.lc [3] (.var 3) it .none_ (.cmp .isin (.var 3) (.var 2))) _).bind fun d => bi1 .all d) = _
  rw [e, b_ret, b_all, boolsOf_map]
  show M.ret (PyData.bool ((ks.map (hasK fd)).all id)) = _
  rw [all_id]
def lftS : Sx := .lc [8] (.var 8) (.var 4) (.nt allS') (.var 8)
def rdyS : Sx := .lc [6, 7] (.tup (.cons (.var 6) (.cons (.var 7) .nil))) (.var 4) allS (.var 6)
def hadB : Sx := (.cons (.asg (.var 5) rdyS) (.cons (.iff (.cmp .eq (.var 5) (.lst .nil)) (.cons (.ret (.var 2)) .nil) .nil) (.cons (.asg (.var 4) lftS) (.cons (.dupd 2 [6] (.var 6) (.var 5) (.var 6)) .nil))))
def hadS : Sx := (.cons (.dnew 2 [3] (.var 3) (.var 0) (.var 3)) (.cons (.asg (.var 4) (.bi .lst (.var 1))) (.cons (.whil (.cst (.bool true)) hadB) .nil)))
theorem rdy_run {r0 r1 r5 : Option SV} {fd : List D} {bs : List Bx} (hb : ∀ b ∈ bs, BO b) : ev F rdyS [r0, r1, some (.own (dctD fd)), none, some (.dat (.list (bs.map bxD))), r5, none, none, none] = .ret (.list (rdy fd bs)) := by
  have := lcGo_eq (b := fun d => tgt (.tup (.cons (.var 6) (.cons (.var 7) .nil))) d (wip [r0, r1, some (.own (dctD fd)), none, some (.dat (.list (bs.map bxD))), r5, none, none, none] [6, 7])) (t := tst allS (ev F allS)) (e := ev F (.var 6)) (p := fun d => match d with
    | .tuple [_, .tuple ks] => ks.all (hasK fd)
    | _ => false) (f := fun d => match d with
    | .tuple [g, .tuple _] => g
    | _ => .none) (bs.map bxD) fun d hd => by
      obtain ⟨b, hb', rfl⟩ := List.mem_map.mp hd
      refine ⟨_, rfl, ?_, fun _ => rfl⟩
      show ((ev F allS [r0, r1, some (.own (dctD fd)), none, some (.dat (.list (bs.map bxD))), r5, some (.dat b.1), some (.dat (.tuple b.2)), none]).bind truD) = _
      unfold allS
      rw [all_run rfl rfl rfl (hb b hb').nd]
      rfl
  show ((M.ret (bs.map bxD)).bind fun ds => need (datOnly [r0, r1, some (.own (dctD fd)), none, some (.dat (.list (bs.map bxD))), r5, none, none, none] [6, 7]) ((lcGo _ _ _ ds).bind fun ys => M.ret (PyData.list ys))) = _
  rw [b_ret, show datOnly [r0, r1, some (.own (dctD fd)), none, some (.dat (.list (bs.map bxD))), r5, none, none, none] [6, 7] = true from rfl, need_true, this, b_ret]
  congr 2
  unfold rdy
  rw [List.filter_map, List.map_map]
  rfl
theorem lft_run {r0 r1 r5 : Option SV} {fd : List D} {bs : List Bx} (hb : ∀ b ∈ bs, BO b) : ev F lftS [r0, r1, some (.own (dctD fd)), none, some (.dat (.list (bs.map bxD))), r5, none, none, none] = .ret (.list ((lft fd bs).map bxD)) := by
  have := lc_flt (F := F) (own := [8]) (tg := .var 8) (it := .var 4) (cd := .nt allS') (elt := .var 8) (ρ := [r0, r1, some (.own (dctD fd)), none, some (.dat (.list (bs.map bxD))), r5, none, none, none]) (ds := bs.map bxD) (p := fun d => match d with
    | .tuple [_, .tuple ks] => !ks.all (hasK fd)
    | _ => false) rfl rfl fun d hd => by
      obtain ⟨b, hb', rfl⟩ := List.mem_map.mp hd
      refine ⟨_, rfl, ?_, rfl⟩
      show ((((ev F allS' [r0, r1, some (.own (dctD fd)), none, some (.dat (.list (bs.map bxD))), r5, none, none, some (.dat (bxD b))]).bind truD).bind fun k => M.ret (PyData.bool !k)).bind truD) = _
      unfold allS'
      rw [all_run (ks := b.2) rfl rfl (by
        show ((idx2 (bxD b) (.int 1)).bind itmD) = _
        rfl) (hb b hb').nd]
      rfl
  unfold lftS
  rw [this]
  congr 2
  unfold lft
  rw [List.filter_map]
  rfl
theorem dc_run {fi : Ev → M (List D)} {ρ : Ev} {vs : List Nat} {ft : D → Ev → M Ev} {fe : Ev → M D} {ds : List D} (h1 : fi ρ = .ret ds) (h2 : datOnly ρ vs = true) (h3 : ∀ d ∈ ds, ∃ ρ', ft d (wip ρ vs) = .ret ρ' ∧ fe ρ' = .ret d ∧ keyOk d = true) : dcF fi ft fe vs ρ = .ret (addD [] ds) := by
  unfold dcF
  rw [h1, b_ret, h2, need_true, lcGo_map (f := fun d => d) ds fun d hd => by
    obtain ⟨ρ', e1, e2, e3⟩ := h3 d hd
    exact ⟨ρ', e1, rfl, by rw [e2, b_ret, e3]; rfl⟩, b_ret, List.map_id'']
  intro _; rfl
/-- one turn -/
theorem had_turn {kd bd : D} {o : Option D} {fd : List D} {bs : List Bx} (hf : ∀ e ∈ fd, keyOk e = true) (hb : ∀ b ∈ bs, BO b) (hl : fd.length + bs.length ≤ 100000) : exGo fu F hadB [some (.dat kd), some (.dat bd), some (.own (dctD fd)), none, some (.dat (.list (bs.map bxD))), dz o, none, none, none] =
    .ret (if (rdy fd bs).isEmpty = true then .rt (dctD fd) else .nx [some (.dat kd), some (.dat bd), some (.own (dctD (addD fd (addD [] (rdy fd bs))))), none, some (.dat (.list ((lft fd bs).map bxD))), some (.dat (.list (rdy fd bs))), none, none, none]) := by
  have ro := rdy_ko (fd := fd) hb
  have e1 : exGo fu F (.asg (.var 5) rdyS) [some (.dat kd), some (.dat bd), some (.own (dctD fd)), none, some (.dat (.list (bs.map bxD))), dz o, none, none, none] = .ret (.nx [some (.dat kd), some (.dat bd), some (.own (dctD fd)), none, some (.dat (.list (bs.map bxD))), some (.dat (.list (rdy fd bs))), none, none, none]) := by
    show ((ev F rdyS _).bind fun d => (tgt (.var 5) d _).bind fun ρ1 => M.ret (Out.nx ρ1)) = _
    rw [rdy_run hb]
    cases o <;> rfl
  have e2 : exGo fu F (.iff (.cmp .eq (.var 5) (.lst .nil)) (.cons (.ret (.var 2)) .nil) .nil) [some (.dat kd), some (.dat bd), some (.own (dctD fd)), none, some (.dat (.list (bs.map bxD))), some (.dat (.list (rdy fd bs))), none, none, none] = .ret (if (rdy fd bs).isEmpty = true then .rt (dctD fd) else .nx [some (.dat kd), some (.dat bd), some (.own (dctD fd)), none, some (.dat (.list (bs.map bxD))), some (.dat (.list (rdy fd bs))), none, none, none]) := by
    show ((((((need (decide (([] : List D).length ≤ sizeLine)) (M.ret (PyData.list []))).bind fun y => cmp2 .eq (.list (rdy fd bs)) y)).bind truD).bind fun k => if k = true then exGo fu F (.cons (.ret (.var 2)) .nil) _ else exGo fu F .nil _)) = _
    rw [need_of (decide_eq_true (sz0 _ (by simp))), b_ret, c_eq, k_l, (kos_sh ro).1, shaped_nil, eqv_nil, Bool.and_self, need_true, b_ret, t_b, b_ret]
    cases (rdy fd bs).isEmpty <;> rfl
  have e3 : exGo fu F (.asg (.var 4) lftS) [some (.dat kd), some (.dat bd), some (.own (dctD fd)), none, some (.dat (.list (bs.map bxD))), some (.dat (.list (rdy fd bs))), none, none, none] = .ret (.nx [some (.dat kd), some (.dat bd), some (.own (dctD fd)), none, some (.dat (.list ((lft fd bs).map bxD))), some (.dat (.list (rdy fd bs))), none, none, none]) := by
    show ((ev F lftS _).bind fun d => (tgt (.var 4) d _).bind fun ρ1 => M.ret (Out.nx ρ1)) = _
    rw [lft_run hb]
    rfl
  show ((exGo fu F (.asg (.var 5) rdyS) _).bind _) = _
  rw [e1, b_ret]
  show ((exGo fu F (.iff (.cmp .eq (.var 5) (.lst .nil)) (.cons (.ret (.var 2)) .nil) .nil) _).bind _) = _
  rw [e2, b_ret]
  cases q : (rdy fd bs).isEmpty with
  | true => rfl
  | false =>
    show ((exGo fu F (.asg (.var 4) lftS) _).bind _) = _
    rw [e3, b_ret]
    have e4 : exGo fu F (.dupd 2 [6] (.var 6) (.var 5) (.var 6)) [some (.dat kd), some (.dat bd), some (.own (dctD fd)), none, some (.dat (.list ((lft fd bs).map bxD))), some (.dat (.list (rdy fd bs))), none, none, none] = .ret (.nx [some (.dat kd), some (.dat bd), some (.own (dctD (addD fd (addD [] (rdy fd bs))))), none, some (.dat (.list ((lft fd bs).map bxD))), some (.dat (.list (rdy fd bs))), none, none, none]) := by
      show ((need (kvOk (fd.map fun d => (d, PyData.bool true))) (M.ret ((fd.map fun d => (d, PyData.bool true)).map (·.1)))).bind fun cs => (dcF (itmv (.var 5) (ev F (.var 5))) (tgt (.var 6)) (ev F (.var 6)) [6] _).bind fun ks => need (decide (cs ≠ [] ∧ cs.length + ks.length ≤ sizeLine)) (M.ret (Out.nx (chgD _ 2 (addD cs ks))))) = _
      rw [kvOk_d, need_true, dctD_k, b_ret, dc_run (fi := itmv (.var 5) (ev F (.var 5))) (ft := tgt (.var 6)) (fe := ev F (.var 6)) (ds := rdy fd bs) rfl rfl fun d hd => ⟨_, rfl, rfl, ro d hd⟩, b_ret, need_of]
      · rfl
      · refine decide_eq_true ⟨fun z => ?_, sz0 _ ?_⟩
        · cases q2 : rdy fd bs with
          | nil => rw [q2] at q; cases q
          | cons x r =>
            have hx : x ∈ rdy fd bs := by rw [q2]; exact List.mem_cons_self
            obtain ⟨b, hb1, _⟩ := List.mem_map.mp hx
            obtain ⟨hb1, hb2⟩ := List.mem_filter.mp hb1
            have hne := (hb b hb1).ne
            obtain ⟨k, r, ek⟩ : ∃ k r, b.2 = k :: r := by cases h : b.2 with | nil => exact absurd h hne | cons k r => exact ⟨k, r, rfl⟩
            rw [ek, z] at hb2
            simp [hasK] at hb2
        · have h2 := addD_len (rdy fd bs) []
          have h3 := rl_len fd bs
          simp only [List.length_nil] at h2
          omega
    show ((exGo fu F (.dupd 2 [6] (.var 6) (.var 5) (.var 6)) _).bind _) = _
    rw [e4, b_ret]
    rfl
theorem had_while {kd bd : D} : ∀ (n : Nat) (o : Option D) (fd : List D) (bs : List Bx), (∀ e ∈ fd, keyOk e = true) → (∀ b ∈ bs, BO b) → fd.length + bs.length ≤ 100000 → bs.length < n →
    whGo (tst (.cst (.bool true)) (ev F (.cst (.bool true)))) (exGo fu F hadB) n [some (.dat kd), some (.dat bd), some (.own (dctD fd)), none, some (.dat (.list (bs.map bxD))), dz o, none, none, none] = .ret (.rt (dctD (hadGo n fd bs)))
  | 0, _, _, _, _, _, _, h => absurd h (Nat.not_lt_zero _)
  | n + 1, o, fd, bs, hf, hb, hl, hn => by
    show ((M.ret true).bind fun c => if c = true then (exGo fu F hadB _).bind _ else _) = _
    rw [b_ret, if_pos rfl, had_turn hf hb hl, b_ret]
    unfold hadGo
    cases q : (rdy fd bs).isEmpty with
    | true => rfl
    | false =>
      rw [if_neg (by decide), if_neg (by decide)]
      have h1 := addD_len (addD [] (rdy fd bs)) fd
      have h2 := addD_len (rdy fd bs) []
      have h3 := rl_len fd bs
      simp only [List.length_nil] at h2
      have hpos : 0 < (rdy fd bs).length := by
        cases q2 : rdy fd bs with
        | nil => rw [q2] at q; cases q
        | cons _ _ => simp
      have ro := rdy_ko (fd := fd) hb
      exact had_while n (some (.list (rdy fd bs))) _ _ (addD_ko hf (addD_ko (by simp) ro)) (fun b hb' => hb b (List.mem_filter.mp hb').1) (by omega) (by omega)
theorem hadGo_fuel : ∀ (n m : Nat) (fd : List D) (bs : List Bx), bs.length < n → bs.length < m → hadGo n fd bs = hadGo m fd bs
  | 0, _, _, _, h, _ => absurd h (Nat.not_lt_zero _)
  | _, 0, _, _, _, h => absurd h (Nat.not_lt_zero _)
  | n + 1, m + 1, fd, bs, h1, h2 => by
    unfold hadGo
    cases q : (rdy fd bs).isEmpty with
    | true => rfl
    | false =>
      have h3 := rl_len fd bs
      have hpos : 0 < (rdy fd bs).length := by
        cases q2 : rdy fd bs with
        | nil => rw [q2] at q; cases q
        | cons _ _ => simp
      rw [if_neg (by decide), if_neg (by decide), hadGo_fuel n m _ _ (by omega) (by omega)]
/-- HAD_BY -/
theorem had_run {kd bd : D} {ks : List D} {bs : List Bx} (e1 : itmD kd = .ret ks) (e2 : bi1 .lst bd = .ret (.list (bs.map bxD))) (hk : ∀ k ∈ ks, keyOk k = true) (hb : ∀ b ∈ bs, BO b) (hl : ks.length + bs.length ≤ 100000) (hfu : bs.length < fu) : runD fu 9 F hadS [kd, bd] = .ret (dctD (had ks bs)) := by
  have x1 : exGo fu F (.dnew 2 [3] (.var 3) (.var 0) (.var 3)) [some (.dat kd), some (.dat bd), none, none, none, none, none, none, none] = .ret (.nx [some (.dat kd), some (.dat bd), some (.own (dctD (addD [] ks))), none, none, none, none, none, none]) := by
    show ((dcF (itmv (.var 0) (ev F (.var 0))) (tgt (.var 3)) (ev F (.var 3)) [3] _).bind _) = _
    rw [dc_run (fi := itmv (.var 0) (ev F (.var 0))) (ft := tgt (.var 3)) (fe := ev F (.var 3)) (ρ := [some (.dat kd), some (.dat bd), none, none, none, none, none, none, none]) (vs := [3]) (ds := ks) e1 rfl fun d hd => ⟨_, rfl, rfl, hk d hd⟩, b_ret]
    rfl
  have x2 : exGo fu F (.asg (.var 4) (.bi .lst (.var 1))) [some (.dat kd), some (.dat bd), some (.own (dctD (addD [] ks))), none, none, none, none, none, none] = .ret (.nx [some (.dat kd), some (.dat bd), some (.own (dctD (addD [] ks))), none, some (.dat (.list (bs.map bxD))), none, none, none, none]) := by
    show ((bi1 .lst bd).bind fun d => (tgt (.var 4) d _).bind fun ρ1 => M.ret (Out.nx ρ1)) = _
    rw [e2]
    rfl
  show ((((exGo fu F (.dnew 2 [3] (.var 3) (.var 0) (.var 3)) _).bind _)).bind _) = _
  rw [show ev0 9 [kd, bd] = [some (.dat kd), some (.dat bd), none, none, none, none, none, none, none] from rfl, x1, b_ret]
  show ((((exGo fu F (.asg (.var 4) (.bi .lst (.var 1))) _).bind _)).bind _) = _
  rw [x2, b_ret]
  show ((((whGo (tst (.cst (.bool true)) (ev F (.cst (.bool true)))) (exGo fu F hadB) fu _).bind _)).bind _) = _
  have h2 := addD_len ks []
  simp only [List.length_nil] at h2
  have hw := had_while (F := F) (fu := fu) (kd := kd) (bd := bd) fu none (addD [] ks) bs (addD_ko (by simp) hk) hb (by omega) hfu
  rw [show dz none = none from rfl] at hw
  rw [hw, hadGo_fuel fu (bs.length + 1) _ bs hfu (Nat.lt_succ_self _)]
  rfl
end Po
/-! Po3: opened, opens, openable. -/
namespace Po
open PySem Pf Pm
variable {fu : Nat} {F : Nat → List D → M D}
def isIntD : D → Bool
  | .int _ => true
  | _ => false
/-- a thing: a key or a text -/
structure TD (d : D) : Prop where
  ko : keyOk d = true
  sh : (∃ i, d = .int i) ∨ ∃ s n, d = .tuple [.str s, .int n]
def intL (ds : List D) : List Int := ds.filterMap fun d => match d with
  | .int i => some i
  | _ => none
def tsL (ds : List D) : List D := ds.filter fun d => !isIntD d
theorem intL_eq : ∀ ds : List D, ds.filter isIntD = (intL ds).map .int
  | [] => rfl
  | .int i :: r => by
    rw [List.filter_cons_of_pos rfl, intL_eq r]
    rfl
  | .none :: r => by rw [List.filter_cons_of_neg (by simp [isIntD]), intL_eq r]; rfl
  | .bool b :: r => by rw [List.filter_cons_of_neg (by simp [isIntD]), intL_eq r]; rfl
  | .str b :: r => by rw [List.filter_cons_of_neg (by simp [isIntD]), intL_eq r]; rfl
  | .list b :: r => by rw [List.filter_cons_of_neg (by simp [isIntD]), intL_eq r]; rfl
  | .tuple b :: r => by rw [List.filter_cons_of_neg (by simp [isIntD]), intL_eq r]; rfl
  | .dict b :: r => by rw [List.filter_cons_of_neg (by simp [isIntD]), intL_eq r]; rfl
theorem intL_mem {ds : List D} {i : Int} : i ∈ intL ds ↔ .int i ∈ ds := by
  have : i ∈ intL ds ↔ (PyData.int i) ∈ (intL ds).map .int := by
    rw [List.mem_map]
    exact ⟨fun h => ⟨i, h, rfl⟩, fun ⟨j, h, e⟩ => by injection e with e; rw [← e]; exact h⟩
  rw [this, ← intL_eq, List.mem_filter]
  exact ⟨fun h => h.1, fun h => ⟨h, rfl⟩⟩
theorem tsL_mem {ds : List D} (h : ∀ d ∈ ds, TD d) {d : D} : d ∈ tsL ds ↔ d ∈ ds ∧ ∃ s n, d = .tuple [.str s, .int n] := by
  unfold tsL
  rw [List.mem_filter]
  refine and_congr_right fun hd => ?_
  rcases (h d hd).sh with ⟨i, rfl⟩ | ⟨s, n, rfl⟩
  · exact ⟨fun z => (by cases z), fun ⟨_, _, z⟩ => by cases z⟩
  · exact ⟨fun _ => ⟨s, n, rfl⟩, fun _ => rfl⟩
def openD (fd : List D) : D := .tuple [.tuple ((sortI (intL fd)).map .int), .tuple (sortD (tsL fd))]
theorem sortD_eq (ds : List D) : sortD ds = ds.mergeSort (PySem.W.dataLe false id) := by
  have := sort_map (id : D → D) ds
  rw [List.map_id, List.map_id] at this
  exact this.symm
theorem sortD_perm (ds : List D) : (sortD ds).Perm ds := by rw [sortD_eq]; exact List.mergeSort_perm _ _
theorem sortD_pw (ds : List D) : (sortD ds).Pairwise fun a b => PySem.W.dataLt b a = false := by
  rw [sortD_eq]
  have T : PySem.W.TotalLe (PySem.W.dataLe false (id : D → D)) := PySem.W.sortLe_total _ _ _
  refine (PySem.W.sort_pairwise T ds).imp fun {a b} h => ?_
  rw [dle] at h
  simpa using h
theorem txt_anti {a b : D} (ha : ∃ s n, a = .tuple [.str s, .int n]) (hb : ∃ s n, b = .tuple [.str s, .int n]) (h1 : PySem.W.dataLt b a = false) (h2 : PySem.W.dataLt a b = false) : a = b := by
  obtain ⟨s, n, rfl⟩ := ha
  obtain ⟨t, m, rfl⟩ := hb
  have := PyProof.Rows.lex_total _ _ h2 h1
  simp only [PySem.W.keyToks, PySem.W.keyToksAll, List.cons_append, List.nil_append, List.cons.injEq, true_and, Sum.inr.injEq, Sum.inl.injEq, and_true] at this
  rw [PySem.W.str_of_cps this.1, this.2]
theorem sortD_uniq {a b : List D} (p : a.Perm b) (ha : ∀ d ∈ a, ∃ s n, d = .tuple [.str s, .int n]) : sortD a = sortD b := by
  have q : (sortD a).Perm (sortD b) := (sortD_perm a).trans (p.trans (sortD_perm b).symm)
  refine List.Perm.eq_of_pairwise (le := fun a b => PySem.W.dataLt b a = false) (fun x y hx hy h1 h2 => ?_) (sortD_pw a) (sortD_pw b) q
  exact txt_anti (ha x ((sortD_perm a).mem_iff.mp hx)) (ha y (p.mem_iff.mpr ((sortD_perm b).mem_iff.mp hy))) h1 h2
theorem openD_congr {a b : List D} (ha : a.Nodup) (hb : b.Nodup) (h : ∀ d, d ∈ a ↔ d ∈ b) (ht : ∀ d ∈ a, TD d) : openD a = openD b := by
  have p : a.Perm b := (List.perm_ext_iff_of_nodup ha hb).mpr h
  unfold openD
  have e1 : sortI (intL a) = sortI (intL b) := sorted_unique ((sortI_perm _).trans ((p.filterMap _).trans (sortI_perm _).symm)) (sortI_sorted _) (sortI_sorted _)
  have e2 : sortD (tsL a) = sortD (tsL b) := sortD_uniq (p.filter _) fun d hd => ((tsL_mem ht).mp hd).2
  rw [e1, e2]
theorem alike_txt (s t : Str) (n m : Int) : PySem.W.alike (.tuple [.str s, .int n]) (.tuple [.str t, .int m]) = true := by simp [PySem.W.alike, PySem.W.alikeAll]
theorem srt_txt {ts : List D} (h : ∀ d ∈ ts, TD d) (h2 : ∀ d ∈ ts, ∃ s n, d = .tuple [.str s, .int n]) : bi1 .srt (.list ts) = .ret (.list (sortD ts)) := by
  cases ts with
  | nil => rfl
  | cons x r =>
    have e : intsOf (x :: r) = none := by
      obtain ⟨s, n, rfl⟩ := h2 x List.mem_cons_self
      rfl
    show (match intsOf (x :: r) with
      | some ns => M.ret (PyData.list ((sortI ns).map .int))
      | none => need (srtOk (x :: r)) (M.ret (PyData.list (sortD (x :: r))))) = _
    rw [e]
    refine need_of ?_
    unfold srtOk
    have a1 : ((x :: r).all fun d => (x :: r).all fun e => PySem.W.alike d e) = true := List.all_eq_true.mpr fun d hd => List.all_eq_true.mpr fun e he => by
      obtain ⟨s, n, rfl⟩ := h2 d hd
      obtain ⟨t, m, rfl⟩ := h2 e he
      exact alike_txt s t n m
    have a2 : (x :: r).all isTupD = true := List.all_eq_true.mpr fun d hd => by
      obtain ⟨s, n, rfl⟩ := h2 d hd
      rfl
    rw [a1, a2, (kos_sh fun d hd => (h d hd).ko).1]
    rfl
theorem srt_int (ns : List Int) : bi1 .srt (.list (ns.map .int)) = .ret (.list ((sortI ns).map .int)) := by
  show (match intsOf (ns.map .int) with
      | some ns => M.ret (PyData.list ((sortI ns).map .int))
      | none => need (srtOk (ns.map .int)) (M.ret (PyData.list (sortD (ns.map .int))))) = _
  rw [intsOf_map]
def isIntS : Sx := (.cons (.ret (.and (.isi (.var 0) .int) (.nt (.isi (.var 0) .bool)))) .nil)
theorem isInt_run {d : D} (h : TD d) : runD fu 1 F isIntS [d] = .ret (.bool (isIntD d)) := by
  unfold isIntS
  rw [run_ret]
  rcases h.sh with ⟨i, rfl⟩ | ⟨s, n, rfl⟩ <;> rfl
def openedS (i j : Nat) : Sx := (.cons (.asg (.var 2) (.call j (.cons (.var 0) (.cons (.var 1) .nil)))) (.cons (.asg (.var 3) (.lc [4] (.var 4) (.var 2) (.call i (.cons (.var 4) .nil)) (.var 4))) (.cons (.asg (.var 5) (.lc [4] (.var 4) (.var 2) (.nt (.call i (.cons (.var 4) .nil))) (.var 4))) (.cons (.ret (.tup (.cons (.bi .tup (.bi .srt (.var 3))) (.cons (.bi .tup (.bi .srt (.var 5))) .nil)))) .nil))))
theorem opened_run {i j : Nat} {kd bd : D} {fd : List D} (hI : ∀ d, TD d → F i [d] = .ret (.bool (isIntD d))) (hH : F j [kd, bd] = .ret (dctD fd)) (ht : ∀ d ∈ fd, TD d) : runD fu 6 F (openedS i j) [kd, bd] = .ret (openD fd) := by
  have x1 : exGo fu F (.asg (.var 2) (.call j (.cons (.var 0) (.cons (.var 1) .nil)))) [some (.dat kd), some (.dat bd), none, none, none, none] = .ret (.nx [some (.dat kd), some (.dat bd), some (.dat (dctD fd)), none, none, none]) := by
    show ((F j [kd, bd]).bind _) = _
    rw [hH]
    rfl
  have x2 : ev F (.lc [4] (.var 4) (.var 2) (.call i (.cons (.var 4) .nil)) (.var 4)) [some (.dat kd), some (.dat bd), some (.dat (dctD fd)), none, none, none] = .ret (.list (fd.filter isIntD)) :=
    lc_flt (it_d fd) rfl fun d hd => ⟨_, rfl, by
      show ((F i [d]).bind truD) = _
      rw [hI d (ht d hd)]
      rfl, rfl⟩
  have x3 : ev F (.lc [4] (.var 4) (.var 2) (.nt (.call i (.cons (.var 4) .nil))) (.var 4)) [some (.dat kd), some (.dat bd), some (.dat (dctD fd)), some (.dat (.list (fd.filter isIntD))), none, none] = .ret (.list (tsL fd)) :=
    lc_flt (it_d fd) rfl fun d hd => ⟨_, rfl, by
      show ((((F i [d]).bind truD).bind fun k => M.ret (PyData.bool !k)).bind truD) = _
      rw [hI d (ht d hd)]
      rfl, rfl⟩
  have ht2 : ∀ d ∈ tsL fd, TD d := fun d hd => ht d (List.mem_filter.mp hd).1
  have x4 : ev F (.tup (.cons (.bi .tup (.bi .srt (.var 3))) (.cons (.bi .tup (.bi .srt (.var 5))) .nil))) [some (.dat kd), some (.dat bd), some (.dat (dctD fd)), some (.dat (.list (fd.filter isIntD))), none, some (.dat (.list (tsL fd)))] = .ret (openD fd) := by
    show ((((bi1 .srt (.list (fd.filter isIntD))).bind fun d => bi1 .tup d).bind fun d => ((((bi1 .srt (.list (tsL fd))).bind fun d => bi1 .tup d).bind fun d => (M.ret (PyData.list [])).bind fun x => (lstD x).bind fun ds => M.ret (PyData.list (d :: ds)))).bind fun x => (lstD x).bind fun ds => M.ret (PyData.list (d :: ds))).bind fun x => (lstD x).bind fun ds => need (decide (ds.length ≤ sizeLine)) (M.ret (PyData.tuple ds))) = _
    rw [intL_eq, srt_int, srt_txt ht2 fun d hd => ((tsL_mem ht).mp hd).2]
    show need (decide (2 ≤ sizeLine)) _ = _
    rw [need_of (decide_eq_true (sz0 _ (by omega)))]
    rfl
  show ((((exGo fu F (.asg (.var 2) (.call j (.cons (.var 0) (.cons (.var 1) .nil)))) _).bind _)).bind _) = _
  rw [show ev0 6 [kd, bd] = [some (.dat kd), some (.dat bd), none, none, none, none] from rfl, x1, b_ret]
  show (((((ev F (.lc [4] (.var 4) (.var 2) (.call i (.cons (.var 4) .nil)) (.var 4)) _).bind _).bind _)).bind _) = _
  rw [x2, b_ret]
  show (((((ev F (.lc [4] (.var 4) (.var 2) (.nt (.call i (.cons (.var 4) .nil))) (.var 4)) [some (.dat kd), some (.dat bd), some (.dat (dctD fd)), some (.dat (.list (fd.filter isIntD))), none, none]).bind _).bind _)).bind _) = _
  rw [x3, b_ret]
  show (((((ev F (.tup (.cons (.bi .tup (.bi .srt (.var 3))) (.cons (.bi .tup (.bi .srt (.var 5))) .nil))) [some (.dat kd), some (.dat bd), some (.dat (dctD fd)), some (.dat (.list (fd.filter isIntD))), none, some (.dat (.list (tsL fd)))]).bind _).bind _)).bind _) = _
  rw [x4]
  rfl
def opensS (j : Nat) : Sx := (.cons (.ret (.cmp .isin (.var 2) (.call j (.cons (.var 0) (.cons (.var 1) .nil))))) .nil)
theorem opens_run {j : Nat} {kd bd t : D} {fd : List D} (hH : F j [kd, bd] = .ret (dctD fd)) (ht : keyOk t = true) : runD fu 3 F (opensS j) [kd, bd, t] = .ret (.bool (hasK fd t)) := by
  unfold opensS
  rw [run_ret]
  show ((F j [kd, bd]).bind fun y => cmp2 .isin t y) = _
  rw [hH, b_ret, c_inD ht]
theorem c_inT (a : D) (b : List D) : cmp2 .isin a (.tuple b) = need (SeqAt.shaped a && SeqAt.shaped (.tuple b)) (.ret (.bool (hasK b a))) := by cases a <;> rfl
/-- the places of the boxes all of whose keys are there -/
def opN (ks : List D) : Nat → List Bx → List Nat
  | _, [] => []
  | i, b :: r => if b.2.all (hasK ks) = true then i :: opN ks (i + 1) r else opN ks (i + 1) r
def natD (ns : List Nat) : List D := ns.map fun i => .int (i : Nat)
def openableS : Sx := (.cons (.ret (.bi .tup (.lc [2, 3, 4] (.tup (.cons (.var 2) (.cons (.tup (.cons (.var 3) (.cons (.var 4) .nil))) .nil))) (.enum (.var 1)) (.bi .all (.lc [5] (.var 5) (.var 4) .none_ (.cmp .isin (.var 5) (.var 0)))) (.var 2)))) .nil)
theorem lcGo_enum {b : D → M Ev} {t : Ev → M Bool} {e : Ev → M D} {ks : List D} : ∀ (i : Nat) (bs : List Bx), (∀ i : Nat, ∀ x ∈ bs, ∃ ρ, b (.tuple [.int i, bxD x]) = .ret ρ ∧ t ρ = .ret (x.2.all (hasK ks)) ∧ e ρ = .ret (.int i)) → lcGo b t e (enumGo i (bs.map bxD)) = .ret (natD (opN ks i bs))
  | _, [], _ => rfl
  | i, x :: r, h => by
    obtain ⟨ρ, h1, h2, h3⟩ := h i x List.mem_cons_self
    have ih := lcGo_enum (ks := ks) (i + 1) r fun j y hy => h j y (List.mem_cons_of_mem _ hy)
    show lcGo b t e (.tuple [.int (i : Nat), bxD x] :: enumGo (i + 1) (r.map bxD)) = _
    unfold lcGo opN
    rw [h1, b_ret, h2, b_ret]
    cases q : x.2.all (hasK ks) with
    | true => rw [if_pos rfl, if_pos rfl, h3, b_ret, ih, b_ret]; rfl
    | false => rw [if_neg (by decide), if_neg (by decide), ih]
theorem openable_run {ks : List D} {bs : List Bx} (hk : ∀ k ∈ ks, keyOk k = true) (hb : ∀ b ∈ bs, BO b) : runD fu 6 F openableS [.tuple ks, .tuple (bs.map bxD)] = .ret (.tuple (natD (opN ks 0 bs))) := by
  unfold openableS
  rw [run_ret]
  show ((((M.ret (enumGo 0 (bs.map bxD))).bind fun ds => need (datOnly (ev0 6 [.tuple ks, .tuple (bs.map bxD)]) [2, 3, 4]) ((lcGo (fun d => tgt (.tup (.cons (.var 2) (.cons (.tup (.cons (.var 3) (.cons (.var 4) .nil))) .nil))) d (wip (ev0 6 [.tuple ks, .tuple (bs.map bxD)]) [2, 3, 4])) (tst (.bi .all (.lc [5] (.var 5) (.var 4) .none_ (.cmp .isin (.var 5) (.var 0)))) (ev F (.bi .all (.lc [5] (.var 5) (.var 4) .none_ (.cmp .isin (.var 5) (.var 0)))))) (ev F (.var 2)) ds).bind fun ys => M.ret (PyData.list ys)))).bind fun d => bi1 .tup d) = _
  rw [b_ret, show datOnly (ev0 6 [.tuple ks, .tuple (bs.map bxD)]) [2, 3, 4] = true from rfl, need_true, lcGo_enum (ks := ks) 0 bs fun i x hx => ⟨[some (.dat (.tuple ks)), some (.dat (.tuple (bs.map bxD))), some (.dat (.int i)), some (.dat x.1), some (.dat (.tuple x.2)), none], rfl, ?_, rfl⟩]
  · rfl
  · have e : ev F (.lc [5] (.var 5) (.var 4) .none_ (.cmp .isin (.var 5) (.var 0))) [some (.dat (.tuple ks)), some (.dat (.tuple (bs.map bxD))), some (.dat (.int i)), some (.dat x.1), some (.dat (.tuple x.2)), none] = .ret (.list (x.2.map fun k => .bool (hasK ks k))) := by
      refine lc_map rfl rfl fun k h => ⟨_, rfl, rfl, ?_⟩
      show cmp2 .isin k (.tuple ks) = _
      rw [c_inT, ko_sh ((hb x hx).nd k h), (kos_sh hk).2]
      rfl
    show (((ev F (.lc [5] (.var 5) (.var 4) .none_ (.cmp .isin (.var 5) (.var 0))) _).bind fun d => bi1 .all d).bind truD) = _
    rw [e, b_ret, b_all, boolsOf_map]
    show M.ret ((x.2.map (hasK ks)).all id) = _
    rw [all_id]
theorem opN_mem {ks : List D} : ∀ {i j : Nat} {bs : List Bx}, j ∈ opN ks i bs ↔ ∃ k b, j = i + k ∧ bs[k]? = some b ∧ b.2.all (hasK ks) = true
  | i, j, [] => by simp [opN]
  | i, j, x :: r => by
    have ih := opN_mem (ks := ks) (i := i + 1) (j := j) (bs := r)
    have step : (∃ k b, j = i + k ∧ (x :: r)[k]? = some b ∧ b.2.all (hasK ks) = true) ↔ (j = i ∧ x.2.all (hasK ks) = true) ∨ ∃ k b, j = i + 1 + k ∧ r[k]? = some b ∧ b.2.all (hasK ks) = true := by
      constructor
      · rintro ⟨k, b, h1, h2, h3⟩
        cases k with
        | zero => simp at h2; subst h2; exact .inl ⟨h1, h3⟩
        | succ k => exact .inr ⟨k, b, by omega, by simpa using h2, h3⟩
      · rintro (⟨h1, h2⟩ | ⟨k, b, h1, h2, h3⟩)
        · exact ⟨0, x, h1, rfl, h2⟩
        · exact ⟨k + 1, b, by omega, by simpa using h2, h3⟩
    rw [step, ← ih]
    show j ∈ (if x.2.all (hasK ks) = true then i :: opN ks (i + 1) r else opN ks (i + 1) r) ↔ _
    cases q : x.2.all (hasK ks) with
    | true => rw [if_pos rfl, List.mem_cons]; simp only [and_true]
    | false => rw [if_neg (by decide)]; simp only [Bool.false_eq_true, and_false, false_or]
theorem opN_pw (ks : List D) : ∀ (i : Nat) (bs : List Bx), (opN ks i bs).Pairwise (· < ·) ∧ ∀ j ∈ opN ks i bs, i ≤ j
  | _, [] => ⟨.nil, by simp [opN]⟩
  | i, x :: r => by
    obtain ⟨h1, h2⟩ := opN_pw ks (i + 1) r
    unfold opN
    split
    · refine ⟨List.pairwise_cons.mpr ⟨fun j hj => by have := h2 j hj; omega, h1⟩, fun j hj => ?_⟩
      rcases List.mem_cons.mp hj with e | hj
      · omega
      · have := h2 j hj; omega
    · exact ⟨h1, fun j hj => by have := h2 j hj; omega⟩
theorem opN_len (ks : List D) : ∀ (i : Nat) (bs : List Bx), (opN ks i bs).length ≤ bs.length
  | _, [] => Nat.le_refl _
  | i, x :: r => by
    have := opN_len ks (i + 1) r
    unfold opN
    split <;> simp <;> omega
end Po
/-! Pd: what many laws draw: keys, boxes (the drawing def is the dr-th of the table). -/
namespace Pd
open PySem PySem.Spec PyProof.Rows L2 Pf
variable {fu : Nat} {F : Nat → List D → M D} {dr : Nat}
/-- ints below m -/
def Nums (m : Nat) (ds : List D) : Prop := ∀ d ∈ ds, ∃ i : Nat, i < m ∧ d = .int i
theorem pop_ok {m k : Nat} {ds : List D} (h : Nums m ds) (hk : k < ds.length) (hb : ds.length ≤ 1000) : ∃ z es, popD ds (k : Int) = some (z, es) ∧ (∃ i : Nat, i < m ∧ z = .int i) ∧ Nums m es ∧ es.length + 1 = ds.length := by
  have hs : seqIndex? (k : Int) ds.length = some k := by
    unfold seqIndex?
    simp [hk]
    try omega
  refine ⟨ds[k], ds.eraseIdx k, ?_, h _ (List.getElem_mem hk), fun d hd => h d (List.mem_of_mem_eraseIdx hd), ?_⟩
  · unfold popD
    rw [if_pos (by omega), hs]
    simp [hk]
  · rw [List.length_eraseIdx_of_lt hk]
    omega
theorem srt_ok {m : Nat} {ds : List D} (h : Nums m ds) : ∃ es, bi1 .srt (.list ds) = .ret (.list es) ∧ Nums m es ∧ es.length = ds.length := by
  have ins : ∀ (x : Int) (l : List Int), (insI x l).length = l.length + 1 ∧ ∀ y ∈ insI x l, y = x ∨ y ∈ l := by
    intro x l
    induction l with
    | nil => exact ⟨rfl, fun y hy => .inl (by simpa [insI] using hy)⟩
    | cons z r ih =>
      unfold insI
      split
      · exact ⟨rfl, fun y hy => by rcases List.mem_cons.mp hy with e | e; exact .inl e; exact .inr e⟩
      · refine ⟨by rw [List.length_cons, ih.1, List.length_cons], fun y hy => ?_⟩
        rcases List.mem_cons.mp hy with e | e
        · exact .inr (e ▸ List.mem_cons_self)
        · rcases ih.2 y e with e | e
          · exact .inl e
          · exact .inr (List.mem_cons_of_mem _ e)
  have srt : ∀ l : List Int, (sortI l).length = l.length ∧ ∀ y ∈ sortI l, y ∈ l := by
    intro l
    induction l with
    | nil => exact ⟨rfl, fun y hy => hy⟩
    | cons z r ih =>
      unfold sortI
      refine ⟨by rw [(ins z _).1, ih.1, List.length_cons], fun y hy => ?_⟩
      rcases (ins z _).2 y hy with e | e
      · exact e ▸ List.mem_cons_self
      · exact List.mem_cons_of_mem _ (ih.2 y e)
  have insq : ∀ ds : List D, Nums m ds → ∃ l : List Int, intsOf ds = some l ∧ l.length = ds.length ∧ ∀ y ∈ l, ∃ i : Nat, i < m ∧ y = i := by
    intro ds
    induction ds with
    | nil => intro _; exact ⟨[], rfl, rfl, fun y hy => by cases hy⟩
    | cons d r ih =>
      intro h
      obtain ⟨i, hi, rfl⟩ := h d List.mem_cons_self
      obtain ⟨l, h1, h2, h3⟩ := ih fun d hd => h d (List.mem_cons_of_mem _ hd)
      refine ⟨(i : Int) :: l, ?_, by rw [List.length_cons, h2, List.length_cons], fun y hy => ?_⟩
      · show (intsOf r).map ((i : Int) :: ·) = _
        rw [h1]
        rfl
      · rcases List.mem_cons.mp hy with e | e
        · exact ⟨i, hi, e⟩
        · exact h3 y e
  obtain ⟨l, h1, h2, h3⟩ := insq ds h
  refine ⟨(sortI l).map .int, ?_, fun d hd => ?_, by rw [List.length_map, (srt l).1, h2]⟩
  · show (match intsOf ds with
      | some ns => M.ret (PyData.list ((sortI ns).map .int))
      | none => need (srtOk ds) (M.ret (PyData.list (sortD ds)))) = _
    rw [h1]
  · obtain ⟨y, hy, rfl⟩ := List.mem_map.mp hd
    obtain ⟨i, hi, e⟩ := h3 y ((srt l).2 y hy)
    exact ⟨i, hi, by rw [e]⟩
theorem nums_rng (n : Nat) : Nums n (intR 0 n) ∧ (intR 0 n).length = n := by
  refine ⟨fun d hd => ?_, by simp [intR]⟩
  obtain ⟨i, hi, rfl⟩ := List.mem_map.mp hd
  exact ⟨i, List.mem_range.mp hi, by simp⟩
theorem Nums.app {m : Nat} {ds : List D} {d : D} (h : Nums m ds) (hd : ∃ i : Nat, i < m ∧ d = .int i) : Nums m (ds ++ [d]) := fun y hy => by
  rcases List.mem_append.mp hy with q | q
  · exact h y q
  · rw [List.mem_singleton.mp q]; exact hd
def gripS (dr : Nat) : Sx := (.cons (.par 3 true (.lrng (.var 1)) 4 true (.lst .nil)) (.cons (.forS (.var 5) (.rng1 (.call dr (.cons (.var 0) (.cons (.bin .add (.var 2) (.cst (.int 1))) .nil)))) (.cons (.appPop 4 3 (.call dr (.cons (.var 0) (.cons (.bi .len (.var 3)) .nil)))) .nil)) (.cons (.ret (.bi .tup (.bi .srt (.var 4)))) .nil)))
theorem wp_grip (hF : F dr = drawM) (ns : List Int) (many most : Nat) (h : most ≤ many) (hm : many ≤ 1000) : WP (runD fu 6 F (gripS dr) [feedD ns, .int many, .int most]) (fun d => ∃ ds, d = .tuple ds ∧ Nums many ds ∧ ds.length ≤ most) := by
  unfold gripS
  simp -implicitDefEqProofs only [↓X_nil, ↓X_cons, ↓X_asg, ↓X_asgO, ↓X_par, ↓X_bor, ↓X_app, ↓X_ext, ↓X_rmv, ↓X_popS, ↓X_appPop, ↓X_augI, ↓X_iff, ↓X_for, ↓X_ret, ↓X_retN, ↓X_cont, ↓X_brk, ↓X_pas, ↓X_expr, ↓X_frz, ↓X_run, ↓E_var, ↓E_cst, ↓E_glob, ↓E_fref, ↓E_nil, ↓E_cons, ↓E_tup, ↓E_lst, ↓E_call, ↓E_callk, ↓E_bi, ↓E_biIf, ↓E_isi, ↓E_bin, ↓E_cmp, ↓E_neg, ↓E_nt, ↓E_and, ↓E_or, ↓E_ifx, ↓E_idx, ↓E_sl, ↓E_rev, ↓E_rng1, ↓E_lrng, ↓E_trng, ↓E_lc, ↓E_upper, ↓E_step, ↓T_var, ↓T_tup, ↓T_nil, ↓T_cons, ↓W_bind, ↓W_ret, ↓W_need, ↓W_draw, ↓W_if', ↓kO_nx, ↓kO_ct, ↓kO_bk, ↓kO_rt, ↓kF_nx, ↓kF_ct, ↓kF_bk, ↓kF_rt, ↓kE_rt, ↓kE_nx, ↓kIf_t, ↓kIf_f, rdv, tst, itmv, optv, gs, gr, Pf.go, mkV, isFr, noOwn_eq, datOnly_eq, wip, tg_var, put_eq, chg, clr, clr_z, clr_o, clr_d, clr_b, clr_n, io_o, io_d, io_b, io_n, io_z, frzD, permD, SV.d, ls_l, in_i, it_l, it_t, t_b, bo_b, l_lst, l_tup, rev_l, rev_t, Pf.op_add, bi_int, c_lt, c_le, c_gt, c_ge, ev0, List.map_cons, List.map_nil, List.all_cons, List.all_nil, List.replicate, List.length_cons, List.length_nil, List.cons_append, List.nil_append, List.append_nil, List.set, List.getElem?_cons_zero, List.getElem?_cons_succ, Nat.reduceAdd, Nat.reduceSub, decide_eq_true_eq, ne_eq, if_true, if_false, Bool.false_eq_true, true_and, and_true, Option.map, ite_self, oz_c, oz_i, c_eqI, Option.getD_some, Option.getD_none, List.foldl, Bool.and_true, Bool.and_self, Bool.not_true, Bool.not_false, hF]
  refine ⟨by omega, sz0 _ (by omega), by omega, by omega, fun r hr => ⟨by omega, ?_⟩⟩
  refine wp_forI (fun left ρ => ∃ pool found o, ρ = [some (.dat (feedD ns)), some (.dat (.int many)), some (.dat (.int most)), some (.own (.list pool)), some (.own (.list found)), dz o] ∧ Nums many pool ∧ Nums many found ∧ pool.length + found.length = many ∧ found.length + left.length ≤ most) ?_ ?_ ?_
  · refine ⟨_, _, none, rfl, ?_, fun d hd => (by cases hd), ?_, ?_⟩
    · rw [Int.toNat_natCast]; exact (nums_rng many).1
    · rw [Int.toNat_natCast, (nums_rng many).2]; rfl
    · rw [Int.toNat_natCast, (nums_rng r).2]; simp; omega
  · rintro d r ρ ⟨pool, found, o, rfl, h1, h2, h3, h4⟩
    rw [List.length_cons] at h4
    simp -implicitDefEqProofs only [↓X_nil, ↓X_cons, ↓X_asg, ↓X_asgO, ↓X_par, ↓X_bor, ↓X_app, ↓X_ext, ↓X_rmv, ↓X_popS, ↓X_appPop, ↓X_augI, ↓X_iff, ↓X_for, ↓X_ret, ↓X_retN, ↓X_cont, ↓X_brk, ↓X_pas, ↓X_expr, ↓X_frz, ↓X_run, ↓E_var, ↓E_cst, ↓E_glob, ↓E_fref, ↓E_nil, ↓E_cons, ↓E_tup, ↓E_lst, ↓E_call, ↓E_callk, ↓E_bi, ↓E_biIf, ↓E_isi, ↓E_bin, ↓E_cmp, ↓E_neg, ↓E_nt, ↓E_and, ↓E_or, ↓E_ifx, ↓E_idx, ↓E_sl, ↓E_rev, ↓E_rng1, ↓E_lrng, ↓E_trng, ↓E_lc, ↓E_upper, ↓E_step, ↓T_var, ↓T_tup, ↓T_nil, ↓T_cons, ↓W_bind, ↓W_ret, ↓W_need, ↓W_draw, ↓W_if', ↓kO_nx, ↓kO_ct, ↓kO_bk, ↓kO_rt, ↓kF_nx, ↓kF_ct, ↓kF_bk, ↓kF_rt, ↓kE_rt, ↓kE_nx, ↓kIf_t, ↓kIf_f, rdv, tst, itmv, optv, gs, gr, Pf.go, mkV, isFr, noOwn_eq, datOnly_eq, wip, tg_var, put_eq, chg, clr, clr_z, clr_o, clr_d, clr_b, clr_n, io_o, io_d, io_b, io_n, io_z, frzD, permD, SV.d, ls_l, in_i, it_l, it_t, t_b, bo_b, l_lst, l_tup, rev_l, rev_t, Pf.op_add, bi_int, c_lt, c_le, c_gt, c_ge, ev0, List.map_cons, List.map_nil, List.all_cons, List.all_nil, List.replicate, List.length_cons, List.length_nil, List.cons_append, List.nil_append, List.append_nil, List.set, List.getElem?_cons_zero, List.getElem?_cons_succ, Nat.reduceAdd, Nat.reduceSub, decide_eq_true_eq, ne_eq, if_true, if_false, Bool.false_eq_true, true_and, and_true, Option.map, ite_self, oz_c, oz_i, c_eqI, Option.getD_some, Option.getD_none, List.foldl, Bool.and_true, Bool.and_self, Bool.not_true, Bool.not_false, hF]
    refine ⟨by omega, fun k hk => ?_⟩
    have hk' : k < pool.length := by omega
    rw [W_pop hk' (by omega)]
    refine ⟨⟨sz1 _ (by omega), by omega⟩, pool.eraseIdx k, found ++ [pool[k]], some d, rfl, fun y hy => h1 y (List.mem_of_mem_eraseIdx hy), h2.app (h1 _ (List.getElem_mem hk')), ?_, ?_⟩
    · rw [List.length_append, List.length_singleton, List.length_eraseIdx_of_lt hk']; omega
    · rw [List.length_append, List.length_singleton]; omega
  · rintro ρ ⟨pool, found, o, rfl, h1, h2, h3, h4⟩
    simp -implicitDefEqProofs only [↓X_nil, ↓X_cons, ↓X_asg, ↓X_asgO, ↓X_par, ↓X_bor, ↓X_app, ↓X_ext, ↓X_rmv, ↓X_popS, ↓X_appPop, ↓X_augI, ↓X_iff, ↓X_for, ↓X_ret, ↓X_retN, ↓X_cont, ↓X_brk, ↓X_pas, ↓X_expr, ↓X_frz, ↓X_run, ↓E_var, ↓E_cst, ↓E_glob, ↓E_fref, ↓E_nil, ↓E_cons, ↓E_tup, ↓E_lst, ↓E_call, ↓E_callk, ↓E_bi, ↓E_biIf, ↓E_isi, ↓E_bin, ↓E_cmp, ↓E_neg, ↓E_nt, ↓E_and, ↓E_or, ↓E_ifx, ↓E_idx, ↓E_sl, ↓E_rev, ↓E_rng1, ↓E_lrng, ↓E_trng, ↓E_lc, ↓E_upper, ↓E_step, ↓T_var, ↓T_tup, ↓T_nil, ↓T_cons, ↓W_bind, ↓W_ret, ↓W_need, ↓W_draw, ↓W_if', ↓kO_nx, ↓kO_ct, ↓kO_bk, ↓kO_rt, ↓kF_nx, ↓kF_ct, ↓kF_bk, ↓kF_rt, ↓kE_rt, ↓kE_nx, ↓kIf_t, ↓kIf_f, rdv, tst, itmv, optv, gs, gr, Pf.go, mkV, isFr, noOwn_eq, datOnly_eq, wip, tg_var, put_eq, chg, clr, clr_z, clr_o, clr_d, clr_b, clr_n, io_o, io_d, io_b, io_n, io_z, frzD, permD, SV.d, ls_l, in_i, it_l, it_t, t_b, bo_b, l_lst, l_tup, rev_l, rev_t, Pf.op_add, bi_int, c_lt, c_le, c_gt, c_ge, ev0, List.map_cons, List.map_nil, List.all_cons, List.all_nil, List.replicate, List.length_cons, List.length_nil, List.cons_append, List.nil_append, List.append_nil, List.set, List.getElem?_cons_zero, List.getElem?_cons_succ, Nat.reduceAdd, Nat.reduceSub, decide_eq_true_eq, ne_eq, if_true, if_false, Bool.false_eq_true, true_and, and_true, Option.map, ite_self, oz_c, oz_i, c_eqI, Option.getD_some, Option.getD_none, List.foldl, Bool.and_true, Bool.and_self, Bool.not_true, Bool.not_false, hF]
    obtain ⟨es, t1, t2, t3⟩ := srt_ok h2
    rw [t1]
    simp -implicitDefEqProofs only [↓X_nil, ↓X_cons, ↓X_asg, ↓X_asgO, ↓X_par, ↓X_bor, ↓X_app, ↓X_ext, ↓X_rmv, ↓X_popS, ↓X_appPop, ↓X_augI, ↓X_iff, ↓X_for, ↓X_ret, ↓X_retN, ↓X_cont, ↓X_brk, ↓X_pas, ↓X_expr, ↓X_frz, ↓X_run, ↓E_var, ↓E_cst, ↓E_glob, ↓E_fref, ↓E_nil, ↓E_cons, ↓E_tup, ↓E_lst, ↓E_call, ↓E_callk, ↓E_bi, ↓E_biIf, ↓E_isi, ↓E_bin, ↓E_cmp, ↓E_neg, ↓E_nt, ↓E_and, ↓E_or, ↓E_ifx, ↓E_idx, ↓E_sl, ↓E_rev, ↓E_rng1, ↓E_lrng, ↓E_trng, ↓E_lc, ↓E_upper, ↓E_step, ↓T_var, ↓T_tup, ↓T_nil, ↓T_cons, ↓W_bind, ↓W_ret, ↓W_need, ↓W_draw, ↓W_if', ↓kO_nx, ↓kO_ct, ↓kO_bk, ↓kO_rt, ↓kF_nx, ↓kF_ct, ↓kF_bk, ↓kF_rt, ↓kE_rt, ↓kE_nx, ↓kIf_t, ↓kIf_f, rdv, tst, itmv, optv, gs, gr, Pf.go, mkV, isFr, noOwn_eq, datOnly_eq, wip, tg_var, put_eq, chg, clr, clr_z, clr_o, clr_d, clr_b, clr_n, io_o, io_d, io_b, io_n, io_z, frzD, permD, SV.d, ls_l, in_i, it_l, it_t, t_b, bo_b, l_lst, l_tup, rev_l, rev_t, Pf.op_add, bi_int, c_lt, c_le, c_gt, c_ge, ev0, List.map_cons, List.map_nil, List.all_cons, List.all_nil, List.replicate, List.length_cons, List.length_nil, List.cons_append, List.nil_append, List.append_nil, List.set, List.getElem?_cons_zero, List.getElem?_cons_succ, Nat.reduceAdd, Nat.reduceSub, decide_eq_true_eq, ne_eq, if_true, if_false, Bool.false_eq_true, true_and, and_true, Option.map, ite_self, oz_c, oz_i, c_eqI, Option.getD_some, Option.getD_none, List.foldl, Bool.and_true, Bool.and_self, Bool.not_true, Bool.not_false]
    exact ⟨es, rfl, t2, by rw [t3]; exact h4⟩
theorem shL {ds : List D} (h : ∀ d ∈ ds, d.canLay0 = true ∧ d.depth ≤ 60) : SeqAt.shaped (.list ds) = true := by
  have h1 := lay_of fun d hd => (h d hd).1
  have h2 := dep_of fun d hd => (h d hd).2
  have e1 : (PyData.list ds).canLay0 = true := by simp only [PyData.canLay0]; exact h1
  have e2 : (PyData.list ds).depth ≤ 64 := by simp only [PyData.depth]; omega
  unfold SeqAt.shaped
  rw [e1, decide_eq_true e2]
  rfl
theorem Nums.sh {m : Nat} {ds : List D} (h : Nums m ds) : SeqAt.shaped (.list ds) = true := shL fun d hd => by
  obtain ⟨i, _, rfl⟩ := h d hd
  exact ⟨rfl, Nat.zero_le _⟩
theorem Nums.ints {m : Nat} {ds : List D} (h : Nums m ds) : ∃ l, intsOf ds = some l := by
  induction ds with
  | nil => exact ⟨[], rfl⟩
  | cons d r ih =>
    obtain ⟨i, hi, rfl⟩ := h d List.mem_cons_self
    obtain ⟨l, e⟩ := ih fun d hd => h d (List.mem_cons_of_mem _ hd)
    refine ⟨(i : Int) :: l, ?_⟩
    show (intsOf r).map ((i : Int) :: ·) = _
    rw [e]
    rfl
theorem rmvD_ok {m : Nat} {i : Nat} : ∀ {ds : List D}, Nums m ds → (.int i : D) ∈ ds → ∃ es, rmvD (.int i) ds = some es ∧ Nums m es ∧ es.length + 1 = ds.length
  | [], _, hd => by cases hd
  | y :: r, h, hd => by
    obtain ⟨j, hj, rfl⟩ := h y List.mem_cons_self
    have hr : Nums m r := fun d hd => h d (List.mem_cons_of_mem _ hd)
    unfold rmvD
    rw [eqv_i]
    by_cases e : (j : Int) = i
    · rw [if_pos (decide_eq_true e)]
      exact ⟨r, rfl, hr, rfl⟩
    · rw [if_neg (by rw [decide_eq_true_eq]; exact e)]
      have hd' : (.int i : D) ∈ r := by
        rcases List.mem_cons.mp hd with q | q
        · exact absurd (by injection q with q; exact q.symm) e
        · exact q
      obtain ⟨es, e1, e2, e3⟩ := rmvD_ok hr hd'
      refine ⟨.int j :: es, by rw [e1]; rfl, fun d hd => ?_, by rw [List.length_cons, List.length_cons, e3]⟩
      rcases List.mem_cons.mp hd with q | q
      · exact ⟨j, hj, q⟩
      · exact e2 d q
theorem rmv_ok {m : Nat} {ds : List D} {d : D} (h : Nums m ds) (hd : d ∈ ds) : ∃ es, rmvM ds d = .ret es ∧ Nums m es ∧ es.length + 1 = ds.length := by
  obtain ⟨i, hi, rfl⟩ := h d hd
  obtain ⟨es, e1, e2, e3⟩ := rmvD_ok h hd
  obtain ⟨l, e⟩ := h.ints
  refine ⟨es, ?_, e2, e3⟩
  unfold rmvM
  rw [e, e1]
theorem intR_s (m : Nat) : intR 0 (m + 1) = intR 0 m ++ [.int m] := by
  unfold intR
  rw [List.range_succ, List.map_append, List.map_singleton, Int.zero_add]
theorem flt_len (i : Nat) : ∀ m : Nat, ((intR 0 m).filter fun d => !PyData.eqv d (.int i)).length = if i < m then m - 1 else m
  | 0 => rfl
  | m + 1 => by
    rw [intR_s, List.filter_append, List.length_append, flt_len i m]
    simp only [List.filter_cons, List.filter_nil, eqv_i]
    by_cases e : (m : Int) = i
    · have e' : m = i := by omega
      subst e'
      simp
    · by_cases l : i < m
      · simp [e, l, Nat.lt_succ_of_lt l]
        omega
      · have : ¬ i < m + 1 := by omega
        simp [e, l, this]
/-- a box's goal -/
def Go (m : Nat) (g : D) : Prop := (∃ i : Nat, i < m ∧ g = .int i) ∨ ∃ s ∈ [PyData.str "memo", PyData.str "a", PyData.str "world"], ∃ r : Nat, r < 2 ∧ g = .tuple [s, .int r]
def Bx (m : Nat) (e : D) : Prop := ∃ g ks, e = .tuple [g, .tuple ks] ∧ Go m g ∧ Nums m ks ∧ ks.length ≤ 3 ∧ 1 ≤ ks.length
theorem Go.ok {m : Nat} {g : D} (h : Go m g) : g.canLay0 = true ∧ g.depth ≤ 1 := by
  rcases h with ⟨i, hi, rfl⟩ | ⟨s, hs, r, hr, rfl⟩
  · exact ⟨rfl, Nat.zero_le _⟩
  · simp only [List.mem_cons, List.mem_nil_iff, or_false] at hs
    rcases hs with rfl | rfl | rfl <;> exact ⟨by simp [PyData.canLay0, PyData.canLayAll0] <;> decide +kernel, by simp [PyData.depth, PyData.depthAll]⟩
theorem Go.sh {m : Nat} {g : D} (h : Go m g) : SeqAt.shaped g = true := by
  have := h.ok
  unfold SeqAt.shaped
  rw [this.1, decide_eq_true (by omega)]
  rfl
theorem Nums.ok {m : Nat} {ks : List D} (h : Nums m ks) : (PyData.tuple ks).canLay0 = true ∧ (PyData.tuple ks).depth ≤ 1 := by
  have h1 : PyData.canLayAll0 ks = true := lay_of fun d hd => by obtain ⟨i, _, rfl⟩ := h d hd; rfl
  have h2 : PyData.depthAll ks ≤ 0 := dep_of fun d hd => by obtain ⟨i, _, rfl⟩ := h d hd; exact Nat.le_refl _
  simp only [PyData.canLay0, PyData.depth]
  exact ⟨h1, by omega⟩
theorem Bx.ok {m : Nat} {e : D} (h : Bx m e) : e.canLay0 = true ∧ e.depth ≤ 2 := by
  obtain ⟨g, ks, rfl, hg, hk, _⟩ := h
  have a := hg.ok
  have b := hk.ok
  simp only [PyData.canLay0, PyData.canLayAll0, PyData.depth, PyData.depthAll] at a b ⊢
  simp [a.1, b.1]
  omega
theorem flt_go {m : Nat} {g : D} (h : Go m g) : Nums m ((intR 0 m).filter fun d => !PyData.eqv d g) ∧ m ≤ ((intR 0 m).filter fun d => !PyData.eqv d g).length + 1 := by
  refine ⟨fun d hd => (nums_rng m).1 d (List.mem_filter.mp hd).1, ?_⟩
  rcases h with ⟨i, hi, rfl⟩ | ⟨s, hs, r, hr, rfl⟩
  · rw [flt_len, if_pos hi]
    omega
  · have : ((intR 0 m).filter fun d => !PyData.eqv d (.tuple [s, .int r])) = intR 0 m := List.filter_eq_self.mpr fun d hd => by
      obtain ⟨i, _, rfl⟩ := (nums_rng m).1 d hd
      simp [PyData.eqv]
    rw [this, (nums_rng m).2]
    omega
def lotS_t0 (dr : Nat) : Sx := (.cons (.app 7 (.ifx (.cmp .ne (.var 12) (.lst .nil)) (.idx (.var 12) (.call dr (.cons (.var 0) (.cons (.bi .len (.var 12)) .nil)))) (.idx (.var 6) (.cst (.int 0))))) (.cons (.rmv 6 (.idx (.var 7) (.neg (.cst (.int 1))))) .nil))
def lotS_l0 (dr : Nat) : Sx := (.cons (.bor 12 6 (.cmp .gt (.call dr (.cons (.var 0) (.cons (.cst (.int 4)) .nil))) (.cst (.int 0))) (.lc [8] (.var 8) (.var 6) (.cmp .isin (.var 8) (.var 9)) (.var 8))) (lotS_t0 dr))
def lotS_t1 (dr : Nat) : Sx := (.cons (.par 6 true (.lc [8] (.var 8) (.rng1 (.var 2)) (.cmp .ne (.var 8) (.var 5)) (.var 8)) 7 true (.lst .nil)) (.cons (.asg (.var 9) (.bin .add (.lst (.cons (.cst (.int 0)) (.cons (.cst (.int 1)) .nil))) (.lc [10] (.var 10) (.var 3) .none_ (.idx (.var 10) (.cst (.int 0)))))) (.cons (.forS (.var 11) (.rng1 (.idx (.lst (.cons (.cst (.int 1)) (.cons (.cst (.int 1)) (.cons (.cst (.int 1)) (.cons (.cst (.int 2)) (.cons (.cst (.int 2)) (.cons (.cst (.int 3)) .nil))))))) (.call dr (.cons (.var 0) (.cons (.cst (.int 6)) .nil))))) (lotS_l0 dr)) (.cons (.app 3 (.tup (.cons (.var 5) (.cons (.bi .tup (.bi .srt (.var 7))) .nil)))) .nil))))
def lotS_t2 (dr : Nat) : Sx := (.cons (.asg (.var 5) (.call dr (.cons (.var 0) (.cons (.var 2) .nil)))) (.cons (.iff (.cmp .eq (.call dr (.cons (.var 0) (.cons (.cst (.int 4)) .nil))) (.cst (.int 0))) (.cons (.asg (.var 5) (.tup (.cons (.idx (.lst (.cons (.cst (.str "memo")) (.cons (.cst (.str "a")) (.cons (.cst (.str "world")) .nil)))) (.call dr (.cons (.var 0) (.cons (.cst (.int 3)) .nil)))) (.cons (.call dr (.cons (.var 0) (.cons (.cst (.int 2)) .nil))) .nil)))) .nil) .nil) (lotS_t1 dr)))
def lotS_l1 (dr : Nat) : Sx := (.cons (.iff (.and (.cmp .ne (.var 3) (.lst .nil)) (.cmp .eq (.call dr (.cons (.var 0) (.cons (.cst (.int 9)) .nil))) (.cst (.int 0)))) (.cons (.app 3 (.idx (.var 3) (.call dr (.cons (.var 0) (.cons (.bi .len (.var 3)) .nil))))) (.cons .cont .nil)) .nil) (lotS_t2 dr))
def lotS (dr : Nat) : Sx := (.cons (.asgO 3 (.lst .nil)) (.cons (.forS (.var 4) (.rng1 (.var 1)) (lotS_l1 dr)) (.cons (.ret (.biIf .tup (.cmp .eq (.call dr (.cons (.var 0) (.cons (.cst (.int 2)) .nil))) (.cst (.int 0))) (.rev (.var 3)) (.var 3))) .nil)))
theorem ix_lastL (xs : List D) (d : D) : idx2 (.list (xs ++ [d])) (.int (-1)) = .ret d := by
  have : ixAt (xs ++ [d]).length (-1) = some xs.length := by
    unfold ixAt L2.ixN
    simp
    try omega
  rw [List.length_append, List.length_singleton] at this
  simp [idx2, this]
theorem lot_e {mm : Nat} {pool some_ : List D} {d : D} {K : List D → D → Prop} (hp : Nums mm pool) (hd : d ∈ pool) (hsl : some_.length < 3) (q : ∀ es, Nums mm es → es.length + 1 = pool.length → K es d) : some_.length < sizeLine ∧ WP (idx2 (.list (some_ ++ [d])) (.int (-1))) fun e => WP (rmvM pool e) fun es => K es d := by
  refine ⟨sz1 _ (by omega), ?_⟩
  rw [ix_lastL]
  obtain ⟨es, e1, e2, e3⟩ := rmv_ok hp hd
  show WP (rmvM pool d) _
  rw [e1]
  exact q es e2 e3
theorem lot_t0 (hF : F dr = drawM) (ns : List Int) (s m : Int) (mm : Nat) (found pool some_ menu : List D) (k g near j : D) (v : SV) (hv : v = .dat (.list menu) ∨ v = .bor (.list menu)) (hp : Nums mm pool) (hs : Nums mm some_) (hsl : some_.length < 3) (hpl : 0 < pool.length) (hm : ∀ d ∈ menu, d ∈ pool) (hml : menu.length ≤ 1000) (Q : Out → Prop)
    (q : ∀ pool' some' o, Nums mm pool' → Nums mm some' → pool'.length + 1 = pool.length → some'.length = some_.length + 1 → Q (.nx [some (.dat (feedD ns)), some (.dat (.int s)), some (.dat (.int m)), some (.own (.list found)), some (.dat k), some (.dat g), some (.own (.list pool')), some (.own (.list some')), none, some (.dat near), none, some (.dat j), dz o])) :
    WP (exGo fu F (lotS_t0 dr) [some (.dat (feedD ns)), some (.dat (.int s)), some (.dat (.int m)), some (.own (.list found)), some (.dat k), some (.dat g), some (.own (.list pool)), some (.own (.list some_)), none, some (.dat near), none, some (.dat j), some v]) Q := by
  have hn : Nums mm menu := fun d hd => hp d (hm d hd)
  unfold lotS_t0
  obtain ⟨p0, pr, rfl⟩ : ∃ p0 pr, pool = p0 :: pr := by cases pool with | nil => cases hpl | cons a b => exact ⟨a, b, rfl⟩
  have hd0 : idx2 (.list (p0 :: pr)) (.int 0) = .ret p0 := ix_inL (i := 0) rfl
  rcases hv with rfl | rfl
  · simp -implicitDefEqProofs only [↓X_nil, ↓X_cons, ↓X_asg, ↓X_asgO, ↓X_par, ↓X_bor, ↓X_app, ↓X_ext, ↓X_rmv, ↓X_popS, ↓X_appPop, ↓X_augI, ↓X_iff, ↓X_for, ↓X_ret, ↓X_retN, ↓X_cont, ↓X_brk, ↓X_pas, ↓X_expr, ↓X_frz, ↓X_run, ↓E_var, ↓E_cst, ↓E_glob, ↓E_fref, ↓E_nil, ↓E_cons, ↓E_tup, ↓E_lst, ↓E_call, ↓E_callk, ↓E_bi, ↓E_biIf, ↓E_isi, ↓E_bin, ↓E_cmp, ↓E_neg, ↓E_nt, ↓E_and, ↓E_or, ↓E_ifx, ↓E_idx, ↓E_sl, ↓E_rev, ↓E_rng1, ↓E_lrng, ↓E_trng, ↓E_lc, ↓E_upper, ↓E_step, ↓T_var, ↓T_tup, ↓T_nil, ↓T_cons, ↓W_bind, ↓W_ret, ↓W_need, ↓W_draw, ↓W_if', ↓kO_nx, ↓kO_ct, ↓kO_bk, ↓kO_rt, ↓kF_nx, ↓kF_ct, ↓kF_bk, ↓kF_rt, ↓kE_rt, ↓kE_nx, ↓kIf_t, ↓kIf_f, rdv, tst, itmv, optv, gs, gr, Pf.go, mkV, isFr, noOwn_eq, datOnly_eq, wip, tg_var, put_eq, chg, clr, clr_z, clr_o, clr_d, clr_b, clr_n, io_o, io_d, io_b, io_n, io_z, frzD, permD, SV.d, ls_l, in_i, it_l, it_t, t_b, bo_b, l_lst, l_tup, rev_l, rev_t, Pf.op_add, bi_int, c_lt, c_le, c_gt, c_ge, ev0, List.map_cons, List.map_nil, List.all_cons, List.all_nil, List.replicate, List.length_cons, List.length_nil, List.cons_append, List.nil_append, List.append_nil, List.set, List.getElem?_cons_zero, List.getElem?_cons_succ, Nat.reduceAdd, Nat.reduceSub, decide_eq_true_eq, ne_eq, if_true, if_false, Bool.false_eq_true, true_and, and_true, Option.map, ite_self, oz_c, oz_i, c_eqI, Option.getD_some, Option.getD_none, List.foldl, Bool.and_true, Bool.and_self, Bool.not_true, Bool.not_false, hF, c_ne, k_l, hn.sh, shaped_nil, eqv_nil, kIf_n]
    refine ⟨sz0 _ (by omega), kIf_of (fun _ => ?_) (fun he => ⟨?_, pick_of rfl fun d hd => ?_⟩)⟩
    · rw [hd0, W_ret]
      exact lot_e (K := fun es d => Q (.nx [_, _, _, _, _, _, some (.own (.list es)), some (.own (.list (some_ ++ [d]))), _, _, _, _, _])) hp List.mem_cons_self hsl fun es h1 h2 => q _ _ (some _) h1 (hs.app (hp _ List.mem_cons_self)) h2 (by simp)
    · cases menu with
      | nil => cases he
      | cons a b => simp only [List.length_cons] at hml ⊢; omega
    · exact lot_e (K := fun es d => Q (.nx [_, _, _, _, _, _, some (.own (.list es)), some (.own (.list (some_ ++ [d]))), _, _, _, _, _])) hp (hm d hd) hsl fun es h1 h2 => q _ _ (some _) h1 (hs.app (hn d hd)) h2 (by simp)
  · simp -implicitDefEqProofs only [↓X_nil, ↓X_cons, ↓X_asg, ↓X_asgO, ↓X_par, ↓X_bor, ↓X_app, ↓X_ext, ↓X_rmv, ↓X_popS, ↓X_appPop, ↓X_augI, ↓X_iff, ↓X_for, ↓X_ret, ↓X_retN, ↓X_cont, ↓X_brk, ↓X_pas, ↓X_expr, ↓X_frz, ↓X_run, ↓E_var, ↓E_cst, ↓E_glob, ↓E_fref, ↓E_nil, ↓E_cons, ↓E_tup, ↓E_lst, ↓E_call, ↓E_callk, ↓E_bi, ↓E_biIf, ↓E_isi, ↓E_bin, ↓E_cmp, ↓E_neg, ↓E_nt, ↓E_and, ↓E_or, ↓E_ifx, ↓E_idx, ↓E_sl, ↓E_rev, ↓E_rng1, ↓E_lrng, ↓E_trng, ↓E_lc, ↓E_upper, ↓E_step, ↓T_var, ↓T_tup, ↓T_nil, ↓T_cons, ↓W_bind, ↓W_ret, ↓W_need, ↓W_draw, ↓W_if', ↓kO_nx, ↓kO_ct, ↓kO_bk, ↓kO_rt, ↓kF_nx, ↓kF_ct, ↓kF_bk, ↓kF_rt, ↓kE_rt, ↓kE_nx, ↓kIf_t, ↓kIf_f, rdv, tst, itmv, optv, gs, gr, Pf.go, mkV, isFr, noOwn_eq, datOnly_eq, wip, tg_var, put_eq, chg, clr, clr_z, clr_o, clr_d, clr_b, clr_n, io_o, io_d, io_b, io_n, io_z, frzD, permD, SV.d, ls_l, in_i, it_l, it_t, t_b, bo_b, l_lst, l_tup, rev_l, rev_t, Pf.op_add, bi_int, c_lt, c_le, c_gt, c_ge, ev0, List.map_cons, List.map_nil, List.all_cons, List.all_nil, List.replicate, List.length_cons, List.length_nil, List.cons_append, List.nil_append, List.append_nil, List.set, List.getElem?_cons_zero, List.getElem?_cons_succ, Nat.reduceAdd, Nat.reduceSub, decide_eq_true_eq, ne_eq, if_true, if_false, Bool.false_eq_true, true_and, and_true, Option.map, ite_self, oz_c, oz_i, c_eqI, Option.getD_some, Option.getD_none, List.foldl, Bool.and_true, Bool.and_self, Bool.not_true, Bool.not_false, hF, c_ne, k_l, hn.sh, shaped_nil, eqv_nil, kIf_n]
    refine ⟨sz0 _ (by omega), kIf_of (fun _ => ?_) (fun he => ⟨?_, pick_of rfl fun d hd => ?_⟩)⟩
    · rw [hd0, W_ret]
      exact lot_e (K := fun es d => Q (.nx [_, _, _, _, _, _, some (.own (.list es)), some (.own (.list (some_ ++ [d]))), _, _, _, _, _])) hp List.mem_cons_self hsl fun es h1 h2 => q _ _ none h1 (hs.app (hp _ List.mem_cons_self)) h2 (by simp)
    · cases menu with
      | nil => cases he
      | cons a b => simp only [List.length_cons] at hml ⊢; omega
    · exact lot_e (K := fun es d => Q (.nx [_, _, _, _, _, _, some (.own (.list es)), some (.own (.list (some_ ++ [d]))), _, _, _, _, _])) hp (hm d hd) hsl fun es h1 h2 => q _ _ none h1 (hs.app (hn d hd)) h2 (by simp)

theorem lot_l0 (hF : F dr = drawM) (ns : List Int) (s m : Int) (mm : Nat) (hmm : mm ≤ 1000) (found : List D) (k g : D) (near : List D) (hne : SeqAt.shaped (.list near) = true) (n : Nat) (hn : n ≤ 3) (Q : Out → Prop) (pool : List D) (hp : Nums mm pool) (hpl : n < pool.length) (hpu : pool.length ≤ mm) (o11 o12 : Option D)
    (q : ∀ pool' some' o o', Nums mm some' → some'.length = n → Q (.nx [some (.dat (feedD ns)), some (.dat (.int s)), some (.dat (.int m)), some (.own (.list found)), some (.dat k), some (.dat g), some (.own (.list pool')), some (.own (.list some')), none, some (.dat (.list near)), none, dz o, dz o'])) :
    WP (forGo (tgt (.var 11)) (exGo fu F (lotS_l0 dr)) (intR 0 n) [some (.dat (feedD ns)), some (.dat (.int s)), some (.dat (.int m)), some (.own (.list found)), some (.dat k), some (.dat g), some (.own (.list pool)), some (.own (.list [])), none, some (.dat (.list near)), none, dz o11, dz o12]) Q := by
  refine wp_forI (fun left ρ => ∃ pool some_ o o', ρ = [some (.dat (feedD ns)), some (.dat (.int s)), some (.dat (.int m)), some (.own (.list found)), some (.dat k), some (.dat g), some (.own (.list pool)), some (.own (.list some_)), none, some (.dat (.list near)), none, dz o, dz o'] ∧ Nums mm pool ∧ Nums mm some_ ∧ some_.length + left.length = n ∧ left.length < pool.length ∧ pool.length ≤ mm) ?_ ?_ ?_
  · refine ⟨pool, [], o11, o12, rfl, hp, fun d hd => (by cases hd), ?_, ?_, hpu⟩
    · rw [(nums_rng n).2]; exact Nat.zero_add _
    · rw [(nums_rng n).2]; exact hpl
  · rintro d r ρ ⟨pool, some_, o, o', rfl, h1, h2, h3, h4, h5⟩
    rw [List.length_cons] at h3 h4
    unfold lotS_l0
    simp -implicitDefEqProofs only [↓X_nil, ↓X_cons, ↓X_asg, ↓X_asgO, ↓X_par, ↓X_bor, ↓X_app, ↓X_ext, ↓X_rmv, ↓X_popS, ↓X_appPop, ↓X_augI, ↓X_iff, ↓X_for, ↓X_ret, ↓X_retN, ↓X_cont, ↓X_brk, ↓X_pas, ↓X_expr, ↓X_frz, ↓X_run, ↓E_var, ↓E_cst, ↓E_glob, ↓E_fref, ↓E_nil, ↓E_cons, ↓E_tup, ↓E_lst, ↓E_call, ↓E_callk, ↓E_bi, ↓E_biIf, ↓E_isi, ↓E_bin, ↓E_cmp, ↓E_neg, ↓E_nt, ↓E_and, ↓E_or, ↓E_ifx, ↓E_idx, ↓E_sl, ↓E_rev, ↓E_rng1, ↓E_lrng, ↓E_trng, ↓E_lc, ↓E_upper, ↓E_step, ↓T_var, ↓T_tup, ↓T_nil, ↓T_cons, ↓W_bind, ↓W_ret, ↓W_need, ↓W_draw, ↓W_if', ↓kO_nx, ↓kO_ct, ↓kO_bk, ↓kO_rt, ↓kF_nx, ↓kF_ct, ↓kF_bk, ↓kF_rt, ↓kE_rt, ↓kE_nx, ↓kIf_t, ↓kIf_f, rdv, tst, itmv, optv, gs, gr, Pf.go, mkV, isFr, noOwn_eq, datOnly_eq, wip, tg_var, put_eq, chg, clr, clr_z, clr_o, clr_d, clr_b, clr_n, io_o, io_d, io_b, io_n, io_z, frzD, permD, SV.d, ls_l, in_i, it_l, it_t, t_b, bo_b, l_lst, l_tup, rev_l, rev_t, Pf.op_add, bi_int, c_lt, c_le, c_gt, c_ge, ev0, List.map_cons, List.map_nil, List.all_cons, List.all_nil, List.replicate, List.length_cons, List.length_nil, List.cons_append, List.nil_append, List.append_nil, List.set, List.getElem?_cons_zero, List.getElem?_cons_succ, Nat.reduceAdd, Nat.reduceSub, decide_eq_true_eq, ne_eq, if_true, if_false, Bool.false_eq_true, true_and, and_true, Option.map, ite_self, oz_c, oz_i, c_eqI, Option.getD_some, Option.getD_none, List.foldl, Bool.and_true, Bool.and_self, Bool.not_true, Bool.not_false, hF]
    refine ⟨by omega, fun r1 hr1 => kIf_of (fun _ => ?_) fun _ => ?_⟩
    · refine wp_lc_flt (p := fun d => near.any fun z => PyData.eqv z d) (fun d hd => ?_) ?_
      · obtain ⟨i, _, rfl⟩ := h1 d hd
        simp -implicitDefEqProofs only [↓X_nil, ↓X_cons, ↓X_asg, ↓X_asgO, ↓X_par, ↓X_bor, ↓X_app, ↓X_ext, ↓X_rmv, ↓X_popS, ↓X_appPop, ↓X_augI, ↓X_iff, ↓X_for, ↓X_ret, ↓X_retN, ↓X_cont, ↓X_brk, ↓X_pas, ↓X_expr, ↓X_frz, ↓X_run, ↓E_var, ↓E_cst, ↓E_glob, ↓E_fref, ↓E_nil, ↓E_cons, ↓E_tup, ↓E_lst, ↓E_call, ↓E_callk, ↓E_bi, ↓E_biIf, ↓E_isi, ↓E_bin, ↓E_cmp, ↓E_neg, ↓E_nt, ↓E_and, ↓E_or, ↓E_ifx, ↓E_idx, ↓E_sl, ↓E_rev, ↓E_rng1, ↓E_lrng, ↓E_trng, ↓E_lc, ↓E_upper, ↓E_step, ↓T_var, ↓T_tup, ↓T_nil, ↓T_cons, ↓W_bind, ↓W_ret, ↓W_need, ↓W_draw, ↓W_if', ↓kO_nx, ↓kO_ct, ↓kO_bk, ↓kO_rt, ↓kF_nx, ↓kF_ct, ↓kF_bk, ↓kF_rt, ↓kE_rt, ↓kE_nx, ↓kIf_t, ↓kIf_f, rdv, tst, itmv, optv, gs, gr, Pf.go, mkV, isFr, noOwn_eq, datOnly_eq, wip, tg_var, put_eq, chg, clr, clr_z, clr_o, clr_d, clr_b, clr_n, io_o, io_d, io_b, io_n, io_z, frzD, permD, SV.d, ls_l, in_i, it_l, it_t, t_b, bo_b, l_lst, l_tup, rev_l, rev_t, Pf.op_add, bi_int, c_lt, c_le, c_gt, c_ge, ev0, List.map_cons, List.map_nil, List.all_cons, List.all_nil, List.replicate, List.length_cons, List.length_nil, List.cons_append, List.nil_append, List.append_nil, List.set, List.getElem?_cons_zero, List.getElem?_cons_succ, Nat.reduceAdd, Nat.reduceSub, decide_eq_true_eq, ne_eq, if_true, if_false, Bool.false_eq_true, true_and, and_true, Option.map, ite_self, oz_c, oz_i, c_eqI, Option.getD_some, Option.getD_none, List.foldl, Bool.and_true, Bool.and_self, Bool.not_true, Bool.not_false, c_inL, hne, sh_i]
      · exact lot_t0 hF ns s m mm found pool some_ _ k g (.list near) d _ (.inl rfl) h1 h2 (by omega) (by omega) (fun d hd => (List.mem_filter.mp hd).1) (Nat.le_trans (List.length_filter_le _ _) (by omega)) _ fun pool' some' o a1 a2 a3 a4 => ⟨pool', some', some d, o, rfl, a1, a2, by omega, by omega, by omega⟩
    · exact lot_t0 hF ns s m mm found pool some_ pool k g (.list near) d _ (.inr rfl) h1 h2 (by omega) (by omega) (fun d hd => hd) (by omega) _ fun pool' some' o a1 a2 a3 a4 => ⟨pool', some', some d, o, rfl, a1, a2, by omega, by omega, by omega⟩
  · rintro ρ ⟨pool, some_, o, o', rfl, h1, h2, h3, h4⟩
    exact q _ _ _ _ h2 (by simpa using h3)
theorem Bx.gd {m : Nat} {ds : List D} (h : ∀ e ∈ ds, Bx m e) : SeqAt.shaped (.list ds) = true := shL fun d hd => by
  have := (h d hd).ok
  exact ⟨this.1, by omega⟩
/-- a box's goal, as an index gives it -/
def hdD : D → D
  | .tuple (g :: _) => g
  | d => d
theorem Bx.ix {m : Nat} {e : D} (h : Bx m e) : idx2 e (.int 0) = .ret (hdD e) ∧ Go m (hdD e) := by
  obtain ⟨g, ks, rfl, hg, hk, _⟩ := h
  exact ⟨rfl, hg⟩
theorem ad_l (a b : List D) (h : a.length + b.length ≤ 100000) : op2 .add (.list a) (.list b) = .ret (.list (a ++ b)) := by
  show need _ _ = _
  rw [need_of (decide_eq_true (sz0 _ h))]
theorem near_sh {m : Nat} {found : List D} (hf : ∀ e ∈ found, Bx m e) : SeqAt.shaped (.list ([.int 0, .int 1] ++ found.map hdD)) = true := shL fun d hd => by
  rcases List.mem_append.mp hd with q | q
  · simp only [List.mem_cons, List.mem_nil_iff, or_false] at q
    rcases q with rfl | rfl <;> exact ⟨rfl, Nat.zero_le _⟩
  · obtain ⟨e, he, rfl⟩ := List.mem_map.mp q
    have := (hf e he).ix.2.ok
    exact ⟨this.1, by omega⟩
theorem lot_t1 (hF : F dr = drawM) (ns : List Int) (s : Int) (mm : Nat) (h5 : 5 ≤ mm) (hmm : mm ≤ 1000) (found : List D) (hf : ∀ e ∈ found, Bx mm e) (hfl : found.length < 1000) (k g : D) (hg : Go mm g) (o6 o7 : Option (List D)) (o9 o11 o12 : Option D) (Q : Out → Prop)
    (q : ∀ e o6 o7 o9 o11 o12, Bx mm e → Q (.nx [some (.dat (feedD ns)), some (.dat (.int s)), some (.dat (.int mm)), some (.own (.list (found ++ [e]))), some (.dat k), some (.dat g), oz o6, oz o7, none, dz o9, none, dz o11, dz o12])) :
    WP (exGo fu F (lotS_t1 dr) [some (.dat (feedD ns)), some (.dat (.int s)), some (.dat (.int mm)), some (.own (.list found)), some (.dat k), some (.dat g), oz o6, oz o7, none, dz o9, none, dz o11, dz o12]) Q := by
  have hfg := flt_go hg
  unfold lotS_t1
  rcases o6 with _ | l6 <;> rcases o7 with _ | l7 <;> simp -implicitDefEqProofs only [↓X_nil, ↓X_cons, ↓X_asg, ↓X_asgO, ↓X_par, ↓X_bor, ↓X_app, ↓X_ext, ↓X_rmv, ↓X_popS, ↓X_appPop, ↓X_augI, ↓X_iff, ↓X_for, ↓X_ret, ↓X_retN, ↓X_cont, ↓X_brk, ↓X_pas, ↓X_expr, ↓X_frz, ↓X_run, ↓E_var, ↓E_cst, ↓E_glob, ↓E_fref, ↓E_nil, ↓E_cons, ↓E_tup, ↓E_lst, ↓E_call, ↓E_callk, ↓E_bi, ↓E_biIf, ↓E_isi, ↓E_bin, ↓E_cmp, ↓E_neg, ↓E_nt, ↓E_and, ↓E_or, ↓E_ifx, ↓E_idx, ↓E_sl, ↓E_rev, ↓E_rng1, ↓E_lrng, ↓E_trng, ↓E_lc, ↓E_upper, ↓E_step, ↓T_var, ↓T_tup, ↓T_nil, ↓T_cons, ↓W_bind, ↓W_ret, ↓W_need, ↓W_draw, ↓W_if', ↓kO_nx, ↓kO_ct, ↓kO_bk, ↓kO_rt, ↓kF_nx, ↓kF_ct, ↓kF_bk, ↓kF_rt, ↓kE_rt, ↓kE_nx, ↓kIf_t, ↓kIf_f, rdv, tst, itmv, optv, gs, gr, Pf.go, mkV, isFr, noOwn_eq, datOnly_eq, wip, tg_var, put_eq, chg, clr, clr_z, clr_o, clr_d, clr_b, clr_n, io_o, io_d, io_b, io_n, io_z, frzD, permD, SV.d, ls_l, in_i, it_l, it_t, t_b, bo_b, l_lst, l_tup, rev_l, rev_t, Pf.op_add, bi_int, c_lt, c_le, c_gt, c_ge, ev0, List.map_cons, List.map_nil, List.all_cons, List.all_nil, List.replicate, List.length_cons, List.length_nil, List.cons_append, List.nil_append, List.append_nil, List.set, List.getElem?_cons_zero, List.getElem?_cons_succ, Nat.reduceAdd, Nat.reduceSub, decide_eq_true_eq, ne_eq, if_true, if_false, Bool.false_eq_true, true_and, and_true, Option.map, ite_self, oz_c, oz_i, c_eqI, Option.getD_some, Option.getD_none, List.foldl, Bool.and_true, Bool.and_self, Bool.not_true, Bool.not_false, hF, Option.isSome_none, Option.isSome_some, Int.toNat_natCast]
  all_goals
    refine ⟨by omega, wp_lc_flt (p := fun d => !PyData.eqv d g) (fun d hd => ?_) ⟨sz0 _ (by omega), by omega, sz0 _ (by omega), wp_lc_map (f := hdD) (fun d hd => ?_) ?_⟩⟩
    · obtain ⟨i, _, rfl⟩ := (nums_rng mm).1 d hd
      simp -implicitDefEqProofs only [↓X_nil, ↓X_cons, ↓X_asg, ↓X_asgO, ↓X_par, ↓X_bor, ↓X_app, ↓X_ext, ↓X_rmv, ↓X_popS, ↓X_appPop, ↓X_augI, ↓X_iff, ↓X_for, ↓X_ret, ↓X_retN, ↓X_cont, ↓X_brk, ↓X_pas, ↓X_expr, ↓X_frz, ↓X_run, ↓E_var, ↓E_cst, ↓E_glob, ↓E_fref, ↓E_nil, ↓E_cons, ↓E_tup, ↓E_lst, ↓E_call, ↓E_callk, ↓E_bi, ↓E_biIf, ↓E_isi, ↓E_bin, ↓E_cmp, ↓E_neg, ↓E_nt, ↓E_and, ↓E_or, ↓E_ifx, ↓E_idx, ↓E_sl, ↓E_rev, ↓E_rng1, ↓E_lrng, ↓E_trng, ↓E_lc, ↓E_upper, ↓E_step, ↓T_var, ↓T_tup, ↓T_nil, ↓T_cons, ↓W_bind, ↓W_ret, ↓W_need, ↓W_draw, ↓W_if', ↓kO_nx, ↓kO_ct, ↓kO_bk, ↓kO_rt, ↓kF_nx, ↓kF_ct, ↓kF_bk, ↓kF_rt, ↓kE_rt, ↓kE_nx, ↓kIf_t, ↓kIf_f, rdv, tst, itmv, optv, gs, gr, Pf.go, mkV, isFr, noOwn_eq, datOnly_eq, wip, tg_var, put_eq, chg, clr, clr_z, clr_o, clr_d, clr_b, clr_n, io_o, io_d, io_b, io_n, io_z, frzD, permD, SV.d, ls_l, in_i, it_l, it_t, t_b, bo_b, l_lst, l_tup, rev_l, rev_t, Pf.op_add, bi_int, c_lt, c_le, c_gt, c_ge, ev0, List.map_cons, List.map_nil, List.all_cons, List.all_nil, List.replicate, List.length_cons, List.length_nil, List.cons_append, List.nil_append, List.append_nil, List.set, List.getElem?_cons_zero, List.getElem?_cons_succ, Nat.reduceAdd, Nat.reduceSub, decide_eq_true_eq, ne_eq, if_true, if_false, Bool.false_eq_true, true_and, and_true, Option.map, ite_self, oz_c, oz_i, c_eqI, Option.getD_some, Option.getD_none, List.foldl, Bool.and_true, Bool.and_self, Bool.not_true, Bool.not_false, c_ne, k_i, sh_i, hg.sh]
    · simp -implicitDefEqProofs only [↓X_nil, ↓X_cons, ↓X_asg, ↓X_asgO, ↓X_par, ↓X_bor, ↓X_app, ↓X_ext, ↓X_rmv, ↓X_popS, ↓X_appPop, ↓X_augI, ↓X_iff, ↓X_for, ↓X_ret, ↓X_retN, ↓X_cont, ↓X_brk, ↓X_pas, ↓X_expr, ↓X_frz, ↓X_run, ↓E_var, ↓E_cst, ↓E_glob, ↓E_fref, ↓E_nil, ↓E_cons, ↓E_tup, ↓E_lst, ↓E_call, ↓E_callk, ↓E_bi, ↓E_biIf, ↓E_isi, ↓E_bin, ↓E_cmp, ↓E_neg, ↓E_nt, ↓E_and, ↓E_or, ↓E_ifx, ↓E_idx, ↓E_sl, ↓E_rev, ↓E_rng1, ↓E_lrng, ↓E_trng, ↓E_lc, ↓E_upper, ↓E_step, ↓T_var, ↓T_tup, ↓T_nil, ↓T_cons, ↓W_bind, ↓W_ret, ↓W_need, ↓W_draw, ↓W_if', ↓kO_nx, ↓kO_ct, ↓kO_bk, ↓kO_rt, ↓kF_nx, ↓kF_ct, ↓kF_bk, ↓kF_rt, ↓kE_rt, ↓kE_nx, ↓kIf_t, ↓kIf_f, rdv, tst, itmv, optv, gs, gr, Pf.go, mkV, isFr, noOwn_eq, datOnly_eq, wip, tg_var, put_eq, chg, clr, clr_z, clr_o, clr_d, clr_b, clr_n, io_o, io_d, io_b, io_n, io_z, frzD, permD, SV.d, ls_l, in_i, it_l, it_t, t_b, bo_b, l_lst, l_tup, rev_l, rev_t, Pf.op_add, bi_int, c_lt, c_le, c_gt, c_ge, ev0, List.map_cons, List.map_nil, List.all_cons, List.all_nil, List.replicate, List.length_cons, List.length_nil, List.cons_append, List.nil_append, List.append_nil, List.set, List.getElem?_cons_zero, List.getElem?_cons_succ, Nat.reduceAdd, Nat.reduceSub, decide_eq_true_eq, ne_eq, if_true, if_false, Bool.false_eq_true, true_and, and_true, Option.map, ite_self, oz_c, oz_i, c_eqI, Option.getD_some, Option.getD_none, List.foldl, Bool.and_true, Bool.and_self, Bool.not_true, Bool.not_false]
      rw [(hf d hd).ix.1, W_ret]
    · rw [ad_l _ _ (by simp; omega), W_ret]
      refine ⟨sz0 _ (by omega), by omega, pick_of rfl fun u hu => ?_⟩
      obtain ⟨n, hn, rfl⟩ : ∃ n : Nat, (1 ≤ n ∧ n ≤ 3) ∧ u = .int n := by
        simp only [List.mem_cons, List.mem_nil_iff, or_false] at hu
        rcases hu with rfl | rfl | rfl | rfl | rfl | rfl
        · exact ⟨1, by omega, rfl⟩
        · exact ⟨1, by omega, rfl⟩
        · exact ⟨1, by omega, rfl⟩
        · exact ⟨2, by omega, rfl⟩
        · exact ⟨2, by omega, rfl⟩
        · exact ⟨3, by omega, rfl⟩
      rw [in_i, W_ret]
      refine ⟨by omega, ?_⟩
      rw [Int.toNat_natCast]
      refine lot_l0 hF ns s mm mm hmm found k g _ (near_sh hf) n hn.2 _ _ hfg.1 (Nat.lt_of_succ_lt_succ (Nat.lt_of_lt_of_le (by omega : n + 1 < mm) hfg.2)) (Nat.le_trans (List.length_filter_le _ _) (by rw [(nums_rng mm).2]; omega)) o11 o12 fun pool' some' o o' a1 a2 => ?_
      obtain ⟨es, t1, t2, t3⟩ := srt_ok a1
      simp -implicitDefEqProofs only [↓X_nil, ↓X_cons, ↓X_asg, ↓X_asgO, ↓X_par, ↓X_bor, ↓X_app, ↓X_ext, ↓X_rmv, ↓X_popS, ↓X_appPop, ↓X_augI, ↓X_iff, ↓X_for, ↓X_ret, ↓X_retN, ↓X_cont, ↓X_brk, ↓X_pas, ↓X_expr, ↓X_frz, ↓X_run, ↓E_var, ↓E_cst, ↓E_glob, ↓E_fref, ↓E_nil, ↓E_cons, ↓E_tup, ↓E_lst, ↓E_call, ↓E_callk, ↓E_bi, ↓E_biIf, ↓E_isi, ↓E_bin, ↓E_cmp, ↓E_neg, ↓E_nt, ↓E_and, ↓E_or, ↓E_ifx, ↓E_idx, ↓E_sl, ↓E_rev, ↓E_rng1, ↓E_lrng, ↓E_trng, ↓E_lc, ↓E_upper, ↓E_step, ↓T_var, ↓T_tup, ↓T_nil, ↓T_cons, ↓W_bind, ↓W_ret, ↓W_need, ↓W_draw, ↓W_if', ↓kO_nx, ↓kO_ct, ↓kO_bk, ↓kO_rt, ↓kF_nx, ↓kF_ct, ↓kF_bk, ↓kF_rt, ↓kE_rt, ↓kE_nx, ↓kIf_t, ↓kIf_f, rdv, tst, itmv, optv, gs, gr, Pf.go, mkV, isFr, noOwn_eq, datOnly_eq, wip, tg_var, put_eq, chg, clr, clr_z, clr_o, clr_d, clr_b, clr_n, io_o, io_d, io_b, io_n, io_z, frzD, permD, SV.d, ls_l, in_i, it_l, it_t, t_b, bo_b, l_lst, l_tup, rev_l, rev_t, Pf.op_add, bi_int, c_lt, c_le, c_gt, c_ge, ev0, List.map_cons, List.map_nil, List.all_cons, List.all_nil, List.replicate, List.length_cons, List.length_nil, List.cons_append, List.nil_append, List.append_nil, List.set, List.getElem?_cons_zero, List.getElem?_cons_succ, Nat.reduceAdd, Nat.reduceSub, decide_eq_true_eq, ne_eq, if_true, if_false, Bool.false_eq_true, true_and, and_true, Option.map, ite_self, oz_c, oz_i, c_eqI, Option.getD_some, Option.getD_none, List.foldl, Bool.and_true, Bool.and_self, Bool.not_true, Bool.not_false]
      rw [t1]
      simp -implicitDefEqProofs only [↓X_nil, ↓X_cons, ↓X_asg, ↓X_asgO, ↓X_par, ↓X_bor, ↓X_app, ↓X_ext, ↓X_rmv, ↓X_popS, ↓X_appPop, ↓X_augI, ↓X_iff, ↓X_for, ↓X_ret, ↓X_retN, ↓X_cont, ↓X_brk, ↓X_pas, ↓X_expr, ↓X_frz, ↓X_run, ↓E_var, ↓E_cst, ↓E_glob, ↓E_fref, ↓E_nil, ↓E_cons, ↓E_tup, ↓E_lst, ↓E_call, ↓E_callk, ↓E_bi, ↓E_biIf, ↓E_isi, ↓E_bin, ↓E_cmp, ↓E_neg, ↓E_nt, ↓E_and, ↓E_or, ↓E_ifx, ↓E_idx, ↓E_sl, ↓E_rev, ↓E_rng1, ↓E_lrng, ↓E_trng, ↓E_lc, ↓E_upper, ↓E_step, ↓T_var, ↓T_tup, ↓T_nil, ↓T_cons, ↓W_bind, ↓W_ret, ↓W_need, ↓W_draw, ↓W_if', ↓kO_nx, ↓kO_ct, ↓kO_bk, ↓kO_rt, ↓kF_nx, ↓kF_ct, ↓kF_bk, ↓kF_rt, ↓kE_rt, ↓kE_nx, ↓kIf_t, ↓kIf_f, rdv, tst, itmv, optv, gs, gr, Pf.go, mkV, isFr, noOwn_eq, datOnly_eq, wip, tg_var, put_eq, chg, clr, clr_z, clr_o, clr_d, clr_b, clr_n, io_o, io_d, io_b, io_n, io_z, frzD, permD, SV.d, ls_l, in_i, it_l, it_t, t_b, bo_b, l_lst, l_tup, rev_l, rev_t, Pf.op_add, bi_int, c_lt, c_le, c_gt, c_ge, ev0, List.map_cons, List.map_nil, List.all_cons, List.all_nil, List.replicate, List.length_cons, List.length_nil, List.cons_append, List.nil_append, List.append_nil, List.set, List.getElem?_cons_zero, List.getElem?_cons_succ, Nat.reduceAdd, Nat.reduceSub, decide_eq_true_eq, ne_eq, if_true, if_false, Bool.false_eq_true, true_and, and_true, Option.map, ite_self, oz_c, oz_i, c_eqI, Option.getD_some, Option.getD_none, List.foldl, Bool.and_true, Bool.and_self, Bool.not_true, Bool.not_false]
      exact ⟨sz0 _ (by omega), sz1 _ (by omega), q (.tuple [g, .tuple es]) (some pool') (some some') (some _) o o' ⟨g, es, rfl, hg, t2, by omega⟩⟩
theorem lot_t2 (hF : F dr = drawM) (ns : List Int) (s : Int) (mm : Nat) (h5 : 5 ≤ mm) (hmm : mm ≤ 1000) (found : List D) (hf : ∀ e ∈ found, Bx mm e) (hfl : found.length < 1000) (k : D) (o5 : Option D) (o6 o7 : Option (List D)) (o9 o11 o12 : Option D) (Q : Out → Prop)
    (q : ∀ e o5 o6 o7 o9 o11 o12, Bx mm e → Q (.nx [some (.dat (feedD ns)), some (.dat (.int s)), some (.dat (.int mm)), some (.own (.list (found ++ [e]))), some (.dat k), dz o5, oz o6, oz o7, none, dz o9, none, dz o11, dz o12])) :
    WP (exGo fu F (lotS_t2 dr) [some (.dat (feedD ns)), some (.dat (.int s)), some (.dat (.int mm)), some (.own (.list found)), some (.dat k), dz o5, oz o6, oz o7, none, dz o9, none, dz o11, dz o12]) Q := by
  unfold lotS_t2
  simp -implicitDefEqProofs only [↓X_nil, ↓X_cons, ↓X_asg, ↓X_asgO, ↓X_par, ↓X_bor, ↓X_app, ↓X_ext, ↓X_rmv, ↓X_popS, ↓X_appPop, ↓X_augI, ↓X_iff, ↓X_for, ↓X_ret, ↓X_retN, ↓X_cont, ↓X_brk, ↓X_pas, ↓X_expr, ↓X_frz, ↓X_run, ↓E_var, ↓E_cst, ↓E_glob, ↓E_fref, ↓E_nil, ↓E_cons, ↓E_tup, ↓E_lst, ↓E_call, ↓E_callk, ↓E_bi, ↓E_biIf, ↓E_isi, ↓E_bin, ↓E_cmp, ↓E_neg, ↓E_nt, ↓E_and, ↓E_or, ↓E_ifx, ↓E_idx, ↓E_sl, ↓E_rev, ↓E_rng1, ↓E_lrng, ↓E_trng, ↓E_lc, ↓E_upper, ↓E_step, ↓T_var, ↓T_tup, ↓T_nil, ↓T_cons, ↓W_bind, ↓W_ret, ↓W_need, ↓W_draw, ↓W_if', ↓kO_nx, ↓kO_ct, ↓kO_bk, ↓kO_rt, ↓kF_nx, ↓kF_ct, ↓kF_bk, ↓kF_rt, ↓kE_rt, ↓kE_nx, ↓kIf_t, ↓kIf_f, rdv, tst, itmv, optv, gs, gr, Pf.go, mkV, isFr, noOwn_eq, datOnly_eq, wip, tg_var, put_eq, chg, clr, clr_z, clr_o, clr_d, clr_b, clr_n, io_o, io_d, io_b, io_n, io_z, frzD, permD, SV.d, ls_l, in_i, it_l, it_t, t_b, bo_b, l_lst, l_tup, rev_l, rev_t, Pf.op_add, bi_int, c_lt, c_le, c_gt, c_ge, ev0, List.map_cons, List.map_nil, List.all_cons, List.all_nil, List.replicate, List.length_cons, List.length_nil, List.cons_append, List.nil_append, List.append_nil, List.set, List.getElem?_cons_zero, List.getElem?_cons_succ, Nat.reduceAdd, Nat.reduceSub, decide_eq_true_eq, ne_eq, if_true, if_false, Bool.false_eq_true, true_and, and_true, Option.map, ite_self, oz_c, oz_i, c_eqI, Option.getD_some, Option.getD_none, List.foldl, Bool.and_true, Bool.and_self, Bool.not_true, Bool.not_false, hF]
  refine ⟨by omega, fun r hr => ⟨by omega, fun r1 _ => kIf_of (fun _ => ?_) fun _ => ?_⟩⟩
  · refine ⟨sz0 _ (by omega), by omega, pick_of rfl fun u hu => ⟨by omega, fun r2 h2 => ⟨sz0 _ (by omega), ?_⟩⟩⟩
    exact lot_t1 hF ns s mm h5 hmm found hf hfl k _ (.inr ⟨u, hu, r2, by omega, rfl⟩) o6 o7 o9 o11 o12 Q fun e a b c d' e' he => q e (some _) a b c d' e' he
  · exact lot_t1 hF ns s mm h5 hmm found hf hfl k _ (.inl ⟨r, by omega, rfl⟩) o6 o7 o9 o11 o12 Q fun e a b c d' e' he => q e (some _) a b c d' e' he
theorem wp_lot (hF : F dr = drawM) (ns : List Int) (size mm : Nat) (h5 : 5 ≤ mm) (hmm : mm ≤ 1000) (hs : size < 1000) : WP (runD fu 13 F (lotS dr) [feedD ns, .int size, .int mm]) fun d => ∃ ds, d = .tuple ds ∧ (∀ e ∈ ds, Bx mm e) ∧ ds.length = size := by
  unfold lotS
  simp -implicitDefEqProofs only [↓X_nil, ↓X_cons, ↓X_asg, ↓X_asgO, ↓X_par, ↓X_bor, ↓X_app, ↓X_ext, ↓X_rmv, ↓X_popS, ↓X_appPop, ↓X_augI, ↓X_iff, ↓X_for, ↓X_ret, ↓X_retN, ↓X_cont, ↓X_brk, ↓X_pas, ↓X_expr, ↓X_frz, ↓X_run, ↓E_var, ↓E_cst, ↓E_glob, ↓E_fref, ↓E_nil, ↓E_cons, ↓E_tup, ↓E_lst, ↓E_call, ↓E_callk, ↓E_bi, ↓E_biIf, ↓E_isi, ↓E_bin, ↓E_cmp, ↓E_neg, ↓E_nt, ↓E_and, ↓E_or, ↓E_ifx, ↓E_idx, ↓E_sl, ↓E_rev, ↓E_rng1, ↓E_lrng, ↓E_trng, ↓E_lc, ↓E_upper, ↓E_step, ↓T_var, ↓T_tup, ↓T_nil, ↓T_cons, ↓W_bind, ↓W_ret, ↓W_need, ↓W_draw, ↓W_if', ↓kO_nx, ↓kO_ct, ↓kO_bk, ↓kO_rt, ↓kF_nx, ↓kF_ct, ↓kF_bk, ↓kF_rt, ↓kE_rt, ↓kE_nx, ↓kIf_t, ↓kIf_f, rdv, tst, itmv, optv, gs, gr, Pf.go, mkV, isFr, noOwn_eq, datOnly_eq, wip, tg_var, put_eq, chg, clr, clr_z, clr_o, clr_d, clr_b, clr_n, io_o, io_d, io_b, io_n, io_z, frzD, permD, SV.d, ls_l, in_i, it_l, it_t, t_b, bo_b, l_lst, l_tup, rev_l, rev_t, Pf.op_add, bi_int, c_lt, c_le, c_gt, c_ge, ev0, List.map_cons, List.map_nil, List.all_cons, List.all_nil, List.replicate, List.length_cons, List.length_nil, List.cons_append, List.nil_append, List.append_nil, List.set, List.getElem?_cons_zero, List.getElem?_cons_succ, Nat.reduceAdd, Nat.reduceSub, decide_eq_true_eq, ne_eq, if_true, if_false, Bool.false_eq_true, true_and, and_true, Option.map, ite_self, oz_c, oz_i, c_eqI, Option.getD_some, Option.getD_none, List.foldl, Bool.and_true, Bool.and_self, Bool.not_true, Bool.not_false, hF, Int.toNat_natCast]
  refine ⟨sz0 _ (by omega), by omega, ?_⟩
  refine wp_forI (fun left ρ => ∃ found o4 o5 o6 o7 o9 o11 o12, ρ = [some (.dat (feedD ns)), some (.dat (.int size)), some (.dat (.int mm)), some (.own (.list found)), dz o4, dz o5, oz o6, oz o7, none, dz o9, none, dz o11, dz o12] ∧ (∀ e ∈ found, Bx mm e) ∧ found.length + left.length = size) ?_ ?_ ?_
  · exact ⟨[], none, none, none, none, none, none, none, rfl, fun e he => (by cases he), by rw [(nums_rng size).2]; exact Nat.zero_add _⟩
  · rintro d r ρ ⟨found, o4, o5, o6, o7, o9, o11, o12, rfl, h1, h2⟩
    rw [List.length_cons] at h2
    have app : ∀ e, Bx mm e → ∀ e' ∈ found ++ [e], Bx mm e' := fun e he e' h => by
      rcases List.mem_append.mp h with h | h
      · exact h1 e' h
      · rw [List.mem_singleton.mp h]; exact he
    unfold lotS_l1
    simp -implicitDefEqProofs only [↓X_nil, ↓X_cons, ↓X_asg, ↓X_asgO, ↓X_par, ↓X_bor, ↓X_app, ↓X_ext, ↓X_rmv, ↓X_popS, ↓X_appPop, ↓X_augI, ↓X_iff, ↓X_for, ↓X_ret, ↓X_retN, ↓X_cont, ↓X_brk, ↓X_pas, ↓X_expr, ↓X_frz, ↓X_run, ↓E_var, ↓E_cst, ↓E_glob, ↓E_fref, ↓E_nil, ↓E_cons, ↓E_tup, ↓E_lst, ↓E_call, ↓E_callk, ↓E_bi, ↓E_biIf, ↓E_isi, ↓E_bin, ↓E_cmp, ↓E_neg, ↓E_nt, ↓E_and, ↓E_or, ↓E_ifx, ↓E_idx, ↓E_sl, ↓E_rev, ↓E_rng1, ↓E_lrng, ↓E_trng, ↓E_lc, ↓E_upper, ↓E_step, ↓T_var, ↓T_tup, ↓T_nil, ↓T_cons, ↓W_bind, ↓W_ret, ↓W_need, ↓W_draw, ↓W_if', ↓kO_nx, ↓kO_ct, ↓kO_bk, ↓kO_rt, ↓kF_nx, ↓kF_ct, ↓kF_bk, ↓kF_rt, ↓kE_rt, ↓kE_nx, ↓kIf_t, ↓kIf_f, rdv, tst, itmv, optv, gs, gr, Pf.go, mkV, isFr, noOwn_eq, datOnly_eq, wip, tg_var, put_eq, chg, clr, clr_z, clr_o, clr_d, clr_b, clr_n, io_o, io_d, io_b, io_n, io_z, frzD, permD, SV.d, ls_l, in_i, it_l, it_t, t_b, bo_b, l_lst, l_tup, rev_l, rev_t, Pf.op_add, bi_int, c_lt, c_le, c_gt, c_ge, ev0, List.map_cons, List.map_nil, List.all_cons, List.all_nil, List.replicate, List.length_cons, List.length_nil, List.cons_append, List.nil_append, List.append_nil, List.set, List.getElem?_cons_zero, List.getElem?_cons_succ, Nat.reduceAdd, Nat.reduceSub, decide_eq_true_eq, ne_eq, if_true, if_false, Bool.false_eq_true, true_and, and_true, Option.map, ite_self, oz_c, oz_i, c_eqI, Option.getD_some, Option.getD_none, List.foldl, Bool.and_true, Bool.and_self, Bool.not_true, Bool.not_false, hF, c_ne, k_l, Bx.gd h1, shaped_nil, eqv_nil, kIf_n]
    have T2 := lot_t2 (fu := fu) hF ns size mm h5 hmm found h1 (by omega) d o5 o6 o7 o9 o11 o12
    refine ⟨sz0 _ (by omega), kIf_of (fun he => ?_) fun he => ⟨by omega, fun r1 _ => kIf_of (fun _ => ?_) fun _ => ?_⟩⟩
    · simp only [he, kIf_t]
      exact T2 _ fun e o5 o6 o7 o9 o11 o12 he => ⟨found ++ [e], some d, o5, o6, o7, o9, o11, o12, rfl, app e he, by rw [List.length_append, List.length_singleton]; omega⟩
    · refine ⟨?_, pick_of rfl fun e he => ⟨sz1 _ (by omega), found ++ [e], some d, o5, o6, o7, o9, o11, o12, rfl, app e (h1 e he), by rw [List.length_append, List.length_singleton]; omega⟩⟩
      have : 0 < found.length := by cases found with
        | nil => cases he
        | cons => simp
      omega
    · exact T2 _ fun e o5 o6 o7 o9 o11 o12 he => ⟨found ++ [e], some d, o5, o6, o7, o9, o11, o12, rfl, app e he, by rw [List.length_append, List.length_singleton]; omega⟩
  · rintro ρ ⟨found, o4, o5, o6, o7, o9, o11, o12, rfl, h1, h2⟩
    simp -implicitDefEqProofs only [↓X_nil, ↓X_cons, ↓X_asg, ↓X_asgO, ↓X_par, ↓X_bor, ↓X_app, ↓X_ext, ↓X_rmv, ↓X_popS, ↓X_appPop, ↓X_augI, ↓X_iff, ↓X_for, ↓X_ret, ↓X_retN, ↓X_cont, ↓X_brk, ↓X_pas, ↓X_expr, ↓X_frz, ↓X_run, ↓E_var, ↓E_cst, ↓E_glob, ↓E_fref, ↓E_nil, ↓E_cons, ↓E_tup, ↓E_lst, ↓E_call, ↓E_callk, ↓E_bi, ↓E_biIf, ↓E_isi, ↓E_bin, ↓E_cmp, ↓E_neg, ↓E_nt, ↓E_and, ↓E_or, ↓E_ifx, ↓E_idx, ↓E_sl, ↓E_rev, ↓E_rng1, ↓E_lrng, ↓E_trng, ↓E_lc, ↓E_upper, ↓E_step, ↓T_var, ↓T_tup, ↓T_nil, ↓T_cons, ↓W_bind, ↓W_ret, ↓W_need, ↓W_draw, ↓W_if', ↓kO_nx, ↓kO_ct, ↓kO_bk, ↓kO_rt, ↓kF_nx, ↓kF_ct, ↓kF_bk, ↓kF_rt, ↓kE_rt, ↓kE_nx, ↓kIf_t, ↓kIf_f, rdv, tst, itmv, optv, gs, gr, Pf.go, mkV, isFr, noOwn_eq, datOnly_eq, wip, tg_var, put_eq, chg, clr, clr_z, clr_o, clr_d, clr_b, clr_n, io_o, io_d, io_b, io_n, io_z, frzD, permD, SV.d, ls_l, in_i, it_l, it_t, t_b, bo_b, l_lst, l_tup, rev_l, rev_t, Pf.op_add, bi_int, c_lt, c_le, c_gt, c_ge, ev0, List.map_cons, List.map_nil, List.all_cons, List.all_nil, List.replicate, List.length_cons, List.length_nil, List.cons_append, List.nil_append, List.append_nil, List.set, List.getElem?_cons_zero, List.getElem?_cons_succ, Nat.reduceAdd, Nat.reduceSub, decide_eq_true_eq, ne_eq, if_true, if_false, Bool.false_eq_true, true_and, and_true, Option.map, ite_self, oz_c, oz_i, c_eqI, Option.getD_some, Option.getD_none, List.foldl, Bool.and_true, Bool.and_self, Bool.not_true, Bool.not_false, hF, c_eqI]
    refine ⟨by omega, fun r _ => kIf_of (fun _ => ?_) fun _ => ?_⟩
    · exact ⟨found.reverse, rfl, fun e he => h1 e (List.mem_reverse.mp he), by rw [List.length_reverse]; exact h2⟩
    · exact ⟨found, rfl, h1, h2⟩
end Pd
/-! Pl: what many laws ask of values: keys, texts, ascending, within; keys to begin with. -/
namespace Pl
open PySem PySem.Spec PyProof.Rows L2 Pf Pd Po
variable {fu : Nat} {F : Nat → List D → M D}
/-- an ascending tuple of keys below m -/
def Kt (m : Nat) (ds : List D) : Prop := ∃ l : List Int, l.Pairwise (· < ·) ∧ (∀ i ∈ l, 0 ≤ i ∧ i < m) ∧ ds = l.map .int
theorem Kt.nums {m : Nat} {ds : List D} (h : Kt m ds) : Nums m ds := by
  obtain ⟨l, _, h2, rfl⟩ := h
  intro d hd
  obtain ⟨i, hi, rfl⟩ := List.mem_map.mp hd
  obtain ⟨a, b⟩ := h2 i hi
  exact ⟨i.toNat, by omega, by rw [Int.toNat_of_nonneg a]⟩
theorem ko_int (i : Int) : keyOk (.int i) = true := rfl
theorem Nums.ko {m : Nat} {ds : List D} (h : Nums m ds) : ∀ k ∈ ds, keyOk k = true := fun k hk => by
  obtain ⟨i, _, rfl⟩ := h k hk
  rfl
theorem nums_int {m : Nat} {ds : List D} (h : Nums m ds) : ∃ l : List Int, ds = l.map .int ∧ ∀ i ∈ l, 0 ≤ i ∧ i < m := by
  induction ds with
  | nil => exact ⟨[], rfl, by simp⟩
  | cons d r ih =>
    obtain ⟨i, hi, rfl⟩ := h d List.mem_cons_self
    obtain ⟨l, e, hl⟩ := ih fun d hd => h d (List.mem_cons_of_mem _ hd)
    exact ⟨(i : Int) :: l, by rw [e]; rfl, fun j hj => by
      rcases List.mem_cons.mp hj with q | q
      · omega
      · exact hl j q⟩
theorem insU_len (x : Int) : ∀ l : List Int, (insU x l).length ≤ l.length + 1
  | [] => Nat.le_refl _
  | y :: r => by
    unfold insU
    have := insU_len x r
    split
    · simp
    · split <;> simp <;> omega
theorem ssetI_len : ∀ l : List Int, (ssetI l).length ≤ l.length
  | [] => Nat.le_refl _
  | x :: r => by
    have := insU_len x (ssetI r)
    have := ssetI_len r
    unfold ssetI
    simp only [List.length_cons]
    omega
theorem sset_kt {m : Nat} {l : List Int} (h : ∀ i ∈ l, 0 ≤ i ∧ i < m) : Kt m ((ssetI l).map .int) := ⟨ssetI l, ssetI_pw l, fun i hi => h i ((ssetI_mem i l).mp hi), rfl⟩
theorem W_sset {ds : List D} {R : D → Prop} {l : List Int} (e : ds = l.map .int) (hl : l.length < 60) : WP (ssetM (.list ds)) R = R (.list ((ssetI l).map .int)) ∧ WP (ssetM (.tuple ds)) R = R (.list ((ssetI l).map .int)) := by
  subst e
  have e2 : ∀ d : D, seqD d = .ret (l.map .int) → WP (ssetM d) R = R (.list ((ssetI l).map .int)) := fun d hd => by
    unfold ssetM
    rw [hd, b_ret, intsOf_map]
    show WP (need (decide (l.length < 60)) (M.ret (PyData.list ((ssetI l).map .int)))) R = _
    rw [need_of (decide_eq_true hl)]
    rfl
  exact ⟨e2 _ rfl, e2 _ rfl⟩
theorem E_sset {a : Sx} {x : Option SV} {ρ : Ev} {R : D → Prop} : WP (ev F (.sset a) (x :: ρ)) R = WP (rdv a (ev F a) (x :: ρ)) fun d => WP (ssetM d) R := by
  show WP ((rdv a (ev F a) (x :: ρ)).bind ssetM) R = _
  rw [W_bind]
theorem flt_no {α : Type} (l : List α) : (l.filter fun _ => false) = [] := by induction l with
  | nil => rfl
  | cons x r ih => rw [List.filter_cons_of_neg (by simp), ih]
def beginS (dr gi : Nat) : Sx := (.cons (.asg (.var 2) (.idx (.lst (.cons (.lst (.cons (.cst (.int 0)) .nil)) (.cons (.lst (.cons (.cst (.int 1)) .nil)) (.cons (.lst (.cons (.cst (.int 0)) (.cons (.cst (.int 1)) .nil))) (.cons (.lst .nil) .nil))))) (.call dr (.cons (.var 0) (.cons (.cst (.int 4)) .nil))))) (.cons (.ret (.bi .tup (.sset (.bin .add (.var 2) (.bi .lst (.call gi (.cons (.var 0) (.cons (.var 1) (.cons (.cst (.int 1)) .nil))))))))) .nil))
theorem ad_t (a b : List D) (h : a.length + b.length ≤ 100000) : op2 .add (.tuple a) (.tuple b) = .ret (.tuple (a ++ b)) := by
  show need _ _ = _
  rw [need_of (decide_eq_true (sz0 _ h))]
theorem wp_begin {dr gi : Nat} (hF : F dr = drawM) (hG : ∀ (ns : List Int) (many most : Nat), most ≤ many → many ≤ 1000 → WP (F gi [feedD ns, .int many, .int most]) (fun d => ∃ ds, d = .tuple ds ∧ Nums many ds ∧ ds.length ≤ most)) (ns : List Int) (many : Nat) (h2 : 2 ≤ many) (hm : many ≤ 1000) : WP (runD fu 3 F (beginS dr gi) [feedD ns, .int many]) (fun d => ∃ ds, d = .tuple ds ∧ Kt many ds ∧ ds.length ≤ 3) := by
  unfold beginS
  simp -implicitDefEqProofs only [↓X_nil, ↓X_cons, ↓X_asg, ↓X_asgO, ↓X_par, ↓X_bor, ↓X_app, ↓X_ext, ↓X_rmv, ↓X_popS, ↓X_appPop, ↓X_augI, ↓X_iff, ↓X_for, ↓X_ret, ↓X_retN, ↓X_cont, ↓X_brk, ↓X_pas, ↓X_expr, ↓X_frz, ↓X_run, ↓E_var, ↓E_cst, ↓E_glob, ↓E_fref, ↓E_nil, ↓E_cons, ↓E_tup, ↓E_lst, ↓E_call, ↓E_callk, ↓E_bi, ↓E_biIf, ↓E_isi, ↓E_bin, ↓E_cmp, ↓E_neg, ↓E_nt, ↓E_and, ↓E_or, ↓E_ifx, ↓E_idx, ↓E_sl, ↓E_rev, ↓E_rng1, ↓E_lrng, ↓E_trng, ↓E_lc, ↓E_upper, ↓E_step, ↓T_var, ↓T_tup, ↓T_nil, ↓T_cons, ↓W_bind, ↓W_ret, ↓W_need, ↓W_draw, ↓W_if', ↓kO_nx, ↓kO_ct, ↓kO_bk, ↓kO_rt, ↓kF_nx, ↓kF_ct, ↓kF_bk, ↓kF_rt, ↓kE_rt, ↓kE_nx, ↓kIf_t, ↓kIf_f, rdv, tst, itmv, optv, gs, gr, Pf.go, mkV, isFr, noOwn_eq, datOnly_eq, wip, tg_var, put_eq, chg, clr, clr_z, clr_o, clr_d, clr_b, clr_n, io_o, io_d, io_b, io_n, io_z, frzD, permD, SV.d, ls_l, in_i, it_l, it_t, t_b, bo_b, l_lst, l_tup, rev_l, rev_t, Pf.op_add, bi_int, c_lt, c_le, c_gt, c_ge, ev0, List.map_cons, List.map_nil, List.all_cons, List.all_nil, List.replicate, List.length_cons, List.length_nil, List.cons_append, List.nil_append, List.append_nil, List.set, List.getElem?_cons_zero, List.getElem?_cons_succ, Nat.reduceAdd, Nat.reduceSub, decide_eq_true_eq, ne_eq, if_true, if_false, Bool.false_eq_true, true_and, and_true, Option.map, ite_self, oz_c, oz_i, c_eqI, Option.getD_some, Option.getD_none, List.foldl, Bool.and_true, Bool.and_self, Bool.not_true, Bool.not_false, hF]
  refine ⟨sz0 _ (by omega), sz0 _ (by omega), sz0 _ (by omega), sz0 _ (by omega), sz0 _ (by omega), by omega, pick_of rfl fun u hu => ?_⟩
  obtain ⟨l, rfl, hl, hl2⟩ : ∃ l : List Int, u = .list (l.map .int) ∧ (∀ i ∈ l, 0 ≤ i ∧ i < 2) ∧ l.length ≤ 2 := by
    simp only [List.mem_cons, List.mem_nil_iff, or_false] at hu
    rcases hu with rfl | rfl | rfl | rfl
    · exact ⟨[0], rfl, by simp, by simp⟩
    · exact ⟨[1], rfl, by simp, by simp⟩
    · exact ⟨[0, 1], rfl, by simp, by simp⟩
    · exact ⟨[], rfl, by simp, by simp⟩
  simp only [E_sset, ↓X_nil, ↓X_cons, ↓X_asg, ↓X_asgO, ↓X_par, ↓X_bor, ↓X_app, ↓X_ext, ↓X_rmv, ↓X_popS, ↓X_appPop, ↓X_augI, ↓X_iff, ↓X_for, ↓X_ret, ↓X_retN, ↓X_cont, ↓X_brk, ↓X_pas, ↓X_expr, ↓X_frz, ↓X_run, ↓E_var, ↓E_cst, ↓E_glob, ↓E_fref, ↓E_nil, ↓E_cons, ↓E_tup, ↓E_lst, ↓E_call, ↓E_callk, ↓E_bi, ↓E_biIf, ↓E_isi, ↓E_bin, ↓E_cmp, ↓E_neg, ↓E_nt, ↓E_and, ↓E_or, ↓E_ifx, ↓E_idx, ↓E_sl, ↓E_rev, ↓E_rng1, ↓E_lrng, ↓E_trng, ↓E_lc, ↓E_upper, ↓E_step, ↓T_var, ↓T_tup, ↓T_nil, ↓T_cons, ↓W_bind, ↓W_ret, ↓W_need, ↓W_draw, ↓W_if', ↓kO_nx, ↓kO_ct, ↓kO_bk, ↓kO_rt, ↓kF_nx, ↓kF_ct, ↓kF_bk, ↓kF_rt, ↓kE_rt, ↓kE_nx, ↓kIf_t, ↓kIf_f, rdv, tst, itmv, optv, gs, gr, Pf.go, mkV, isFr, noOwn_eq, datOnly_eq, wip, tg_var, put_eq, chg, clr, clr_z, clr_o, clr_d, clr_b, clr_n, io_o, io_d, io_b, io_n, io_z, frzD, permD, SV.d, ls_l, in_i, it_l, it_t, t_b, bo_b, l_lst, l_tup, rev_l, rev_t, Pf.op_add, bi_int, c_lt, c_le, c_gt, c_ge, ev0, List.map_cons, List.map_nil, List.all_cons, List.all_nil, List.replicate, List.length_cons, List.length_nil, List.cons_append, List.nil_append, List.append_nil, List.set, List.getElem?_cons_zero, List.getElem?_cons_succ, Nat.reduceAdd, Nat.reduceSub, decide_eq_true_eq, ne_eq, if_true, if_false, Bool.false_eq_true, true_and, and_true, Option.map, ite_self, oz_c, oz_i, c_eqI, Option.getD_some, Option.getD_none, List.foldl, Bool.and_true, Bool.and_self, Bool.not_true, Bool.not_false]
  refine (hG ns many 1 (by omega) hm).mono fun d hd => ?_
  obtain ⟨ds, rfl, h3, h4⟩ := hd
  obtain ⟨l2, rfl, h5⟩ := nums_int h3
  rw [List.length_map] at h4
  show WP (op2 .add (.list (l.map .int)) (.list (l2.map .int))) _
  rw [ad_l _ _ (by simp; omega), W_ret, (W_sset (l := l ++ l2) (by rw [List.map_append]) (by rw [List.length_append]; omega)).1]
  have := ssetI_len (l ++ l2)
  rw [List.length_append] at this
  refine ⟨_, rfl, sset_kt fun i hi => ?_, by rw [List.length_map]; omega⟩
  rcases List.mem_append.mp hi with q | q
  · have := hl i q; omega
  · exact h5 i q
/-! values -/
def keyS : Sx := (.cons (.ret (.and (.isi (.var 0) .int) (.and (.nt (.isi (.var 0) .bool)) (.cmp .ge (.var 0) (.cst (.int 0)))))) .nil)
theorem key_run (i : Int) : runD fu 1 F keyS [.int i] = .ret (.bool (decide (0 ≤ i))) := by
  unfold keyS
  rw [run_ret]
  rfl
def namedS : Sx := (.cons (.iff (.or (.nt (.isi (.var 0) .str)) (.nt (.chain .lt .lt (.cst (.int 0)) (.bi .len (.var 0)) (.cst (.int 9))))) (.cons (.ret (.cst (.bool false))) .nil) .nil) (.cons (.ret (.cmp .eq (.lc [1] (.var 1) (.var 0) (.nt (.chain .le .le (.cst (.int 97)) (.bi .ord (.var 1)) (.cst (.int 122)))) (.var 1)) (.lst .nil))) .nil))
theorem named_run {s : Str} (h1 : 0 < s.length) (h2 : s.length < 9) (h3 : ∀ c ∈ s.cps.toList, 97 ≤ c ∧ c ≤ 122) : runD fu 2 F namedS [.str s] = .ret (.bool true) := by
  have z : decide (s.length ≤ sizeLine) = true := decide_eq_true (sz0 _ (by omega))
  have z2 : decide (s.cps.toList.length ≤ sizeLine) = true := decide_eq_true (sz0 _ (by show s.cps.toList.length ≤ _; rw [Array.length_toList]; show s.length ≤ _; omega))
  unfold namedS
  have t1 : tst (.or (.nt (.isi (.var 0) .str)) (.nt (.chain .lt .lt (.cst (.int 0)) (.bi .len (.var 0)) (.cst (.int 9))))) (ev F (.or (.nt (.isi (.var 0) .str)) (.nt (.chain .lt .lt (.cst (.int 0)) (.bi .len (.var 0)) (.cst (.int 9)))))) (ev0 2 [.str s]) = .ret false := by
    show ((((((need (decide (s.length ≤ sizeLine)) (M.ret (PyData.int s.length))).bind fun y => (cmp2 .lt (.int 0) y).bind fun r => (boolD r).bind fun k => if k = true then cmp2 .lt y (.int 9) else .ret (.bool false)).bind truD).bind fun k => M.ret (PyData.bool !k))).bind truD) = _
    rw [z, need_true, b_ret, c_lt, b_ret, bo_b, b_ret, if_pos (decide_eq_true (by omega)), c_lt, b_ret, t_b, b_ret, b_ret, t_b, decide_eq_true (by omega)]
    rfl
  rw [run_if t1, if_neg (by decide), run_ret]
  have t2 : ev F (.lc [1] (.var 1) (.var 0) (.nt (.chain .le .le (.cst (.int 97)) (.bi .ord (.var 1)) (.cst (.int 122)))) (.var 1)) (ev0 2 [.str s]) = .ret (.list ((s.cps.toList.map fun c => (PyData.str ⟨#[c]⟩)).filter fun _ => false)) := by
    refine lc_flt ?_ rfl fun d hd => ?_
    · show need (decide (s.cps.toList.length ≤ sizeLine)) (M.ret (s.cps.toList.map fun c => PyData.str ⟨#[c]⟩)) = _
      rw [z2, need_true]
    · obtain ⟨c, hc, rfl⟩ := List.mem_map.mp hd
      obtain ⟨a, b⟩ := h3 c hc
      refine ⟨_, rfl, ?_, rfl⟩
      show ((((cmp2 .le (.int 97) (.int (c : Nat))).bind fun r => (boolD r).bind fun k => if k = true then cmp2 .le (.int (c : Nat)) (.int 122) else .ret (.bool false)).bind truD).bind fun k => M.ret (PyData.bool !k)).bind truD = _
      rw [c_le, b_ret, bo_b, b_ret, if_pos (decide_eq_true (by omega)), c_le, b_ret, t_b, b_ret, b_ret, t_b, decide_eq_true (by omega)]
      rfl
  show ((ev F (.lc [1] (.var 1) (.var 0) (.nt (.chain .le .le (.cst (.int 97)) (.bi .ord (.var 1)) (.cst (.int 122)))) (.var 1)) (ev0 2 [.str s])).bind fun x => (need (decide (([] : List D).length ≤ sizeLine)) (M.ret (PyData.list []))).bind fun y => cmp2 .eq x y) = _
  rw [t2, b_ret, need_of (decide_eq_true (sz0 _ (by simp))), b_ret, flt_no, c_eq, k_l, shaped_nil]
  rfl
def pageS (nm ky : Nat) : Sx := (.cons (.ret (.and (.isi (.var 0) .tup) (.and (.cmp .eq (.bi .len (.var 0)) (.cst (.int 2))) (.and (.call nm (.cons (.idx (.var 0) (.cst (.int 0))) .nil)) (.call ky (.cons (.idx (.var 0) (.cst (.int 1))) .nil)))))) .nil)
theorem page_run {nm ky : Nat} {s n : D} (h1 : F nm [s] = .ret (.bool true)) (h2 : F ky [n] = .ret (.bool true)) : runD fu 1 F (pageS nm ky) [.tuple [s, n]] = .ret (.bool true) := by
  unfold pageS
  rw [run_ret]
  show ((cmp2 .eq (.int 2) (.int 2)).bind fun x => (truD x).bind fun k => if k = true then (F nm [s]).bind fun x => (truD x).bind fun k => if k = true then F ky [n] else .ret x else .ret x) = _
  rw [c_eqI, b_ret, t_b, b_ret, if_pos (by decide), h1, b_ret, t_b, b_ret, if_pos rfl, h2]
def risesS : Sx := (.cons (.ret (.cmp .eq (.lc [1] (.var 1) (.rng2 (.cst (.int 1)) (.bi .len (.var 0))) (.cmp .ge (.idx (.var 0) (.bin .sub (.var 1) (.cst (.int 1)))) (.idx (.var 0) (.var 1))) (.var 1)) (.lst .nil))) .nil)
theorem ix_inT {ds : List D} {i : Nat} {x : D} (h : ds[i]? = some x) : idx2 (.tuple ds) (.int (i : Int)) = .ret x := by
  have hi : i < ds.length := (List.getElem?_eq_some_iff.mp h).1
  have e : (ixAt ds.length (i : Int)).bind (ds[·]?) = some x := by
    have : ixAt ds.length (i : Int) = some i := by
      unfold ixAt L2.ixN
      simp [hi]
      try omega
    rw [this]
    exact h
  unfold idx2
  simp only [e]
theorem rises_run {ds : List D} (hl : ds.length ≤ 1000) (h : ∀ (k : Nat) (x y : D), ds[k]? = some x → ds[k + 1]? = some y → cmp2 .ge x y = .ret (.bool false)) : runD fu 2 F risesS [.tuple ds] = .ret (.bool true) := by
  unfold risesS
  rw [run_ret]
  have it : itmv (.rng2 (.cst (.int 1)) (.bi .len (.var 0))) (ev F (.rng2 (.cst (.int 1)) (.bi .len (.var 0)))) (ev0 2 [.tuple ds]) = .ret (intR 1 ((ds.length : Int) - 1).toNat) := by
    show ((ev F (.rng2 (.cst (.int 1)) (.bi .len (.var 0))) (ev0 2 [.tuple ds])).bind itmD) = _
    rw [rng2_eq (i := 1) (j := ds.length) rfl rfl (by omega) (by omega)]
    rfl
  have t2 : ev F (.lc [1] (.var 1) (.rng2 (.cst (.int 1)) (.bi .len (.var 0))) (.cmp .ge (.idx (.var 0) (.bin .sub (.var 1) (.cst (.int 1)))) (.idx (.var 0) (.var 1))) (.var 1)) (ev0 2 [.tuple ds]) = .ret (.list ((intR 1 ((ds.length : Int) - 1).toNat).filter fun _ => false)) := by
    refine lc_flt it rfl fun d hd => ?_
    obtain ⟨i, hi, rfl⟩ := List.mem_map.mp hd
    have hi := List.mem_range.mp hi
    refine ⟨_, rfl, ?_, rfl⟩
    have h1 : ds[i]? = some ds[i] := List.getElem?_eq_getElem (by omega)
    have h2 : ds[i + 1]? = some ds[i + 1] := List.getElem?_eq_getElem (by omega)
    show (((idx2 (.tuple ds) (.int (1 + (i : Int) - 1))).bind fun x => (idx2 (.tuple ds) (.int (1 + (i : Int)))).bind fun y => cmp2 .ge x y).bind truD) = _
    rw [show (1 + (i : Int) - 1) = ((i : Nat) : Int) by omega, ix_inT h1, b_ret, show (1 + (i : Int)) = ((i + 1 : Nat) : Int) by omega, ix_inT h2, b_ret, h i _ _ h1 h2]
    rfl
  show ((ev F (.lc [1] (.var 1) (.rng2 (.cst (.int 1)) (.bi .len (.var 0))) (.cmp .ge (.idx (.var 0) (.bin .sub (.var 1) (.cst (.int 1)))) (.idx (.var 0) (.var 1))) (.var 1)) (ev0 2 [.tuple ds])).bind fun x => (need (decide (([] : List D).length ≤ sizeLine)) (M.ret (PyData.list []))).bind fun y => cmp2 .eq x y) = _
  rw [t2, b_ret, need_of (decide_eq_true (sz0 _ (by simp))), b_ret, flt_no, c_eq, k_l, shaped_nil]
  rfl
/-- an ascending tuple of what the k-th def tells -/
def keyedS (k r : Nat) : Sx := (.cons (.ret (.and (.isi (.var 0) .tup) (.and (.cmp .eq (.lc [1] (.var 1) (.var 0) (.nt (.call k (.cons (.var 1) .nil))) (.var 1)) (.lst .nil)) (.call r (.cons (.var 0) .nil))))) .nil)
theorem keyed_run {k r : Nat} {ds : List D} (h1 : ∀ d ∈ ds, F k [d] = .ret (.bool true)) (h2 : F r [.tuple ds] = .ret (.bool true)) : runD fu 2 F (keyedS k r) [.tuple ds] = .ret (.bool true) := by
  unfold keyedS
  rw [run_ret]
  have t2 : ev F (.lc [1] (.var 1) (.var 0) (.nt (.call k (.cons (.var 1) .nil))) (.var 1)) (ev0 2 [.tuple ds]) = .ret (.list (ds.filter fun _ => false)) := by
    refine lc_flt rfl rfl fun d hd => ⟨_, rfl, ?_, rfl⟩
    show ((((F k [d]).bind truD).bind fun k => M.ret (PyData.bool !k)).bind truD) = _
    rw [h1 d hd]
    rfl
  show (((ev F (.lc [1] (.var 1) (.var 0) (.nt (.call k (.cons (.var 1) .nil))) (.var 1)) (ev0 2 [.tuple ds])).bind fun x => (need (decide (([] : List D).length ≤ sizeLine)) (M.ret (PyData.list []))).bind fun y => cmp2 .eq x y).bind fun x => (truD x).bind fun k => if k = true then F r [.tuple ds] else .ret x) = _
  rw [t2, b_ret, need_of (decide_eq_true (sz0 _ (by simp))), b_ret, flt_no, c_eq, k_l, shaped_nil, h2]
  rfl
theorem ge_int (a b : Int) (h : a < b) : cmp2 .ge (.int a) (.int b) = .ret (.bool false) := by
  rw [c_ge, decide_eq_false (by omega)]
theorem ge_txt {a b : D} (ha : TD a) (hb : TD b) (ta : ∃ s n, a = .tuple [.str s, .int n]) (tb : ∃ s n, b = .tuple [.str s, .int n]) (h : PySem.W.dataLt b a = false) (ne : a ≠ b) : cmp2 .ge a b = .ret (.bool false) := by
  have hlt : PySem.W.dataLt a b = true := by
    cases q : PySem.W.dataLt a b with
    | true => rfl
    | false => exact absurd (txt_anti ta tb h q) ne
  have s1 := ko_sh ha.ko
  have s2 := ko_sh hb.ko
  obtain ⟨s, n, rfl⟩ := ta
  obtain ⟨t, m, rfl⟩ := tb
  show need (PySem.W.alikeAll [.str s, .int n] [.str t, .int m] && SeqAt.shaped (.tuple [.str s, .int n]) && SeqAt.shaped (.tuple [.str t, .int m])) (M.ret (PyData.bool (!PySem.W.dataLt (.tuple [.str s, .int n]) (.tuple [.str t, .int m])))) = _
  rw [s1, s2, hlt, show PySem.W.alikeAll [.str s, .int n] [.str t, .int m] = true by simp [PySem.W.alike, PySem.W.alikeAll]]
  rfl
/-- [one for one in a if one not in b] == [] -/
theorem none_out {F : Nat → List D → M D} {own : Nat} {ia ib : Sx} {ρ : Ev} {a b : List D} (hia : itmv ia (ev F ia) ρ = .ret a) (ho : datOnly ρ [own] = true) (hown : ∀ d, ∃ ρ', tgt (.var own) d (wip ρ [own]) = .ret ρ' ∧ gr ρ' own = .ret d ∧ gs ρ' own = .ret d ∧ rdv ib (ev F ib) ρ' = .ret (.tuple b)) (ha : ∀ d ∈ a, keyOk d = true) (hb : ∀ d ∈ b, keyOk d = true) :
    ev F (.cmp .eq (.lc [own] (.var own) ia (.cmp .notin (.var own) ib) (.var own)) (.lst .nil)) ρ = .ret (.bool (a.all (Pm.hasK b))) := by
  have t2 : ev F (.lc [own] (.var own) ia (.cmp .notin (.var own) ib) (.var own)) ρ = .ret (.list (a.filter fun d => !Pm.hasK b d)) := by
    refine lc_flt hia ho fun d hd => ?_
    obtain ⟨ρ', e1, e2, e3, e4⟩ := hown d
    refine ⟨ρ', e1, ?_, e3⟩
    show (((gr ρ' own).bind fun x => (rdv ib (ev F ib) ρ').bind fun y => cmp2 .notin x y).bind truD) = _
    rw [e2, b_ret, e4, b_ret, c_niT, ko_sh (ha d hd), (kos_sh hb).2]
    rfl
  show ((ev F (.lc [own] (.var own) ia (.cmp .notin (.var own) ib) (.var own)) ρ).bind fun x => (need (decide (([] : List D).length ≤ sizeLine)) (M.ret (PyData.list []))).bind fun y => cmp2 .eq x y) = _
  rw [t2, b_ret, need_of (decide_eq_true (sz0 _ (by simp))), b_ret, c_eq, k_l, shaped_nil, (kos_sh fun d hd => ha d (List.mem_filter.mp hd).1).1, eqv_nil, flt_nil]
  rfl
def withinS : Sx := (.cons (.ret (.and (.cmp .eq (.lc [2] (.var 2) (.idx (.var 0) (.cst (.int 0))) (.cmp .notin (.var 2) (.idx (.var 1) (.cst (.int 0)))) (.var 2)) (.lst .nil)) (.cmp .eq (.lc [3] (.var 3) (.idx (.var 0) (.cst (.int 1))) (.cmp .notin (.var 3) (.idx (.var 1) (.cst (.int 1)))) (.var 3)) (.lst .nil)))) .nil)
theorem within_run {a0 a1 b0 b1 : List D} (h1 : ∀ d ∈ a0, keyOk d = true) (h2 : ∀ d ∈ a1, keyOk d = true) (h3 : ∀ d ∈ b0, keyOk d = true) (h4 : ∀ d ∈ b1, keyOk d = true) : runD fu 4 F withinS [.tuple [.tuple a0, .tuple a1], .tuple [.tuple b0, .tuple b1]] = .ret (.bool (a0.all (Pm.hasK b0) && a1.all (Pm.hasK b1))) := by
  unfold withinS
  rw [run_ret]
  show (ev F (.and _ _) _) = _
  rw [ev_and (none_out (a := a0) (b := b0) rfl rfl (fun d => ⟨_, rfl, rfl, rfl, rfl⟩) h1 h3), none_out (a := a1) (b := b1) rfl rfl (fun d => ⟨_, rfl, rfl, rfl, rfl⟩) h2 h4]
  cases a0.all (Pm.hasK b0) <;> rfl
end Pl
/-! Po4: what an opening has. -/
namespace Po
open PySem Pf Pm
def p0 (fd : List D) : List D := (sortI (intL fd)).map .int
def p1 (fd : List D) : List D := sortD (tsL fd)
theorem openD_is (fd : List D) : openD fd = .tuple [.tuple (p0 fd), .tuple (p1 fd)] := rfl
theorem p0_mem {fd : List D} {d : D} : d ∈ p0 fd ↔ d ∈ fd ∧ ∃ i, d = .int i := by
  unfold p0
  rw [List.mem_map]
  constructor
  · rintro ⟨i, hi, rfl⟩
    exact ⟨intL_mem.mp ((sortI_perm _).mem_iff.mp hi), i, rfl⟩
  · rintro ⟨h, i, rfl⟩
    exact ⟨i, (sortI_perm _).mem_iff.mpr (intL_mem.mpr h), rfl⟩
theorem p1_mem {fd : List D} (h : ∀ d ∈ fd, TD d) {d : D} : d ∈ p1 fd ↔ d ∈ fd ∧ ∃ s n, d = .tuple [.str s, .int n] := by
  unfold p1
  rw [(sortD_perm _).mem_iff]
  exact tsL_mem h
theorem p01_mem {fd : List D} (h : ∀ d ∈ fd, TD d) {d : D} : d ∈ p0 fd ++ p1 fd ↔ d ∈ fd := by
  rw [List.mem_append, p0_mem, p1_mem h]
  constructor
  · rintro (⟨a, _⟩ | ⟨a, _⟩) <;> exact a
  · intro a
    rcases (h d a).sh with q | q
    · exact .inl ⟨a, q⟩
    · exact .inr ⟨a, q⟩
theorem intL_nodup : ∀ {fd : List D}, fd.Nodup → (intL fd).Nodup := fun {fd} h => by
  have h2 : (fd.filter isIntD).Nodup := h.filter _
  rw [intL_eq] at h2
  exact (List.pairwise_map.mp h2).imp fun q e => q (by rw [e])
theorem p0_pw {fd : List D} (h : fd.Nodup) : (sortI (intL fd)).Pairwise (· < ·) := by
  have h1 := sortI_sorted (intL fd)
  have h2 : (sortI (intL fd)).Nodup := (sortI_perm _).nodup_iff.mpr (intL_nodup h)
  exact (h1.and h2).imp fun ⟨a, b⟩ => by omega
theorem p1_pw {fd : List D} (h : fd.Nodup) : (p1 fd).Pairwise fun a b => PySem.W.dataLt b a = false ∧ a ≠ b := by
  have h1 := sortD_pw (tsL fd)
  have h2 : (sortD (tsL fd)).Nodup := (sortD_perm _).nodup_iff.mpr (h.filter _)
  exact (h1.and h2)
theorem p0_len (fd : List D) : (p0 fd).length ≤ fd.length := by
  unfold p0
  rw [List.length_map, (sortI_perm _).length_eq]
  exact List.length_filterMap_le _ _
theorem p1_len (fd : List D) : (p1 fd).length ≤ fd.length := by
  unfold p1
  rw [(sortD_perm _).length_eq]
  exact List.length_filter_le _ _
theorem p0_of {l : List Int} (h : l.Pairwise (· < ·)) : p0 (l.map .int) = l.map .int ∧ p1 (l.map .int) = [] := by
  have e : intL (l.map .int) = l := by
    have := intL_eq (l.map .int)
    rw [List.filter_eq_self.mpr (fun d hd => by obtain ⟨i, _, rfl⟩ := List.mem_map.mp hd; rfl)] at this
    induction l with
    | nil => rfl
    | cons x r ih => 
      show x :: intL (r.map .int) = _
      rw [ih (List.pairwise_cons.mp h).2]
      exact intL_eq (r.map .int) ▸ (by rw [List.filter_eq_self.mpr (fun d hd => by obtain ⟨i, _, rfl⟩ := List.mem_map.mp hd; rfl)])
  refine ⟨?_, ?_⟩
  · unfold p0
    rw [e, sorted_unique (sortI_perm l) (sortI_sorted l) (h.imp fun q => by omega)]
  · unfold p1 tsL
    rw [List.filter_eq_nil_iff.mpr fun d hd => by obtain ⟨i, _, rfl⟩ := List.mem_map.mp hd; simp [isIntD]]
    rfl
theorem sh_open {fd : List D} (h : ∀ d ∈ fd, TD d) : SeqAt.shaped (.tuple [.tuple (p0 fd), .tuple (p1 fd)]) = true := by
  have k0 : ∀ d ∈ p0 fd, keyOk d = true := fun d hd => (h d (p0_mem.mp hd).1).ko
  have k1 : ∀ d ∈ p1 fd, keyOk d = true := fun d hd => (h d ((p1_mem h).mp hd).1).ko
  have a0 := lay_of fun d hd => ko_l (k0 d hd)
  have a1 := lay_of fun d hd => ko_l (k1 d hd)
  have b0 := dep_of fun d hd => ko_d (k0 d hd)
  have b1 := dep_of fun d hd => ko_d (k1 d hd)
  refine sh_of ?_ ?_
  · simp only [PyData.canLay0, PyData.canLayAll0, a0, a1, Bool.and_self]
  · simp only [PyData.depth, PyData.depthAll]
    omega
theorem same_eq {d : D} (h : SeqAt.shaped d = true) : cmp2 .eq d d = .ret (.bool true) ∧ cmp2 .ne d d = .ret (.bool false) := by
  have hl : d.canLay0 = true := by unfold SeqAt.shaped at h; rw [Bool.and_eq_true] at h; exact h.1
  rw [c_eq, c_ne, k_sh h h, SeqAt.eqv_refl d hl]
  exact ⟨rfl, rfl⟩
end Po
namespace K08
open PySem PySem.Spec PyProof.Rows L2 Pf
def top (i : Nat) : Stmt := PySem.Challenge.pw_sealshelf_k08_whole_opening.main.body.getD i (.Pass ⟨0, 0, 0, 0⟩)
def fk : Str × Str × Str × Str := ("cells", "at", "left", "count")
def bn : List Str := ["all", "bool", "enumerate", "int", "isinstance", "len", "list", "ord", "range", "repr", "set", "sorted", "str", "tuple"]
def cs : List (Str × D) := []
def d_is_integer : Dfn := ⟨"is_integer", ["thing"], top 1, []⟩
def d_had_by : Dfn := ⟨"had_by", ["keys", "boxes"], top 3, []⟩
def d_opened : Dfn := ⟨"opened", ["keys", "boxes"], top 4, []⟩
def d_opens : Dfn := ⟨"opens", ["keys", "boxes", "thing"], top 5, []⟩
def d_openable : Dfn := ⟨"openable", ["keys", "boxes"], top 6, []⟩
def d_law_feed : Dfn := ⟨"_law_feed", ["_law_script"], top 8, []⟩
def d_law_draw : Dfn := ⟨"_law_draw", ["_law_feed_here", "_law_many"], top 9, []⟩
def d_law_key : Dfn := ⟨"_law_key", ["_law_item"], top 10, []⟩
def d_law_named : Dfn := ⟨"_law_named", ["_law_item"], top 11, []⟩
def d_law_page : Dfn := ⟨"_law_page", ["_law_item"], top 12, []⟩
def d_law_rises : Dfn := ⟨"_law_rises", ["_law_some"], top 13, []⟩
def d_law_keyed : Dfn := ⟨"_law_keyed", ["_law_item"], top 14, []⟩
def d_law_paged : Dfn := ⟨"_law_paged", ["_law_item"], top 15, []⟩
def d_law_grip : Dfn := ⟨"_law_grip", ["_law_feed_here", "_law_many", "_law_most"], top 16, []⟩
def d_law_begin : Dfn := ⟨"_law_begin", ["_law_feed_here", "_law_many"], top 17, []⟩
def d_law_lot : Dfn := ⟨"_law_lot", ["_law_feed_here", "_law_size", "_law_many"], top 18, []⟩
def d_law_within : Dfn := ⟨"_law_within", ["_law_one", "_law_two"], top 19, []⟩
def d_law_right : Dfn := ⟨"_law_right", ["_law_grip_here", "_law_more", "_law_lot_here", "_law_less"], top 20, []⟩
def d_law : Dfn := ⟨"law", ["_law_script"], top 21, []⟩
def tb : List Dfn := [d_is_integer, d_had_by, d_opened, d_opens, d_openable, d_law_feed, d_law_draw, d_law_key, d_law_named, d_law_page, d_law_rises, d_law_keyed, d_law_paged, d_law_grip, d_law_begin, d_law_lot, d_law_within, d_law_right, d_law]
-- 0 is_integer: 0=thing
def N_is_integer : List Str := ["thing"]
def b_is_integer : Sx := (.cons (.ret (.and (.isi (.var 0) .int) (.nt (.isi (.var 0) .bool))))
    .nil)
theorem sc_is_integer : FnScope N_is_integer d_is_integer.ps (defScope d_is_integer.st) := ⟨rfl, rfl, rfl, by decide +kernel, rfl, by decide +kernel, by decide +kernel⟩
theorem mt_is_integer : mt b_is_integer (sc0 fk tb bn cs N_is_integer d_is_integer.st) (.b (defBody d_is_integer.st)) = true := by decide +kernel
-- 1 had_by: 0=keys 1=boxes 2=found 3=key 4=left 5=ready 6=own 7=needs 8=box
def N_had_by : List Str := ["keys", "boxes", "found", "key", "left", "ready", "own", "needs", "box"]
def b_had_by : Sx := (.cons (.dnew 2 [3] (.var 3) (.var 0) (.var 3))
    (.cons (.asg (.var 4) (.bi .lst (.var 1)))
    (.cons (.whil (.cst (.bool true)) (.cons (.asg (.var 5) (.lc [6, 7] (.tup (.cons (.var 6) (.cons (.var 7) .nil))) (.var 4) (.bi .all (.lc [3] (.var 3) (.var 7) .none_ (.cmp .isin (.var 3) (.var 2)))) (.var 6)))
    (.cons (.iff (.cmp .eq (.var 5) (.lst .nil)) (.cons (.ret (.var 2))
    .nil) .nil)
    (.cons (.asg (.var 4) (.lc [8] (.var 8) (.var 4) (.nt (.bi .all (.lc [3] (.var 3) (.idx (.var 8) (.cst (.int 1))) .none_ (.cmp .isin (.var 3) (.var 2))))) (.var 8)))
    (.cons (.dupd 2 [6] (.var 6) (.var 5) (.var 6))
    .nil)))))
    .nil)))
theorem sc_had_by : FnScope N_had_by d_had_by.ps (defScope d_had_by.st) := ⟨rfl, rfl, rfl, by decide +kernel, rfl, by decide +kernel, by decide +kernel⟩
theorem mt_had_by : mt b_had_by (sc0 fk tb bn cs N_had_by d_had_by.st) (.b (defBody d_had_by.st)) = true := by decide +kernel
-- 2 opened: 0=keys 1=boxes 2=found 3=numbers 4=own 5=texts
def N_opened : List Str := ["keys", "boxes", "found", "numbers", "own", "texts"]
def b_opened : Sx := (.cons (.asg (.var 2) (.call 1 (.cons (.var 0) (.cons (.var 1) .nil))))
    (.cons (.asg (.var 3) (.lc [4] (.var 4) (.var 2) (.call 0 (.cons (.var 4) .nil)) (.var 4)))
    (.cons (.asg (.var 5) (.lc [4] (.var 4) (.var 2) (.nt (.call 0 (.cons (.var 4) .nil))) (.var 4)))
    (.cons (.ret (.tup (.cons (.bi .tup (.bi .srt (.var 3))) (.cons (.bi .tup (.bi .srt (.var 5))) .nil))))
    .nil))))
theorem sc_opened : FnScope N_opened d_opened.ps (defScope d_opened.st) := ⟨rfl, rfl, rfl, by decide +kernel, rfl, by decide +kernel, by decide +kernel⟩
theorem mt_opened : mt b_opened (sc0 fk tb bn cs N_opened d_opened.st) (.b (defBody d_opened.st)) = true := by decide +kernel
-- 3 opens: 0=keys 1=boxes 2=thing
def N_opens : List Str := ["keys", "boxes", "thing"]
def b_opens : Sx := (.cons (.ret (.cmp .isin (.var 2) (.call 1 (.cons (.var 0) (.cons (.var 1) .nil)))))
    .nil)
theorem sc_opens : FnScope N_opens d_opens.ps (defScope d_opens.st) := ⟨rfl, rfl, rfl, by decide +kernel, rfl, by decide +kernel, by decide +kernel⟩
theorem mt_opens : mt b_opens (sc0 fk tb bn cs N_opens d_opens.st) (.b (defBody d_opens.st)) = true := by decide +kernel
-- 4 openable: 0=keys 1=boxes 2=b 3=own 4=needs 5=key
def N_openable : List Str := ["keys", "boxes", "b", "own", "needs", "key"]
def b_openable : Sx := (.cons (.ret (.bi .tup (.lc [2, 3, 4] (.tup (.cons (.var 2) (.cons (.tup (.cons (.var 3) (.cons (.var 4) .nil))) .nil))) (.enum (.var 1)) (.bi .all (.lc [5] (.var 5) (.var 4) .none_ (.cmp .isin (.var 5) (.var 0)))) (.var 2))))
    .nil)
theorem sc_openable : FnScope N_openable d_openable.ps (defScope d_openable.st) := ⟨rfl, rfl, rfl, by decide +kernel, rfl, by decide +kernel, by decide +kernel⟩
theorem mt_openable : mt b_openable (sc0 fk tb bn cs N_openable d_openable.st) (.b (defBody d_openable.st)) = true := by decide +kernel
-- 6 _law_draw: 0=_law_feed_here 1=_law_many 2=_law_digit 3=_law_spot 4=_law_cell 5=_law_mixed
def N_law_draw : List Str := ["_law_feed_here", "_law_many", "_law_digit", "_law_spot", "_law_cell", "_law_mixed"]
def b_law_draw : Sx := (.cons (.fput 0 3 (.bin .add (.fld 0 3) (.cst (.int 1))))
    (.cons (.iff (.cmp .gt (.fld 0 2) (.cst (.int 0))) (.cons (.asg (.var 2) (.bin .mod (.bi .int (.fld 0 2)) (.var 1)))
    (.cons (.fput 0 2 (.bin .fdiv (.fld 0 2) (.var 1)))
    (.cons (.ret (.var 2))
    .nil))) .nil)
    (.cons (.asg (.var 3) (.fld 0 1))
    (.cons (.fput 0 1 (.bin .add (.var 3) (.cst (.int 1))))
    (.cons (.asg (.var 4) (.ifx (.cmp .ne (.fcl 0) (.lst .nil)) (.idx (.fcl 0) (.bin .mod (.bi .int (.var 3)) (.bi .len (.fcl 0)))) (.cst (.int 59))))
    (.cons (.iff (.and (.cmp .ge (.var 4) (.bin .pow (.cst (.int 10)) (.cst (.int 18)))) (.cmp .lt (.var 3) (.bi .len (.fcl 0)))) (.cons (.fput 0 2 (.bin .fdiv (.var 4) (.var 1)))
    (.cons (.ret (.bin .mod (.bi .int (.var 4)) (.var 1)))
    .nil)) .nil)
    (.cons (.asg (.var 5) (.bin .mod (.bi .int (.bin .add (.bin .add (.bin .mod (.bi .int (.var 4)) (.cst (.int 1000000427))) (.bin .mul (.cst (.int 130003)) (.fld 0 3))) (.cst (.int 61)))) (.cst (.int 2147483399))))
    (.cons (.asg (.var 5) (.bin .mod (.bi .int (.bin .add (.bin .add (.bin .mul (.var 5) (.var 5)) (.bin .mul (.cst (.int 3900017)) (.fld 0 3))) (.cst (.int 29)))) (.cst (.int 2147483353))))
    (.cons (.ret (.bin .mod (.bi .int (.bin .fdiv (.bin .mod (.bi .int (.bin .add (.bin .mul (.var 5) (.var 5)) (.bin .mul (.cst (.int 97)) (.var 5)))) (.cst (.int 2147483323))) (.cst (.int 16)))) (.var 1)))
    .nil)))))))))
theorem sc_law_draw : FnScope N_law_draw d_law_draw.ps (defScope d_law_draw.st) := ⟨rfl, rfl, rfl, by decide +kernel, rfl, by decide +kernel, by decide +kernel⟩
theorem mt_law_draw : mt b_law_draw (sc0 fk tb bn cs N_law_draw d_law_draw.st) (.b (defBody d_law_draw.st)) = true := by decide +kernel
-- 7 _law_key: 0=_law_item
def N_law_key : List Str := ["_law_item"]
def b_law_key : Sx := (.cons (.ret (.and (.isi (.var 0) .int) (.and (.nt (.isi (.var 0) .bool)) (.cmp .ge (.var 0) (.cst (.int 0))))))
    .nil)
theorem sc_law_key : FnScope N_law_key d_law_key.ps (defScope d_law_key.st) := ⟨rfl, rfl, rfl, by decide +kernel, rfl, by decide +kernel, by decide +kernel⟩
theorem mt_law_key : mt b_law_key (sc0 fk tb bn cs N_law_key d_law_key.st) (.b (defBody d_law_key.st)) = true := by decide +kernel
-- 8 _law_named: 0=_law_item 1=_law_sign
def N_law_named : List Str := ["_law_item", "_law_sign"]
def b_law_named : Sx := (.cons (.iff (.or (.nt (.isi (.var 0) .str)) (.nt (.chain .lt .lt (.cst (.int 0)) (.bi .len (.var 0)) (.cst (.int 9))))) (.cons (.ret (.cst (.bool false)))
    .nil) .nil)
    (.cons (.ret (.cmp .eq (.lc [1] (.var 1) (.var 0) (.nt (.chain .le .le (.cst (.int 97)) (.bi .ord (.var 1)) (.cst (.int 122)))) (.var 1)) (.lst .nil)))
    .nil))
theorem sc_law_named : FnScope N_law_named d_law_named.ps (defScope d_law_named.st) := ⟨rfl, rfl, rfl, by decide +kernel, rfl, by decide +kernel, by decide +kernel⟩
theorem mt_law_named : mt b_law_named (sc0 fk tb bn cs N_law_named d_law_named.st) (.b (defBody d_law_named.st)) = true := by decide +kernel
-- 9 _law_page: 0=_law_item
def N_law_page : List Str := ["_law_item"]
def b_law_page : Sx := (.cons (.ret (.and (.isi (.var 0) .tup) (.and (.cmp .eq (.bi .len (.var 0)) (.cst (.int 2))) (.and (.call 8 (.cons (.idx (.var 0) (.cst (.int 0))) .nil)) (.call 7 (.cons (.idx (.var 0) (.cst (.int 1))) .nil))))))
    .nil)
theorem sc_law_page : FnScope N_law_page d_law_page.ps (defScope d_law_page.st) := ⟨rfl, rfl, rfl, by decide +kernel, rfl, by decide +kernel, by decide +kernel⟩
theorem mt_law_page : mt b_law_page (sc0 fk tb bn cs N_law_page d_law_page.st) (.b (defBody d_law_page.st)) = true := by decide +kernel
-- 10 _law_rises: 0=_law_some 1=_law_k
def N_law_rises : List Str := ["_law_some", "_law_k"]
def b_law_rises : Sx := (.cons (.ret (.cmp .eq (.lc [1] (.var 1) (.rng2 (.cst (.int 1)) (.bi .len (.var 0))) (.cmp .ge (.idx (.var 0) (.bin .sub (.var 1) (.cst (.int 1)))) (.idx (.var 0) (.var 1))) (.var 1)) (.lst .nil)))
    .nil)
theorem sc_law_rises : FnScope N_law_rises d_law_rises.ps (defScope d_law_rises.st) := ⟨rfl, rfl, rfl, by decide +kernel, rfl, by decide +kernel, by decide +kernel⟩
theorem mt_law_rises : mt b_law_rises (sc0 fk tb bn cs N_law_rises d_law_rises.st) (.b (defBody d_law_rises.st)) = true := by decide +kernel
-- 11 _law_keyed: 0=_law_item 1=_law_one
def N_law_keyed : List Str := ["_law_item", "_law_one"]
def b_law_keyed : Sx := (.cons (.ret (.and (.isi (.var 0) .tup) (.and (.cmp .eq (.lc [1] (.var 1) (.var 0) (.nt (.call 7 (.cons (.var 1) .nil))) (.var 1)) (.lst .nil)) (.call 10 (.cons (.var 0) .nil)))))
    .nil)
theorem sc_law_keyed : FnScope N_law_keyed d_law_keyed.ps (defScope d_law_keyed.st) := ⟨rfl, rfl, rfl, by decide +kernel, rfl, by decide +kernel, by decide +kernel⟩
theorem mt_law_keyed : mt b_law_keyed (sc0 fk tb bn cs N_law_keyed d_law_keyed.st) (.b (defBody d_law_keyed.st)) = true := by decide +kernel
-- 12 _law_paged: 0=_law_item 1=_law_one
def N_law_paged : List Str := ["_law_item", "_law_one"]
def b_law_paged : Sx := (.cons (.ret (.and (.isi (.var 0) .tup) (.and (.cmp .eq (.lc [1] (.var 1) (.var 0) (.nt (.call 9 (.cons (.var 1) .nil))) (.var 1)) (.lst .nil)) (.call 10 (.cons (.var 0) .nil)))))
    .nil)
theorem sc_law_paged : FnScope N_law_paged d_law_paged.ps (defScope d_law_paged.st) := ⟨rfl, rfl, rfl, by decide +kernel, rfl, by decide +kernel, by decide +kernel⟩
theorem mt_law_paged : mt b_law_paged (sc0 fk tb bn cs N_law_paged d_law_paged.st) (.b (defBody d_law_paged.st)) = true := by decide +kernel
-- 13 _law_grip: 0=_law_feed_here 1=_law_many 2=_law_most 3=_law_pool 4=_law_found 5=_law_k
def N_law_grip : List Str := ["_law_feed_here", "_law_many", "_law_most", "_law_pool", "_law_found", "_law_k"]
def b_law_grip : Sx := (.cons (.par 3 true (.lrng (.var 1)) 4 true (.lst .nil))
    (.cons (.forS (.var 5) (.rng1 (.call 6 (.cons (.var 0) (.cons (.bin .add (.var 2) (.cst (.int 1))) .nil)))) (.cons (.appPop 4 3 (.call 6 (.cons (.var 0) (.cons (.bi .len (.var 3)) .nil))))
    .nil))
    (.cons (.ret (.bi .tup (.bi .srt (.var 4))))
    .nil)))
theorem sc_law_grip : FnScope N_law_grip d_law_grip.ps (defScope d_law_grip.st) := ⟨rfl, rfl, rfl, by decide +kernel, rfl, by decide +kernel, by decide +kernel⟩
theorem mt_law_grip : mt b_law_grip (sc0 fk tb bn cs N_law_grip d_law_grip.st) (.b (defBody d_law_grip.st)) = true := by decide +kernel
-- 14 _law_begin: 0=_law_feed_here 1=_law_many 2=_law_found
def N_law_begin : List Str := ["_law_feed_here", "_law_many", "_law_found"]
def b_law_begin : Sx := (.cons (.asg (.var 2) (.idx (.lst (.cons (.lst (.cons (.cst (.int 0)) .nil)) (.cons (.lst (.cons (.cst (.int 1)) .nil)) (.cons (.lst (.cons (.cst (.int 0)) (.cons (.cst (.int 1)) .nil))) (.cons (.lst .nil) .nil))))) (.call 6 (.cons (.var 0) (.cons (.cst (.int 4)) .nil)))))
    (.cons (.ret (.bi .tup (.sset (.bin .add (.var 2) (.bi .lst (.call 13 (.cons (.var 0) (.cons (.var 1) (.cons (.cst (.int 1)) .nil)))))))))
    .nil))
theorem sc_law_begin : FnScope N_law_begin d_law_begin.ps (defScope d_law_begin.st) := ⟨rfl, rfl, rfl, by decide +kernel, rfl, by decide +kernel, by decide +kernel⟩
theorem mt_law_begin : mt b_law_begin (sc0 fk tb bn cs N_law_begin d_law_begin.st) (.b (defBody d_law_begin.st)) = true := by decide +kernel
-- 15 _law_lot: 0=_law_feed_here 1=_law_size 2=_law_many 3=_law_found 4=_law_k 5=_law_goal 6=_law_pool 7=_law_some 8=_law_key_in 9=_law_near 10=_law_one 11=_law_j 12=_law_menu
def N_law_lot : List Str := ["_law_feed_here", "_law_size", "_law_many", "_law_found", "_law_k", "_law_goal", "_law_pool", "_law_some", "_law_key_in", "_law_near", "_law_one", "_law_j", "_law_menu"]
def b_law_lot : Sx := (.cons (.asgO 3 (.lst .nil))
    (.cons (.forS (.var 4) (.rng1 (.var 1)) (.cons (.iff (.and (.cmp .ne (.var 3) (.lst .nil)) (.cmp .eq (.call 6 (.cons (.var 0) (.cons (.cst (.int 9)) .nil))) (.cst (.int 0)))) (.cons (.app 3 (.idx (.var 3) (.call 6 (.cons (.var 0) (.cons (.bi .len (.var 3)) .nil)))))
    (.cons .cont
    .nil)) .nil)
    (.cons (.asg (.var 5) (.call 6 (.cons (.var 0) (.cons (.var 2) .nil))))
    (.cons (.iff (.cmp .eq (.call 6 (.cons (.var 0) (.cons (.cst (.int 4)) .nil))) (.cst (.int 0))) (.cons (.asg (.var 5) (.tup (.cons (.idx (.lst (.cons (.cst (.str "memo")) (.cons (.cst (.str "a")) (.cons (.cst (.str "world")) .nil)))) (.call 6 (.cons (.var 0) (.cons (.cst (.int 3)) .nil)))) (.cons (.call 6 (.cons (.var 0) (.cons (.cst (.int 2)) .nil))) .nil))))
    .nil) .nil)
    (.cons (.par 6 true (.lc [8] (.var 8) (.rng1 (.var 2)) (.cmp .ne (.var 8) (.var 5)) (.var 8)) 7 true (.lst .nil))
    (.cons (.asg (.var 9) (.bin .add (.lst (.cons (.cst (.int 0)) (.cons (.cst (.int 1)) .nil))) (.lc [10] (.var 10) (.var 3) .none_ (.idx (.var 10) (.cst (.int 0))))))
    (.cons (.forS (.var 11) (.rng1 (.idx (.lst (.cons (.cst (.int 1)) (.cons (.cst (.int 1)) (.cons (.cst (.int 1)) (.cons (.cst (.int 2)) (.cons (.cst (.int 2)) (.cons (.cst (.int 3)) .nil))))))) (.call 6 (.cons (.var 0) (.cons (.cst (.int 6)) .nil))))) (.cons (.bor 12 6 (.cmp .gt (.call 6 (.cons (.var 0) (.cons (.cst (.int 4)) .nil))) (.cst (.int 0))) (.lc [8] (.var 8) (.var 6) (.cmp .isin (.var 8) (.var 9)) (.var 8)))
    (.cons (.app 7 (.ifx (.cmp .ne (.var 12) (.lst .nil)) (.idx (.var 12) (.call 6 (.cons (.var 0) (.cons (.bi .len (.var 12)) .nil)))) (.idx (.var 6) (.cst (.int 0)))))
    (.cons (.rmv 6 (.idx (.var 7) (.neg (.cst (.int 1)))))
    .nil))))
    (.cons (.app 3 (.tup (.cons (.var 5) (.cons (.bi .tup (.bi .srt (.var 7))) .nil))))
    .nil))))))))
    (.cons (.ret (.biIf .tup (.cmp .eq (.call 6 (.cons (.var 0) (.cons (.cst (.int 2)) .nil))) (.cst (.int 0))) (.rev (.var 3)) (.var 3)))
    .nil)))
theorem sc_law_lot : FnScope N_law_lot d_law_lot.ps (defScope d_law_lot.st) := ⟨rfl, rfl, rfl, by decide +kernel, rfl, by decide +kernel, by decide +kernel⟩
theorem mt_law_lot : mt b_law_lot (sc0 fk tb bn cs N_law_lot d_law_lot.st) (.b (defBody d_law_lot.st)) = true := by decide +kernel
-- 16 _law_within: 0=_law_one 1=_law_two 2=_law_k 3=_law_page_here
def N_law_within : List Str := ["_law_one", "_law_two", "_law_k", "_law_page_here"]
def b_law_within : Sx := (.cons (.ret (.and (.cmp .eq (.lc [2] (.var 2) (.idx (.var 0) (.cst (.int 0))) (.cmp .notin (.var 2) (.idx (.var 1) (.cst (.int 0)))) (.var 2)) (.lst .nil)) (.cmp .eq (.lc [3] (.var 3) (.idx (.var 0) (.cst (.int 1))) (.cmp .notin (.var 3) (.idx (.var 1) (.cst (.int 1)))) (.var 3)) (.lst .nil))))
    .nil)
theorem sc_law_within : FnScope N_law_within d_law_within.ps (defScope d_law_within.st) := ⟨rfl, rfl, rfl, by decide +kernel, rfl, by decide +kernel, by decide +kernel⟩
theorem mt_law_within : mt b_law_within (sc0 fk tb bn cs N_law_within d_law_within.st) (.b (defBody d_law_within.st)) = true := by decide +kernel
-- 17 _law_right: 0=_law_grip_here 1=_law_more 2=_law_lot_here 3=_law_less 4=_law_pair 5=_law_late 6=_law_at_once 7=_law_b 8=_law_rest 9=_law_free
def N_law_right : List Str := ["_law_grip_here", "_law_more", "_law_lot_here", "_law_less", "_law_pair", "_law_late", "_law_at_once", "_law_b", "_law_rest", "_law_free"]
def b_law_right : Sx := (.cons (.asg (.var 4) (.call 2 (.cons (.var 0) (.cons (.var 2) .nil))))
    (.cons (.iff (.or (.nt (.call 11 (.cons (.idx (.var 4) (.cst (.int 0))) .nil))) (.or (.nt (.call 12 (.cons (.idx (.var 4) (.cst (.int 1))) .nil))) (.nt (.call 16 (.cons (.tup (.cons (.var 0) (.cons (.tup .nil) .nil))) (.cons (.var 4) .nil)))))) (.cons (.ret (.cst (.bool false)))
    .nil) .nil)
    (.cons (.iff (.or (.cmp .ne (.call 2 (.cons (.idx (.var 4) (.cst (.int 0))) (.cons (.var 2) .nil))) (.var 4)) (.nt (.call 16 (.cons (.var 4) (.cons (.call 2 (.cons (.var 1) (.cons (.var 2) .nil))) .nil))))) (.cons (.ret (.cst (.bool false)))
    .nil) .nil)
    (.cons (.iff (.or (.nt (.call 16 (.cons (.call 2 (.cons (.var 0) (.cons (.var 3) .nil))) (.cons (.var 4) .nil)))) (.cmp .ne (.call 2 (.cons (.var 0) (.cons (.tup .nil) .nil))) (.tup (.cons (.var 0) (.cons (.tup .nil) .nil))))) (.cons (.ret (.cst (.bool false)))
    .nil) .nil)
    (.cons (.forS (.var 5) (.tup (.cons (.rev (.var 2)) (.cons (.bin .add (.var 2) (.sl (.var 2) .none_ (.cst (.int 2)))) (.cons (.bin .add (.sl (.var 2) (.cst (.int 2)) .none_) (.sl (.var 2) .none_ (.cst (.int 2)))) (.cons (.bin .add (.var 3) (.var 2)) .nil))))) (.cons (.iff (.cmp .ne (.call 2 (.cons (.var 0) (.cons (.var 5) .nil))) (.var 4)) (.cons (.ret (.cst (.bool false)))
    .nil) .nil)
    .nil))
    (.cons (.asg (.var 6) (.call 4 (.cons (.var 0) (.cons (.var 2) .nil))))
    (.cons (.forS (.var 7) (.rng1 (.bi .len (.var 2))) (.cons (.asg (.var 8) (.bin .add (.sl (.var 2) .none_ (.var 7)) (.sl (.var 2) (.bin .add (.var 7) (.cst (.int 1))) .none_)))
    (.cons (.iff (.or (.cmp .ne (.cmp .eq (.call 4 (.cons (.var 0) (.cons (.sl (.var 2) (.var 7) (.bin .add (.var 7) (.cst (.int 1)))) .nil))) (.tup (.cons (.cst (.int 0)) .nil))) (.cmp .isin (.var 7) (.var 6))) (.and (.cmp .isin (.var 7) (.var 6)) (.nt (.call 3 (.cons (.var 0) (.cons (.var 2) (.cons (.idx (.idx (.var 2) (.var 7)) (.cst (.int 0))) .nil))))))) (.cons (.ret (.cst (.bool false)))
    .nil) .nil)
    (.cons (.iff (.and (.call 3 (.cons (.var 0) (.cons (.var 8) (.cons (.idx (.idx (.var 2) (.var 7)) (.cst (.int 0))) .nil)))) (.cmp .ne (.call 2 (.cons (.var 0) (.cons (.var 8) .nil))) (.var 4))) (.cons (.ret (.cst (.bool false)))
    .nil) .nil)
    (.cons (.iff (.cmp .ne (.call 3 (.cons (.var 0) (.cons (.var 2) (.cons (.idx (.idx (.var 2) (.var 7)) (.cst (.int 0))) .nil)))) (.cmp .isin (.idx (.idx (.var 2) (.var 7)) (.cst (.int 0))) (.bin .add (.idx (.var 4) (.cst (.int 0))) (.idx (.var 4) (.cst (.int 1)))))) (.cons (.ret (.cst (.bool false)))
    .nil) .nil)
    .nil)))))
    (.cons (.asg (.var 9) (.call 4 (.cons (.idx (.var 4) (.cst (.int 0))) (.cons (.var 2) .nil))))
    (.cons (.ret (.and (.cmp .eq (.lc [7] (.var 7) (.var 9) (.cmp .notin (.idx (.idx (.var 2) (.var 7)) (.cst (.int 0))) (.bin .add (.idx (.var 4) (.cst (.int 0))) (.idx (.var 4) (.cst (.int 1))))) (.var 7)) (.lst .nil)) (.cmp .eq (.bi .lst (.var 6)) (.sset (.var 6)))))
    .nil)))))))))
theorem sc_law_right : FnScope N_law_right d_law_right.ps (defScope d_law_right.st) := ⟨rfl, rfl, rfl, by decide +kernel, rfl, by decide +kernel, by decide +kernel⟩
theorem mt_law_right : mt b_law_right (sc0 fk tb bn cs N_law_right d_law_right.st) (.b (defBody d_law_right.st)) = true := by decide +kernel
-- 18 law: 0=_law_script 1=_law_feed_here 2=_law_turn 3=_law_lot_here 4=_law_grip_here 5=_law_more 6=_law_less 7=_law_one 8=_law_kept
def N_law : List Str := ["_law_script", "_law_feed_here", "_law_turn", "_law_lot_here", "_law_grip_here", "_law_more", "_law_less", "_law_one", "_law_kept"]
def b_law : Sx := (.cons (.forS (.var 2) (.rng1 (.cst (.int 3))) (.cons (.par 3 false (.call 15 (.cons (.var 1) (.cons (.bin .add (.cst (.int 3)) (.call 6 (.cons (.var 1) (.cons (.cst (.int 5)) .nil)))) (.cons (.cst (.int 7)) .nil)))) 4 false (.call 14 (.cons (.var 1) (.cons (.cst (.int 7)) .nil))))
    (.cons (.asg (.var 5) (.bi .tup (.sset (.bin .add (.var 4) (.call 13 (.cons (.var 1) (.cons (.cst (.int 7)) (.cons (.cst (.int 2)) .nil))))))))
    (.cons (.asg (.var 6) (.bi .tup (.lc [7] (.var 7) (.var 3) (.cmp .eq (.call 6 (.cons (.var 1) (.cons (.cst (.int 2)) .nil))) (.cst (.int 0))) (.var 7))))
    (.cons (.asg (.var 8) (.bi .repr (.tup (.cons (.var 4) (.cons (.var 3) .nil)))))
    (.cons (.iff (.or (.nt (.call 17 (.cons (.var 4) (.cons (.var 5) (.cons (.var 3) (.cons (.var 6) .nil)))))) (.or (.nt (.call 17 (.cons (.var 5) (.cons (.var 5) (.cons (.var 3) (.cons (.var 6) .nil)))))) (.cmp .ne (.bi .repr (.tup (.cons (.var 4) (.cons (.var 3) .nil)))) (.var 8)))) (.cons (.ret (.cst (.bool false)))
    .nil) .nil)
    .nil))))))
    (.cons (.ret (.and (.cmp .eq (.call 2 (.cons (.tup .nil) (.cons (.tup .nil) .nil))) (.tup (.cons (.tup .nil) (.cons (.tup .nil) .nil)))) (.cmp .eq (.call 4 (.cons (.tup (.cons (.cst (.int 3)) .nil)) (.cons (.tup .nil) .nil))) (.tup .nil))))
    .nil))
theorem sc_law : FnScope N_law d_law.ps (defScope d_law.st) := ⟨rfl, rfl, rfl, by decide +kernel, rfl, by decide +kernel, by decide +kernel⟩
theorem mt_law : mt b_law (sc0 fk tb bn cs N_law d_law.st) (.b ((defBody d_law.st).drop 1)) = true := by decide +kernel
theorem bd_is_integer : BdOk d_is_integer := fun _ _ _ _ _ _ us hl => match us, hl with | [_], _ => rfl
theorem kb_is_integer : ∀ q ∈ d_is_integer.kb, KbOk d_is_integer q := fun q hq => absurd hq (by intro z; cases z)
theorem bd_had_by : BdOk d_had_by := fun _ _ _ _ _ _ us hl => match us, hl with | [_, _], _ => rfl
theorem kb_had_by : ∀ q ∈ d_had_by.kb, KbOk d_had_by q := fun q hq => absurd hq (by intro z; cases z)
theorem bd_opened : BdOk d_opened := fun _ _ _ _ _ _ us hl => match us, hl with | [_, _], _ => rfl
theorem kb_opened : ∀ q ∈ d_opened.kb, KbOk d_opened q := fun q hq => absurd hq (by intro z; cases z)
theorem bd_opens : BdOk d_opens := fun _ _ _ _ _ _ us hl => match us, hl with | [_, _, _], _ => rfl
theorem kb_opens : ∀ q ∈ d_opens.kb, KbOk d_opens q := fun q hq => absurd hq (by intro z; cases z)
theorem bd_openable : BdOk d_openable := fun _ _ _ _ _ _ us hl => match us, hl with | [_, _], _ => rfl
theorem kb_openable : ∀ q ∈ d_openable.kb, KbOk d_openable q := fun q hq => absurd hq (by intro z; cases z)
theorem bd_law_feed : BdOk d_law_feed := fun _ _ _ _ _ _ us hl => match us, hl with | [_], _ => rfl
theorem kb_law_feed : ∀ q ∈ d_law_feed.kb, KbOk d_law_feed q := fun q hq => absurd hq (by intro z; cases z)
theorem bd_law_draw : BdOk d_law_draw := fun _ _ _ _ _ _ us hl => match us, hl with | [_, _], _ => rfl
theorem kb_law_draw : ∀ q ∈ d_law_draw.kb, KbOk d_law_draw q := fun q hq => absurd hq (by intro z; cases z)
theorem bd_law_key : BdOk d_law_key := fun _ _ _ _ _ _ us hl => match us, hl with | [_], _ => rfl
theorem kb_law_key : ∀ q ∈ d_law_key.kb, KbOk d_law_key q := fun q hq => absurd hq (by intro z; cases z)
theorem bd_law_named : BdOk d_law_named := fun _ _ _ _ _ _ us hl => match us, hl with | [_], _ => rfl
theorem kb_law_named : ∀ q ∈ d_law_named.kb, KbOk d_law_named q := fun q hq => absurd hq (by intro z; cases z)
theorem bd_law_page : BdOk d_law_page := fun _ _ _ _ _ _ us hl => match us, hl with | [_], _ => rfl
theorem kb_law_page : ∀ q ∈ d_law_page.kb, KbOk d_law_page q := fun q hq => absurd hq (by intro z; cases z)
theorem bd_law_rises : BdOk d_law_rises := fun _ _ _ _ _ _ us hl => match us, hl with | [_], _ => rfl
theorem kb_law_rises : ∀ q ∈ d_law_rises.kb, KbOk d_law_rises q := fun q hq => absurd hq (by intro z; cases z)
theorem bd_law_keyed : BdOk d_law_keyed := fun _ _ _ _ _ _ us hl => match us, hl with | [_], _ => rfl
theorem kb_law_keyed : ∀ q ∈ d_law_keyed.kb, KbOk d_law_keyed q := fun q hq => absurd hq (by intro z; cases z)
theorem bd_law_paged : BdOk d_law_paged := fun _ _ _ _ _ _ us hl => match us, hl with | [_], _ => rfl
theorem kb_law_paged : ∀ q ∈ d_law_paged.kb, KbOk d_law_paged q := fun q hq => absurd hq (by intro z; cases z)
theorem bd_law_grip : BdOk d_law_grip := fun _ _ _ _ _ _ us hl => match us, hl with | [_, _, _], _ => rfl
theorem kb_law_grip : ∀ q ∈ d_law_grip.kb, KbOk d_law_grip q := fun q hq => absurd hq (by intro z; cases z)
theorem bd_law_begin : BdOk d_law_begin := fun _ _ _ _ _ _ us hl => match us, hl with | [_, _], _ => rfl
theorem kb_law_begin : ∀ q ∈ d_law_begin.kb, KbOk d_law_begin q := fun q hq => absurd hq (by intro z; cases z)
theorem bd_law_lot : BdOk d_law_lot := fun _ _ _ _ _ _ us hl => match us, hl with | [_, _, _], _ => rfl
theorem kb_law_lot : ∀ q ∈ d_law_lot.kb, KbOk d_law_lot q := fun q hq => absurd hq (by intro z; cases z)
theorem bd_law_within : BdOk d_law_within := fun _ _ _ _ _ _ us hl => match us, hl with | [_, _], _ => rfl
theorem kb_law_within : ∀ q ∈ d_law_within.kb, KbOk d_law_within q := fun q hq => absurd hq (by intro z; cases z)
theorem bd_law_right : BdOk d_law_right := fun _ _ _ _ _ _ us hl => match us, hl with | [_, _, _, _], _ => rfl
theorem kb_law_right : ∀ q ∈ d_law_right.kb, KbOk d_law_right q := fun q hq => absurd hq (by intro z; cases z)
theorem bd_law : BdOk d_law := fun _ _ _ _ _ _ us hl => match us, hl with | [_], _ => rfl
theorem kb_law : ∀ q ∈ d_law.kb, KbOk d_law q := fun q hq => absurd hq (by intro z; cases z)
def fu : Nat := 1000
@[irreducible] def F_0 : Nat → List D → M D := fun _ _ => .bad
theorem Fe_0 : F_0 = fun _ _ => .bad := by with_unfolding_all rfl
def m_is_integer : List D → M D := nFn 1 (runD fu 1 F_0 b_is_integer)
@[irreducible] def F_1 : Nat → List D → M D := updF F_0 0 m_is_integer
theorem Fe_1 : F_1 = updF F_0 0 m_is_integer := by with_unfolding_all rfl
def m_had_by : List D → M D := nFn 2 (runD fu 9 F_1 b_had_by)
@[irreducible] def F_2 : Nat → List D → M D := updF F_1 1 m_had_by
theorem Fe_2 : F_2 = updF F_1 1 m_had_by := by with_unfolding_all rfl
theorem Fc_2_1 : F_2 1 = m_had_by := by with_unfolding_all rfl
theorem Fc_2_0 : F_2 0 = m_is_integer := by with_unfolding_all rfl
def m_opened : List D → M D := nFn 2 (runD fu 6 F_2 b_opened)
@[irreducible] def F_3 : Nat → List D → M D := updF F_2 2 m_opened
theorem Fe_3 : F_3 = updF F_2 2 m_opened := by with_unfolding_all rfl
theorem Fc_3_1 : F_3 1 = m_had_by := by with_unfolding_all rfl
def m_opens : List D → M D := nFn 3 (runD fu 3 F_3 b_opens)
@[irreducible] def F_4 : Nat → List D → M D := updF F_3 3 m_opens
theorem Fe_4 : F_4 = updF F_3 3 m_opens := by with_unfolding_all rfl
def m_openable : List D → M D := nFn 2 (runD fu 6 F_4 b_openable)
@[irreducible] def F_5 : Nat → List D → M D := updF F_4 4 m_openable
theorem Fe_5 : F_5 = updF F_4 4 m_openable := by with_unfolding_all rfl
abbrev m_law_draw : List D → M D := drawM
@[irreducible] def F_6 : Nat → List D → M D := updF F_5 6 m_law_draw
theorem Fe_6 : F_6 = updF F_5 6 m_law_draw := by with_unfolding_all rfl
theorem draw_ok0 : DrawOk (nFn 2 (runD fu 6 F_5 b_law_draw)) := fun ns n h0 h1 => by
  show WP (runD fu 6 F_5 (drawA 59 1000000427 130003 61 2147483399 3900017 29 2147483353 97 2147483323 16) [feedD ns, .int n]) _
  exact wp_drawA (by decide) (by decide) (by decide) (by decide) (by decide) (by decide) (by decide) (by decide) ns n h0 h1
def m_law_key : List D → M D := nFn 1 (runD fu 1 F_6 b_law_key)
@[irreducible] def F_7 : Nat → List D → M D := updF F_6 7 m_law_key
theorem Fe_7 : F_7 = updF F_6 7 m_law_key := by with_unfolding_all rfl
def m_law_named : List D → M D := nFn 1 (runD fu 2 F_7 b_law_named)
@[irreducible] def F_8 : Nat → List D → M D := updF F_7 8 m_law_named
theorem Fe_8 : F_8 = updF F_7 8 m_law_named := by with_unfolding_all rfl
theorem Fc_8_7 : F_8 7 = m_law_key := by with_unfolding_all rfl
theorem Fc_8_8 : F_8 8 = m_law_named := by with_unfolding_all rfl
def m_law_page : List D → M D := nFn 1 (runD fu 1 F_8 b_law_page)
@[irreducible] def F_9 : Nat → List D → M D := updF F_8 9 m_law_page
theorem Fe_9 : F_9 = updF F_8 9 m_law_page := by with_unfolding_all rfl
def m_law_rises : List D → M D := nFn 1 (runD fu 2 F_9 b_law_rises)
@[irreducible] def F_10 : Nat → List D → M D := updF F_9 10 m_law_rises
theorem Fe_10 : F_10 = updF F_9 10 m_law_rises := by with_unfolding_all rfl
theorem Fc_10_7 : F_10 7 = m_law_key := by with_unfolding_all rfl
theorem Fc_10_10 : F_10 10 = m_law_rises := by with_unfolding_all rfl
def m_law_keyed : List D → M D := nFn 1 (runD fu 2 F_10 b_law_keyed)
@[irreducible] def F_11 : Nat → List D → M D := updF F_10 11 m_law_keyed
theorem Fe_11 : F_11 = updF F_10 11 m_law_keyed := by with_unfolding_all rfl
theorem Fc_11_9 : F_11 9 = m_law_page := by with_unfolding_all rfl
theorem Fc_11_10 : F_11 10 = m_law_rises := by with_unfolding_all rfl
def m_law_paged : List D → M D := nFn 1 (runD fu 2 F_11 b_law_paged)
@[irreducible] def F_12 : Nat → List D → M D := updF F_11 12 m_law_paged
theorem Fe_12 : F_12 = updF F_11 12 m_law_paged := by with_unfolding_all rfl
theorem Fc_12_6 : F_12 6 = m_law_draw := by with_unfolding_all rfl
def m_law_grip : List D → M D := nFn 3 (runD fu 6 F_12 b_law_grip)
@[irreducible] def F_13 : Nat → List D → M D := updF F_12 13 m_law_grip
theorem Fe_13 : F_13 = updF F_12 13 m_law_grip := by with_unfolding_all rfl
theorem Fc_13_6 : F_13 6 = m_law_draw := by with_unfolding_all rfl
theorem Fc_13_13 : F_13 13 = m_law_grip := by with_unfolding_all rfl
def m_law_begin : List D → M D := nFn 2 (runD fu 3 F_13 b_law_begin)
@[irreducible] def F_14 : Nat → List D → M D := updF F_13 14 m_law_begin
theorem Fe_14 : F_14 = updF F_13 14 m_law_begin := by with_unfolding_all rfl
theorem Fc_14_6 : F_14 6 = m_law_draw := by with_unfolding_all rfl
def m_law_lot : List D → M D := nFn 3 (runD fu 13 F_14 b_law_lot)
@[irreducible] def F_15 : Nat → List D → M D := updF F_14 15 m_law_lot
theorem Fe_15 : F_15 = updF F_14 15 m_law_lot := by with_unfolding_all rfl
def m_law_within : List D → M D := nFn 2 (runD fu 4 F_15 b_law_within)
@[irreducible] def F_16 : Nat → List D → M D := updF F_15 16 m_law_within
theorem Fe_16 : F_16 = updF F_15 16 m_law_within := by with_unfolding_all rfl
theorem Fc_16_11 : F_16 11 = m_law_keyed := by with_unfolding_all rfl
theorem Fc_16_12 : F_16 12 = m_law_paged := by with_unfolding_all rfl
theorem Fc_16_16 : F_16 16 = m_law_within := by with_unfolding_all rfl
theorem Fc_16_4 : F_16 4 = m_openable := by with_unfolding_all rfl
theorem Fc_16_2 : F_16 2 = m_opened := by with_unfolding_all rfl
theorem Fc_16_3 : F_16 3 = m_opens := by with_unfolding_all rfl
def m_law_right : List D → M D := nFn 4 (runD fu 10 F_16 b_law_right)
@[irreducible] def F_17 : Nat → List D → M D := updF F_16 17 m_law_right
theorem Fe_17 : F_17 = updF F_16 17 m_law_right := by with_unfolding_all rfl
theorem Fc_17_0 : F_17 0 = m_is_integer := by with_unfolding_all rfl
theorem Fc_17_1 : F_17 1 = m_had_by := by with_unfolding_all rfl
theorem Fc_17_2 : F_17 2 = m_opened := by with_unfolding_all rfl
theorem Fc_17_3 : F_17 3 = m_opens := by with_unfolding_all rfl
theorem Fc_17_4 : F_17 4 = m_openable := by with_unfolding_all rfl
theorem Fc_17_6 : F_17 6 = m_law_draw := by with_unfolding_all rfl
theorem Fc_17_7 : F_17 7 = m_law_key := by with_unfolding_all rfl
theorem Fc_17_8 : F_17 8 = m_law_named := by with_unfolding_all rfl
theorem Fc_17_9 : F_17 9 = m_law_page := by with_unfolding_all rfl
theorem Fc_17_10 : F_17 10 = m_law_rises := by with_unfolding_all rfl
theorem Fc_17_11 : F_17 11 = m_law_keyed := by with_unfolding_all rfl
theorem Fc_17_12 : F_17 12 = m_law_paged := by with_unfolding_all rfl
theorem Fc_17_13 : F_17 13 = m_law_grip := by with_unfolding_all rfl
theorem Fc_17_14 : F_17 14 = m_law_begin := by with_unfolding_all rfl
theorem Fc_17_15 : F_17 15 = m_law_lot := by with_unfolding_all rfl
theorem Fc_17_16 : F_17 16 = m_law_within := by with_unfolding_all rfl
theorem Fc_17_17 : F_17 17 = m_law_right := by with_unfolding_all rfl
theorem stages {P : Program} {w : World} {K : PySem.W.Frag} {mg : Str → Option Value} {as : List Addr} (A : AllAt K mg tb as) (B : Heap) (ns : List Int) (G : Glb ⟨K, fun k => as[k]?, fk, ns, P, w⟩ mg bn cs) : Stg ⟨K, fun k => as[k]?, fk, ns, P, w⟩ tb P w K mg B F_17 17 := by
  have S0 : Stg ⟨K, fun k => as[k]?, fk, ns, P, w⟩ tb P w K mg B F_0 0 := by
    rw [Fe_0]
    exact A.stg ns
  have S1 : Stg ⟨K, fun k => as[k]?, fk, ns, P, w⟩ tb P w K mg B F_1 1 := by
    rw [Fe_1]
    exact Stg.next S0 G 0 fu (d := d_is_integer) (N := N_is_integer) (b := b_is_integer) rfl sc_is_integer mt_is_integer
  have S2 : Stg ⟨K, fun k => as[k]?, fk, ns, P, w⟩ tb P w K mg B F_2 2 := by
    rw [Fe_2]
    exact Stg.next S1 G 1 fu (d := d_had_by) (N := N_had_by) (b := b_had_by) rfl sc_had_by mt_had_by
  have S3 : Stg ⟨K, fun k => as[k]?, fk, ns, P, w⟩ tb P w K mg B F_3 3 := by
    rw [Fe_3]
    exact Stg.next S2 G 2 fu (d := d_opened) (N := N_opened) (b := b_opened) rfl sc_opened mt_opened
  have S4 : Stg ⟨K, fun k => as[k]?, fk, ns, P, w⟩ tb P w K mg B F_4 4 := by
    rw [Fe_4]
    exact Stg.next S3 G 3 fu (d := d_opens) (N := N_opens) (b := b_opens) rfl sc_opens mt_opens
  have S5 : Stg ⟨K, fun k => as[k]?, fk, ns, P, w⟩ tb P w K mg B F_5 5 := by
    rw [Fe_5]
    exact Stg.next S4 G 4 fu (d := d_openable) (N := N_openable) (b := b_openable) rfl sc_openable mt_openable
  have S6 : Stg ⟨K, fun k => as[k]?, fk, ns, P, w⟩ tb P w K mg B F_6 6 := by
    rw [Fe_6]
    exact (Stg.next S5 G 6 fu (d := d_law_draw) (N := N_law_draw) (b := b_law_draw) rfl sc_law_draw mt_law_draw).sub (upd_sub (draw_sub draw_ok0))
  have S7 : Stg ⟨K, fun k => as[k]?, fk, ns, P, w⟩ tb P w K mg B F_7 7 := by
    rw [Fe_7]
    exact Stg.next S6 G 7 fu (d := d_law_key) (N := N_law_key) (b := b_law_key) rfl sc_law_key mt_law_key
  have S8 : Stg ⟨K, fun k => as[k]?, fk, ns, P, w⟩ tb P w K mg B F_8 8 := by
    rw [Fe_8]
    exact Stg.next S7 G 8 fu (d := d_law_named) (N := N_law_named) (b := b_law_named) rfl sc_law_named mt_law_named
  have S9 : Stg ⟨K, fun k => as[k]?, fk, ns, P, w⟩ tb P w K mg B F_9 9 := by
    rw [Fe_9]
    exact Stg.next S8 G 9 fu (d := d_law_page) (N := N_law_page) (b := b_law_page) rfl sc_law_page mt_law_page
  have S10 : Stg ⟨K, fun k => as[k]?, fk, ns, P, w⟩ tb P w K mg B F_10 10 := by
    rw [Fe_10]
    exact Stg.next S9 G 10 fu (d := d_law_rises) (N := N_law_rises) (b := b_law_rises) rfl sc_law_rises mt_law_rises
  have S11 : Stg ⟨K, fun k => as[k]?, fk, ns, P, w⟩ tb P w K mg B F_11 11 := by
    rw [Fe_11]
    exact Stg.next S10 G 11 fu (d := d_law_keyed) (N := N_law_keyed) (b := b_law_keyed) rfl sc_law_keyed mt_law_keyed
  have S12 : Stg ⟨K, fun k => as[k]?, fk, ns, P, w⟩ tb P w K mg B F_12 12 := by
    rw [Fe_12]
    exact Stg.next S11 G 12 fu (d := d_law_paged) (N := N_law_paged) (b := b_law_paged) rfl sc_law_paged mt_law_paged
  have S13 : Stg ⟨K, fun k => as[k]?, fk, ns, P, w⟩ tb P w K mg B F_13 13 := by
    rw [Fe_13]
    exact Stg.next S12 G 13 fu (d := d_law_grip) (N := N_law_grip) (b := b_law_grip) rfl sc_law_grip mt_law_grip
  have S14 : Stg ⟨K, fun k => as[k]?, fk, ns, P, w⟩ tb P w K mg B F_14 14 := by
    rw [Fe_14]
    exact Stg.next S13 G 14 fu (d := d_law_begin) (N := N_law_begin) (b := b_law_begin) rfl sc_law_begin mt_law_begin
  have S15 : Stg ⟨K, fun k => as[k]?, fk, ns, P, w⟩ tb P w K mg B F_15 15 := by
    rw [Fe_15]
    exact Stg.next S14 G 15 fu (d := d_law_lot) (N := N_law_lot) (b := b_law_lot) rfl sc_law_lot mt_law_lot
  have S16 : Stg ⟨K, fun k => as[k]?, fk, ns, P, w⟩ tb P w K mg B F_16 16 := by
    rw [Fe_16]
    exact Stg.next S15 G 16 fu (d := d_law_within) (N := N_law_within) (b := b_law_within) rfl sc_law_within mt_law_within
  have S17 : Stg ⟨K, fun k => as[k]?, fk, ns, P, w⟩ tb P w K mg B F_17 17 := by
    rw [Fe_17]
    exact Stg.next S16 G 17 fu (d := d_law_right) (N := N_law_right) (b := b_law_right) rfl sc_law_right mt_law_right
  exact S17
theorem sc_law_feed : FnScope ["_law_script"] ["_law_script"] (defScope d_law_feed.st) := ⟨rfl, rfl, rfl, by decide +kernel, rfl, by decide +kernel, by decide +kernel⟩
abbrev Pure : Prop := ∀ ns : List Int, WP (exGo fu F_17 b_law (none :: some (.dat (feedD ns)) :: List.replicate 7 none)) fun o => match o with
  | .rt v => v = .bool true
  | _ => False
theorem finish {P : Program} {w : World} {h : Heap} {mg : Str → Option Value} {K : PySem.W.Frag} {fA : Addr} (hw : Pure) (X : K.In h) (G : h.Ns mainGlobals mg) (hfa : mg "law" = some (.ref fA)) (A : ∃ as, AllAt K mg tb as) (hb : ∀ x ∈ bn, PySem.W.nsIn K mainGlobals x = some none) (hc : ∀ p ∈ cs, CsAt K p.1 p.2) :
    ∃ (K : PySem.W.Frag) (fd : FuncData) (sp : Sp), K.In h ∧ (∀ (s : Shared) (u : Value), BindsTo s fd ⟨[u], []⟩ [("_law_script", u)]) ∧
      (∀ (H : Hp) (a : Addr) (ns : List Int), ns.length ≤ 63 → Only H → SqL K H a (ns.map V.int) → sp [.ref a] H (fun v _ => v = .bl true) fun _ _ _ => False) ∧ ∀ B : Heap, K.In B → B.Ns mainGlobals mg → FnG P w K mg B (17 + 1) fA fd ["_law_script"] sp := by
  obtain ⟨as, A⟩ := A
  have ok : FkOk fk := ⟨by decide +kernel, by decide +kernel, by decide +kernel, by decide +kernel, by decide +kernel, by decide +kernel⟩
  have GG : ∀ ns, Glb ⟨K, fun k => as[k]?, fk, ns, P, w⟩ mg bn cs := fun ns => glb_of X G ok hb hc
  exact law_of (n := 63) (kl := 18) (kf := 5) (cut := 63) (d := d_law) (df := d_law_feed) (N := N_law) (b := b_law) (s0 := (defBody d_law.st).getD 0 (.Pass ⟨0, 0, 0, 0⟩)) (rest := (defBody d_law.st).drop 1) (f := "_law_feed_here") (x := "_law_script") (xf := "_law_script") X hfa A GG (by decide) (fun B ns => stages A B ns (GG ns)) fu rfl rfl rfl (by decide +kernel) (by decide +kernel) sc_law_feed (by decide +kernel) (by decide +kernel) (by decide +kernel) sc_law rfl bd_law rfl rfl (by decide +kernel) (by decide +kernel) (by decide +kernel) (by decide +kernel) mt_law hw
end K08
/-! Q081: k08's helpers. -/
namespace K08
open PySem PySem.Spec PyProof.Rows L2 Pf Pd Po Pl
/-- a box as it is drawn -/
structure GB (m : Nat) (b : Po.Bx) : Prop where
  go : Go m b.1
  nd : Nums m b.2
  le : b.2.length ≤ 3
  ge : 1 ≤ b.2.length
theorem gb_of {m : Nat} : ∀ {ds : List D}, (∀ e ∈ ds, Pd.Bx m e) → ∃ bs : List Po.Bx, ds = bs.map bxD ∧ ∀ b ∈ bs, GB m b
  | [], _ => ⟨[], rfl, by simp⟩
  | d :: r, h => by
    obtain ⟨g, ks, rfl, h1, h2, h3, h4⟩ := h d List.mem_cons_self
    obtain ⟨bs, rfl, hb⟩ := gb_of fun e he => h e (List.mem_cons_of_mem _ he)
    refine ⟨(g, ks) :: bs, rfl, fun b hb' => ?_⟩
    rcases List.mem_cons.mp hb' with rfl | q
    · exact ⟨h1, h2, h3, h4⟩
    · exact hb b q
/-- a thing as the law draws it -/
structure GT (d : D) : Prop where
  td : TD d
  pos : ∀ i, d = .int i → 0 ≤ i
  txt : ∀ s n, d = .tuple [.str s, .int n] → 0 ≤ n ∧ 0 < s.length ∧ s.length < 9 ∧ ∀ c ∈ s.cps.toList, 97 ≤ c ∧ c ≤ 122
theorem go_gt {m : Nat} {d : D} (h : Go m d) : GT d := by
  have hk := h.ok
  rcases h with ⟨i, hi, rfl⟩ | ⟨s, hs, r, hr, rfl⟩
  · exact ⟨⟨rfl, .inl ⟨_, rfl⟩⟩, fun j e => by injection e with e; omega, fun s n e => by cases e⟩
  · have hs2 : ∃ z : Str, s = .str z ∧ 0 < z.length ∧ z.length < 9 ∧ ∀ c ∈ z.cps.toList, 97 ≤ c ∧ c ≤ 122 := by
      simp only [List.mem_cons, List.mem_nil_iff, or_false] at hs
      rcases hs with rfl | rfl | rfl
      · exact ⟨"memo", rfl, by decide +kernel, by decide +kernel, by decide +kernel⟩
      · exact ⟨"a", rfl, by decide +kernel, by decide +kernel, by decide +kernel⟩
      · exact ⟨"world", rfl, by decide +kernel, by decide +kernel, by decide +kernel⟩
    obtain ⟨z, rfl, h1, h2, h3⟩ := hs2
    refine ⟨⟨?_, .inr ⟨z, r, rfl⟩⟩, fun j e => (by cases e), fun s n e => ?_⟩
    · unfold keyOk
      rw [hk.1]
      rfl
    · injection e with e
      injection e with e1 e2
      injection e1 with e1
      injection e2 with e2
      injection e2 with e2
      subst e1 e2
      exact ⟨by omega, h1, h2, h3⟩
theorem GB.bo {m : Nat} {b : Po.Bx} (h : GB m b) : BO b := ⟨(go_gt h.go).td.ko, Pl.Nums.ko h.nd, fun e => by have := h.ge; rw [e] at this; simp at this⟩
theorem int_gt {m : Nat} {ks : List D} (h : Nums m ks) : ∀ k ∈ ks, GT k := fun k hk => by
  obtain ⟨i, hi, rfl⟩ := h k hk
  exact go_gt (m := m) (.inl ⟨i, hi, rfl⟩)
theorem had_gt {m m' : Nat} {ks : List D} {bs : List Po.Bx} (hk : Nums m ks) (hb : ∀ b ∈ bs, GB m' b) : ∀ d ∈ had ks bs, GT d := fun d hd => by
  have := ((had_ok (Pl.Nums.ko hk) fun b h => (hb b h).bo).2 d).mp hd
  cases this with
  | key h => exact int_gt hk d h
  | box h _ => exact go_gt (hb _ h).go
theorem isint8 {d : D} (h : TD d) : m_is_integer [d] = .ret (.bool (isIntD d)) := by
  show runD fu 1 F_0 isIntS [d] = _
  exact isInt_run h
section
variable {ks : List D} {bs : List Po.Bx} {m m' : Nat}
theorem had8 (hk : Nums m ks) (hb : ∀ b ∈ bs, GB m' b) (h1 : ks.length ≤ 100) (h2 : bs.length ≤ 100) : m_had_by [.tuple ks, .tuple (bs.map bxD)] = .ret (dctD (had ks bs)) := by
  show runD fu 9 F_1 hadS [.tuple ks, .tuple (bs.map bxD)] = _
  exact had_run rfl rfl (Pl.Nums.ko hk) (fun b h => (hb b h).bo) (by omega) (by show _ < 1000; omega)
theorem opened8 (hk : Nums m ks) (hb : ∀ b ∈ bs, GB m' b) (h1 : ks.length ≤ 100) (h2 : bs.length ≤ 100) : m_opened [.tuple ks, .tuple (bs.map bxD)] = .ret (.tuple [.tuple (p0 (had ks bs)), .tuple (p1 (had ks bs))]) := by
  show runD fu 6 F_2 (openedS 0 1) [.tuple ks, .tuple (bs.map bxD)] = _
  exact opened_run (fun d h => by rw [Fc_2_0]; exact isint8 h) (by rw [Fc_2_1]; exact had8 hk hb h1 h2) fun d hd => (had_gt hk hb d hd).td
theorem opens8 {t : D} (hk : Nums m ks) (hb : ∀ b ∈ bs, GB m' b) (h1 : ks.length ≤ 100) (h2 : bs.length ≤ 100) (ht : keyOk t = true) : m_opens [.tuple ks, .tuple (bs.map bxD), t] = .ret (.bool (Pm.hasK (had ks bs) t)) := by
  show runD fu 3 F_3 (opensS 1) [.tuple ks, .tuple (bs.map bxD), t] = _
  exact opens_run (by rw [Fc_3_1]; exact had8 hk hb h1 h2) ht
theorem openable8 (hk : Nums m ks) (hb : ∀ b ∈ bs, GB m' b) : m_openable [.tuple ks, .tuple (bs.map bxD)] = .ret (.tuple (natD (opN ks 0 bs))) := by
  show runD fu 6 F_4 openableS [.tuple ks, .tuple (bs.map bxD)] = _
  exact openable_run (Pl.Nums.ko hk) fun b h => (hb b h).bo
end
theorem key8 {i : Int} (h : 0 ≤ i) : m_law_key [.int i] = .ret (.bool true) := by
  show runD fu 1 F_6 keyS [.int i] = _
  rw [key_run, decide_eq_true h]
theorem page8 {d : D} (h : GT d) (ht : ∃ s n, d = .tuple [.str s, .int n]) : m_law_page [d] = .ret (.bool true) := by
  obtain ⟨s, n, rfl⟩ := ht
  obtain ⟨a, b, c, e⟩ := h.txt s n rfl
  show runD fu 1 F_8 (pageS 8 7) [.tuple [.str s, .int n]] = _
  refine page_run ?_ ?_
  · rw [Fc_8_8]
    show runD fu 2 F_7 namedS [.str s] = _
    exact named_run b c e
  · rw [Fc_8_7]; exact key8 a
theorem keyed8 {fd : List D} (h : ∀ d ∈ fd, GT d) (hn : fd.Nodup) (hl : fd.length ≤ 1000) : m_law_keyed [.tuple (p0 fd)] = .ret (.bool true) := by
  show runD fu 2 F_10 (keyedS 7 10) [.tuple (p0 fd)] = _
  refine keyed_run (fun d hd => ?_) ?_
  · rw [Fc_10_7]
    obtain ⟨h1, i, rfl⟩ := p0_mem.mp hd
    exact key8 ((h _ h1).pos i rfl)
  · rw [Fc_10_10]
    show runD fu 2 F_9 risesS [.tuple (p0 fd)] = _
    have hl2 := p0_len fd
    refine rises_run (by omega) fun k x y hx hy => ?_
    have pw := p0_pw hn
    unfold p0 at hx hy
    rw [List.getElem?_map] at hx hy
    obtain ⟨a, ha, rfl⟩ := Option.map_eq_some_iff.mp hx
    obtain ⟨b, hb, rfl⟩ := Option.map_eq_some_iff.mp hy
    obtain ⟨k1, e1⟩ := List.getElem?_eq_some_iff.mp ha
    obtain ⟨k2, e2⟩ := List.getElem?_eq_some_iff.mp hb
    have := List.pairwise_iff_getElem.mp pw k (k + 1) k1 k2 (by omega)
    rw [e1, e2] at this
    exact ge_int a b this
theorem paged8 {fd : List D} (h : ∀ d ∈ fd, GT d) (hn : fd.Nodup) (hl : fd.length ≤ 1000) : m_law_paged [.tuple (p1 fd)] = .ret (.bool true) := by
  have ht : ∀ d ∈ fd, TD d := fun d hd => (h d hd).td
  show runD fu 2 F_11 (keyedS 9 10) [.tuple (p1 fd)] = _
  refine keyed_run (fun d hd => ?_) ?_
  · rw [Fc_11_9]
    obtain ⟨h1, h2⟩ := (p1_mem ht).mp hd
    exact page8 (h _ h1) h2
  · rw [Fc_11_10]
    show runD fu 2 F_9 risesS [.tuple (p1 fd)] = _
    have hl2 := p1_len fd
    refine rises_run (by omega) fun k x y hx hy => ?_
    have pw := p1_pw hn
    obtain ⟨k1, e1⟩ := List.getElem?_eq_some_iff.mp hx
    obtain ⟨k2, e2⟩ := List.getElem?_eq_some_iff.mp hy
    have := List.pairwise_iff_getElem.mp pw k (k + 1) k1 k2 (by omega)
    rw [e1, e2] at this
    have hx2 := (p1_mem ht).mp (List.mem_of_getElem? hx)
    have hy2 := (p1_mem ht).mp (List.mem_of_getElem? hy)
    exact ge_txt (ht _ hx2.1) (ht _ hy2.1) hx2.2 hy2.2 this.1 this.2
theorem within8 {a0 a1 b0 b1 : List D} (h1 : ∀ d ∈ a0, keyOk d = true) (h2 : ∀ d ∈ a1, keyOk d = true) (h3 : ∀ d ∈ b0, keyOk d = true) (h4 : ∀ d ∈ b1, keyOk d = true) (s0 : ∀ d ∈ a0, d ∈ b0) (s1 : ∀ d ∈ a1, d ∈ b1) : m_law_within [.tuple [.tuple a0, .tuple a1], .tuple [.tuple b0, .tuple b1]] = .ret (.bool true) := by
  show runD fu 4 F_15 withinS [.tuple [.tuple a0, .tuple a1], .tuple [.tuple b0, .tuple b1]] = _
  rw [within_run h1 h2 h3 h4, (all_has h3 h1).mpr s0, (all_has h4 h2).mpr s1]
  rfl
theorem wp_grip8 (ns : List Int) (many most : Nat) (h : most ≤ many) (hm : many ≤ 1000) : WP (m_law_grip [feedD ns, .int many, .int most]) (fun d => ∃ ds, d = .tuple ds ∧ Nums many ds ∧ ds.length ≤ most) := by
  show WP (runD fu 6 F_12 (gripS 6) [feedD ns, .int many, .int most]) _
  exact wp_grip Fc_12_6 ns many most h hm
theorem wp_begin8 (ns : List Int) (many : Nat) (h2 : 2 ≤ many) (hm : many ≤ 1000) : WP (m_law_begin [feedD ns, .int many]) (fun d => ∃ ds, d = .tuple ds ∧ Kt many ds ∧ ds.length ≤ 3) := by
  show WP (runD fu 3 F_13 (beginS 6 13) [feedD ns, .int many]) _
  exact wp_begin Fc_13_6 (fun ns a b h1 h2 => by rw [Fc_13_13]; exact wp_grip8 ns a b h1 h2) ns many h2 hm
theorem wp_lot8 (ns : List Int) (size mm : Nat) (h5 : 5 ≤ mm) (hmm : mm ≤ 1000) (hs : size < 1000) : WP (m_law_lot [feedD ns, .int size, .int mm]) fun d => ∃ bs : List Po.Bx, d = .tuple (bs.map bxD) ∧ (∀ b ∈ bs, GB mm b) ∧ bs.length = size := by
  show WP (runD fu 13 F_14 (lotS 6) [feedD ns, .int size, .int mm]) _
  refine (wp_lot Fc_14_6 ns size mm h5 hmm hs).mono fun d ⟨ds, h1, h2, h3⟩ => ?_
  obtain ⟨bs, rfl, hb⟩ := gb_of h2
  exact ⟨bs, h1, hb, by rw [← h3, List.length_map]⟩
end K08
/-! Q082: k08's look. -/
namespace K08
open PySem PySem.Spec PyProof.Rows L2 Pf Pd Po Pl
theorem ko_of {fd : List D} (h : ∀ d ∈ fd, GT d) : (∀ d ∈ p0 fd, keyOk d = true) ∧ ∀ d ∈ p1 fd, keyOk d = true :=
  ⟨fun d hd => (h d (p0_mem.mp hd).1).td.ko, fun d hd => (h d ((p1_mem fun d hd => (h d hd).td).mp hd).1).td.ko⟩
theorem within_fd {a b : List D} (ha : ∀ d ∈ a, GT d) (hb : ∀ d ∈ b, GT d) (h : ∀ d ∈ a, d ∈ b) : m_law_within [.tuple [.tuple (p0 a), .tuple (p1 a)], .tuple [.tuple (p0 b), .tuple (p1 b)]] = .ret (.bool true) := by
  obtain ⟨a1, a2⟩ := ko_of ha
  obtain ⟨b1, b2⟩ := ko_of hb
  refine within8 a1 a2 b1 b2 (fun d hd => ?_) fun d hd => ?_
  · obtain ⟨x, y⟩ := p0_mem.mp hd
    exact p0_mem.mpr ⟨h d x, y⟩
  · obtain ⟨x, y⟩ := (p1_mem fun d hd => (ha d hd).td).mp hd
    exact (p1_mem fun d hd => (hb d hd).td).mpr ⟨h d x, y⟩
theorem p_congr {a b : List D} (ha : a.Nodup) (hb : b.Nodup) (h : ∀ d, d ∈ a ↔ d ∈ b) (ht : ∀ d ∈ a, TD d) : p0 a = p0 b ∧ p1 a = p1 b := by
  have := openD_congr ha hb h ht
  rw [openD_is, openD_is] at this
  injection this with this
  injection this with h1 h2
  injection h2 with h2
  injection h1 with h1
  injection h2 with h2
  exact ⟨h1, h2⟩
theorem p0_nums {fd : List D} (h : ∀ d ∈ fd, GT d) : ∃ m, Nums m (p0 fd) := by
  have : ∀ ds : List D, (∀ d ∈ ds, ∃ i : Int, 0 ≤ i ∧ d = .int i) → ∃ m, Nums m ds := by
    intro ds
    induction ds with
    | nil => intro _; exact ⟨0, fun d hd => (by cases hd)⟩
    | cons x r ih =>
      intro h
      obtain ⟨m, hm⟩ := ih fun d hd => h d (List.mem_cons_of_mem _ hd)
      obtain ⟨i, hi, rfl⟩ := h x List.mem_cons_self
      refine ⟨m + i.toNat + 1, fun d hd => ?_⟩
      rcases List.mem_cons.mp hd with rfl | hd
      · exact ⟨i.toNat, by omega, by rw [Int.toNat_of_nonneg hi]⟩
      · obtain ⟨j, hj, e⟩ := hm d hd
        exact ⟨j, by omega, e⟩
  refine this _ fun d hd => ?_
  obtain ⟨h1, i, rfl⟩ := p0_mem.mp hd
  exact ⟨i, (h _ h1).pos i rfl, rfl⟩
theorem cut_a (a : List D) (n : Nat) : Pf.cutD a none (some (n : Int)) = a.take n := by
  unfold Pf.cutD slE
  rw [HT.sIx_none, HT.sIx_nat, List.drop_zero, Nat.sub_zero]
  rcases Nat.le_total n a.length with h | h
  · rw [Nat.min_eq_left h]
  · rw [Nat.min_eq_right h, List.take_length, List.take_of_length_le h]
theorem cut_b (a : List D) (n : Nat) : Pf.cutD a (some (n : Int)) none = a.drop n := by
  unfold Pf.cutD slE
  rw [HT.sIx_none, HT.sIx_nat]
  rcases Nat.le_total n a.length with h | h
  · rw [Nat.min_eq_left h, List.take_of_length_le (by rw [List.length_drop]; omega)]
  · rw [Nat.min_eq_right h, List.drop_length, List.drop_of_length_le h, List.take_nil]
theorem cut_c (a : List D) (i : Nat) (h : i < a.length) : Pf.cutD a (some (i : Int)) (some ((i : Int) + 1)) = [a[i]] := by
  unfold Pf.cutD slE
  rw [show ((i : Int) + 1) = ((i + 1 : Nat) : Int) by omega, HT.sIx_nat, HT.sIx_nat, Nat.min_eq_left (by omega), Nat.min_eq_left (by omega), show i + 1 - i = 1 by omega, List.drop_eq_getElem_cons h]
  rfl
theorem sl_t (a : List D) (lo hi : Option Int) : sl2 (.tuple a) lo hi = .ret (.tuple (Pf.cutD a lo hi)) := rfl
def stepS : Sx := (.cons (.asg (.var 8) (.bin .add (.sl (.var 2) .none_ (.var 7)) (.sl (.var 2) (.bin .add (.var 7) (.cst (.int 1))) .none_))) (.cons (.iff (.or (.cmp .ne (.cmp .eq (.call 4 (.cons (.var 0) (.cons (.sl (.var 2) (.var 7) (.bin .add (.var 7) (.cst (.int 1)))) .nil))) (.tup (.cons (.cst (.int 0)) .nil))) (.cmp .isin (.var 7) (.var 6))) (.and (.cmp .isin (.var 7) (.var 6)) (.nt (.call 3 (.cons (.var 0) (.cons (.var 2) (.cons (.idx (.idx (.var 2) (.var 7)) (.cst (.int 0))) .nil))))))) (.cons (.ret (.cst (.bool false))) .nil) .nil) (.cons (.iff (.and (.call 3 (.cons (.var 0) (.cons (.var 8) (.cons (.idx (.idx (.var 2) (.var 7)) (.cst (.int 0))) .nil)))) (.cmp .ne (.call 2 (.cons (.var 0) (.cons (.var 8) .nil))) (.var 4))) (.cons (.ret (.cst (.bool false))) .nil) .nil) (.cons (.iff (.cmp .ne (.call 3 (.cons (.var 0) (.cons (.var 2) (.cons (.idx (.idx (.var 2) (.var 7)) (.cst (.int 0))) .nil)))) (.cmp .isin (.idx (.idx (.var 2) (.var 7)) (.cst (.int 0))) (.bin .add (.idx (.var 4) (.cst (.int 0))) (.idx (.var 4) (.cst (.int 1)))))) (.cons (.ret (.cst (.bool false))) .nil) .nil) .nil))))
theorem step8 {KS BS LS MS P AT REST ONE U1 U2 O1 B g Q0 Q1 S : D} {x5 x8 : Option D} {i : Int} {q z r : Bool} {Q : Out → Prop} (T1 : sl2 BS none (some i) = .ret U1) (T2 : sl2 BS (some (i + 1)) none = .ret U2) (T3 : op2 .add U1 U2 = .ret REST) (T4 : sl2 BS (some i) (some (i + 1)) = .ret ONE) (T5 : m_openable [KS, ONE] = .ret O1) (T6 : cmp2 .eq O1 (.tuple [.int 0]) = .ret (.bool q)) (T7 : cmp2 .isin (.int i) AT = .ret (.bool q)) (T9 : idx2 BS (.int i) = .ret B) (T10 : idx2 B (.int 0) = .ret g) (T11 : m_opens [KS, BS, g] = .ret (.bool z)) (T12 : m_opens [KS, REST, g] = .ret (.bool r)) (O : D) (T13 : m_opened [KS, REST] = .ret O) (T14 : r = true → O = P) (X0 : idx2 P (.int 0) = .ret Q0) (X1 : idx2 P (.int 1) = .ret Q1) (T15 : op2 .add Q0 Q1 = .ret S) (T16 : cmp2 .isin g S = .ret (.bool z)) (hqz : q = true → z = true) (SP : cmp2 .ne P P = .ret (.bool false))
    (fin : Q (.nx [some (.dat KS), some (.dat MS), some (.dat BS), some (.dat LS), some (.dat P), dz x5, some (.dat AT), some (.dat (.int i)), some (.dat REST), none])) :
    WP (exGo fu F_16 stepS [some (.dat KS), some (.dat MS), some (.dat BS), some (.dat LS), some (.dat P), dz x5, some (.dat AT), some (.dat (.int i)), dz x8, none]) Q := by
  have one : 1 ≤ sizeLine := sz0 _ (by omega)
  have BB : ∀ z : Bool, cmp2 .ne (.bool z) (.bool z) = .ret (.bool false) := fun z => by cases z <;> rfl
  unfold stepS
  cases q <;> cases z <;> cases r
  all_goals first
    | (exfalso; have := hqz rfl; cases this; done)
    | skip
  all_goals
    try rw [T14 rfl] at T13
    simp -implicitDefEqProofs only [↓X_nil, ↓X_cons, ↓X_asg, ↓X_asgO, ↓X_par, ↓X_bor, ↓X_app, ↓X_ext, ↓X_rmv, ↓X_popS, ↓X_appPop, ↓X_augI, ↓X_iff, ↓X_for, ↓X_ret, ↓X_retN, ↓X_cont, ↓X_brk, ↓X_pas, ↓X_expr, ↓X_frz, ↓X_run, ↓E_var, ↓E_cst, ↓E_glob, ↓E_fref, ↓E_nil, ↓E_cons, ↓E_tup, ↓E_lst, ↓E_call, ↓E_callk, ↓E_bi, ↓E_biIf, ↓E_isi, ↓E_bin, ↓E_cmp, ↓E_neg, ↓E_nt, ↓E_and, ↓E_or, ↓E_ifx, ↓E_idx, ↓E_sl, ↓E_rev, ↓E_rng1, ↓E_lrng, ↓E_trng, ↓E_lc, ↓E_upper, ↓E_step, ↓T_var, ↓T_tup, ↓T_nil, ↓T_cons, ↓W_bind, ↓W_ret, ↓W_need, ↓W_draw, ↓W_if', ↓kO_nx, ↓kO_ct, ↓kO_bk, ↓kO_rt, ↓kF_nx, ↓kF_ct, ↓kF_bk, ↓kF_rt, ↓kE_rt, ↓kE_nx, ↓kIf_t, ↓kIf_f, rdv, tst, itmv, optv, gs, gr, Pf.go, mkV, isFr, noOwn_eq, datOnly_eq, wip, tg_var, put_eq, chg, clr, clr_z, clr_o, clr_d, clr_b, clr_n, io_o, io_d, io_b, io_n, io_z, frzD, permD, SV.d, ls_l, in_i, it_l, it_t, t_b, bo_b, l_lst, l_tup, rev_l, rev_t, Pf.op_add, bi_int, c_lt, c_le, c_gt, c_ge, ev0, List.map_cons, List.map_nil, List.all_cons, List.all_nil, List.replicate, List.length_cons, List.length_nil, List.cons_append, List.nil_append, List.append_nil, List.set, List.getElem?_cons_zero, List.getElem?_cons_succ, Nat.reduceAdd, Nat.reduceSub, decide_eq_true_eq, ne_eq, if_true, if_false, Bool.false_eq_true, true_and, and_true, Option.map, ite_self, oz_c, oz_i, c_eqI, Option.getD_some, Option.getD_none, List.foldl, Bool.and_true, Bool.and_self, Bool.not_true, Bool.not_false, Fc_16_2, Fc_16_3, Fc_16_4, T1, T2, T3, T4, T5, T6, T7, T9, T10, T11, T12, T13, T15, T16, BB, X0, X1, SP]
    exact ⟨one, fin⟩
theorem rest_mem {α : Type} {bs : List α} {i : Nat} (hi : i < bs.length) {b : α} (h : b ∈ bs) : b ∈ bs.take i ++ bs.drop (i + 1) ∨ b = bs[i] := by
  rw [← List.take_append_drop i bs, List.mem_append, List.drop_eq_getElem_cons hi, List.mem_cons] at h
  rcases h with h | h | h
  · exact .inl (List.mem_append_left _ h)
  · exact .inr h
  · exact .inl (List.mem_append_right _ h)
theorem right8 {m : Nat} {ks ms : List D} {bs ls : List Po.Bx} (hk : Kt m ks) (hm : Kt m ms) (hs : ∀ k ∈ ks, k ∈ ms) (hb : ∀ b ∈ bs, GB 7 b) (hl : ∀ b ∈ ls, b ∈ bs) (n1 : ks.length ≤ 20) (n2 : ms.length ≤ 20) (n3 : bs.length ≤ 20) (n4 : ls.length ≤ 20) : WP (m_law_right [.tuple ks, .tuple ms, .tuple (bs.map bxD), .tuple (ls.map bxD)]) fun d => d = .bool true := by
  have hlb : ∀ b ∈ ls, GB 7 b := fun b h => hb b (hl b h)
  have kn := hk.nums
  have mn := hm.nums
  have kko := Pl.Nums.ko kn
  have mko := Pl.Nums.ko mn
  have bbo : ∀ b ∈ bs, BO b := fun b h => (hb b h).bo
  have lbo : ∀ b ∈ ls, BO b := fun b h => (hlb b h).bo
  have A := had_ok kko bbo
  have AG := had_gt kn hb
  have LG := had_gt kn hlb
  have MG := had_gt mn hb
  have O1 := opened8 kn hb (by omega) (by omega)
  have O3 := opened8 mn hb (by omega) (by omega)
  have O4 := opened8 kn hlb (by omega) (by omega)
  obtain ⟨mm, a0n⟩ := p0_nums AG
  have hAl := had_len ks bs
  have hA0l := p0_len (had ks bs)
  have O2 := opened8 a0n hb (by omega) (by omega)
  have e2 : ∀ d, d ∈ had (p0 (had ks bs)) bs ↔ d ∈ had ks bs := fun d => by
    rw [(had_ok (Pl.Nums.ko a0n) bbo).2, A.2]
    refine ⟨Reach.mono (fun x hx => (A.2 x).mp (p0_mem.mp hx).1) fun b h => .inl h, Reach.mono (fun x hx => .key (p0_mem.mpr ⟨(A.2 x).mpr (.key hx), ?_⟩)) fun b h => .inl h⟩
    obtain ⟨i, _, rfl⟩ := kn x hx
    exact ⟨i, rfl⟩
  obtain ⟨c1, c2⟩ := p_congr (had_ok (Pl.Nums.ko a0n) bbo).1 A.1 e2 fun d hd => (AG d ((e2 d).mp hd)).td
  rw [c1, c2] at O2
  have O5 := opened8 (bs := []) (m' := 7) kn (by simp) (by omega) (by simp)
  have e5 : ∀ d, d ∈ had ks [] ↔ d ∈ ks := fun d => by
    rw [(had_ok kko (bs := []) (by simp)).2]
    refine ⟨fun r => ?_, .key⟩
    cases r with
    | key h => exact h
    | box h _ => cases h
  obtain ⟨l, hl1, hl2, hl3⟩ := hk
  have kss : p0 (had ks []) = ks ∧ p1 (had ks []) = [] := by
    have q := p_congr (had_ok kko (bs := []) (by simp)).1 (by rw [hl3]; exact List.pairwise_map.mpr (hl1.imp fun z e => by injection e with e; omega)) e5 fun d hd => (int_gt kn d ((e5 d).mp hd)).td
    have r := p0_of hl1
    rw [← hl3] at r
    exact ⟨q.1.trans r.1, q.2.trans r.2⟩
  rw [kss.1, kss.2, List.map_nil] at O5
  have K1 := keyed8 AG A.1 (by omega)
  have K2 := paged8 AG A.1 (by omega)
  obtain ⟨ako0, ako1⟩ := ko_of AG
  have W1 : m_law_within [.tuple [.tuple ks, .tuple []], .tuple [.tuple (p0 (had ks bs)), .tuple (p1 (had ks bs))]] = .ret (.bool true) := by
    refine within8 kko (by simp) ako0 ako1 (fun d hd => ?_) (by simp)
    obtain ⟨i, _, rfl⟩ := kn d hd
    exact p0_mem.mpr ⟨(A.2 _).mpr (.key hd), i, rfl⟩
  have W2 := within_fd AG MG fun d hd => ((had_ok mko bbo).2 d).mpr (Reach.mono (fun x hx => .key (hs x hx)) (fun b h => .inl h) ((A.2 d).mp hd))
  have W3 := within_fd LG AG fun d hd => (A.2 d).mpr (Reach.mono (fun x hx => .key hx) (fun b h => .inl (hl b h)) (((had_ok kko lbo).2 d).mp hd))
  have SA := same_eq (sh_open fun d hd => (AG d hd).td)
  have SK : cmp2 .ne (.tuple [.tuple ks, .tuple []]) (.tuple [.tuple ks, .tuple []]) = .ret (.bool false) := by
    have := same_eq (sh_open (fd := had ks []) fun d hd => (int_gt kn d ((e5 d).mp hd)).td)
    rw [kss.1, kss.2] at this
    exact this.2
  have P1 := openable8 kn hb
  show WP (runD fu 10 F_16 b_law_right [.tuple ks, .tuple ms, .tuple (bs.map bxD), .tuple (ls.map bxD)]) _
  unfold b_law_right
  generalize ea0 : p0 (had ks bs) = a0 at *
  generalize ea1 : p1 (had ks bs) = a1 at *
  have X0 : idx2 (.tuple [.tuple a0, .tuple a1]) (.int 0) = .ret (.tuple a0) := rfl
  have X1 : idx2 (.tuple [.tuple a0, .tuple a1]) (.int 1) = .ret (.tuple a1) := rfl
  have S1 : sl2 (.tuple (bs.map bxD)) none (some 2) = .ret (.tuple ((bs.take 2).map bxD)) := by
    have := cut_a (bs.map bxD) 2
    rw [← List.map_take] at this
    rw [sl_t, ← this]
    rfl
  have S2 : sl2 (.tuple (bs.map bxD)) (some 2) none = .ret (.tuple ((bs.drop 2).map bxD)) := by
    have := cut_b (bs.map bxD) 2
    rw [← List.map_drop] at this
    rw [sl_t, ← this]
    rfl
  have t2 : (bs.take 2).length ≤ 2 := by rw [List.length_take]; omega
  have d2 : (bs.drop 2).length ≤ bs.length := by rw [List.length_drop]; omega
  have AD : ∀ x y : List Po.Bx, x.length ≤ 20 → y.length ≤ 20 → op2 .add (.tuple (x.map bxD)) (.tuple (y.map bxD)) = .ret (.tuple ((x ++ y).map bxD)) := fun x y h1 h2 => by
    rw [ad_t _ _ (by rw [List.length_map, List.length_map]; omega), List.map_append]
  simp -implicitDefEqProofs only [↓X_nil, ↓X_cons, ↓X_asg, ↓X_asgO, ↓X_par, ↓X_bor, ↓X_app, ↓X_ext, ↓X_rmv, ↓X_popS, ↓X_appPop, ↓X_augI, ↓X_iff, ↓X_for, ↓X_ret, ↓X_retN, ↓X_cont, ↓X_brk, ↓X_pas, ↓X_expr, ↓X_frz, ↓X_run, ↓E_var, ↓E_cst, ↓E_glob, ↓E_fref, ↓E_nil, ↓E_cons, ↓E_tup, ↓E_lst, ↓E_call, ↓E_callk, ↓E_bi, ↓E_biIf, ↓E_isi, ↓E_bin, ↓E_cmp, ↓E_neg, ↓E_nt, ↓E_and, ↓E_or, ↓E_ifx, ↓E_idx, ↓E_sl, ↓E_rev, ↓E_rng1, ↓E_lrng, ↓E_trng, ↓E_lc, ↓E_upper, ↓E_step, ↓T_var, ↓T_tup, ↓T_nil, ↓T_cons, ↓W_bind, ↓W_ret, ↓W_need, ↓W_draw, ↓W_if', ↓kO_nx, ↓kO_ct, ↓kO_bk, ↓kO_rt, ↓kF_nx, ↓kF_ct, ↓kF_bk, ↓kF_rt, ↓kE_rt, ↓kE_nx, ↓kIf_t, ↓kIf_f, rdv, tst, itmv, optv, gs, gr, Pf.go, mkV, isFr, noOwn_eq, datOnly_eq, wip, tg_var, put_eq, chg, clr, clr_z, clr_o, clr_d, clr_b, clr_n, io_o, io_d, io_b, io_n, io_z, frzD, permD, SV.d, ls_l, in_i, it_l, it_t, t_b, bo_b, l_lst, l_tup, rev_l, rev_t, Pf.op_add, bi_int, c_lt, c_le, c_gt, c_ge, ev0, List.map_cons, List.map_nil, List.all_cons, List.all_nil, List.replicate, List.length_cons, List.length_nil, List.cons_append, List.nil_append, List.append_nil, List.set, List.getElem?_cons_zero, List.getElem?_cons_succ, Nat.reduceAdd, Nat.reduceSub, decide_eq_true_eq, ne_eq, if_true, if_false, Bool.false_eq_true, true_and, and_true, Option.map, ite_self, oz_c, oz_i, c_eqI, Option.getD_some, Option.getD_none, List.foldl, Bool.and_true, Bool.and_self, Bool.not_true, Bool.not_false, Fc_16_2, Fc_16_11, Fc_16_12, Fc_16_16, Fc_16_3, Fc_16_4, O1, O2, O3, O4, O5, K1, K2, W1, W2, W3, X0, X1, SA.2, SK, S1, S2, AD _ _ n3 (Nat.le_trans t2 (by omega)), AD _ _ (Nat.le_trans d2 n3) (Nat.le_trans t2 (by omega)), AD _ _ n4 n3, ← List.map_reverse]
  refine ⟨sz0 _ (by omega), sz0 _ (by omega), sz0 _ (by omega), sz0 _ (by omega), sz0 _ (by omega), sz0 _ (by omega), ?_⟩
  have OL : ∀ bs' : List Po.Bx, (∀ b, b ∈ bs' ↔ b ∈ bs) → bs'.length ≤ 60 → m_opened [.tuple ks, .tuple (bs'.map bxD)] = .ret (.tuple [.tuple a0, .tuple a1]) := fun bs' h1 h2 => by
    have hb' : ∀ b ∈ bs', GB 7 b := fun b h => hb b ((h1 b).mp h)
    rw [opened8 kn hb' (by omega) (by omega)]
    have q := p_congr (had_ok kko fun b h => (hb' b h).bo).1 A.1 (fun d => by
      rw [(had_ok kko fun b h => (hb' b h).bo).2, A.2]
      exact ⟨Reach.mono (fun x hx => .key hx) fun b h => .inl ((h1 b).mp h), Reach.mono (fun x hx => .key hx) fun b h => .inl ((h1 b).mpr h)⟩) fun d hd => (had_gt kn hb' d hd).td
    rw [q.1, q.2, ea0, ea1]
  refine wp_forI (fun left ρ => ∃ o5, ρ = [some (.dat (.tuple ks)), some (.dat (.tuple ms)), some (.dat (.tuple (bs.map bxD))), some (.dat (.tuple (ls.map bxD))), some (.dat (.tuple [.tuple a0, .tuple a1])), dz o5, none, none, none, none] ∧ ∀ d ∈ left, ∃ bs' : List Po.Bx, d = .tuple (bs'.map bxD) ∧ (∀ b, b ∈ bs' ↔ b ∈ bs) ∧ bs'.length ≤ 60) ?_ ?_ ?_
  · refine ⟨none, rfl, fun d hd => ?_⟩
    simp only [List.mem_cons, List.mem_nil_iff, or_false] at hd
    have ht : ∀ b, b ∈ bs.take 2 → b ∈ bs := fun b h => List.mem_of_mem_take h
    rcases hd with rfl | rfl | rfl | rfl
    · exact ⟨_, rfl, fun b => List.mem_reverse, by rw [List.length_reverse]; omega⟩
    · exact ⟨_, rfl, fun b => by rw [List.mem_append]; exact ⟨fun h => h.elim id (ht b), .inl⟩, by rw [List.length_append]; omega⟩
    · exact ⟨_, rfl, fun b => by rw [List.mem_append, Or.comm, ← List.mem_append, List.take_append_drop], by rw [List.length_append]; omega⟩
    · exact ⟨_, rfl, fun b => by rw [List.mem_append]; exact ⟨fun h => h.elim (hl b) id, .inr⟩, by rw [List.length_append]; omega⟩
  · rintro d r ρ ⟨o5, rfl, h⟩
    obtain ⟨bs', rfl, h1, h2⟩ := h d List.mem_cons_self
    simp -implicitDefEqProofs only [↓X_nil, ↓X_cons, ↓X_asg, ↓X_asgO, ↓X_par, ↓X_bor, ↓X_app, ↓X_ext, ↓X_rmv, ↓X_popS, ↓X_appPop, ↓X_augI, ↓X_iff, ↓X_for, ↓X_ret, ↓X_retN, ↓X_cont, ↓X_brk, ↓X_pas, ↓X_expr, ↓X_frz, ↓X_run, ↓E_var, ↓E_cst, ↓E_glob, ↓E_fref, ↓E_nil, ↓E_cons, ↓E_tup, ↓E_lst, ↓E_call, ↓E_callk, ↓E_bi, ↓E_biIf, ↓E_isi, ↓E_bin, ↓E_cmp, ↓E_neg, ↓E_nt, ↓E_and, ↓E_or, ↓E_ifx, ↓E_idx, ↓E_sl, ↓E_rev, ↓E_rng1, ↓E_lrng, ↓E_trng, ↓E_lc, ↓E_upper, ↓E_step, ↓T_var, ↓T_tup, ↓T_nil, ↓T_cons, ↓W_bind, ↓W_ret, ↓W_need, ↓W_draw, ↓W_if', ↓kO_nx, ↓kO_ct, ↓kO_bk, ↓kO_rt, ↓kF_nx, ↓kF_ct, ↓kF_bk, ↓kF_rt, ↓kE_rt, ↓kE_nx, ↓kIf_t, ↓kIf_f, rdv, tst, itmv, optv, gs, gr, Pf.go, mkV, isFr, noOwn_eq, datOnly_eq, wip, tg_var, put_eq, chg, clr, clr_z, clr_o, clr_d, clr_b, clr_n, io_o, io_d, io_b, io_n, io_z, frzD, permD, SV.d, ls_l, in_i, it_l, it_t, t_b, bo_b, l_lst, l_tup, rev_l, rev_t, Pf.op_add, bi_int, c_lt, c_le, c_gt, c_ge, ev0, List.map_cons, List.map_nil, List.all_cons, List.all_nil, List.replicate, List.length_cons, List.length_nil, List.cons_append, List.nil_append, List.append_nil, List.set, List.getElem?_cons_zero, List.getElem?_cons_succ, Nat.reduceAdd, Nat.reduceSub, decide_eq_true_eq, ne_eq, if_true, if_false, Bool.false_eq_true, true_and, and_true, Option.map, ite_self, oz_c, oz_i, c_eqI, Option.getD_some, Option.getD_none, List.foldl, Bool.and_true, Bool.and_self, Bool.not_true, Bool.not_false, Fc_16_2, OL bs' h1 h2, SA.2]
    exact ⟨some _, rfl, fun d hd => h d (List.mem_cons_of_mem _ hd)⟩
  rintro ρ ⟨o5, rfl, -⟩
  simp -implicitDefEqProofs only [↓X_nil, ↓X_cons, ↓X_asg, ↓X_asgO, ↓X_par, ↓X_bor, ↓X_app, ↓X_ext, ↓X_rmv, ↓X_popS, ↓X_appPop, ↓X_augI, ↓X_iff, ↓X_for, ↓X_ret, ↓X_retN, ↓X_cont, ↓X_brk, ↓X_pas, ↓X_expr, ↓X_frz, ↓X_run, ↓E_var, ↓E_cst, ↓E_glob, ↓E_fref, ↓E_nil, ↓E_cons, ↓E_tup, ↓E_lst, ↓E_call, ↓E_callk, ↓E_bi, ↓E_biIf, ↓E_isi, ↓E_bin, ↓E_cmp, ↓E_neg, ↓E_nt, ↓E_and, ↓E_or, ↓E_ifx, ↓E_idx, ↓E_sl, ↓E_rev, ↓E_rng1, ↓E_lrng, ↓E_trng, ↓E_lc, ↓E_upper, ↓E_step, ↓T_var, ↓T_tup, ↓T_nil, ↓T_cons, ↓W_bind, ↓W_ret, ↓W_need, ↓W_draw, ↓W_if', ↓kO_nx, ↓kO_ct, ↓kO_bk, ↓kO_rt, ↓kF_nx, ↓kF_ct, ↓kF_bk, ↓kF_rt, ↓kE_rt, ↓kE_nx, ↓kIf_t, ↓kIf_f, rdv, tst, itmv, optv, gs, gr, Pf.go, mkV, isFr, noOwn_eq, datOnly_eq, wip, tg_var, put_eq, chg, clr, clr_z, clr_o, clr_d, clr_b, clr_n, io_o, io_d, io_b, io_n, io_z, frzD, permD, SV.d, ls_l, in_i, it_l, it_t, t_b, bo_b, l_lst, l_tup, rev_l, rev_t, Pf.op_add, bi_int, c_lt, c_le, c_gt, c_ge, ev0, List.map_cons, List.map_nil, List.all_cons, List.all_nil, List.replicate, List.length_cons, List.length_nil, List.cons_append, List.nil_append, List.append_nil, List.set, List.getElem?_cons_zero, List.getElem?_cons_succ, Nat.reduceAdd, Nat.reduceSub, decide_eq_true_eq, ne_eq, if_true, if_false, Bool.false_eq_true, true_and, and_true, Option.map, ite_self, oz_c, oz_i, c_eqI, Option.getD_some, Option.getD_none, List.foldl, Bool.and_true, Bool.and_self, Bool.not_true, Bool.not_false, Fc_16_4, P1, List.length_map]
  refine ⟨by omega, ?_⟩
  refine wp_forI (fun left ρ => ∃ o5 o7 o8, ρ = [some (.dat (.tuple ks)), some (.dat (.tuple ms)), some (.dat (.tuple (bs.map bxD))), some (.dat (.tuple (ls.map bxD))), some (.dat (.tuple [.tuple a0, .tuple a1])), dz o5, some (.dat (.tuple (natD (opN ks 0 bs)))), dz o7, dz o8, none] ∧ ∀ d ∈ left, ∃ i : Nat, i < bs.length ∧ d = .int i) ?_ ?_ ?_
  · refine ⟨o5, none, none, rfl, fun d hd => ?_⟩
    rw [Int.toNat_natCast] at hd
    obtain ⟨i, h1, h2⟩ := (nums_rng bs.length).1 d hd
    exact ⟨i, h1, h2⟩
  · rintro d r ρ ⟨o5, o7, o8, rfl, h⟩
    obtain ⟨i, hi, rfl⟩ := h _ List.mem_cons_self
    have hbi : bs[i]? = some bs[i] := List.getElem?_eq_getElem hi
    have hbm : bs[i] ∈ bs := List.getElem_mem hi
    have hb1 := hb _ hbm
    have T1 : sl2 (.tuple (bs.map bxD)) none (some (i : Int)) = .ret (.tuple ((bs.take i).map bxD)) := by
      rw [sl_t, cut_a, List.map_take]
    have T2 : sl2 (.tuple (bs.map bxD)) (some ((i : Int) + 1)) none = .ret (.tuple ((bs.drop (i + 1)).map bxD)) := by
      rw [sl_t, show ((i : Int) + 1) = ((i + 1 : Nat) : Int) by omega, cut_b, List.map_drop]
    have l1 : (bs.take i).length ≤ 20 := by rw [List.length_take]; omega
    have l2 : (bs.drop (i + 1)).length ≤ 20 := by rw [List.length_drop]; omega
    have T3 := AD _ _ l1 l2
    have T4 : sl2 (.tuple (bs.map bxD)) (some (i : Int)) (some ((i : Int) + 1)) = .ret (.tuple ([bs[i]].map bxD)) := by
      rw [sl_t, cut_c _ i (by rw [List.length_map]; exact hi), List.getElem_map]
      rfl
    have T9 : idx2 (.tuple (bs.map bxD)) (.int (i : Int)) = .ret (bxD bs[i]) := ix_inT (by rw [List.getElem?_map, hbi]; rfl)
    have T7 : cmp2 .isin (.int (i : Int)) (.tuple (natD (opN ks 0 bs))) = .ret (.bool (bs[i].2.all (Pm.hasK ks))) := by
      rw [Po.c_inT, ko_sh (Pl.ko_int _), (kos_sh fun d hd => by obtain ⟨j, _, rfl⟩ := List.mem_map.mp hd; rfl).2]
      have : Pm.hasK (natD (opN ks 0 bs)) (.int (i : Int)) = bs[i].2.all (Pm.hasK ks) := by
        rw [Bool.eq_iff_iff, ko_has (fun d hd => by obtain ⟨j, _, rfl⟩ := List.mem_map.mp hd; rfl) (Pl.ko_int _)]
        unfold natD
        rw [List.mem_map]
        constructor
        · rintro ⟨j, hj, e⟩
          injection e with e
          have e : j = i := by omega
          subst e
          obtain ⟨k, b, h1, h2, h3⟩ := opN_mem.mp hj
          have h1 : j = k := by omega
          subst h1
          rw [hbi] at h2
          cases h2
          exact h3
        · intro h
          exact ⟨i, opN_mem.mpr ⟨i, _, by omega, hbi, h⟩, rfl⟩
      rw [this]
      rfl
    have T5 := openable8 (bs := [bs[i]]) kn (m' := 7) (by simpa using hb1)
    have T6 : cmp2 .eq (.tuple (natD (opN ks 0 [bs[i]]))) (.tuple [.int 0]) = .ret (.bool (bs[i].2.all (Pm.hasK ks))) := by
      unfold opN
      cases q : bs[i].2.all (Pm.hasK ks) with
      | true => rfl
      | false => rfl
    have hrm : ∀ b ∈ bs.take i ++ bs.drop (i + 1), b ∈ bs := fun b h => by
      rcases List.mem_append.mp h with h | h
      · exact List.mem_of_mem_take h
      · exact List.mem_of_mem_drop h
    have hrb : ∀ b ∈ bs.take i ++ bs.drop (i + 1), GB 7 b := fun b h => hb b (hrm b h)
    have hrl : (bs.take i ++ bs.drop (i + 1)).length ≤ 40 := by rw [List.length_append]; omega
    have R := had_ok kko fun b h => (hrb b h).bo
    have gk := hb1.bo.own
    have T11 := opens8 kn hb (by omega) (by omega) gk
    have T12 := opens8 kn hrb (by omega) (by omega) gk
    have T13 := opened8 kn hrb (by omega) (by omega)
    have T15 : op2 .add (.tuple a0) (.tuple a1) = .ret (.tuple (a0 ++ a1)) := ad_t _ _ (by
      have := p1_len (had ks bs)
      rw [ea1] at this
      omega)
    have T16 : cmp2 .isin bs[i].1 (.tuple (a0 ++ a1)) = .ret (.bool (Pm.hasK (had ks bs) bs[i].1)) := by
      have k01 : ∀ d ∈ a0 ++ a1, keyOk d = true := fun d hd => (List.mem_append.mp hd).elim (ako0 d) (ako1 d)
      rw [Po.c_inT, ko_sh gk, (kos_sh k01).2]
      have : Pm.hasK (a0 ++ a1) bs[i].1 = Pm.hasK (had ks bs) bs[i].1 := by
        rw [Bool.eq_iff_iff, ko_has k01 gk, ko_has (fun d hd => (AG d hd).td.ko) gk, ← ea0, ← ea1]
        exact p01_mem fun d hd => (AG d hd).td
      rw [this]
      rfl
    have BB : ∀ z : Bool, cmp2 .ne (.bool z) (.bool z) = .ret (.bool false) := fun z => by cases z <;> rfl
    have G1 : bs[i].2.all (Pm.hasK ks) = true → Pm.hasK (had ks bs) bs[i].1 = true := fun h => (ko_has (fun d hd => (AG d hd).td.ko) gk).mpr ((A.2 _).mpr (.box hbm fun k hk => .key ((all_has kko hb1.bo.nd).mp h k hk)))
    have G2 : Pm.hasK (had ks (bs.take i ++ bs.drop (i + 1))) bs[i].1 = true → m_opened [.tuple ks, .tuple ((bs.take i ++ bs.drop (i + 1)).map bxD)] = .ret (.tuple [.tuple a0, .tuple a1]) := fun h => by
      have hg := (R.2 _).mp ((ko_has (fun d hd => (had_gt kn hrb d hd).td.ko) gk).mp h)
      have q := p_congr R.1 A.1 (fun d => by
        rw [R.2, A.2]
        refine ⟨Reach.mono (fun x hx => .key hx) fun b h => .inl (hrm b h), Reach.mono (fun x hx => .key hx) fun b h => ?_⟩
        rcases rest_mem hi h with c | c
        · exact .inl c
        · exact .inr (c ▸ hg)) fun d hd => (had_gt kn hrb d hd).td
      rw [T13, q.1, q.2, ea0, ea1]
    have T10 : idx2 (bxD bs[i]) (.int 0) = .ret bs[i].1 := rfl
    have one : 1 ≤ sizeLine := sz0 _ (by omega)
    have fin : ∃ p5 p7 p8, [some (SV.dat (.tuple ks)), some (.dat (.tuple ms)), some (.dat (.tuple (bs.map bxD))), some (.dat (.tuple (ls.map bxD))), some (.dat (.tuple [.tuple a0, .tuple a1])), dz o5, some (.dat (.tuple (natD (opN ks 0 bs)))), some (.dat (.int (i : Int))), some (.dat (.tuple ((bs.take i ++ bs.drop (i + 1)).map bxD))), none] = [some (.dat (.tuple ks)), some (.dat (.tuple ms)), some (.dat (.tuple (bs.map bxD))), some (.dat (.tuple (ls.map bxD))), some (.dat (.tuple [.tuple a0, .tuple a1])), dz p5, some (.dat (.tuple (natD (opN ks 0 bs)))), dz p7, dz p8, none] ∧ ∀ d ∈ r, ∃ i : Nat, i < bs.length ∧ d = .int i := ⟨o5, some _, some _, rfl, fun d hd => h d (List.mem_cons_of_mem _ hd)⟩
    rw [T_var]
    have G3 : Pm.hasK (had ks (bs.take i ++ bs.drop (i + 1))) bs[i].1 = true → PyData.tuple [.tuple (p0 (had ks (bs.take i ++ bs.drop (i + 1)))), .tuple (p1 (had ks (bs.take i ++ bs.drop (i + 1))))] = .tuple [.tuple a0, .tuple a1] := fun h => by
      have := G2 h
      rw [T13] at this
      injection this
    cases o7 <;> exact step8 T1 T2 T3 T4 T5 T6 T7 T9 T10 T11 T12 _ T13 G3 X0 X1 T15 T16 G1 SA.2 fin
  · rintro ρ ⟨o5, o7, o8, rfl, -⟩
    have P2 := openable8 a0n hb
    have k01 : ∀ d ∈ a0 ++ a1, keyOk d = true := fun d hd => (List.mem_append.mp hd).elim (ako0 d) (ako1 d)
    have T15 : op2 .add (.tuple a0) (.tuple a1) = .ret (.tuple (a0 ++ a1)) := ad_t _ _ (by
      have := p1_len (had ks bs)
      rw [ea1] at this
      omega)
    simp -implicitDefEqProofs only [↓X_nil, ↓X_cons, ↓X_asg, ↓X_asgO, ↓X_par, ↓X_bor, ↓X_app, ↓X_ext, ↓X_rmv, ↓X_popS, ↓X_appPop, ↓X_augI, ↓X_iff, ↓X_for, ↓X_ret, ↓X_retN, ↓X_cont, ↓X_brk, ↓X_pas, ↓X_expr, ↓X_frz, ↓X_run, ↓E_var, ↓E_cst, ↓E_glob, ↓E_fref, ↓E_nil, ↓E_cons, ↓E_tup, ↓E_lst, ↓E_call, ↓E_callk, ↓E_bi, ↓E_biIf, ↓E_isi, ↓E_bin, ↓E_cmp, ↓E_neg, ↓E_nt, ↓E_and, ↓E_or, ↓E_ifx, ↓E_idx, ↓E_sl, ↓E_rev, ↓E_rng1, ↓E_lrng, ↓E_trng, ↓E_lc, ↓E_upper, ↓E_step, ↓T_var, ↓T_tup, ↓T_nil, ↓T_cons, ↓W_bind, ↓W_ret, ↓W_need, ↓W_draw, ↓W_if', ↓kO_nx, ↓kO_ct, ↓kO_bk, ↓kO_rt, ↓kF_nx, ↓kF_ct, ↓kF_bk, ↓kF_rt, ↓kE_rt, ↓kE_nx, ↓kIf_t, ↓kIf_f, rdv, tst, itmv, optv, gs, gr, Pf.go, mkV, isFr, noOwn_eq, datOnly_eq, wip, tg_var, put_eq, chg, clr, clr_z, clr_o, clr_d, clr_b, clr_n, io_o, io_d, io_b, io_n, io_z, frzD, permD, SV.d, ls_l, in_i, it_l, it_t, t_b, bo_b, l_lst, l_tup, rev_l, rev_t, Pf.op_add, bi_int, c_lt, c_le, c_gt, c_ge, ev0, List.map_cons, List.map_nil, List.all_cons, List.all_nil, List.replicate, List.length_cons, List.length_nil, List.cons_append, List.nil_append, List.append_nil, List.set, List.getElem?_cons_zero, List.getElem?_cons_succ, Nat.reduceAdd, Nat.reduceSub, decide_eq_true_eq, ne_eq, if_true, if_false, Bool.false_eq_true, true_and, and_true, Option.map, ite_self, oz_c, oz_i, c_eqI, Option.getD_some, Option.getD_none, List.foldl, Bool.and_true, Bool.and_self, Bool.not_true, Bool.not_false, Fc_16_4, X0, P2]
    refine wp_lc_flt (p := fun _ => false) (fun d hd => ?_) ?_
    · obtain ⟨j, hj, rfl⟩ := List.mem_map.mp hd
      obtain ⟨k, b, h1, h2, h3⟩ := opN_mem.mp hj
      have h1 : j = k := by omega
      subst h1
      have hbm := List.mem_of_getElem? h2
      have T9 : idx2 (.tuple (bs.map bxD)) (.int (j : Int)) = .ret (bxD b) := ix_inT (by rw [List.getElem?_map, h2]; rfl)
      have T10 : idx2 (bxD b) (.int 0) = .ret b.1 := rfl
      have gk := (hb b hbm).bo.own
      have hm1 : b.1 ∈ had ks bs := (A.2 _).mpr (.box hbm fun k hk => by
        have := (all_has ako0 (hb b hbm).bo.nd).mp h3 k hk
        rw [← ea0] at this
        exact (A.2 _).mp (p0_mem.mp this).1)
      have T16 : cmp2 .notin b.1 (.tuple (a0 ++ a1)) = .ret (.bool false) := by
        rw [c_niT, ko_sh gk, (kos_sh k01).2]
        have : Pm.hasK (a0 ++ a1) b.1 = true := by
          rw [ko_has k01 gk, ← ea0, ← ea1]
          exact (p01_mem fun d hd => (AG d hd).td).mpr hm1
        show M.ret (PyData.bool (!Pm.hasK (a0 ++ a1) b.1)) = _
        rw [this]
        rfl
      cases o7 <;> simp -implicitDefEqProofs only [↓X_nil, ↓X_cons, ↓X_asg, ↓X_asgO, ↓X_par, ↓X_bor, ↓X_app, ↓X_ext, ↓X_rmv, ↓X_popS, ↓X_appPop, ↓X_augI, ↓X_iff, ↓X_for, ↓X_ret, ↓X_retN, ↓X_cont, ↓X_brk, ↓X_pas, ↓X_expr, ↓X_frz, ↓X_run, ↓E_var, ↓E_cst, ↓E_glob, ↓E_fref, ↓E_nil, ↓E_cons, ↓E_tup, ↓E_lst, ↓E_call, ↓E_callk, ↓E_bi, ↓E_biIf, ↓E_isi, ↓E_bin, ↓E_cmp, ↓E_neg, ↓E_nt, ↓E_and, ↓E_or, ↓E_ifx, ↓E_idx, ↓E_sl, ↓E_rev, ↓E_rng1, ↓E_lrng, ↓E_trng, ↓E_lc, ↓E_upper, ↓E_step, ↓T_var, ↓T_tup, ↓T_nil, ↓T_cons, ↓W_bind, ↓W_ret, ↓W_need, ↓W_draw, ↓W_if', ↓kO_nx, ↓kO_ct, ↓kO_bk, ↓kO_rt, ↓kF_nx, ↓kF_ct, ↓kF_bk, ↓kF_rt, ↓kE_rt, ↓kE_nx, ↓kIf_t, ↓kIf_f, rdv, tst, itmv, optv, gs, gr, Pf.go, mkV, isFr, noOwn_eq, datOnly_eq, wip, tg_var, put_eq, chg, clr, clr_z, clr_o, clr_d, clr_b, clr_n, io_o, io_d, io_b, io_n, io_z, frzD, permD, SV.d, ls_l, in_i, it_l, it_t, t_b, bo_b, l_lst, l_tup, rev_l, rev_t, Pf.op_add, bi_int, c_lt, c_le, c_gt, c_ge, ev0, List.map_cons, List.map_nil, List.all_cons, List.all_nil, List.replicate, List.length_cons, List.length_nil, List.cons_append, List.nil_append, List.append_nil, List.set, List.getElem?_cons_zero, List.getElem?_cons_succ, Nat.reduceAdd, Nat.reduceSub, decide_eq_true_eq, ne_eq, if_true, if_false, Bool.false_eq_true, true_and, and_true, Option.map, ite_self, oz_c, oz_i, c_eqI, Option.getD_some, Option.getD_none, List.foldl, Bool.and_true, Bool.and_self, Bool.not_true, Bool.not_false, T9, T10, X0, X1, T15, T16]
    · have P3 : WP (ssetM (.tuple (natD (opN ks 0 bs)))) = fun R => R (.list (natD (opN ks 0 bs))) := by
        funext R
        have e : natD (opN ks 0 bs) = ((opN ks 0 bs).map fun i : Nat => (i : Int)).map PyData.int := by unfold natD; rw [List.map_map]; rfl
        have ln := opN_len ks 0 bs
        rw [(W_sset e (by rw [List.length_map]; omega)).2]
        have pw : ((opN ks 0 bs).map fun i : Nat => (i : Int)).Pairwise (· < ·) := List.pairwise_map.mpr ((opN_pw ks 0 bs).1.imp fun h => by omega)
        rw [pw_unique (ssetI_pw _) pw fun z => ssetI_mem z _, ← e]
      have shn : SeqAt.shaped (.list (natD (opN ks 0 bs))) = true := (kos_sh fun d hd => by obtain ⟨j, _, rfl⟩ := List.mem_map.mp hd; rfl).1
      rw [flt_no]
      simp -implicitDefEqProofs only [↓X_nil, ↓X_cons, ↓X_asg, ↓X_asgO, ↓X_par, ↓X_bor, ↓X_app, ↓X_ext, ↓X_rmv, ↓X_popS, ↓X_appPop, ↓X_augI, ↓X_iff, ↓X_for, ↓X_ret, ↓X_retN, ↓X_cont, ↓X_brk, ↓X_pas, ↓X_expr, ↓X_frz, ↓X_run, ↓E_var, ↓E_cst, ↓E_glob, ↓E_fref, ↓E_nil, ↓E_cons, ↓E_tup, ↓E_lst, ↓E_call, ↓E_callk, ↓E_bi, ↓E_biIf, ↓E_isi, ↓E_bin, ↓E_cmp, ↓E_neg, ↓E_nt, ↓E_and, ↓E_or, ↓E_ifx, ↓E_idx, ↓E_sl, ↓E_rev, ↓E_rng1, ↓E_lrng, ↓E_trng, ↓E_lc, ↓E_upper, ↓E_step, ↓T_var, ↓T_tup, ↓T_nil, ↓T_cons, ↓W_bind, ↓W_ret, ↓W_need, ↓W_draw, ↓W_if', ↓kO_nx, ↓kO_ct, ↓kO_bk, ↓kO_rt, ↓kF_nx, ↓kF_ct, ↓kF_bk, ↓kF_rt, ↓kE_rt, ↓kE_nx, ↓kIf_t, ↓kIf_f, rdv, tst, itmv, optv, gs, gr, Pf.go, mkV, isFr, noOwn_eq, datOnly_eq, wip, tg_var, put_eq, chg, clr, clr_z, clr_o, clr_d, clr_b, clr_n, io_o, io_d, io_b, io_n, io_z, frzD, permD, SV.d, ls_l, in_i, it_l, it_t, t_b, bo_b, l_lst, l_tup, rev_l, rev_t, Pf.op_add, bi_int, c_lt, c_le, c_gt, c_ge, ev0, List.map_cons, List.map_nil, List.all_cons, List.all_nil, List.replicate, List.length_cons, List.length_nil, List.cons_append, List.nil_append, List.append_nil, List.set, List.getElem?_cons_zero, List.getElem?_cons_succ, Nat.reduceAdd, Nat.reduceSub, decide_eq_true_eq, ne_eq, if_true, if_false, Bool.false_eq_true, true_and, and_true, Option.map, ite_self, oz_c, oz_i, c_eqI, Option.getD_some, Option.getD_none, List.foldl, Bool.and_true, Bool.and_self, Bool.not_true, Bool.not_false, E_sset, P3, c_eq, k_l, shaped_nil, eqv_nil, List.isEmpty_nil]
      refine ⟨sz0 _ (by omega), ?_⟩
      show eqOk (.list (natD (opN ks 0 bs))) (.list (natD (opN ks 0 bs))) = true ∧ PyData.bool (PyData.eqv (.list (natD (opN ks 0 bs))) (.list (natD (opN ks 0 bs)))) = .bool true
      have hl : (PyData.list (natD (opN ks 0 bs))).canLay0 = true := by
        have h := shn
        unfold SeqAt.shaped at h
        rw [Bool.and_eq_true] at h
        exact h.1
      exact ⟨k_sh shn shn, by rw [SeqAt.eqv_refl _ hl]⟩
end K08
/-! Q083: k08's whole. -/
namespace Pf
open PySem
theorem Ta.rep {I n s : Nat} {d : D} (h : Ta I n s d) (h1 : I ≤ 1022) (h2 : n ≤ 64) (h3 : s ≤ 10000) : bi1 .repr d = .ret (.str d.shown) := by
  have a1 := lf_show (I := I) (Nat.le_trans h1 (by decide +kernel)) _ h.lf
  have a2 := h.sh h2
  have a3 := PyData.shown_le 62 (by decide) d (lf_short (I := I) (Nat.le_trans h1 (by decide +kernel)) _ h.lf)
  have a4 := lf_wt d (lf_mono h1 d h.lf)
  have a5 := h.sz
  rw [b_repr, a1, a2, decide_eq_true, need_of]
  · rfl
  · rw [sizeLine_eq]; omega
theorem wp_lc_sub {b : D → M Ev} {t : Ev → M Bool} {e : Ev → M D} : ∀ {ds : List D} {Q : List D → Prop}, (∀ d ∈ ds, WP (b d) fun ρ => WP (t ρ) fun c => c = true → WP (e ρ) fun y => y = d) → (∀ ys : List D, (∀ y ∈ ys, y ∈ ds) → ys.length ≤ ds.length → Q ys) → WP (lcGo b t e ds) Q
  | [], Q, _, q => q [] (by simp) (by simp)
  | d :: r, Q, h, q => by
    show WP ((b d).bind fun ρ => (t ρ).bind fun c => if c = true then (e ρ).bind fun y => (lcGo b t e r).bind fun ys => .ret (y :: ys) else lcGo b t e r) Q
    simp only [W_bind]
    refine (h d List.mem_cons_self).mono fun ρ h1 => h1.mono fun c h3 => ?_
    have hr : ∀ d ∈ r, _ := fun d hd => h d (List.mem_cons_of_mem _ hd)
    cases c with
    | true =>
      rw [if_pos rfl, W_bind]
      refine (h3 rfl).mono fun y hy => ?_
      subst hy
      rw [W_bind]
      refine wp_lc_sub hr fun ys h4 h5 => q _ (fun z hz => ?_) (by simp only [List.length_cons]; omega)
      rcases List.mem_cons.mp hz with rfl | hz
      · exact List.mem_cons_self
      · exact List.mem_cons_of_mem _ (h4 z hz)
    | false =>
      rw [if_neg (by simp)]
      exact wp_lc_sub hr fun ys h4 h5 => q ys (fun z hz => List.mem_cons_of_mem _ (h4 z hz)) (by simp only [List.length_cons]; omega)
end Pf
namespace K08
open PySem PySem.Spec PyProof.Rows L2 Pf Pd Po Pl
theorem go_ta {g : D} (h : Go 7 g) : Ta 1000 1 12 g := by
  have hk := h.ok
  rcases h with ⟨i, hi, rfl⟩ | ⟨s, hs, r, hr, rfl⟩
  · exact ⟨by simp only [lf, decide_eq_true_eq]; omega, hk.2, by simp only [sz]; omega⟩
  · have hs2 : lf 1000 s = true ∧ sz s ≤ 6 := by
      simp only [List.mem_cons, List.mem_nil_iff, or_false] at hs
      rcases hs with rfl | rfl | rfl
      · exact ⟨by simp only [lf]; decide +kernel, by simp only [sz]; decide +kernel⟩
      · exact ⟨by simp only [lf]; decide +kernel, by simp only [sz]; decide +kernel⟩
      · exact ⟨by simp only [lf]; decide +kernel, by simp only [sz]; decide +kernel⟩
    refine ⟨?_, hk.2, ?_⟩
    · simp only [lf, lfA, hs2.1, Bool.true_and, Bool.and_true, decide_eq_true_eq]; omega
    · simp only [sz, szA]; omega
theorem nums_ta {m : Nat} (hm : m ≤ 1000) : ∀ {ks : List D}, Nums m ks → TaL 1000 0 ks.length ks
  | [], _ => TaL.nil
  | k :: r, h => by
    obtain ⟨i, hi, rfl⟩ := h k List.mem_cons_self
    have ih := nums_ta hm (ks := r) fun d hd => h d (List.mem_cons_of_mem _ hd)
    have t : Ta 1000 0 1 (.int (i : Int)) := ⟨by simp only [lf, decide_eq_true_eq]; omega, by simp [PyData.depth], by simp only [sz]; omega⟩
    exact (TaL.cons t ih).mono (Nat.le_refl _) (Nat.le_refl _) (by simp only [List.length_cons]; omega)
theorem gb_ta {b : Po.Bx} (h : GB 7 b) : Ta 1000 2 20 (bxD b) := by
  have t1 := (go_ta h.go)
  have t2 := (nums_ta (by omega) h.nd).tup.mono (Nat.le_refl 1000) (show 0 + 1 ≤ 1 by omega) (show b.2.length + 1 ≤ 4 by have := h.le; omega)
  exact (TaL.cons t1 (TaL.one t2)).tup.mono (Nat.le_refl _) (by omega) (by omega)
theorem gbs_ta : ∀ {bs : List Po.Bx}, (∀ b ∈ bs, GB 7 b) → TaL 1000 2 (20 * bs.length) (bs.map bxD)
  | [], _ => TaL.nil
  | b :: r, h => (TaL.cons (gb_ta (h b List.mem_cons_self)) (gbs_ta fun c hc => h c (List.mem_cons_of_mem _ hc))).mono (Nat.le_refl _) (Nat.le_refl _) (by simp only [List.length_cons]; omega)
theorem sub_map : ∀ {ys : List D} {bs : List Po.Bx}, (∀ y ∈ ys, y ∈ bs.map bxD) → ∃ ls : List Po.Bx, ys = ls.map bxD ∧ ∀ b ∈ ls, b ∈ bs
  | [], _, _ => ⟨[], rfl, by simp⟩
  | y :: r, bs, h => by
    obtain ⟨b, hb, rfl⟩ := List.mem_map.mp (h y List.mem_cons_self)
    obtain ⟨ls, rfl, hl⟩ := sub_map fun z hz => h z (List.mem_cons_of_mem _ hz)
    refine ⟨b :: ls, rfl, fun c hc => ?_⟩
    rcases List.mem_cons.mp hc with rfl | hc
    · exact hb
    · exact hl c hc
theorem kt_add {m : Nat} {ks es : List D} (hk : Kt m ks) (he : Nums m es) (h1 : ks.length + es.length < 60) : ∃ ms, WP (ssetM (.tuple (ks ++ es))) = (fun R => R (.list ms)) ∧ Kt m ms ∧ (∀ k ∈ ks, k ∈ ms) ∧ ms.length ≤ ks.length + es.length := by
  obtain ⟨l, hl1, hl2, rfl⟩ := hk
  obtain ⟨l2, rfl, hl3⟩ := nums_int he
  rw [List.length_map, List.length_map] at h1
  have ln := ssetI_len (l ++ l2)
  rw [List.length_append] at ln
  refine ⟨(ssetI (l ++ l2)).map .int, funext fun R => (W_sset (l := l ++ l2) (by rw [List.map_append]) (by rw [List.length_append]; omega)).2, sset_kt fun i hi => ?_, fun k hk => ?_, by rw [List.length_map, List.length_map, List.length_map]; omega⟩
  · rcases List.mem_append.mp hi with q | q
    · exact hl2 i q
    · exact hl3 i q
  · obtain ⟨i, hi, rfl⟩ := List.mem_map.mp hk
    exact List.mem_map.mpr ⟨i, (ssetI_mem _ _).mpr (List.mem_append_left _ hi), rfl⟩
def lawB : Sx := (.cons (.par 3 false (.call 15 (.cons (.var 1) (.cons (.bin .add (.cst (.int 3)) (.call 6 (.cons (.var 1) (.cons (.cst (.int 5)) .nil)))) (.cons (.cst (.int 7)) .nil)))) 4 false (.call 14 (.cons (.var 1) (.cons (.cst (.int 7)) .nil)))) (.cons (.asg (.var 5) (.bi .tup (.sset (.bin .add (.var 4) (.call 13 (.cons (.var 1) (.cons (.cst (.int 7)) (.cons (.cst (.int 2)) .nil)))))))) (.cons (.asg (.var 6) (.bi .tup (.lc [7] (.var 7) (.var 3) (.cmp .eq (.call 6 (.cons (.var 1) (.cons (.cst (.int 2)) .nil))) (.cst (.int 0))) (.var 7)))) (.cons (.asg (.var 8) (.bi .repr (.tup (.cons (.var 4) (.cons (.var 3) .nil))))) (.cons (.iff (.or (.nt (.call 17 (.cons (.var 4) (.cons (.var 5) (.cons (.var 3) (.cons (.var 6) .nil)))))) (.or (.nt (.call 17 (.cons (.var 5) (.cons (.var 5) (.cons (.var 3) (.cons (.var 6) .nil)))))) (.cmp .ne (.bi .repr (.tup (.cons (.var 4) (.cons (.var 3) .nil)))) (.var 8)))) (.cons (.ret (.cst (.bool false))) .nil) .nil) .nil)))))
theorem turn8 (ns : List Int) {x0 : Option SV} (hx0 : x0 = none) {x2 x3 x4 x5 x6 x8 : Option D} {Q : Out → Prop} (fin : ∀ x2 x3 x4 x5 x6 x8, Q (.nx [none, some (.dat (feedD ns)), dz x2, dz x3, dz x4, dz x5, dz x6, none, dz x8])) : WP (exGo fu F_17 lawB [none, some (.dat (feedD ns)), dz x2, dz x3, dz x4, dz x5, dz x6, none, dz x8]) Q := by
  unfold lawB
  simp -implicitDefEqProofs only [↓X_nil, ↓X_cons, ↓X_asg, ↓X_asgO, ↓X_par, ↓X_bor, ↓X_app, ↓X_ext, ↓X_rmv, ↓X_popS, ↓X_appPop, ↓X_augI, ↓X_iff, ↓X_for, ↓X_ret, ↓X_retN, ↓X_cont, ↓X_brk, ↓X_pas, ↓X_expr, ↓X_frz, ↓X_run, ↓E_var, ↓E_cst, ↓E_glob, ↓E_fref, ↓E_nil, ↓E_cons, ↓E_tup, ↓E_lst, ↓E_call, ↓E_callk, ↓E_bi, ↓E_biIf, ↓E_isi, ↓E_bin, ↓E_cmp, ↓E_neg, ↓E_nt, ↓E_and, ↓E_or, ↓E_ifx, ↓E_idx, ↓E_sl, ↓E_rev, ↓E_rng1, ↓E_lrng, ↓E_trng, ↓E_lc, ↓E_upper, ↓E_step, ↓T_var, ↓T_tup, ↓T_nil, ↓T_cons, ↓W_bind, ↓W_ret, ↓W_need, ↓W_draw, ↓W_if', ↓kO_nx, ↓kO_ct, ↓kO_bk, ↓kO_rt, ↓kF_nx, ↓kF_ct, ↓kF_bk, ↓kF_rt, ↓kE_rt, ↓kE_nx, ↓kIf_t, ↓kIf_f, rdv, tst, itmv, optv, gs, gr, Pf.go, mkV, isFr, noOwn_eq, datOnly_eq, wip, tg_var, put_eq, chg, clr, clr_z, clr_o, clr_d, clr_b, clr_n, io_o, io_d, io_b, io_n, io_z, frzD, permD, SV.d, ls_l, in_i, it_l, it_t, t_b, bo_b, l_lst, l_tup, rev_l, rev_t, Pf.op_add, bi_int, c_lt, c_le, c_gt, c_ge, ev0, List.map_cons, List.map_nil, List.all_cons, List.all_nil, List.replicate, List.length_cons, List.length_nil, List.cons_append, List.nil_append, List.append_nil, List.set, List.getElem?_cons_zero, List.getElem?_cons_succ, Nat.reduceAdd, Nat.reduceSub, decide_eq_true_eq, ne_eq, if_true, if_false, Bool.false_eq_true, true_and, and_true, Option.map, ite_self, oz_c, oz_i, c_eqI, Option.getD_some, Option.getD_none, List.foldl, Bool.and_true, Bool.and_self, Bool.not_true, Bool.not_false, Fc_17_6, Fc_17_13, Fc_17_14, Fc_17_15]
  refine ⟨by omega, fun r hr => ?_⟩
  rw [show (3 : Int) + (r : Int) = ((3 + r : Nat) : Int) by omega]
  refine (wp_lot8 ns (3 + r) 7 (by omega) (by omega) (by omega)).mono fun d hd => ?_
  obtain ⟨bs, rfl, hb, hbl⟩ := hd
  refine (wp_begin8 ns 7 (by omega) (by omega)).mono fun d hd => ?_
  obtain ⟨ks, rfl, hk, hkl⟩ := hd
  simp -implicitDefEqProofs only [↓X_nil, ↓X_cons, ↓X_asg, ↓X_asgO, ↓X_par, ↓X_bor, ↓X_app, ↓X_ext, ↓X_rmv, ↓X_popS, ↓X_appPop, ↓X_augI, ↓X_iff, ↓X_for, ↓X_ret, ↓X_retN, ↓X_cont, ↓X_brk, ↓X_pas, ↓X_expr, ↓X_frz, ↓X_run, ↓E_var, ↓E_cst, ↓E_glob, ↓E_fref, ↓E_nil, ↓E_cons, ↓E_tup, ↓E_lst, ↓E_call, ↓E_callk, ↓E_bi, ↓E_biIf, ↓E_isi, ↓E_bin, ↓E_cmp, ↓E_neg, ↓E_nt, ↓E_and, ↓E_or, ↓E_ifx, ↓E_idx, ↓E_sl, ↓E_rev, ↓E_rng1, ↓E_lrng, ↓E_trng, ↓E_lc, ↓E_upper, ↓E_step, ↓T_var, ↓T_tup, ↓T_nil, ↓T_cons, ↓W_bind, ↓W_ret, ↓W_need, ↓W_draw, ↓W_if', ↓kO_nx, ↓kO_ct, ↓kO_bk, ↓kO_rt, ↓kF_nx, ↓kF_ct, ↓kF_bk, ↓kF_rt, ↓kE_rt, ↓kE_nx, ↓kIf_t, ↓kIf_f, rdv, tst, itmv, optv, gs, gr, Pf.go, mkV, isFr, noOwn_eq, datOnly_eq, wip, tg_var, put_eq, chg, clr, clr_z, clr_o, clr_d, clr_b, clr_n, io_o, io_d, io_b, io_n, io_z, frzD, permD, SV.d, ls_l, in_i, it_l, it_t, t_b, bo_b, l_lst, l_tup, rev_l, rev_t, Pf.op_add, bi_int, c_lt, c_le, c_gt, c_ge, ev0, List.map_cons, List.map_nil, List.all_cons, List.all_nil, List.replicate, List.length_cons, List.length_nil, List.cons_append, List.nil_append, List.append_nil, List.set, List.getElem?_cons_zero, List.getElem?_cons_succ, Nat.reduceAdd, Nat.reduceSub, decide_eq_true_eq, ne_eq, if_true, if_false, Bool.false_eq_true, true_and, and_true, Option.map, ite_self, oz_c, oz_i, c_eqI, Option.getD_some, Option.getD_none, List.foldl, Bool.and_true, Bool.and_self, Bool.not_true, Bool.not_false, E_sset, Fc_17_6, Fc_17_13, Fc_17_14, Fc_17_15]
  refine ⟨by omega, ?_⟩
  refine (wp_grip8 ns 7 2 (by omega) (by omega)).mono fun d hd => ?_
  obtain ⟨es, rfl, he, hel⟩ := hd
  obtain ⟨ms, e1, hm, hs, hml⟩ := kt_add hk he (by omega)
  have AD : op2 .add (.tuple ks) (.tuple es) = .ret (.tuple (ks ++ es)) := ad_t _ _ (by omega)
  simp -implicitDefEqProofs only [↓X_nil, ↓X_cons, ↓X_asg, ↓X_asgO, ↓X_par, ↓X_bor, ↓X_app, ↓X_ext, ↓X_rmv, ↓X_popS, ↓X_appPop, ↓X_augI, ↓X_iff, ↓X_for, ↓X_ret, ↓X_retN, ↓X_cont, ↓X_brk, ↓X_pas, ↓X_expr, ↓X_frz, ↓X_run, ↓E_var, ↓E_cst, ↓E_glob, ↓E_fref, ↓E_nil, ↓E_cons, ↓E_tup, ↓E_lst, ↓E_call, ↓E_callk, ↓E_bi, ↓E_biIf, ↓E_isi, ↓E_bin, ↓E_cmp, ↓E_neg, ↓E_nt, ↓E_and, ↓E_or, ↓E_ifx, ↓E_idx, ↓E_sl, ↓E_rev, ↓E_rng1, ↓E_lrng, ↓E_trng, ↓E_lc, ↓E_upper, ↓E_step, ↓T_var, ↓T_tup, ↓T_nil, ↓T_cons, ↓W_bind, ↓W_ret, ↓W_need, ↓W_draw, ↓W_if', ↓kO_nx, ↓kO_ct, ↓kO_bk, ↓kO_rt, ↓kF_nx, ↓kF_ct, ↓kF_bk, ↓kF_rt, ↓kE_rt, ↓kE_nx, ↓kIf_t, ↓kIf_f, rdv, tst, itmv, optv, gs, gr, Pf.go, mkV, isFr, noOwn_eq, datOnly_eq, wip, tg_var, put_eq, chg, clr, clr_z, clr_o, clr_d, clr_b, clr_n, io_o, io_d, io_b, io_n, io_z, frzD, permD, SV.d, ls_l, in_i, it_l, it_t, t_b, bo_b, l_lst, l_tup, rev_l, rev_t, Pf.op_add, bi_int, c_lt, c_le, c_gt, c_ge, ev0, List.map_cons, List.map_nil, List.all_cons, List.all_nil, List.replicate, List.length_cons, List.length_nil, List.cons_append, List.nil_append, List.append_nil, List.set, List.getElem?_cons_zero, List.getElem?_cons_succ, Nat.reduceAdd, Nat.reduceSub, decide_eq_true_eq, ne_eq, if_true, if_false, Bool.false_eq_true, true_and, and_true, Option.map, ite_self, oz_c, oz_i, c_eqI, Option.getD_some, Option.getD_none, List.foldl, Bool.and_true, Bool.and_self, Bool.not_true, Bool.not_false, E_sset, AD, e1, Fc_17_6]
  refine wp_lc_sub (fun d hd => ?_) fun ys h1 h2 => ?_
  · simp -implicitDefEqProofs only [↓X_nil, ↓X_cons, ↓X_asg, ↓X_asgO, ↓X_par, ↓X_bor, ↓X_app, ↓X_ext, ↓X_rmv, ↓X_popS, ↓X_appPop, ↓X_augI, ↓X_iff, ↓X_for, ↓X_ret, ↓X_retN, ↓X_cont, ↓X_brk, ↓X_pas, ↓X_expr, ↓X_frz, ↓X_run, ↓E_var, ↓E_cst, ↓E_glob, ↓E_fref, ↓E_nil, ↓E_cons, ↓E_tup, ↓E_lst, ↓E_call, ↓E_callk, ↓E_bi, ↓E_biIf, ↓E_isi, ↓E_bin, ↓E_cmp, ↓E_neg, ↓E_nt, ↓E_and, ↓E_or, ↓E_ifx, ↓E_idx, ↓E_sl, ↓E_rev, ↓E_rng1, ↓E_lrng, ↓E_trng, ↓E_lc, ↓E_upper, ↓E_step, ↓T_var, ↓T_tup, ↓T_nil, ↓T_cons, ↓W_bind, ↓W_ret, ↓W_need, ↓W_draw, ↓W_if', ↓kO_nx, ↓kO_ct, ↓kO_bk, ↓kO_rt, ↓kF_nx, ↓kF_ct, ↓kF_bk, ↓kF_rt, ↓kE_rt, ↓kE_nx, ↓kIf_t, ↓kIf_f, rdv, tst, itmv, optv, gs, gr, Pf.go, mkV, isFr, noOwn_eq, datOnly_eq, wip, tg_var, put_eq, chg, clr, clr_z, clr_o, clr_d, clr_b, clr_n, io_o, io_d, io_b, io_n, io_z, frzD, permD, SV.d, ls_l, in_i, it_l, it_t, t_b, bo_b, l_lst, l_tup, rev_l, rev_t, Pf.op_add, bi_int, c_lt, c_le, c_gt, c_ge, ev0, List.map_cons, List.map_nil, List.all_cons, List.all_nil, List.replicate, List.length_cons, List.length_nil, List.cons_append, List.nil_append, List.append_nil, List.set, List.getElem?_cons_zero, List.getElem?_cons_succ, Nat.reduceAdd, Nat.reduceSub, decide_eq_true_eq, ne_eq, if_true, if_false, Bool.false_eq_true, true_and, and_true, Option.map, ite_self, oz_c, oz_i, c_eqI, Option.getD_some, Option.getD_none, List.foldl, Bool.and_true, Bool.and_self, Bool.not_true, Bool.not_false, Fc_17_6]
    refine ⟨by omega, fun r hr => ?_⟩
    intro _
    trivial
  · obtain ⟨ls, rfl, hl⟩ := sub_map h1
    rw [List.length_map, List.length_map] at h2
    have rep := (TaL.cons ((nums_ta (by omega) hk.nums).tup.mono (Nat.le_refl 1000) (show 0 + 1 ≤ 3 by omega) (Nat.le_refl _)) (TaL.one (gbs_ta hb).tup)).tup.rep (by omega) (by omega) (by omega)
    have r1 := right8 hk hm hs hb hl (by omega) (by omega) (by omega) (by omega)
    have r2 := right8 hm hm (fun _ h => h) hb hl (by omega) (by omega) (by omega) (by omega)
    have sz : 2 ≤ sizeLine := sz0 _ (by omega)
    have ST : ∀ s : Str, cmp2 .ne (.str s) (.str s) = .ret (.bool false) := fun s => by
      rw [c_ne]
      show M.ret (PyData.bool (!PyData.eqv (.str s) (.str s))) = _
      rw [eqv_str, beq_self_eq_true]
      rfl
    have BT : bi1 .tup (.list (ls.map bxD)) = .ret (.tuple (ls.map bxD)) := rfl
    simp -implicitDefEqProofs only [↓X_nil, ↓X_cons, ↓X_asg, ↓X_asgO, ↓X_par, ↓X_bor, ↓X_app, ↓X_ext, ↓X_rmv, ↓X_popS, ↓X_appPop, ↓X_augI, ↓X_iff, ↓X_for, ↓X_ret, ↓X_retN, ↓X_cont, ↓X_brk, ↓X_pas, ↓X_expr, ↓X_frz, ↓X_run, ↓E_var, ↓E_cst, ↓E_glob, ↓E_fref, ↓E_nil, ↓E_cons, ↓E_tup, ↓E_lst, ↓E_call, ↓E_callk, ↓E_bi, ↓E_biIf, ↓E_isi, ↓E_bin, ↓E_cmp, ↓E_neg, ↓E_nt, ↓E_and, ↓E_or, ↓E_ifx, ↓E_idx, ↓E_sl, ↓E_rev, ↓E_rng1, ↓E_lrng, ↓E_trng, ↓E_lc, ↓E_upper, ↓E_step, ↓T_var, ↓T_tup, ↓T_nil, ↓T_cons, ↓W_bind, ↓W_ret, ↓W_need, ↓W_draw, ↓W_if', ↓kO_nx, ↓kO_ct, ↓kO_bk, ↓kO_rt, ↓kF_nx, ↓kF_ct, ↓kF_bk, ↓kF_rt, ↓kE_rt, ↓kE_nx, ↓kIf_t, ↓kIf_f, rdv, tst, itmv, optv, gs, gr, Pf.go, mkV, isFr, noOwn_eq, datOnly_eq, wip, tg_var, put_eq, chg, clr, clr_z, clr_o, clr_d, clr_b, clr_n, io_o, io_d, io_b, io_n, io_z, frzD, permD, SV.d, ls_l, in_i, it_l, it_t, t_b, bo_b, l_lst, l_tup, rev_l, rev_t, Pf.op_add, bi_int, c_lt, c_le, c_gt, c_ge, ev0, List.map_cons, List.map_nil, List.all_cons, List.all_nil, List.replicate, List.length_cons, List.length_nil, List.cons_append, List.nil_append, List.append_nil, List.set, List.getElem?_cons_zero, List.getElem?_cons_succ, Nat.reduceAdd, Nat.reduceSub, decide_eq_true_eq, ne_eq, if_true, if_false, Bool.false_eq_true, true_and, and_true, Option.map, ite_self, oz_c, oz_i, c_eqI, Option.getD_some, Option.getD_none, List.foldl, Bool.and_true, Bool.and_self, Bool.not_true, Bool.not_false, rep, Fc_17_17, BT]
    refine ⟨sz, r1.mono fun a ha => ?_⟩
    subst ha
    simp -implicitDefEqProofs only [↓X_nil, ↓X_cons, ↓X_asg, ↓X_asgO, ↓X_par, ↓X_bor, ↓X_app, ↓X_ext, ↓X_rmv, ↓X_popS, ↓X_appPop, ↓X_augI, ↓X_iff, ↓X_for, ↓X_ret, ↓X_retN, ↓X_cont, ↓X_brk, ↓X_pas, ↓X_expr, ↓X_frz, ↓X_run, ↓E_var, ↓E_cst, ↓E_glob, ↓E_fref, ↓E_nil, ↓E_cons, ↓E_tup, ↓E_lst, ↓E_call, ↓E_callk, ↓E_bi, ↓E_biIf, ↓E_isi, ↓E_bin, ↓E_cmp, ↓E_neg, ↓E_nt, ↓E_and, ↓E_or, ↓E_ifx, ↓E_idx, ↓E_sl, ↓E_rev, ↓E_rng1, ↓E_lrng, ↓E_trng, ↓E_lc, ↓E_upper, ↓E_step, ↓T_var, ↓T_tup, ↓T_nil, ↓T_cons, ↓W_bind, ↓W_ret, ↓W_need, ↓W_draw, ↓W_if', ↓kO_nx, ↓kO_ct, ↓kO_bk, ↓kO_rt, ↓kF_nx, ↓kF_ct, ↓kF_bk, ↓kF_rt, ↓kE_rt, ↓kE_nx, ↓kIf_t, ↓kIf_f, rdv, tst, itmv, optv, gs, gr, Pf.go, mkV, isFr, noOwn_eq, datOnly_eq, wip, tg_var, put_eq, chg, clr, clr_z, clr_o, clr_d, clr_b, clr_n, io_o, io_d, io_b, io_n, io_z, frzD, permD, SV.d, ls_l, in_i, it_l, it_t, t_b, bo_b, l_lst, l_tup, rev_l, rev_t, Pf.op_add, bi_int, c_lt, c_le, c_gt, c_ge, ev0, List.map_cons, List.map_nil, List.all_cons, List.all_nil, List.replicate, List.length_cons, List.length_nil, List.cons_append, List.nil_append, List.append_nil, List.set, List.getElem?_cons_zero, List.getElem?_cons_succ, Nat.reduceAdd, Nat.reduceSub, decide_eq_true_eq, ne_eq, if_true, if_false, Bool.false_eq_true, true_and, and_true, Option.map, ite_self, oz_c, oz_i, c_eqI, Option.getD_some, Option.getD_none, List.foldl, Bool.and_true, Bool.and_self, Bool.not_true, Bool.not_false]
    refine r2.mono fun a ha => ?_
    subst ha
    simp -implicitDefEqProofs only [↓X_nil, ↓X_cons, ↓X_asg, ↓X_asgO, ↓X_par, ↓X_bor, ↓X_app, ↓X_ext, ↓X_rmv, ↓X_popS, ↓X_appPop, ↓X_augI, ↓X_iff, ↓X_for, ↓X_ret, ↓X_retN, ↓X_cont, ↓X_brk, ↓X_pas, ↓X_expr, ↓X_frz, ↓X_run, ↓E_var, ↓E_cst, ↓E_glob, ↓E_fref, ↓E_nil, ↓E_cons, ↓E_tup, ↓E_lst, ↓E_call, ↓E_callk, ↓E_bi, ↓E_biIf, ↓E_isi, ↓E_bin, ↓E_cmp, ↓E_neg, ↓E_nt, ↓E_and, ↓E_or, ↓E_ifx, ↓E_idx, ↓E_sl, ↓E_rev, ↓E_rng1, ↓E_lrng, ↓E_trng, ↓E_lc, ↓E_upper, ↓E_step, ↓T_var, ↓T_tup, ↓T_nil, ↓T_cons, ↓W_bind, ↓W_ret, ↓W_need, ↓W_draw, ↓W_if', ↓kO_nx, ↓kO_ct, ↓kO_bk, ↓kO_rt, ↓kF_nx, ↓kF_ct, ↓kF_bk, ↓kF_rt, ↓kE_rt, ↓kE_nx, ↓kIf_t, ↓kIf_f, rdv, tst, itmv, optv, gs, gr, Pf.go, mkV, isFr, noOwn_eq, datOnly_eq, wip, tg_var, put_eq, chg, clr, clr_z, clr_o, clr_d, clr_b, clr_n, io_o, io_d, io_b, io_n, io_z, frzD, permD, SV.d, ls_l, in_i, it_l, it_t, t_b, bo_b, l_lst, l_tup, rev_l, rev_t, Pf.op_add, bi_int, c_lt, c_le, c_gt, c_ge, ev0, List.map_cons, List.map_nil, List.all_cons, List.all_nil, List.replicate, List.length_cons, List.length_nil, List.cons_append, List.nil_append, List.append_nil, List.set, List.getElem?_cons_zero, List.getElem?_cons_succ, Nat.reduceAdd, Nat.reduceSub, decide_eq_true_eq, ne_eq, if_true, if_false, Bool.false_eq_true, true_and, and_true, Option.map, ite_self, oz_c, oz_i, c_eqI, Option.getD_some, Option.getD_none, List.foldl, Bool.and_true, Bool.and_self, Bool.not_true, Bool.not_false, ST]
    exact ⟨sz, fin (x2) (some _) (some _) (some _) (some _) (some _)⟩
theorem pure : Pure := fun ns => by
  have e : b_law = (.cons (.forS (.var 2) (.rng1 (.cst (.int 3))) lawB) (.cons (.ret (.and (.cmp .eq (.call 2 (.cons (.tup .nil) (.cons (.tup .nil) .nil))) (.tup (.cons (.tup .nil) (.cons (.tup .nil) .nil)))) (.cmp .eq (.call 4 (.cons (.tup (.cons (.cst (.int 3)) .nil)) (.cons (.tup .nil) .nil))) (.tup .nil)))) .nil)) := rfl
  rw [e]
  show WP (exGo fu F_17 _ [none, some (.dat (feedD ns)), none, none, none, none, none, none, none]) _
  simp -implicitDefEqProofs only [↓X_nil, ↓X_cons, ↓X_asg, ↓X_asgO, ↓X_par, ↓X_bor, ↓X_app, ↓X_ext, ↓X_rmv, ↓X_popS, ↓X_appPop, ↓X_augI, ↓X_iff, ↓X_for, ↓X_ret, ↓X_retN, ↓X_cont, ↓X_brk, ↓X_pas, ↓X_expr, ↓X_frz, ↓X_run, ↓E_var, ↓E_cst, ↓E_glob, ↓E_fref, ↓E_nil, ↓E_cons, ↓E_tup, ↓E_lst, ↓E_call, ↓E_callk, ↓E_bi, ↓E_biIf, ↓E_isi, ↓E_bin, ↓E_cmp, ↓E_neg, ↓E_nt, ↓E_and, ↓E_or, ↓E_ifx, ↓E_idx, ↓E_sl, ↓E_rev, ↓E_rng1, ↓E_lrng, ↓E_trng, ↓E_lc, ↓E_upper, ↓E_step, ↓T_var, ↓T_tup, ↓T_nil, ↓T_cons, ↓W_bind, ↓W_ret, ↓W_need, ↓W_draw, ↓W_if', ↓kO_nx, ↓kO_ct, ↓kO_bk, ↓kO_rt, ↓kF_nx, ↓kF_ct, ↓kF_bk, ↓kF_rt, ↓kE_rt, ↓kE_nx, ↓kIf_t, ↓kIf_f, rdv, tst, itmv, optv, gs, gr, Pf.go, mkV, isFr, noOwn_eq, datOnly_eq, wip, tg_var, put_eq, chg, clr, clr_z, clr_o, clr_d, clr_b, clr_n, io_o, io_d, io_b, io_n, io_z, frzD, permD, SV.d, ls_l, in_i, it_l, it_t, t_b, bo_b, l_lst, l_tup, rev_l, rev_t, Pf.op_add, bi_int, c_lt, c_le, c_gt, c_ge, ev0, List.map_cons, List.map_nil, List.all_cons, List.all_nil, List.replicate, List.length_cons, List.length_nil, List.cons_append, List.nil_append, List.append_nil, List.set, List.getElem?_cons_zero, List.getElem?_cons_succ, Nat.reduceAdd, Nat.reduceSub, decide_eq_true_eq, ne_eq, if_true, if_false, Bool.false_eq_true, true_and, and_true, Option.map, ite_self, oz_c, oz_i, c_eqI, Option.getD_some, Option.getD_none, List.foldl, Bool.and_true, Bool.and_self, Bool.not_true, Bool.not_false]
  refine ⟨by omega, wp_forI (fun left ρ => ∃ x2 x3 x4 x5 x6 x8, ρ = [none, some (.dat (feedD ns)), dz x2, dz x3, dz x4, dz x5, dz x6, none, dz x8]) ⟨none, none, none, none, none, none, rfl⟩ ?_ ?_⟩
  · rintro d r ρ ⟨x2, x3, x4, x5, x6, x8, rfl⟩
    rw [T_var]
    have : put [none, some (SV.dat (feedD ns)), dz x2, dz x3, dz x4, dz x5, dz x6, none, dz x8] 2 (.dat d) = [none, some (SV.dat (feedD ns)), dz (some d), dz x3, dz x4, dz x5, dz x6, none, dz x8] := by cases x2 <;> rfl
    rw [this]
    exact turn8 ns (x0 := none) rfl fun x2 x3 x4 x5 x6 x8 => ⟨x2, x3, x4, x5, x6, x8, rfl⟩
  · rintro ρ ⟨x2, x3, x4, x5, x6, x8, rfl⟩
    have O := opened8 (ks := []) (bs := []) (m := 0) (m' := 7) (fun d hd => by cases hd) (by simp) (by simp) (by simp)
    have P := openable8 (ks := [.int 3]) (bs := []) (m := 4) (m' := 7) (fun d hd => by rw [List.mem_singleton.mp hd]; exact ⟨3, by omega, rfl⟩) (by simp)
    have q : had [] [] = [] := rfl
    rw [q, List.map_nil] at O
    rw [List.map_nil] at P
    have O2 : m_opened [.tuple [], .tuple []] = .ret (.tuple [.tuple [], .tuple []]) := O
    have P2 : m_openable [.tuple [.int 3], .tuple []] = .ret (.tuple []) := P
    have sz : ∀ n : Nat, n ≤ 10 → n ≤ sizeLine := fun n h => sz0 _ (by omega)
    have C1 : cmp2 .eq (.tuple [.tuple [], .tuple []]) (.tuple [.tuple [], .tuple []]) = .ret (.bool true) := rfl
    have C2 : cmp2 .eq (.tuple []) (.tuple []) = .ret (.bool true) := rfl
    simp -implicitDefEqProofs only [↓X_nil, ↓X_cons, ↓X_asg, ↓X_asgO, ↓X_par, ↓X_bor, ↓X_app, ↓X_ext, ↓X_rmv, ↓X_popS, ↓X_appPop, ↓X_augI, ↓X_iff, ↓X_for, ↓X_ret, ↓X_retN, ↓X_cont, ↓X_brk, ↓X_pas, ↓X_expr, ↓X_frz, ↓X_run, ↓E_var, ↓E_cst, ↓E_glob, ↓E_fref, ↓E_nil, ↓E_cons, ↓E_tup, ↓E_lst, ↓E_call, ↓E_callk, ↓E_bi, ↓E_biIf, ↓E_isi, ↓E_bin, ↓E_cmp, ↓E_neg, ↓E_nt, ↓E_and, ↓E_or, ↓E_ifx, ↓E_idx, ↓E_sl, ↓E_rev, ↓E_rng1, ↓E_lrng, ↓E_trng, ↓E_lc, ↓E_upper, ↓E_step, ↓T_var, ↓T_tup, ↓T_nil, ↓T_cons, ↓W_bind, ↓W_ret, ↓W_need, ↓W_draw, ↓W_if', ↓kO_nx, ↓kO_ct, ↓kO_bk, ↓kO_rt, ↓kF_nx, ↓kF_ct, ↓kF_bk, ↓kF_rt, ↓kE_rt, ↓kE_nx, ↓kIf_t, ↓kIf_f, rdv, tst, itmv, optv, gs, gr, Pf.go, mkV, isFr, noOwn_eq, datOnly_eq, wip, tg_var, put_eq, chg, clr, clr_z, clr_o, clr_d, clr_b, clr_n, io_o, io_d, io_b, io_n, io_z, frzD, permD, SV.d, ls_l, in_i, it_l, it_t, t_b, bo_b, l_lst, l_tup, rev_l, rev_t, Pf.op_add, bi_int, c_lt, c_le, c_gt, c_ge, ev0, List.map_cons, List.map_nil, List.all_cons, List.all_nil, List.replicate, List.length_cons, List.length_nil, List.cons_append, List.nil_append, List.append_nil, List.set, List.getElem?_cons_zero, List.getElem?_cons_succ, Nat.reduceAdd, Nat.reduceSub, decide_eq_true_eq, ne_eq, if_true, if_false, Bool.false_eq_true, true_and, and_true, Option.map, ite_self, oz_c, oz_i, c_eqI, Option.getD_some, Option.getD_none, List.foldl, Bool.and_true, Bool.and_self, Bool.not_true, Bool.not_false, Fc_17_2, Fc_17_4, O2, P2, C1, C2]
    exact ⟨sz _ (by omega), sz _ (by omega), sz _ (by omega), sz _ (by omega), sz _ (by omega), sz _ (by omega), sz _ (by omega), sz _ (by omega)⟩
end K08
open PySem PySem.W PyProof.Rows
set_option maxRecDepth 100000 in
set_option maxHeartbeats 0 in
theorem PySem.Challenge.cw_sealshelf_k08_whole_opening_holds : PySem.Challenge.rw_sealshelf_k08_whole_opening.Holds := by
  w_on; o_law; k_head; (case hw => w_witness2)
  k_fill
  refine Pf.law_end (l := PySem.Challenge.rw_sealshelf_k08_whole_opening) (n := 63) (lv := 17 + 1) (nm := "_law_script") rfl (by decide) rfl ⟨rfl, by decide, by decide⟩ ?F
  intro w mg fA h Y G hmg
  have X := PySem.W.kIn_of Y
  refine' K08.finish K08.pure X G hmg ⟨_, (Pf.all_cons (Pf.dfn_in (d := K08.d_is_integer) X G K08.bd_is_integer K08.kb_is_integer ?a0 ?l0 ?c0 ?k0) (Pf.all_cons (Pf.dfn_in (d := K08.d_had_by) X G K08.bd_had_by K08.kb_had_by ?a1 ?l1 ?c1 ?k1) (Pf.all_cons (Pf.dfn_in (d := K08.d_opened) X G K08.bd_opened K08.kb_opened ?a2 ?l2 ?c2 ?k2) (Pf.all_cons (Pf.dfn_in (d := K08.d_opens) X G K08.bd_opens K08.kb_opens ?a3 ?l3 ?c3 ?k3) (Pf.all_cons (Pf.dfn_in (d := K08.d_openable) X G K08.bd_openable K08.kb_openable ?a4 ?l4 ?c4 ?k4) (Pf.all_cons (Pf.dfn_in (d := K08.d_law_feed) X G K08.bd_law_feed K08.kb_law_feed ?a5 ?l5 ?c5 ?k5) (Pf.all_cons (Pf.dfn_in (d := K08.d_law_draw) X G K08.bd_law_draw K08.kb_law_draw ?a6 ?l6 ?c6 ?k6) (Pf.all_cons (Pf.dfn_in (d := K08.d_law_key) X G K08.bd_law_key K08.kb_law_key ?a7 ?l7 ?c7 ?k7) (Pf.all_cons (Pf.dfn_in (d := K08.d_law_named) X G K08.bd_law_named K08.kb_law_named ?a8 ?l8 ?c8 ?k8) (Pf.all_cons (Pf.dfn_in (d := K08.d_law_page) X G K08.bd_law_page K08.kb_law_page ?a9 ?l9 ?c9 ?k9) (Pf.all_cons (Pf.dfn_in (d := K08.d_law_rises) X G K08.bd_law_rises K08.kb_law_rises ?a10 ?l10 ?c10 ?k10) (Pf.all_cons (Pf.dfn_in (d := K08.d_law_keyed) X G K08.bd_law_keyed K08.kb_law_keyed ?a11 ?l11 ?c11 ?k11) (Pf.all_cons (Pf.dfn_in (d := K08.d_law_paged) X G K08.bd_law_paged K08.kb_law_paged ?a12 ?l12 ?c12 ?k12) (Pf.all_cons (Pf.dfn_in (d := K08.d_law_grip) X G K08.bd_law_grip K08.kb_law_grip ?a13 ?l13 ?c13 ?k13) (Pf.all_cons (Pf.dfn_in (d := K08.d_law_begin) X G K08.bd_law_begin K08.kb_law_begin ?a14 ?l14 ?c14 ?k14) (Pf.all_cons (Pf.dfn_in (d := K08.d_law_lot) X G K08.bd_law_lot K08.kb_law_lot ?a15 ?l15 ?c15 ?k15) (Pf.all_cons (Pf.dfn_in (d := K08.d_law_within) X G K08.bd_law_within K08.kb_law_within ?a16 ?l16 ?c16 ?k16) (Pf.all_cons (Pf.dfn_in (d := K08.d_law_right) X G K08.bd_law_right K08.kb_law_right ?a17 ?l17 ?c17 ?k17) (Pf.all_cons (Pf.dfn_in (d := K08.d_law) X G K08.bd_law K08.kb_law ?a18 ?l18 ?c18 ?k18) Pf.all_nil)))))))))))))))))))⟩ ?B ?C
  (case a0 => k_is); (case l0 => k_is); (case c0 => k_is); (case k0 => k_is)
  (case a1 => k_is); (case l1 => k_is); (case c1 => k_is); (case k1 => k_is)
  (case a2 => k_is); (case l2 => k_is); (case c2 => k_is); (case k2 => k_is)
  (case a3 => k_is); (case l3 => k_is); (case c3 => k_is); (case k3 => k_is)
  (case a4 => k_is); (case l4 => k_is); (case c4 => k_is); (case k4 => k_is)
  (case a5 => k_is); (case l5 => k_is); (case c5 => k_is); (case k5 => k_is)
  (case a6 => k_is); (case l6 => k_is); (case c6 => k_is); (case k6 => k_is)
  (case a7 => k_is); (case l7 => k_is); (case c7 => k_is); (case k7 => k_is)
  (case a8 => k_is); (case l8 => k_is); (case c8 => k_is); (case k8 => k_is)
  (case a9 => k_is); (case l9 => k_is); (case c9 => k_is); (case k9 => k_is)
  (case a10 => k_is); (case l10 => k_is); (case c10 => k_is); (case k10 => k_is)
  (case a11 => k_is); (case l11 => k_is); (case c11 => k_is); (case k11 => k_is)
  (case a12 => k_is); (case l12 => k_is); (case c12 => k_is); (case k12 => k_is)
  (case a13 => k_is); (case l13 => k_is); (case c13 => k_is); (case k13 => k_is)
  (case a14 => k_is); (case l14 => k_is); (case c14 => k_is); (case k14 => k_is)
  (case a15 => k_is); (case l15 => k_is); (case c15 => k_is); (case k15 => k_is)
  (case a16 => k_is); (case l16 => k_is); (case c16 => k_is); (case k16 => k_is)
  (case a17 => k_is); (case l17 => k_is); (case c17 => k_is); (case k17 => k_is)
  (case a18 => k_is); (case l18 => k_is); (case c18 => k_is); (case k18 => k_is)
  case B =>
    intro x hx
    simp only [K08.bn, List.mem_cons, List.mem_nil_iff, or_false] at hx
    rcases hx with rfl | rfl | rfl | rfl | rfl | rfl | rfl | rfl | rfl | rfl | rfl | rfl | rfl | rfl <;> k_is
  case C =>
    intro p hp
    exact absurd hp (by intro z; cases z)
