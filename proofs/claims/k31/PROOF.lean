import PyProof.Rows.All
import Wide.All
import OpenK.AllK
import Wide.FinOn
import HandS.ForMost
import HandS.ForExc
import HandS.ForSpec
import HandS.Wide
import HandS.Deep
import KE.KDictKeyed
import KE.KDictWalk
import HandS.TupAny
import HandS.IsInst
import HandS.Codes
import HandS.Style
import HandS.TryOnly
import HandS.Defaults
import HandS.ExcIs
import HandS.ExcOwn
import HandS.HeadHook1
import HandS.Head0
import HandS.Head1
import HandS.Head2
import HandS.HeadEnd
import HandS.HeadHook2
import HandS.TupLe
import HandS.More
import HandS.Text
import HandS.SetFor
import HandS.HeadHook3
import PyProof.StrBlock2
import PyProof.ListStr
import PyProof.Rows.StrRev
import HandS.Sort
import PyProof.ListRange
import HandS.Iter
import HandS.Zip
import KE.GoesEnum
import KE.GoesZip
import HandS.ExcField
import HandS.ExcInit
import HandS.ClsMeth
import KE.KExcIs
import HandS.TupMul
import HandS.HotCalls
import HandS.SortInts
import PySem.Challenge.RW_fanglue_k31_first_words
set_option Elab.async false
set_option maxRecDepth 100000
set_option maxHeartbeats 4000000
namespace DL
open PySem
section
variable {prog : Program} {w : World} {A : Around} {E : Value → Shared → Prop} {s : Shared}
abbrev NK := NestedKey
abbrev KV3 := NK × Value × Value
def entN (w : World) (x : KV3) : DictEntry := ⟨x.1.hash w, x.2.1, x.2.2⟩
/-- no key is asked that tells anything -/
theorem mayTell_no {kv : Value} {k : NK} {S : List Value} {Q : Bool → Shared → Prop} (hk : NestedIs s.heap k kv) (hd : k.depth ≤ 8) (hS : ∀ v ∈ S, ∃ k' : NK, NestedIs s.heap k' v ∧ k'.depth ≤ 8) (h : Q false s) : wpAny (model prog w) A (tableMayTell kv S) Q E s := by
  unfold tableMayTell
  by_cases hE : S.isEmpty = true
  · rw [if_pos hE]
    exact wpAny_pure h
  · rw [if_neg hE]
    refine wpAny_bind (quiet_key k _ 8 s hk hd A E _ ?_)
    rw [if_neg (show ¬ (!true) = true by decide)]
    refine wpAny_bind ?_
    refine wpAny_forIn_list _ (fun rest r s' => r = (none, ()) ∧ s' = s ∧ ∀ v ∈ rest, v ∈ S) _ (fun v rest r s' I => ?_) (fun r s' I => ?_) _ _ ⟨rfl, rfl, fun v hv => hv⟩
    · obtain ⟨rfl, rfl, hr⟩ := I
      obtain ⟨k', q1, q2⟩ := hS v (hr v List.mem_cons_self)
      refine wpAny_bind (quiet_key k' v 8 s' q1 q2 A E _ ?_)
      rw [if_neg (show ¬ (!true) = true by decide)]
      exact wpAny_pure ⟨rfl, rfl, fun u hu => hr u (List.mem_cons_of_mem _ hu)⟩
    · obtain ⟨rfl, rfl, _⟩ := I
      exact wpAny_pure h
theorem dFind {d : Addr} {o : Obj} {es : Array DictEntry} {ep : Nat} {xs : List KV3} {k : NK} {kv : Value} {Q : Option Nat → Shared → Prop} (hu : A.units + 8 < cLine) (hk : NestedIs s.heap k kv) (hkd : k.depth ≤ 8) (hns : ∀ x t, kv ≠ .str x t)
    (ho : s.heap.get? d = some o) (hd : o.data = .dict es ep) (he : es.toList = xs.map (entN w)) (his : ∀ x ∈ xs, NestedIs s.heap x.1 x.2.1 ∧ x.1.depth ≤ 8) (hn : (xs.map (·.1)).Nodup)
    (hnone : (∀ x ∈ xs, x.1 ≠ k) → Q none s) (hsome : ∀ (j : Nat) (x : KV3), xs[j]? = some x → x.1 = k → Q (some j) s) : wpAny (model prog w) A (dictFind d kv (k.hash w)) Q E s := by
  have hE : ∀ j : Nat, es[j]? = (xs[j]?).map (entN w) := fun j => by rw [← Array.getElem?_toList, he, List.getElem?_map]
  have hsz : es.size = xs.length := by rw [← Array.length_toList, he, List.length_map]
  generalize hP : placesWithHash es.size (fun i => es[i]?.map (·.hash)) (k.hash w) = P
  have inP : ∀ i ∈ P, ∃ x, xs[i]? = some x ∧ es[i]? = some (entN w x) ∧ x.1.hash w = k.hash w := fun i hi => by
    rw [← hP] at hi
    have h2 : (es[i]?.map (·.hash) == some (k.hash w)) = true := (List.mem_filter.mp hi).2
    rw [hE i] at h2
    cases hx : xs[i]? with
    | none =>
      rw [hx] at h2
      cases h2
    | some x =>
      rw [hx] at h2
      refine ⟨x, rfl, by rw [hE i, hx]; rfl, ?_⟩
      have : some (x.1.hash w) = some (k.hash w) := beq_iff_eq.mp h2
      exact Option.some.inj this
  have outP : ∀ (j : Nat) (x : KV3), xs[j]? = some x → x.1 = k → j ∈ P := fun j x hx hk' => by
    rw [← hP]
    have hj : j < xs.length := (List.getElem?_eq_some_iff.mp hx).1
    refine List.mem_filter.mpr ⟨List.mem_range.mpr (by omega), ?_⟩
    show (es[j]?.map (·.hash) == some (k.hash w)) = true
    rw [hE j, hx]
    show (some (x.1.hash w) == some (k.hash w)) = true
    rw [hk']
    exact beq_self_eq_true _
  have one : ∀ (i j : Nat) (x y : KV3), xs[i]? = some x → xs[j]? = some y → x.1 = k → y.1 = k → i = j := fun i j x y hx hy ex ey => by
    have h1 : (xs.map (·.1))[i]? = some k := by rw [List.getElem?_map, hx]; exact congrArg some ex
    have h2 : (xs.map (·.1))[j]? = some k := by rw [List.getElem?_map, hy]; exact congrArg some ey
    exact (List.getElem?_inj (List.getElem?_eq_some_iff.mp h1).1 hn).mp (h1.trans h2.symm)
  have ndP : P.Nodup := by
    rw [← hP]
    exact List.nodup_range.filter _
  have allno : (∀ i ∈ P, ∀ x, xs[i]? = some x → x.1 ≠ k) → Q none s := fun h => hnone fun x hx ex => by
    obtain ⟨j, hj⟩ := List.mem_iff_getElem?.mp hx
    exact h j (outP j x hj ex) x hj ex
  have eqb : ∀ (i : Nat) (x : KV3) (R : Bool → Shared → Prop), xs[i]? = some x → R (decide (x.1 = k)) s → wpAny (model prog w) A (eqBool x.2.1 kv) R E s := fun i x R hx hR => by
    obtain ⟨q1, q2⟩ := his x (List.mem_of_getElem? hx)
    exact eqAt_key x.1 k A s _ _ q1 hk (by omega) _ _ _ _ (by rw [← NestedKey.decide_eq]; exact hR)
  have plain : wpAny (model prog w) A (dictWalkPlain d kv (k.hash w) es P) Q E s := by
    unfold dictWalkPlain
    refine wpAny_bind ?_
    refine wpAny_forIn_list _ (fun rest r s' => s' = s ∧ r = (none, ()) ∧ ∃ pre, P = pre ++ rest ∧ ∀ i ∈ pre, ∀ x, xs[i]? = some x → x.1 ≠ k) _ (fun i rest r s' I => ?_) (fun r s' I => ?_) _ _ ⟨rfl, rfl, [], rfl, fun i hi => by cases hi⟩
    · obtain ⟨rfl, rfl, pre, hpre, hno⟩ := I
      obtain ⟨x, hx, ex, hh⟩ := inP i (by rw [hpre]; exact List.mem_append_right _ List.mem_cons_self)
      rw [ex]
      dsimp only
      rw [if_pos (show ((entN w x).hash == k.hash w) = true by rw [show (entN w x).hash = x.1.hash w from rfl, hh]; exact beq_self_eq_true _)]
      refine wpAny_bind (wpAny_dictEpoch ho hd (wpAny_bind (eqb i x _ hx (wpAny_bind (wpAny_dictEpoch ho hd ?_)))))
      rw [if_neg (show ¬ (ep != ep) = true by simp)]
      by_cases hxk : x.1 = k
      · rw [decide_eq_true hxk, if_pos rfl]
        exact wpAny_bind (wpAny_rule (wpAny_pure (wpAny_pure (hsome i x hx hxk))))
      · rw [decide_eq_false hxk, if_neg Bool.false_ne_true]
        refine wpAny_bind (wpAny_rule (wpAny_pure ⟨rfl, rfl, pre ++ [i], by rw [hpre, List.append_assoc]; rfl, fun j hj y hy => ?_⟩))
        rcases List.mem_append.mp hj with q | q
        · exact hno j q y hy
        · rw [List.mem_singleton.mp q, hx] at hy
          cases hy
          exact hxk
    · obtain ⟨rfl, rfl, pre, hpre, hno⟩ := I
      rw [List.append_nil] at hpre
      exact wpAny_pure (allno fun i hi => hno i (by rw [← hpre]; exact hi))
  generalize hS : P.filterMap (fun i => es[i]?.map (·.key)) = S
  have inS : ∀ v ∈ S, ∃ k' : NK, NestedIs s.heap k' v ∧ k'.depth ≤ 8 := fun v hv => by
    rw [← hS] at hv
    obtain ⟨i, hi, e⟩ := List.mem_filterMap.mp hv
    obtain ⟨x, hx, ex, _⟩ := inP i hi
    rw [ex] at e
    cases e
    exact ⟨x.1, his x (List.mem_of_getElem? hx)⟩
  have same_h : ¬ (es.any fun e => e.key == kv && e.hash != k.hash w) = true := by
    rw [← Array.any_toList, List.any_eq_true]
    rintro ⟨e, hin, hc⟩
    rw [he] at hin
    obtain ⟨x, hx, rfl⟩ := List.mem_map.mp hin
    rw [Bool.and_eq_true] at hc
    have e1 : x.2.1 = kv := beq_iff_eq.mp hc.1
    have e2 : x.1 = k := NestedIs.inj _ _ _ (his x hx).1 (by rw [e1]; exact hk)
    have : (x.1.hash w != k.hash w) = true := hc.2
    rw [e2] at this
    simp at this
  unfold dictFind
  try with_reducible refine wpAny_holding ?_
  refine wpAny_bind (wpAny_dictEntries ho hd ?_)
  dsimp only
  rw [hP, hS]
  by_cases hall : (kv :: S).all carriedByValue = true
  · cases hk with
    | text x t => exact absurd rfl (hns x t)
    | none => rw [if_pos hall]; exact plain
    | bool e => rw [if_pos hall]; exact plain
    | int i t => rw [if_pos hall]; exact plain
    | tup _ _ _ _ => simp [carriedByValue] at hall
  · have hq0 : ∀ (R : Bool → Shared → Prop), R false s → wpAny (model prog w) A (tableMayTell kv S) R E s := fun R h => mayTell_no hk hkd inS h
    have kinds : kv = .none ∨ (∃ b, kv = .bool b) ∨ (∃ i t, kv = .int i t) ∨ ∃ a, kv = .ref a := by
      cases hk with
      | text x t => exact absurd rfl (hns x t)
      | none => exact .inl rfl
      | bool e => exact .inr (.inl ⟨_, rfl⟩)
      | int i0 t => exact .inr (.inr (.inl ⟨_, _, rfl⟩))
      | tup _ _ _ _ => exact .inr (.inr (.inr ⟨_, rfl⟩))
    by_cases hone : (S == [kv]) = true
    · rcases kinds with rfl | ⟨b0, rfl⟩ | ⟨i0, t0, rfl⟩ | ⟨a0, rfl⟩
      · rw [if_neg hall, if_pos hone]
        refine wpAny_bind (wpAny_pure ?_)
        rw [if_neg (show ¬ (false && decide (S.length ≥ 2)) = true by simp)]
        refine wpAny_bind ?_
        refine wpAny_forIn_list _ (fun rest r s' => s' = s ∧ r.1 = none ∧ ∃ pre, P = pre ++ rest ∧ ((r.2 = none ∧ ∀ i ∈ pre, ∀ x, xs[i]? = some x → x.1 ≠ k) ∨ ∃ i x, i ∈ pre ∧ r.2 = some i ∧ xs[i]? = some x ∧ x.1 = k)) _ (fun i rest r s' I => ?_) (fun r s' I => ?_) _ _ ⟨rfl, rfl, [], rfl, .inl ⟨rfl, fun i hi => by cases hi⟩⟩
        · obtain ⟨rfl, hr1, pre, hpre, hh0⟩ := I
          obtain ⟨x, hx, ex, hh⟩ := inP i (by rw [hpre]; exact List.mem_append_right _ List.mem_cons_self)
          have hnp : i ∉ pre := fun z => by
            rw [hpre] at ndP
            exact (List.nodup_append.mp ndP).2.2 i z i List.mem_cons_self rfl
          rw [ex]
          dsimp only
          rw [if_pos (show ((entN w x).hash == k.hash w) = true by rw [show (entN w x).hash = x.1.hash w from rfl, hh]; exact beq_self_eq_true _)]
          refine wpAny_bind (wpAny_dictEpoch ho hd (wpAny_bind (eqb i x _ hx (wpAny_bind (wpAny_dictEpoch ho hd ?_)))))
          rw [if_neg (show ¬ (ep != ep) = true by simp)]
          by_cases hxk : x.1 = k
          · rw [decide_eq_true hxk, if_pos rfl]
            have hr2 : r.2 = none := by
              rcases hh0 with ⟨q, _⟩ | ⟨j, y, hj, _, hy, ey⟩
              · exact q
              · exact absurd (one i j x y hx hy hxk ey ▸ hj) hnp
            rw [if_neg (show ¬ r.2.isSome = true by rw [hr2]; simp)]
            refine wpAny_bind (wpAny_rule ?_)
            split
            · exact wpAny_pure (wpAny_pure (hsome i x hx hxk))
            · exact wpAny_pure ⟨rfl, rfl, pre ++ [i], by rw [hpre, List.append_assoc]; rfl, .inr ⟨i, x, List.mem_append_right _ (List.mem_singleton.mpr rfl), rfl, hx, hxk⟩⟩
          · rw [decide_eq_false hxk, if_neg Bool.false_ne_true]
            refine wpAny_bind (wpAny_rule ?_)
            rw [if_neg (by simp)]
            refine wpAny_pure ⟨rfl, rfl, pre ++ [i], by rw [hpre, List.append_assoc]; rfl, ?_⟩
            rcases hh0 with ⟨q1, q2⟩ | ⟨j, y, hj, q, hy, ey⟩
            · refine .inl ⟨q1, fun j hj y hy => ?_⟩
              rcases List.mem_append.mp hj with z | z
              · exact q2 j z y hy
              · rw [List.mem_singleton.mp z, hx] at hy
                cases hy
                exact hxk
            · exact .inr ⟨j, y, List.mem_append_left _ hj, q, hy, ey⟩
        · obtain ⟨rfl, hr1, pre, hpre, hh0⟩ := I
          rw [List.append_nil] at hpre
          rw [hr1]
          rcases hh0 with ⟨q1, q2⟩ | ⟨j, y, hj, q, hy, ey⟩
          · show wpAny _ _ (pure r.2) _ _ _
            rw [q1]
            exact wpAny_pure (allno fun i hi => q2 i (by rw [← hpre]; exact hi))
          · show wpAny _ _ (pure r.2) _ _ _
            rw [q]
            exact wpAny_pure (hsome j y hy ey)
      · rw [if_neg hall, if_pos hone]
        refine wpAny_bind (wpAny_pure ?_)
        rw [if_neg (show ¬ (false && decide (S.length ≥ 2)) = true by simp)]
        refine wpAny_bind ?_
        refine wpAny_forIn_list _ (fun rest r s' => s' = s ∧ r.1 = none ∧ ∃ pre, P = pre ++ rest ∧ ((r.2 = none ∧ ∀ i ∈ pre, ∀ x, xs[i]? = some x → x.1 ≠ k) ∨ ∃ i x, i ∈ pre ∧ r.2 = some i ∧ xs[i]? = some x ∧ x.1 = k)) _ (fun i rest r s' I => ?_) (fun r s' I => ?_) _ _ ⟨rfl, rfl, [], rfl, .inl ⟨rfl, fun i hi => by cases hi⟩⟩
        · obtain ⟨rfl, hr1, pre, hpre, hh0⟩ := I
          obtain ⟨x, hx, ex, hh⟩ := inP i (by rw [hpre]; exact List.mem_append_right _ List.mem_cons_self)
          have hnp : i ∉ pre := fun z => by
            rw [hpre] at ndP
            exact (List.nodup_append.mp ndP).2.2 i z i List.mem_cons_self rfl
          rw [ex]
          dsimp only
          rw [if_pos (show ((entN w x).hash == k.hash w) = true by rw [show (entN w x).hash = x.1.hash w from rfl, hh]; exact beq_self_eq_true _)]
          refine wpAny_bind (wpAny_dictEpoch ho hd (wpAny_bind (eqb i x _ hx (wpAny_bind (wpAny_dictEpoch ho hd ?_)))))
          rw [if_neg (show ¬ (ep != ep) = true by simp)]
          by_cases hxk : x.1 = k
          · rw [decide_eq_true hxk, if_pos rfl]
            have hr2 : r.2 = none := by
              rcases hh0 with ⟨q, _⟩ | ⟨j, y, hj, _, hy, ey⟩
              · exact q
              · exact absurd (one i j x y hx hy hxk ey ▸ hj) hnp
            rw [if_neg (show ¬ r.2.isSome = true by rw [hr2]; simp)]
            refine wpAny_bind (wpAny_rule ?_)
            split
            · exact wpAny_pure (wpAny_pure (hsome i x hx hxk))
            · exact wpAny_pure ⟨rfl, rfl, pre ++ [i], by rw [hpre, List.append_assoc]; rfl, .inr ⟨i, x, List.mem_append_right _ (List.mem_singleton.mpr rfl), rfl, hx, hxk⟩⟩
          · rw [decide_eq_false hxk, if_neg Bool.false_ne_true]
            refine wpAny_bind (wpAny_rule ?_)
            rw [if_neg (by simp)]
            refine wpAny_pure ⟨rfl, rfl, pre ++ [i], by rw [hpre, List.append_assoc]; rfl, ?_⟩
            rcases hh0 with ⟨q1, q2⟩ | ⟨j, y, hj, q, hy, ey⟩
            · refine .inl ⟨q1, fun j hj y hy => ?_⟩
              rcases List.mem_append.mp hj with z | z
              · exact q2 j z y hy
              · rw [List.mem_singleton.mp z, hx] at hy
                cases hy
                exact hxk
            · exact .inr ⟨j, y, List.mem_append_left _ hj, q, hy, ey⟩
        · obtain ⟨rfl, hr1, pre, hpre, hh0⟩ := I
          rw [List.append_nil] at hpre
          rw [hr1]
          rcases hh0 with ⟨q1, q2⟩ | ⟨j, y, hj, q, hy, ey⟩
          · show wpAny _ _ (pure r.2) _ _ _
            rw [q1]
            exact wpAny_pure (allno fun i hi => q2 i (by rw [← hpre]; exact hi))
          · show wpAny _ _ (pure r.2) _ _ _
            rw [q]
            exact wpAny_pure (hsome j y hy ey)
      · rw [if_neg hall, if_pos hone]
        refine wpAny_bind (wpAny_pure ?_)
        rw [if_neg (show ¬ (false && decide (S.length ≥ 2)) = true by simp)]
        refine wpAny_bind ?_
        refine wpAny_forIn_list _ (fun rest r s' => s' = s ∧ r.1 = none ∧ ∃ pre, P = pre ++ rest ∧ ((r.2 = none ∧ ∀ i ∈ pre, ∀ x, xs[i]? = some x → x.1 ≠ k) ∨ ∃ i x, i ∈ pre ∧ r.2 = some i ∧ xs[i]? = some x ∧ x.1 = k)) _ (fun i rest r s' I => ?_) (fun r s' I => ?_) _ _ ⟨rfl, rfl, [], rfl, .inl ⟨rfl, fun i hi => by cases hi⟩⟩
        · obtain ⟨rfl, hr1, pre, hpre, hh0⟩ := I
          obtain ⟨x, hx, ex, hh⟩ := inP i (by rw [hpre]; exact List.mem_append_right _ List.mem_cons_self)
          have hnp : i ∉ pre := fun z => by
            rw [hpre] at ndP
            exact (List.nodup_append.mp ndP).2.2 i z i List.mem_cons_self rfl
          rw [ex]
          dsimp only
          rw [if_pos (show ((entN w x).hash == k.hash w) = true by rw [show (entN w x).hash = x.1.hash w from rfl, hh]; exact beq_self_eq_true _)]
          refine wpAny_bind (wpAny_dictEpoch ho hd (wpAny_bind (eqb i x _ hx (wpAny_bind (wpAny_dictEpoch ho hd ?_)))))
          rw [if_neg (show ¬ (ep != ep) = true by simp)]
          by_cases hxk : x.1 = k
          · rw [decide_eq_true hxk, if_pos rfl]
            have hr2 : r.2 = none := by
              rcases hh0 with ⟨q, _⟩ | ⟨j, y, hj, _, hy, ey⟩
              · exact q
              · exact absurd (one i j x y hx hy hxk ey ▸ hj) hnp
            rw [if_neg (show ¬ r.2.isSome = true by rw [hr2]; simp)]
            refine wpAny_bind (wpAny_rule ?_)
            split
            · exact wpAny_pure (wpAny_pure (hsome i x hx hxk))
            · exact wpAny_pure ⟨rfl, rfl, pre ++ [i], by rw [hpre, List.append_assoc]; rfl, .inr ⟨i, x, List.mem_append_right _ (List.mem_singleton.mpr rfl), rfl, hx, hxk⟩⟩
          · rw [decide_eq_false hxk, if_neg Bool.false_ne_true]
            refine wpAny_bind (wpAny_rule ?_)
            rw [if_neg (by simp)]
            refine wpAny_pure ⟨rfl, rfl, pre ++ [i], by rw [hpre, List.append_assoc]; rfl, ?_⟩
            rcases hh0 with ⟨q1, q2⟩ | ⟨j, y, hj, q, hy, ey⟩
            · refine .inl ⟨q1, fun j hj y hy => ?_⟩
              rcases List.mem_append.mp hj with z | z
              · exact q2 j z y hy
              · rw [List.mem_singleton.mp z, hx] at hy
                cases hy
                exact hxk
            · exact .inr ⟨j, y, List.mem_append_left _ hj, q, hy, ey⟩
        · obtain ⟨rfl, hr1, pre, hpre, hh0⟩ := I
          rw [List.append_nil] at hpre
          rw [hr1]
          rcases hh0 with ⟨q1, q2⟩ | ⟨j, y, hj, q, hy, ey⟩
          · show wpAny _ _ (pure r.2) _ _ _
            rw [q1]
            exact wpAny_pure (allno fun i hi => q2 i (by rw [← hpre]; exact hi))
          · show wpAny _ _ (pure r.2) _ _ _
            rw [q]
            exact wpAny_pure (hsome j y hy ey)
      · rw [if_neg hall, if_neg same_h, if_pos hone]
        refine wpAny_bind (wpAny_pure ?_)
        rw [if_neg (show ¬ (false && decide (S.length ≥ 2)) = true by simp)]
        refine wpAny_bind ?_
        refine wpAny_forIn_list _ (fun rest r s' => s' = s ∧ r.1 = none ∧ ∃ pre, P = pre ++ rest ∧ ((r.2 = none ∧ ∀ i ∈ pre, ∀ x, xs[i]? = some x → x.1 ≠ k) ∨ ∃ i x, i ∈ pre ∧ r.2 = some i ∧ xs[i]? = some x ∧ x.1 = k)) _ (fun i rest r s' I => ?_) (fun r s' I => ?_) _ _ ⟨rfl, rfl, [], rfl, .inl ⟨rfl, fun i hi => by cases hi⟩⟩
        · obtain ⟨rfl, hr1, pre, hpre, hh0⟩ := I
          obtain ⟨x, hx, ex, hh⟩ := inP i (by rw [hpre]; exact List.mem_append_right _ List.mem_cons_self)
          have hnp : i ∉ pre := fun z => by
            rw [hpre] at ndP
            exact (List.nodup_append.mp ndP).2.2 i z i List.mem_cons_self rfl
          rw [ex]
          dsimp only
          rw [if_pos (show ((entN w x).hash == k.hash w) = true by rw [show (entN w x).hash = x.1.hash w from rfl, hh]; exact beq_self_eq_true _)]
          refine wpAny_bind (wpAny_dictEpoch ho hd (wpAny_bind (eqb i x _ hx (wpAny_bind (wpAny_dictEpoch ho hd ?_)))))
          rw [if_neg (show ¬ (ep != ep) = true by simp)]
          by_cases hxk : x.1 = k
          · rw [decide_eq_true hxk, if_pos rfl]
            have hr2 : r.2 = none := by
              rcases hh0 with ⟨q, _⟩ | ⟨j, y, hj, _, hy, ey⟩
              · exact q
              · exact absurd (one i j x y hx hy hxk ey ▸ hj) hnp
            rw [if_neg (show ¬ r.2.isSome = true by rw [hr2]; simp)]
            refine wpAny_bind (wpAny_rule ?_)
            split
            · exact wpAny_pure (wpAny_pure (hsome i x hx hxk))
            · exact wpAny_pure ⟨rfl, rfl, pre ++ [i], by rw [hpre, List.append_assoc]; rfl, .inr ⟨i, x, List.mem_append_right _ (List.mem_singleton.mpr rfl), rfl, hx, hxk⟩⟩
          · rw [decide_eq_false hxk, if_neg Bool.false_ne_true]
            refine wpAny_bind (wpAny_rule ?_)
            rw [if_neg (by simp)]
            refine wpAny_pure ⟨rfl, rfl, pre ++ [i], by rw [hpre, List.append_assoc]; rfl, ?_⟩
            rcases hh0 with ⟨q1, q2⟩ | ⟨j, y, hj, q, hy, ey⟩
            · refine .inl ⟨q1, fun j hj y hy => ?_⟩
              rcases List.mem_append.mp hj with z | z
              · exact q2 j z y hy
              · rw [List.mem_singleton.mp z, hx] at hy
                cases hy
                exact hxk
            · exact .inr ⟨j, y, List.mem_append_left _ hj, q, hy, ey⟩
        · obtain ⟨rfl, hr1, pre, hpre, hh0⟩ := I
          rw [List.append_nil] at hpre
          rw [hr1]
          rcases hh0 with ⟨q1, q2⟩ | ⟨j, y, hj, q, hy, ey⟩
          · show wpAny _ _ (pure r.2) _ _ _
            rw [q1]
            exact wpAny_pure (allno fun i hi => q2 i (by rw [← hpre]; exact hi))
          · show wpAny _ _ (pure r.2) _ _ _
            rw [q]
            exact wpAny_pure (hsome j y hy ey)
    · rcases kinds with rfl | ⟨b0, rfl⟩ | ⟨i0, t0, rfl⟩ | ⟨a0, rfl⟩
      · rw [if_neg hall, if_neg hone]
        refine wpAny_bind (hq0 _ ?_)
        rw [if_neg (show ¬ (false && decide (S.length ≥ 2)) = true by simp)]
        refine wpAny_bind ?_
        refine wpAny_forIn_list _ (fun rest r s' => s' = s ∧ r.1 = none ∧ ∃ pre, P = pre ++ rest ∧ ((r.2 = none ∧ ∀ i ∈ pre, ∀ x, xs[i]? = some x → x.1 ≠ k) ∨ ∃ i x, i ∈ pre ∧ r.2 = some i ∧ xs[i]? = some x ∧ x.1 = k)) _ (fun i rest r s' I => ?_) (fun r s' I => ?_) _ _ ⟨rfl, rfl, [], rfl, .inl ⟨rfl, fun i hi => by cases hi⟩⟩
        · obtain ⟨rfl, hr1, pre, hpre, hh0⟩ := I
          obtain ⟨x, hx, ex, hh⟩ := inP i (by rw [hpre]; exact List.mem_append_right _ List.mem_cons_self)
          have hnp : i ∉ pre := fun z => by
            rw [hpre] at ndP
            exact (List.nodup_append.mp ndP).2.2 i z i List.mem_cons_self rfl
          rw [ex]
          dsimp only
          rw [if_pos (show ((entN w x).hash == k.hash w) = true by rw [show (entN w x).hash = x.1.hash w from rfl, hh]; exact beq_self_eq_true _)]
          refine wpAny_bind (wpAny_dictEpoch ho hd (wpAny_bind (eqb i x _ hx (wpAny_bind (wpAny_dictEpoch ho hd ?_)))))
          rw [if_neg (show ¬ (ep != ep) = true by simp)]
          by_cases hxk : x.1 = k
          · rw [decide_eq_true hxk, if_pos rfl]
            have hr2 : r.2 = none := by
              rcases hh0 with ⟨q, _⟩ | ⟨j, y, hj, _, hy, ey⟩
              · exact q
              · exact absurd (one i j x y hx hy hxk ey ▸ hj) hnp
            rw [if_neg (show ¬ r.2.isSome = true by rw [hr2]; simp)]
            refine wpAny_bind (wpAny_rule ?_)
            split
            · exact wpAny_pure (wpAny_pure (hsome i x hx hxk))
            · exact wpAny_pure ⟨rfl, rfl, pre ++ [i], by rw [hpre, List.append_assoc]; rfl, .inr ⟨i, x, List.mem_append_right _ (List.mem_singleton.mpr rfl), rfl, hx, hxk⟩⟩
          · rw [decide_eq_false hxk, if_neg Bool.false_ne_true]
            refine wpAny_bind (wpAny_rule ?_)
            rw [if_neg (by simp)]
            refine wpAny_pure ⟨rfl, rfl, pre ++ [i], by rw [hpre, List.append_assoc]; rfl, ?_⟩
            rcases hh0 with ⟨q1, q2⟩ | ⟨j, y, hj, q, hy, ey⟩
            · refine .inl ⟨q1, fun j hj y hy => ?_⟩
              rcases List.mem_append.mp hj with z | z
              · exact q2 j z y hy
              · rw [List.mem_singleton.mp z, hx] at hy
                cases hy
                exact hxk
            · exact .inr ⟨j, y, List.mem_append_left _ hj, q, hy, ey⟩
        · obtain ⟨rfl, hr1, pre, hpre, hh0⟩ := I
          rw [List.append_nil] at hpre
          rw [hr1]
          rcases hh0 with ⟨q1, q2⟩ | ⟨j, y, hj, q, hy, ey⟩
          · show wpAny _ _ (pure r.2) _ _ _
            rw [q1]
            exact wpAny_pure (allno fun i hi => q2 i (by rw [← hpre]; exact hi))
          · show wpAny _ _ (pure r.2) _ _ _
            rw [q]
            exact wpAny_pure (hsome j y hy ey)
      · rw [if_neg hall, if_neg hone]
        refine wpAny_bind (hq0 _ ?_)
        rw [if_neg (show ¬ (false && decide (S.length ≥ 2)) = true by simp)]
        refine wpAny_bind ?_
        refine wpAny_forIn_list _ (fun rest r s' => s' = s ∧ r.1 = none ∧ ∃ pre, P = pre ++ rest ∧ ((r.2 = none ∧ ∀ i ∈ pre, ∀ x, xs[i]? = some x → x.1 ≠ k) ∨ ∃ i x, i ∈ pre ∧ r.2 = some i ∧ xs[i]? = some x ∧ x.1 = k)) _ (fun i rest r s' I => ?_) (fun r s' I => ?_) _ _ ⟨rfl, rfl, [], rfl, .inl ⟨rfl, fun i hi => by cases hi⟩⟩
        · obtain ⟨rfl, hr1, pre, hpre, hh0⟩ := I
          obtain ⟨x, hx, ex, hh⟩ := inP i (by rw [hpre]; exact List.mem_append_right _ List.mem_cons_self)
          have hnp : i ∉ pre := fun z => by
            rw [hpre] at ndP
            exact (List.nodup_append.mp ndP).2.2 i z i List.mem_cons_self rfl
          rw [ex]
          dsimp only
          rw [if_pos (show ((entN w x).hash == k.hash w) = true by rw [show (entN w x).hash = x.1.hash w from rfl, hh]; exact beq_self_eq_true _)]
          refine wpAny_bind (wpAny_dictEpoch ho hd (wpAny_bind (eqb i x _ hx (wpAny_bind (wpAny_dictEpoch ho hd ?_)))))
          rw [if_neg (show ¬ (ep != ep) = true by simp)]
          by_cases hxk : x.1 = k
          · rw [decide_eq_true hxk, if_pos rfl]
            have hr2 : r.2 = none := by
              rcases hh0 with ⟨q, _⟩ | ⟨j, y, hj, _, hy, ey⟩
              · exact q
              · exact absurd (one i j x y hx hy hxk ey ▸ hj) hnp
            rw [if_neg (show ¬ r.2.isSome = true by rw [hr2]; simp)]
            refine wpAny_bind (wpAny_rule ?_)
            split
            · exact wpAny_pure (wpAny_pure (hsome i x hx hxk))
            · exact wpAny_pure ⟨rfl, rfl, pre ++ [i], by rw [hpre, List.append_assoc]; rfl, .inr ⟨i, x, List.mem_append_right _ (List.mem_singleton.mpr rfl), rfl, hx, hxk⟩⟩
          · rw [decide_eq_false hxk, if_neg Bool.false_ne_true]
            refine wpAny_bind (wpAny_rule ?_)
            rw [if_neg (by simp)]
            refine wpAny_pure ⟨rfl, rfl, pre ++ [i], by rw [hpre, List.append_assoc]; rfl, ?_⟩
            rcases hh0 with ⟨q1, q2⟩ | ⟨j, y, hj, q, hy, ey⟩
            · refine .inl ⟨q1, fun j hj y hy => ?_⟩
              rcases List.mem_append.mp hj with z | z
              · exact q2 j z y hy
              · rw [List.mem_singleton.mp z, hx] at hy
                cases hy
                exact hxk
            · exact .inr ⟨j, y, List.mem_append_left _ hj, q, hy, ey⟩
        · obtain ⟨rfl, hr1, pre, hpre, hh0⟩ := I
          rw [List.append_nil] at hpre
          rw [hr1]
          rcases hh0 with ⟨q1, q2⟩ | ⟨j, y, hj, q, hy, ey⟩
          · show wpAny _ _ (pure r.2) _ _ _
            rw [q1]
            exact wpAny_pure (allno fun i hi => q2 i (by rw [← hpre]; exact hi))
          · show wpAny _ _ (pure r.2) _ _ _
            rw [q]
            exact wpAny_pure (hsome j y hy ey)
      · rw [if_neg hall, if_neg hone]
        refine wpAny_bind (hq0 _ ?_)
        rw [if_neg (show ¬ (false && decide (S.length ≥ 2)) = true by simp)]
        refine wpAny_bind ?_
        refine wpAny_forIn_list _ (fun rest r s' => s' = s ∧ r.1 = none ∧ ∃ pre, P = pre ++ rest ∧ ((r.2 = none ∧ ∀ i ∈ pre, ∀ x, xs[i]? = some x → x.1 ≠ k) ∨ ∃ i x, i ∈ pre ∧ r.2 = some i ∧ xs[i]? = some x ∧ x.1 = k)) _ (fun i rest r s' I => ?_) (fun r s' I => ?_) _ _ ⟨rfl, rfl, [], rfl, .inl ⟨rfl, fun i hi => by cases hi⟩⟩
        · obtain ⟨rfl, hr1, pre, hpre, hh0⟩ := I
          obtain ⟨x, hx, ex, hh⟩ := inP i (by rw [hpre]; exact List.mem_append_right _ List.mem_cons_self)
          have hnp : i ∉ pre := fun z => by
            rw [hpre] at ndP
            exact (List.nodup_append.mp ndP).2.2 i z i List.mem_cons_self rfl
          rw [ex]
          dsimp only
          rw [if_pos (show ((entN w x).hash == k.hash w) = true by rw [show (entN w x).hash = x.1.hash w from rfl, hh]; exact beq_self_eq_true _)]
          refine wpAny_bind (wpAny_dictEpoch ho hd (wpAny_bind (eqb i x _ hx (wpAny_bind (wpAny_dictEpoch ho hd ?_)))))
          rw [if_neg (show ¬ (ep != ep) = true by simp)]
          by_cases hxk : x.1 = k
          · rw [decide_eq_true hxk, if_pos rfl]
            have hr2 : r.2 = none := by
              rcases hh0 with ⟨q, _⟩ | ⟨j, y, hj, _, hy, ey⟩
              · exact q
              · exact absurd (one i j x y hx hy hxk ey ▸ hj) hnp
            rw [if_neg (show ¬ r.2.isSome = true by rw [hr2]; simp)]
            refine wpAny_bind (wpAny_rule ?_)
            split
            · exact wpAny_pure (wpAny_pure (hsome i x hx hxk))
            · exact wpAny_pure ⟨rfl, rfl, pre ++ [i], by rw [hpre, List.append_assoc]; rfl, .inr ⟨i, x, List.mem_append_right _ (List.mem_singleton.mpr rfl), rfl, hx, hxk⟩⟩
          · rw [decide_eq_false hxk, if_neg Bool.false_ne_true]
            refine wpAny_bind (wpAny_rule ?_)
            rw [if_neg (by simp)]
            refine wpAny_pure ⟨rfl, rfl, pre ++ [i], by rw [hpre, List.append_assoc]; rfl, ?_⟩
            rcases hh0 with ⟨q1, q2⟩ | ⟨j, y, hj, q, hy, ey⟩
            · refine .inl ⟨q1, fun j hj y hy => ?_⟩
              rcases List.mem_append.mp hj with z | z
              · exact q2 j z y hy
              · rw [List.mem_singleton.mp z, hx] at hy
                cases hy
                exact hxk
            · exact .inr ⟨j, y, List.mem_append_left _ hj, q, hy, ey⟩
        · obtain ⟨rfl, hr1, pre, hpre, hh0⟩ := I
          rw [List.append_nil] at hpre
          rw [hr1]
          rcases hh0 with ⟨q1, q2⟩ | ⟨j, y, hj, q, hy, ey⟩
          · show wpAny _ _ (pure r.2) _ _ _
            rw [q1]
            exact wpAny_pure (allno fun i hi => q2 i (by rw [← hpre]; exact hi))
          · show wpAny _ _ (pure r.2) _ _ _
            rw [q]
            exact wpAny_pure (hsome j y hy ey)
      · rw [if_neg hall, if_neg same_h, if_neg hone]
        refine wpAny_bind (hq0 _ ?_)
        rw [if_neg (show ¬ (false && decide (S.length ≥ 2)) = true by simp)]
        refine wpAny_bind ?_
        refine wpAny_forIn_list _ (fun rest r s' => s' = s ∧ r.1 = none ∧ ∃ pre, P = pre ++ rest ∧ ((r.2 = none ∧ ∀ i ∈ pre, ∀ x, xs[i]? = some x → x.1 ≠ k) ∨ ∃ i x, i ∈ pre ∧ r.2 = some i ∧ xs[i]? = some x ∧ x.1 = k)) _ (fun i rest r s' I => ?_) (fun r s' I => ?_) _ _ ⟨rfl, rfl, [], rfl, .inl ⟨rfl, fun i hi => by cases hi⟩⟩
        · obtain ⟨rfl, hr1, pre, hpre, hh0⟩ := I
          obtain ⟨x, hx, ex, hh⟩ := inP i (by rw [hpre]; exact List.mem_append_right _ List.mem_cons_self)
          have hnp : i ∉ pre := fun z => by
            rw [hpre] at ndP
            exact (List.nodup_append.mp ndP).2.2 i z i List.mem_cons_self rfl
          rw [ex]
          dsimp only
          rw [if_pos (show ((entN w x).hash == k.hash w) = true by rw [show (entN w x).hash = x.1.hash w from rfl, hh]; exact beq_self_eq_true _)]
          refine wpAny_bind (wpAny_dictEpoch ho hd (wpAny_bind (eqb i x _ hx (wpAny_bind (wpAny_dictEpoch ho hd ?_)))))
          rw [if_neg (show ¬ (ep != ep) = true by simp)]
          by_cases hxk : x.1 = k
          · rw [decide_eq_true hxk, if_pos rfl]
            have hr2 : r.2 = none := by
              rcases hh0 with ⟨q, _⟩ | ⟨j, y, hj, _, hy, ey⟩
              · exact q
              · exact absurd (one i j x y hx hy hxk ey ▸ hj) hnp
            rw [if_neg (show ¬ r.2.isSome = true by rw [hr2]; simp)]
            refine wpAny_bind (wpAny_rule ?_)
            split
            · exact wpAny_pure (wpAny_pure (hsome i x hx hxk))
            · exact wpAny_pure ⟨rfl, rfl, pre ++ [i], by rw [hpre, List.append_assoc]; rfl, .inr ⟨i, x, List.mem_append_right _ (List.mem_singleton.mpr rfl), rfl, hx, hxk⟩⟩
          · rw [decide_eq_false hxk, if_neg Bool.false_ne_true]
            refine wpAny_bind (wpAny_rule ?_)
            rw [if_neg (by simp)]
            refine wpAny_pure ⟨rfl, rfl, pre ++ [i], by rw [hpre, List.append_assoc]; rfl, ?_⟩
            rcases hh0 with ⟨q1, q2⟩ | ⟨j, y, hj, q, hy, ey⟩
            · refine .inl ⟨q1, fun j hj y hy => ?_⟩
              rcases List.mem_append.mp hj with z | z
              · exact q2 j z y hy
              · rw [List.mem_singleton.mp z, hx] at hy
                cases hy
                exact hxk
            · exact .inr ⟨j, y, List.mem_append_left _ hj, q, hy, ey⟩
        · obtain ⟨rfl, hr1, pre, hpre, hh0⟩ := I
          rw [List.append_nil] at hpre
          rw [hr1]
          rcases hh0 with ⟨q1, q2⟩ | ⟨j, y, hj, q, hy, ey⟩
          · show wpAny _ _ (pure r.2) _ _ _
            rw [q1]
            exact wpAny_pure (allno fun i hi => q2 i (by rw [← hpre]; exact hi))
          · show wpAny _ _ (pure r.2) _ _ _
            rw [q]
            exact wpAny_pure (hsome j y hy ey)
end
end DL
set_option Elab.async false
set_option maxRecDepth 100000
set_option maxHeartbeats 4000000
namespace DL
open PySem
def DctN (w : World) (h : Heap) (d : Addr) (xs : List KV3) : Prop := ∃ o es ep, h.get? d = some o ∧ o.ExactDict ∧ o.data = .dict es ep ∧ es.toList = xs.map (entN w)
def KeysN (h : Heap) (xs : List KV3) : Prop := (∀ x ∈ xs, NestedIs h x.1 x.2.1 ∧ x.1.depth ≤ 8) ∧ (xs.map (·.1)).Nodup
def getN (xs : List KV3) (k : NK) : Option Value := (xs.find? fun x => decide (x.1 = k)).map (·.2.2)
def putN (xs : List KV3) (k : NK) (kv v : Value) : List KV3 := if (getN xs k).isSome then xs.map (fun x => if x.1 = k then (x.1, x.2.1, v) else x) else xs ++ [(k, kv, v)]
theorem getN_none {xs : List KV3} {k : NK} (h : ∀ x ∈ xs, x.1 ≠ k) : getN xs k = none := by
  unfold getN
  rw [List.find?_eq_none.mpr fun x hx => by simpa using h x hx]
  rfl
theorem getN_some {k : NK} : ∀ {xs : List KV3} {j : Nat} {x : KV3}, (xs.map (·.1)).Nodup → xs[j]? = some x → x.1 = k → getN xs k = some x.2.2
  | [], j, x, _, h, _ => by simp at h
  | y :: xs, 0, x, hn, h, e => by
    simp only [List.getElem?_cons_zero, Option.some.injEq] at h
    subst h
    unfold getN
    rw [List.find?_cons_of_pos (by simpa using e)]
    rfl
  | y :: xs, j + 1, x, hn, h, e => by
    rw [List.getElem?_cons_succ] at h
    rw [List.map_cons, List.nodup_cons] at hn
    have ne : y.1 ≠ k := fun q => hn.1 (by rw [q, ← e]; exact List.mem_map.mpr ⟨x, List.mem_of_getElem? h, rfl⟩)
    have ih := getN_some (k := k) hn.2 h e
    unfold getN at ih ⊢
    rw [List.find?_cons_of_neg (by simpa using ne)]
    exact ih
section
variable {prog : Program} {w : World} {A : Around} {E : Value → Shared → Prop} {s : Shared} {d : Addr} {xs : List KV3} {k : NK} {kv : Value}
theorem DctN.typeIs (h : DctN w s.heap d xs) : s.TypeIs (.ref d) "dict" := let ⟨o, _, _, ho, hc, _⟩ := h; ⟨o, ho, hc.1⟩
theorem DctN.new (h : Heap) : DctN w (h.push { cls := .type "dict", data := .dict #[] }) h.objs.size [] := ⟨_, #[], 0, Heap.get?_push_size _ rfl, ⟨rfl, rfl, rfl⟩, rfl, rfl⟩
theorem dGet {Q : Option Value → Shared → Prop} (hu : A.units + 8 < cLine) (hk : NestedIs s.heap k kv) (hkd : k.depth ≤ 8) (hns : ∀ x t, kv ≠ .str x t) (hm : DctN w s.heap d xs) (hK : KeysN s.heap xs)
    (h : Q (getN xs k) { s with toks := s.toks + k.draws }) : wpAny (model prog w) A (dictGet d kv) Q E s := by
  obtain ⟨o, es, ep, ho, hc, hd, he⟩ := hm
  have hE : ∀ j : Nat, es[j]? = (xs[j]?).map (entN w) := fun j => by rw [← Array.getElem?_toList, he, List.getElem?_map]
  unfold dictGet
  try with_reducible refine wpAny_holding ?_
  refine wpAny_bind (pyHash_key k kv A s _ hk (by omega) (wpAny_bind (dFind (s := { s with toks := s.toks + k.draws }) hu hk hkd hns ho hd he hK.1 hK.2 (fun hno => ?_) (fun j x hx ex => ?_))))
  · rw [getN_none hno] at h
    exact wpAny_pure h
  · rw [getN_some hK.2 hx ex] at h
    refine wpAny_bind (wpAny_dictEntries (s := { s with toks := s.toks + k.draws }) ho hd ?_)
    rw [hE j, hx]
    exact wpAny_pure h
theorem dSet {v : Value} {Q : Unit → Shared → Prop} (hu : A.units + 8 < cLine) (hk : NestedIs s.heap k kv) (hkd : k.depth ≤ 8) (hns : ∀ x t, kv ≠ .str x t) (hm : DctN w s.heap d xs) (hK : KeysN s.heap xs) (hz : xs.length ≤ sizeLine)
    (h : ∀ h', DctN w h' d (putN xs k kv v) → Heap.SameBut d s.heap h' → Q () { s with heap := h', toks := s.toks + k.draws }) : wpAny (model prog w) A (dictSet d kv v) Q E s := by
  obtain ⟨o, es, ep, ho, hc, hd, he⟩ := hm
  have hsz : es.size = xs.length := by rw [← Array.length_toList, he, List.length_map]
  unfold dictSet
  try with_reducible refine wpAny_holding ?_
  refine wpAny_bind (pyHash_key k kv A s _ hk (by omega) ?_)
  unfold dictSetHashed
  try with_reducible refine wpAny_holding ?_
  refine wpAny_bind (dFind (s := { s with toks := s.toks + k.draws }) hu hk hkd hns ho hd he hK.1 hK.2 (fun hno => ?_) (fun j x hx ex => ?_))
  · refine wpAny_bind (wpAny_rule (wpAny_updateDictKeys (hz := by omega) (s := { s with toks := s.toks + k.draws }) ho hd ?_))
    refine h _ ⟨_, _, ep + 1, Heap.get?_update_self _ ho (Obj.isFreed_of_dict (Obj.data_mapDictKeys hd _)), hc.mapDictKeys _, Obj.data_mapDictKeys hd _, ?_⟩ (Heap.SameBut.update ..)
    unfold putN
    rw [getN_none hno]
    simp [he, entN]
  · refine wpAny_bind (wpAny_rule (wpAny_bind (wpAny_updateDict (s := { s with toks := s.toks + k.draws }) ho hd (wpAny_point ?_))))
    refine h _ ⟨_, _, ep, Heap.get?_update_self _ ho (Obj.isFreed_of_dict (Obj.data_mapDict hd _)), hc.mapDict _, Obj.data_mapDict hd _, ?_⟩ (Heap.SameBut.update ..)
    unfold putN
    rw [getN_some hK.2 hx ex, if_pos (show (some x.2.2).isSome = true from rfl)]
    have go : ∀ {l : List KV3} {j : Nat} {x : KV3}, (l.map (·.1)).Nodup → l[j]? = some x → x.1 = k → (l.map (entN w)).modify j (fun e => { e with val := v }) = (l.map fun x => if x.1 = k then (x.1, x.2.1, v) else x).map (entN w) := by
      intro l
      induction l with
      | nil =>
        intro j x _ h _
        simp at h
      | cons y l ih =>
        intro j x hn hx ex
        rw [List.map_cons, List.nodup_cons] at hn
        cases j with
        | zero =>
          simp only [List.getElem?_cons_zero, Option.some.injEq] at hx
          subst hx
          have rest : (l.map fun x => if x.1 = k then (x.1, x.2.1, v) else x) = l := by
            have : ∀ z ∈ l, (if z.1 = k then (z.1, z.2.1, v) else z) = z := fun z hz => if_neg fun q => hn.1 (by rw [ex, ← q]; exact List.mem_map.mpr ⟨z, hz, rfl⟩)
            rw [List.map_congr_left this, List.map_id']
          rw [List.map_cons, List.map_cons, List.map_cons, if_pos ex, rest]
          rfl
        | succ j =>
          rw [List.getElem?_cons_succ] at hx
          have ne : y.1 ≠ k := fun q => hn.1 (by rw [q, ← ex]; exact List.mem_map.mpr ⟨x, List.mem_of_getElem? hx, rfl⟩)
          rw [List.map_cons, List.map_cons, List.map_cons, if_neg ne]
          show entN w y :: (l.map (entN w)).modify j _ = _
          rw [ih hn.2 hx ex]
    have := go hK.2 hx ex
    rw [← he] at this
    obtain ⟨l⟩ := es
    simpa using this
/-- k in d -/
theorem dIn {Q : Bool → Shared → Prop} (hd : (d == sysModules) = false) (hu : A.in1.units + 8 < cLine) (hk : NestedIs s.heap k kv) (hkd : k.depth ≤ 8) (hns : ∀ x t, kv ≠ .str x t) (hm : DctN w s.heap d xs) (hK : KeysN s.heap xs)
    (h : Q (getN xs k).isSome { s with toks := s.toks + k.draws }) : wpAny (model prog w) A (contains (.ref d) kv) Q E s := by
  refine wpAny_contains_slot hm.typeIs F.slot_dict_contains ?_
  refine call_meetsIn F.slot_dict_contains hm.typeIs F.entry_dict_contains (F.args_dict_contains_2 _ _) (S := fun A' R s' => A' = A ∧ s' = s ∧ R (.ok (.ret (.bool (getN xs k).isSome))) { s with toks := s.toks + k.draws }) (fun A' R s' hS => ?_) ⟨rfl, rfl, wpAny_truthy_bool h⟩
  obtain ⟨rfl, rfl, hq⟩ := hS
  show wpAny _ _ (dictGet d kv >>= _) _ _ _
  refine wpAny_bind (dGet hu hk hkd hns hm hK ?_)
  cases hf : getN xs k with
  | some p =>
    rw [hf] at hq
    exact wpAny_pure hq
  | none =>
    rw [hf] at hq
    show wpAny _ _ (Builtin.Dict.pendingKey? d kv >>= _) _ _ _
    exact wpAny_bind (wpAny_pendingKey_other hd (wpAny_pure hq))
/-- d[k], k there -/
theorem dIx {v : Value} {Q : Value → Shared → Prop} (hu : A.in1.units + 8 < cLine) (hk : NestedIs s.heap k kv) (hkd : k.depth ≤ 8) (hns : ∀ x t, kv ≠ .str x t) (hm : DctN w s.heap d xs) (hK : KeysN s.heap xs) (hv : getN xs k = some v)
    (h : Q v { s with toks := s.toks + k.draws }) : wpAny (model prog w) A (getItem (.ref d) kv) Q E s := by
  refine wpAny_getItem_slot hm.typeIs (by decide) F.slot_dict_getitem ?_
  refine call_meetsIn F.slot_dict_getitem hm.typeIs F.entry_dict_getitem (args_dict_getitem _ _) (S := fun A' R s' => A' = A ∧ s' = s ∧ R (.ok (.ret v)) { s with toks := s.toks + k.draws }) (fun A' R s' hS => ?_) ⟨rfl, rfl, h⟩
  obtain ⟨rfl, rfl, hq⟩ := hS
  show wpAny _ _ (dictGet d kv >>= _) _ _ _
  refine wpAny_bind (dGet hu hk hkd hns hm hK ?_)
  rw [hv]
  exact wpAny_pure hq
/-- d[k] = v -/
theorem dPut {v : Value} {Q : Unit → Shared → Prop} (hu : A.in1.units + 8 < cLine) (hk : NestedIs s.heap k kv) (hkd : k.depth ≤ 8) (hns : ∀ x t, kv ≠ .str x t) (hm : DctN w s.heap d xs) (hK : KeysN s.heap xs) (hz : xs.length ≤ sizeLine)
    (h : ∀ h', DctN w h' d (putN xs k kv v) → Heap.SameBut d s.heap h' → Q () { s with heap := h', toks := s.toks + k.draws }) : wpAny (model prog w) A (setItem (.ref d) kv v) Q E s := by
  unfold setItem
  try with_reducible refine wpAny_holding ?_
  refine wpAny_bind (wpAny_sequenceKey hm.typeIs (by decide) ?_)
  refine wpAny_bind (wpAny_callSpecial?_slot (name := Str.ofString "__setitem__") hm.typeIs F.slot_dict_setitem (wpAny_call_entry F.slot_dict_setitem hm.typeIs F.entry_dict_setitem ?_ (args_dict_setitem _ _ _)))
  show wpAny _ _ (Builtin.Dict.notOrdered "__setitem__" ⟨[.ref d, kv, v], []⟩ >>= _) _ _ s
  refine wpAny_bind (wpAny_notOrdered_dict hm.typeIs ?_)
  show wpAny _ _ (dictSet d kv v >>= _) _ _ s
  exact wpAny_bind (dSet hu hk hkd hns hm hK hz fun h' q1 q2 => wpAny_pure ⟨.none, rfl, wpAny_pure (h h' q1 q2)⟩)
end
open L2 PySem.Spec
mutual
def noTxt : NK → Bool
  | .none => true
  | .num _ => true
  | .text _ => false
  | .tup ks => noTxts ks
def noTxts : List NK → Bool
  | [] => true
  | k :: ks => noTxt k && noTxts ks
end
mutual
theorem hash_any (w w' : World) : ∀ k : NK, noTxt k = true → k.hash w = k.hash w'
  | .none, _ => rfl
  | .num _, _ => rfl
  | .text _, h => by cases h
  | .tup ks, h => by
    have e := hashes_any w w' ks (by simpa [noTxt] using h)
    simp only [NestedKey.hash, e]
theorem hashes_any (w w' : World) : ∀ ks : List NK, noTxts ks = true → NestedKey.hashes w ks = NestedKey.hashes w' ks
  | [], _ => rfl
  | k :: ks, h => by
    simp only [noTxts, Bool.and_eq_true] at h
    simp only [NestedKey.hashes, hash_any w w' k h.1, hashes_any w w' ks h.2]
end
abbrev KVV := NK × V × V
def RelE (e : KVV) (x : KV3) : Prop := e.1 = x.1 ∧ RelV e.2.1 x.2.1 ∧ RelV e.2.2 x.2.2
/-- at a: a dict, its object o, with these entries -/
def DcP (a : Addr) (o : Obj) (es : List KVV) (h : Heap) : Prop := h.get? a = some o ∧ (a == sysModules) = false ∧ ∃ (w : World) (arr : Array DictEntry) (ep : Nat) (xs : List KV3), o.ExactDict ∧ o.data = .dict arr ep ∧ arr.toList = xs.map (entN w) ∧ Paired RelE es xs
def dcO (a : Addr) (o : Obj) (es : List KVV) : HO := .ext (DcP a o es)
theorem DctN.world {w w' : World} {h : Heap} {a : Addr} {xs : List KV3} (hm : DctN w h a xs) (ht : ∀ x ∈ xs, noTxt x.1 = true) : DctN w' h a xs := by
  obtain ⟨o, es, ep, ho, hc, hd, he⟩ := hm
  refine ⟨o, es, ep, ho, hc, hd, he.trans ?_⟩
  refine List.map_congr_left fun x hx => ?_
  unfold entN
  rw [hash_any w w' x.1 (ht x hx)]
theorem dcO_ok {P : Program} {w w' : World} {H : Hp} {h : Heap} {a : Addr} {es : List KVV} {xs : List KV3} (hs : (a == sysModules) = false) (hm : DctN w' h a xs) (hr : Paired RelE es xs) : ∃ o, ObjOk P w H h a (dcO a o es) :=
  let ⟨o, arr, ep, ho, hc, hd, he⟩ := hm
  ⟨o, ⟨ho, hs, w', arr, ep, xs, hc, hd, he, hr⟩, ⟨o, ho⟩, fun _ _ z k => ⟨k _ z.1, z.2⟩⟩
theorem relE_key {es : List KVV} {xs : List KV3} (hr : Paired RelE es xs) : (∀ e ∈ es, noTxt e.1 = true) → ∀ x ∈ xs, noTxt x.1 = true := by
  induction hr with
  | nil => exact fun _ x hx => absurd hx List.not_mem_nil
  | cons a b ih =>
    intro h x hx
    rcases List.mem_cons.mp hx with q | q
    · rw [q, ← a.1]
      exact h _ List.mem_cons_self
    · exact ih (fun e he => h e (List.mem_cons_of_mem _ he)) x q
theorem dcO_at {P : Program} {w : World} {H : Hp} {h : Heap} {a : Addr} {o : Obj} {es : List KVV} (hx : ObjOk P w H h a (dcO a o es)) (ht : ∀ e ∈ es, noTxt e.1 = true) : (a == sysModules) = false ∧ ∃ xs, DctN w h a xs ∧ Paired RelE es xs := by
  have x : ObjOk P w H h a (.ext (DcP a o es)) := hx
  obtain ⟨ho, hs, w', arr, ep, xs, hc, hd, he, hr⟩ := x.1
  exact ⟨hs, xs, DctN.world ⟨o, arr, ep, ho, hc, hd, he⟩ (relE_key hr ht), hr⟩
/-- the object, as a walk sees it -/
theorem dcO_raw {P : Program} {w : World} {H : Hp} {h : Heap} {a : Addr} {o : Obj} {es : List KVV} (hx : ObjOk P w H h a (dcO a o es)) : (a == sysModules) = false ∧ ∃ arr ep xs, h.get? a = some o ∧ o.ExactDict ∧ o.data = .dict arr ep ∧ arr.toList.map (·.key) = xs.map (fun x : KV3 => x.2.1) ∧ Paired RelE es xs := by
  have x : ObjOk P w H h a (.ext (DcP a o es)) := hx
  obtain ⟨ho, hs, w', arr, ep, xs, hc, hd, he, hr⟩ := x.1
  refine ⟨hs, arr, ep, xs, ho, hc, hd, ?_, hr⟩
  rw [he, List.map_map]
  rfl
end DL
set_option Elab.async false
set_option maxRecDepth 100000
set_option maxHeartbeats 4000000
namespace DL
open PySem PySem.Spec PyProof.Rows L2
abbrev D := PyData
mutual
def nkD : D → Option NK
  | .none => some .none
  | .int i => some (.num i)
  | .tuple ds => (nkDs ds).map .tup
  | _ => none
def nkDs : List D → Option (List NK)
  | [] => some []
  | d :: ds => match nkD d with
    | some k => (nkDs ds).map (k :: ·)
    | none => none
end
mutual
theorem nkD_txt : ∀ {d : D} {k : NK}, nkD d = some k → noTxt k = true
  | .none, _, h => by simp only [nkD, Option.some.injEq] at h; subst h; rfl
  | .int i, _, h => by simp only [nkD, Option.some.injEq] at h; subst h; rfl
  | .tuple ds, _, h => by
    simp only [nkD, Option.map_eq_some_iff] at h
    obtain ⟨ks, h1, rfl⟩ := h
    simp only [noTxt]
    exact nkDs_txt h1
  | .bool _, _, h => by simp [nkD] at h
  | .str _, _, h => by simp [nkD] at h
  | .list _, _, h => by simp [nkD] at h
  | .dict _, _, h => by simp [nkD] at h
theorem nkDs_txt : ∀ {ds : List D} {ks : List NK}, nkDs ds = some ks → noTxts ks = true
  | [], _, h => by simp only [nkDs, Option.some.injEq] at h; subst h; rfl
  | d :: ds, _, h => by
    simp only [nkDs] at h
    cases q : nkD d with
    | none => rw [q] at h; cases h
    | some k =>
      rw [q] at h
      obtain ⟨ks, h1, rfl⟩ := Option.map_eq_some_iff.mp h
      simp only [noTxts, Bool.and_eq_true]
      exact ⟨nkD_txt q, nkDs_txt h1⟩
end
mutual
theorem nkD_inj : ∀ {d e : D} {k : NK}, nkD d = some k → nkD e = some k → d = e
  | .none, e, _, h, h' => by
    simp only [nkD, Option.some.injEq] at h
    subst h
    cases e <;> simp [nkD, Option.map_eq_some_iff] at h' ⊢
  | .int i, e, _, h, h' => by
    simp only [nkD, Option.some.injEq] at h
    subst h
    cases e <;> simp [nkD, Option.map_eq_some_iff] at h' ⊢
    exact h'.symm
  | .tuple ds, e, _, h, h' => by
    simp only [nkD, Option.map_eq_some_iff] at h
    obtain ⟨ks, h1, rfl⟩ := h
    cases e with
    | tuple es =>
      simp only [nkD, Option.map_eq_some_iff] at h'
      obtain ⟨ks', h2, h3⟩ := h'
      cases h3
      rw [nkDs_inj h1 h2]
    | _ => simp [nkD] at h'
  | .bool _, _, _, h, _ => by simp [nkD] at h
  | .str _, _, _, h, _ => by simp [nkD] at h
  | .list _, _, _, h, _ => by simp [nkD] at h
  | .dict _, _, _, h, _ => by simp [nkD] at h
theorem nkDs_inj : ∀ {ds es : List D} {ks : List NK}, nkDs ds = some ks → nkDs es = some ks → ds = es
  | [], es, _, h, h' => by
    simp only [nkDs, Option.some.injEq] at h
    subst h
    cases es with
    | nil => rfl
    | cons e es =>
      simp only [nkDs] at h'
      cases q : nkD e with
      | none => rw [q] at h'; cases h'
      | some k => rw [q] at h'; simp at h'
  | d :: ds, es, _, h, h' => by
    simp only [nkDs] at h
    cases q : nkD d with
    | none => rw [q] at h; cases h
    | some k =>
      rw [q] at h
      obtain ⟨ks, h1, rfl⟩ := Option.map_eq_some_iff.mp h
      cases es with
      | nil => simp [nkDs] at h'
      | cons e es =>
        simp only [nkDs] at h'
        cases q' : nkD e with
        | none => rw [q'] at h'; cases h'
        | some k' =>
          rw [q'] at h'
          obtain ⟨ks', h2, h3⟩ := Option.map_eq_some_iff.mp h'
          cases h3
          rw [nkD_inj q q', nkDs_inj h1 h2]
end
/-- a thing as a key, not too deep -/
def nkOf (d : D) : Option NK := match nkD d with
  | some k => if k.depth ≤ 8 then some k else none
  | none => none
theorem nkOf_some {d : D} {k : NK} (h : nkOf d = some k) : nkD d = some k ∧ k.depth ≤ 8 := by
  unfold nkOf at h
  split at h
  · split at h
    · cases h
      exact ⟨by assumption, by assumption⟩
    · cases h
  · cases h
abbrev dLine : Nat := 1000000
def KvsOk (kvs : List (D × D)) : Prop := (∀ p ∈ kvs, ∃ k, nkOf p.1 = some k) ∧ (kvs.map (·.1)).Nodup ∧ kvs.length ≤ dLine
mutual
inductive Rp (K : PySem.W.Frag) (H : Hp) : V → D → Prop
  | non : Rp K H .non .none
  | bl (b : Bool) : Rp K H (.bl b) (.bool b)
  | int (i : Int) : Rp K H (.int i) (.int i)
  | str (x : Str) : Rp K H (.str x) (.str x)
  | lst {a : Addr} {xs : List V} {ds : List D} : SqL K H a xs → RpAll K H xs ds → Rp K H (.ref a) (.list ds)
  | tup {a : Addr} {xs : List V} {ds : List D} : SqT K H a xs → RpAll K H xs ds → Rp K H (.ref a) (.tuple ds)
  | dct {a : Addr} {o : Obj} {es : List KVV} {kvs : List (D × D)} : H a = some (dcO a o es) → KvsOk kvs → RpDct K H es kvs → Rp K H (.ref a) (.dict kvs)
inductive RpAll (K : PySem.W.Frag) (H : Hp) : List V → List D → Prop
  | nil : RpAll K H [] []
  | cons {v : V} {vs : List V} {d : D} {ds : List D} : Rp K H v d → RpAll K H vs ds → RpAll K H (v :: vs) (d :: ds)
inductive RpDct (K : PySem.W.Frag) (H : Hp) : List KVV → List (D × D) → Prop
  | nil : RpDct K H [] []
  | cons {n : NK} {u v : V} {dk dv : D} {es : List KVV} {kvs : List (D × D)} : nkD dk = some n → Rp K H u dk → Rp K H v dv → RpDct K H es kvs → RpDct K H ((n, u, v) :: es) ((dk, dv) :: kvs)
end
theorem rd_mono {H H' : Hp} {a : Addr} {u : HO} (h : ∀ a o, H a = some o → H' a = some o) (hs : Rd H a u) : Rd H' a u := by
  rcases hs with e | ⟨o, e⟩
  · exact .inl (h _ _ e)
  · exact .inr ⟨o, h _ _ e⟩
theorem sqt_mono {K : PySem.W.Frag} {H H' : Hp} {a : Addr} {xs : List V} (h : ∀ a o, H a = some o → H' a = some o) (hs : SqT K H a xs) : SqT K H' a xs := by
  rcases hs with e | e
  · exact .inl (rd_mono h e)
  · exact .inr e
theorem sql_mono {K : PySem.W.Frag} {H H' : Hp} {a : Addr} {xs : List V} (h : ∀ a o, H a = some o → H' a = some o) (hs : SqL K H a xs) : SqL K H' a xs := by
  rcases hs with e | e
  · exact .inl (rd_mono h e)
  · exact .inr e
mutual
theorem Rp.mono {K : PySem.W.Frag} {H H' : Hp} (h : ∀ a o, H a = some o → H' a = some o) : ∀ {v : V} {d : D}, Rp K H v d → Rp K H' v d
  | _, _, .non => .non
  | _, _, .bl b => .bl b
  | _, _, .int i => .int i
  | _, _, .str x => .str x
  | _, _, .lst hs ha => .lst (sql_mono h hs) (RpAll.mono h ha)
  | _, _, .tup hs ha => .tup (sqt_mono h hs) (RpAll.mono h ha)
  | _, _, .dct hs ho hd => .dct (h _ _ hs) ho (RpDct.mono h hd)
theorem RpAll.mono {K : PySem.W.Frag} {H H' : Hp} (h : ∀ a o, H a = some o → H' a = some o) : ∀ {vs : List V} {ds : List D}, RpAll K H vs ds → RpAll K H' vs ds
  | _, _, .nil => .nil
  | _, _, .cons a b => .cons (Rp.mono h a) (RpAll.mono h b)
theorem RpDct.mono {K : PySem.W.Frag} {H H' : Hp} (h : ∀ a o, H a = some o → H' a = some o) : ∀ {es : List KVV} {kvs : List (D × D)}, RpDct K H es kvs → RpDct K H' es kvs
  | _, _, .nil => .nil
  | _, _, .cons e a b c => .cons e (Rp.mono h a) (Rp.mono h b) (RpDct.mono h c)
end
mutual
theorem Rp.dp {K : PySem.W.Frag} {H : Hp} : ∀ {v : V} {d : D}, Rp K H v d → d.canLay0 = true → Dp K H v d
  | _, _, .non, _ => .non
  | _, _, .bl b, _ => .bl b
  | _, _, .int i, _ => .int i
  | _, _, .str x, _ => .str x
  | _, _, .lst hs ha, h => .lst hs (RpAll.dp ha (by simpa [PyData.canLay0] using h))
  | _, _, .tup hs ha, h => .tup hs (RpAll.dp ha (by simpa [PyData.canLay0] using h))
  | _, _, .dct _ _ _, h => by simp [PyData.canLay0] at h
theorem RpAll.dp {K : PySem.W.Frag} {H : Hp} : ∀ {vs : List V} {ds : List D}, RpAll K H vs ds → PyData.canLayAll0 ds = true → DpAll K H vs ds
  | _, _, .nil, _ => .nil
  | _, _, .cons a b, h => by
    simp only [PyData.canLayAll0, Bool.and_eq_true] at h
    exact .cons (Rp.dp a h.1) (RpAll.dp b h.2)
end
theorem shaped_lay {d : D} (h : SeqAt.shaped d = true) : d.canLay0 = true := by
  unfold SeqAt.shaped at h
  exact ((Bool.and_eq_true _ _).mp h).1
section
variable {K : PySem.W.Frag} {H : Hp}
theorem RpAll.length : ∀ {vs : List V} {ds : List D}, RpAll K H vs ds → vs.length = ds.length
  | _, _, .nil => rfl
  | _, _, .cons _ b => by simp [RpAll.length b]
theorem RpAll.get : ∀ {vs : List V} {ds : List D} {i : Nat} {d : D}, RpAll K H vs ds → ds[i]? = some d → ∃ v, vs[i]? = some v ∧ Rp K H v d
  | _, _, _, _, .nil, h => by simp at h
  | _, _, 0, _, .cons a _, h => by
    have e := Option.some.inj h
    subst e
    exact ⟨_, rfl, a⟩
  | _, _, i + 1, d, .cons _ b, h => RpAll.get (i := i) b (by simpa using h)
theorem RpAll.get' : ∀ {vs : List V} {ds : List D} {i : Nat} {v : V}, RpAll K H vs ds → vs[i]? = some v → ∃ d, ds[i]? = some d ∧ Rp K H v d
  | _, _, _, _, .nil, h => by simp at h
  | _, _, 0, _, .cons a _, h => by
    have e := Option.some.inj h
    subst e
    exact ⟨_, rfl, a⟩
  | _, _, i + 1, d, .cons _ b, h => RpAll.get' (i := i) b (by simpa using h)
theorem RpAll.append : ∀ {vs ws : List V} {ds es : List D}, RpAll K H vs ds → RpAll K H ws es → RpAll K H (vs ++ ws) (ds ++ es)
  | _, _, _, _, .nil, h => h
  | _, _, _, _, .cons a b, h => .cons a (RpAll.append b h)
theorem RpAll.take : ∀ {vs : List V} {ds : List D} (n : Nat), RpAll K H vs ds → RpAll K H (vs.take n) (ds.take n)
  | _, _, 0, _ => .nil
  | _, _, _ + 1, .nil => .nil
  | _, _, n + 1, .cons a b => .cons a (RpAll.take n b)
theorem RpAll.drop : ∀ {vs : List V} {ds : List D} (n : Nat), RpAll K H vs ds → RpAll K H (vs.drop n) (ds.drop n)
  | _, _, 0, h => h
  | _, _, _ + 1, .nil => .nil
  | _, _, n + 1, .cons _ b => RpAll.drop n b
theorem RpAll.set {v : V} {d : D} (r : Rp K H v d) : ∀ {vs : List V} {ds : List D} (i : Nat), RpAll K H vs ds → RpAll K H (vs.set i v) (ds.set i d)
  | _, _, _, .nil => .nil
  | _, _, 0, .cons _ t => .cons r t
  | _, _, i + 1, .cons q t => .cons q (RpAll.set r i t)
theorem RpAll.reverse : ∀ {vs : List V} {ds : List D}, RpAll K H vs ds → RpAll K H vs.reverse ds.reverse
  | _, _, .nil => .nil
  | _, _, .cons a b => by
    rw [List.reverse_cons, List.reverse_cons]
    exact RpAll.append (RpAll.reverse b) (.cons a .nil)
theorem RpAll.eraseIdx : ∀ {vs : List V} {ds : List D} (i : Nat), RpAll K H vs ds → RpAll K H (vs.eraseIdx i) (ds.eraseIdx i)
  | _, _, _, .nil => .nil
  | _, _, 0, .cons _ t => t
  | _, _, i + 1, .cons q t => .cons q (RpAll.eraseIdx i t)
end
def wo (Z : List Addr) (H : Hp) : Hp := fun a => if a ∈ Z then none else H a
theorem wo_some {Z : List Addr} {H : Hp} {a : Addr} {o : HO} : wo Z H a = some o ↔ a ∉ Z ∧ H a = some o := by
  unfold wo
  by_cases h : a ∈ Z
  · simp [h]
  · simp [h]
theorem wo_sub {Z : List Addr} {H : Hp} : ∀ a o, wo Z H a = some o → H a = some o := fun a o h => (wo_some.mp h).2
theorem wo_nil {H : Hp} : wo [] H = H := by
  funext a
  simp [wo]
/-- a tree of this frame's own: things, lists, dicts, objects of a class -/
inductive Nd where
  | d (x : D)
  | lst (xs : List Nd)
  | dct (kvs : List (D × D))
  | obj (c : Str) (fs : List (Str × Nd))
inductive T where
  | val (d : D)
  /-- a list of this frame's own (or lent to it: the tag is the parameter's place) -/
  | lst (tag : Option Nat) (ds : List D)
  /-- a dict of this frame's own -/
  | dct (tag : Option Nat) (kvs : List (D × D))
  /-- a dict while it is walked: read, never written; the slot stays -/
  | shr (k : Nat) (kvs : List (D × D))
  /-- any thing handed in (the tag: the parameter's place); nothing is read of it here -/
  | any (k : Nat) (a : Addr)
  /-- a tree of this frame's own, or lent to it -/
  | own (tag : Option Nat) (n : Nd)
  /-- a tree that is read alone -/
  | ron (tag : Option Nat) (n : Nd)
mutual
/-- the tree as a thing, where it has no object -/
def Nd.fz : Nd → Option D
  | .d x => some x
  | .lst xs => (Nd.fzs xs).map .list
  | .dct kvs => some (.dict kvs)
  | .obj _ _ => none
def Nd.fzs : List Nd → Option (List D)
  | [] => some []
  | n :: ns => match n.fz, Nd.fzs ns with
    | some e, some es => some (e :: es)
    | _, _ => none
end
def T.view : T → D
  | .val d => d
  | .lst _ ds => .list ds
  | .dct _ kvs => .dict kvs
  | .shr _ kvs => .dict kvs
  | .any _ _ => .none
  | .own _ _ => .none
  | .ron _ _ => .none
/-- what an operation sees of a thing of no slot -/
def T.tv : T → Option D
  | .val d => some d
  | .lst _ ds => some (.list ds)
  | .dct _ kvs => some (.dict kvs)
  | .shr _ kvs => some (.dict kvs)
  | .any _ _ => some .none
  | .own _ _ => none
  | .ron _ _ => none
/-- a thing of no slot made one that never changes -/
def T.fv : T → Option D
  | .val d => some d
  | .lst _ ds => some (.list ds)
  | .dct _ kvs => some (.dict kvs)
  | .shr _ kvs => some (.dict kvs)
  | .any _ _ => some .none
  | .own _ n => n.fz
  | .ron _ _ => none
/-- the slot holds the thing at this place of A -/
def T.tagOf : T → Option Nat
  | .val _ => none
  | .lst t _ => t
  | .dct t _ => t
  | .shr k _ => some k
  | .any k _ => some k
  | .own t _ => t
  | .ron t _ => t
abbrev Rho := List (Option T)
inductive R where
  | slot (i : Nat)
  | tmp (t : T)
/-- an exception: its class by name, its own fields -/
structure XD where
  cls : Str
  fs : List (Str × D)
inductive Out (α : Type) where
  | ok (a : α) (ρ : Rho)
  | exc (x : XD) (ρ : Rho)
  | bad
abbrev M (α : Type) : Type := Rho → Out α
def M.ret {α : Type} (a : α) : M α := fun ρ => .ok a ρ
def M.bad {α : Type} : M α := fun _ => .bad
def M.bind {α β : Type} (m : M α) (k : α → M β) : M β := fun ρ => match m ρ with
  | .ok a ρ' => k a ρ'
  | .exc x ρ' => .exc x ρ'
  | .bad => .bad
/-- the heap at these addresses alone -/
def onl (Z : List Addr) (H : Hp) : Hp := fun a => if a ∈ Z then H a else none
theorem onl_some {Z : List Addr} {H : Hp} {a : Addr} {o : HO} : onl Z H a = some o ↔ a ∈ Z ∧ H a = some o := by
  unfold onl
  by_cases h : a ∈ Z
  · simp [h]
  · simp [h]
/-- the class of this name -/
def ClsN (K : PySem.W.Frag) (c : Str) (C : Addr) : Prop := PySem.W.nsIn K mainGlobals c = some (some (.ref C))
mutual
/-- G: where its things stand; N: where it stands; its addresses -/
inductive RepN (K : PySem.W.Frag) (G N : Hp) : V → Nd → List Addr → Prop
  | d {v : V} {x : D} : Rp K G v x → RepN K G N v (.d x) []
  | lst {a : Addr} {vs : List V} {xs : List Nd} {F : List Addr} : N a = some (.lst vs) → a ∉ F → RepNs K G N vs xs F → RepN K G N (.ref a) (.lst xs) (a :: F)
  | dct {a : Addr} {o : Obj} {es : List KVV} {kvs : List (D × D)} : N a = some (dcO a o es) → KvsOk kvs → RpDct K G es kvs → RepN K G N (.ref a) (.dct kvs) [a]
  | obj {a C dx : Addr} {c : Str} {vs : List (Str × V)} {fs : List (Str × Nd)} {F : List Addr} : N a = some (.ins C dx vs) → ClsN K c C → vs.map (·.1) = fs.map (·.1) → a ∉ F →
      RepNs K G N (vs.map (·.2)) (fs.map (·.2)) F → RepN K G N (.ref a) (.obj c fs) (a :: F)
inductive RepNs (K : PySem.W.Frag) (G N : Hp) : List V → List Nd → List Addr → Prop
  | nil : RepNs K G N [] [] []
  | cons {v : V} {vs : List V} {n : Nd} {ns : List Nd} {F E : List Addr} : RepN K G N v n F → RepNs K G N vs ns E → (∀ a ∈ F, a ∉ E) → RepNs K G N (v :: vs) (n :: ns) (F ++ E)
end
theorem RpDct.mapV {K : PySem.W.Frag} {G G' : Hp} (hg : ∀ v d, Rp K G v d → Rp K G' v d) : ∀ {es : List KVV} {kvs : List (D × D)}, RpDct K G es kvs → RpDct K G' es kvs
  | _, _, .nil => .nil
  | _, _, .cons e a b c => .cons e (hg _ _ a) (hg _ _ b) (RpDct.mapV hg c)
mutual
theorem RepN.map {K : PySem.W.Frag} {G N G' N' : Hp} (hg : ∀ v d, Rp K G v d → Rp K G' v d) : ∀ {v : V} {n : Nd} {F : List Addr}, RepN K G N v n F → (∀ a ∈ F, ∀ o, N a = some o → N' a = some o) → RepN K G' N' v n F
  | _, _, _, .d h, _ => .d (hg _ _ h)
  | _, _, _, .lst h1 h2 h3, q => .lst (q _ (List.mem_cons_self) _ h1) h2 (RepNs.map hg h3 fun a ha => q a (List.mem_cons_of_mem _ ha))
  | _, _, _, .dct h1 h2 h3, q => .dct (q _ (List.mem_cons_self) _ h1) h2 (RpDct.mapV hg h3)
  | _, _, _, .obj h1 h2 h3 h4 h5, q => .obj (q _ (List.mem_cons_self) _ h1) h2 h3 h4 (RepNs.map hg h5 fun a ha => q a (List.mem_cons_of_mem _ ha))
theorem RepNs.map {K : PySem.W.Frag} {G N G' N' : Hp} (hg : ∀ v d, Rp K G v d → Rp K G' v d) : ∀ {vs : List V} {ns : List Nd} {F : List Addr}, RepNs K G N vs ns F → (∀ a ∈ F, ∀ o, N a = some o → N' a = some o) → RepNs K G' N' vs ns F
  | _, _, _, .nil, _ => .nil
  | _, _, _, .cons a b c, q => .cons (RepN.map hg a fun x hx => q x (List.mem_append_left _ hx)) (RepNs.map hg b fun x hx => q x (List.mem_append_right _ hx)) c
end
theorem RepN.keep {K : PySem.W.Frag} {G N G' N' : Hp} (hg : ∀ a o, G a = some o → G' a = some o) {v : V} {n : Nd} {F : List Addr} (r : RepN K G N v n F) (q : ∀ a ∈ F, ∀ o, N a = some o → N' a = some o) : RepN K G' N' v n F := r.map (fun _ _ z => z.mono hg) q
theorem RepNs.keep {K : PySem.W.Frag} {G N G' N' : Hp} (hg : ∀ a o, G a = some o → G' a = some o) {v : List V} {n : List Nd} {F : List Addr} (r : RepNs K G N v n F) (q : ∀ a ∈ F, ∀ o, N a = some o → N' a = some o) : RepNs K G' N' v n F := r.map (fun _ _ z => z.mono hg) q
mutual
theorem RepN.in {K : PySem.W.Frag} {G N : Hp} : ∀ {v : V} {n : Nd} {F : List Addr}, RepN K G N v n F → ∀ a ∈ F, ∃ o, N a = some o
  | _, _, _, .d h, a, ha => absurd ha List.not_mem_nil
  | _, _, _, .lst h1 h2 h3, a, ha => (List.mem_cons.mp ha).elim (fun e => ⟨_, e ▸ h1⟩) (RepNs.in h3 a)
  | _, _, _, .dct h1 h2 h3, a, ha => ⟨_, (List.mem_singleton.mp ha) ▸ h1⟩
  | _, _, _, .obj h1 h2 h3 h4 h5, a, ha => (List.mem_cons.mp ha).elim (fun e => ⟨_, e ▸ h1⟩) (RepNs.in h5 a)
theorem RepNs.in {K : PySem.W.Frag} {G N : Hp} : ∀ {vs : List V} {ns : List Nd} {F : List Addr}, RepNs K G N vs ns F → ∀ a ∈ F, ∃ o, N a = some o
  | _, _, _, .nil, a, ha => absurd ha List.not_mem_nil
  | _, _, _, .cons x y c, a, ha => (List.mem_append.mp ha).elim (RepN.in x a) (RepNs.in y a)
end
inductive RepT (K : PySem.W.Frag) (Z : List Addr) (H : Hp) : V → T → List Addr → Prop where
  | val {v : V} {d : D} : Rp K (wo Z H) v d → RepT K Z H v (.val d) []
  | lst {a : Addr} {vs : List V} {tag : Option Nat} {ds : List D} : a ∈ Z → H a = some (.lst vs) → RpAll K (wo Z H) vs ds → RepT K Z H (.ref a) (.lst tag ds) [a]
  | dct {a : Addr} {o : Obj} {es : List KVV} {tag : Option Nat} {kvs : List (D × D)} : a ∈ Z → H a = some (dcO a o es) → KvsOk kvs → RpDct K (wo Z H) es kvs → RepT K Z H (.ref a) (.dct tag kvs) [a]
  | shr {a : Addr} {o : Obj} {es : List KVV} {k : Nat} {kvs : List (D × D)} : wo Z H a = some (.frz o (dcO a o es)) → KvsOk kvs → RpDct K (wo Z H) es kvs → RepT K Z H (.ref a) (.shr k kvs) []
  | any {a : Addr} {k : Nat} : RepT K Z H (.ref a) (.any k a) []
  | own {a : Addr} {tag : Option Nat} {n : Nd} {F : List Addr} : RepN K (wo Z H) (onl Z H) (.ref a) n F → RepT K Z H (.ref a) (.own tag n) F
  | ron {a : Addr} {tag : Option Nat} {n : Nd} {F : List Addr} : RepN K (wo Z H) (wo Z H) (.ref a) n F → RepT K Z H (.ref a) (.ron tag n) []
theorem RepT.keep {K : PySem.W.Frag} {Z Z' : List Addr} {H H' : Hp} {v : V} {t : T} {F : List Addr} (r : RepT K Z H v t F) (hf : ∀ a o, wo Z H a = some o → wo Z' H' a = some o)
    (hF : ∀ a ∈ F, a ∈ Z' ∧ H' a = H a) : RepT K Z' H' v t F := by
  cases r with
  | val h => exact .val (Rp.mono hf h)
  | lst h1 h2 h3 =>
    obtain ⟨q1, q2⟩ := hF _ (List.mem_singleton.mpr rfl)
    exact .lst q1 (by rw [q2]; exact h2) (RpAll.mono hf h3)
  | dct h1 h2 h3 h4 =>
    obtain ⟨q1, q2⟩ := hF _ (List.mem_singleton.mpr rfl)
    exact .dct q1 (by rw [q2]; exact h2) h3 (RpDct.mono hf h4)
  | shr h1 h2 h3 => exact .shr (hf _ _ h1) h2 (RpDct.mono hf h3)
  | any => exact .any
  | own h => exact .own (h.keep hf fun a ha o e => by
      obtain ⟨q1, q2⟩ := hF a ha
      exact onl_some.mpr ⟨q1, by rw [q2]; exact (onl_some.mp e).2⟩)
  | ron h => exact .ron (h.keep hf fun a _ o e => hf a o e)
theorem RepT.in {K : PySem.W.Frag} {Z : List Addr} {H : Hp} {v : V} {t : T} {F : List Addr} (r : RepT K Z H v t F) : ∀ a ∈ F, a ∈ Z ∧ ∃ o, H a = some o := by
  cases r with
  | val h => intro a h; cases h
  | lst h1 h2 h3 =>
    intro a h
    rw [List.mem_singleton.mp h]
    exact ⟨h1, _, h2⟩
  | dct h1 h2 h3 h4 =>
    intro a h
    rw [List.mem_singleton.mp h]
    exact ⟨h1, _, h2⟩
  | shr h1 h2 h3 => intro a h; cases h
  | any => intro a h; cases h
  | own h => exact fun a ha => let ⟨o, e⟩ := h.in a ha; ⟨(onl_some.mp e).1, o, (onl_some.mp e).2⟩
  | ron h => intro a h; cases h
/-- the frame's slots: P protected (the callers' own lists), A the arguments, O this frame's own lists -/
structure EnvR (K : PySem.W.Frag) (P : List Addr) (A : List V) (O : List Addr) (H : Hp) (σ : L2.St) (ρ : Rho) : Prop where
  len : ρ.length = σ.length
  at_ : ∃ Fs : Nat → List Addr, (∀ (i : Nat) (t : T), ρ[i]? = some (some t) → ∃ v, σ[i]? = some (some v) ∧ RepT K (O ++ P) H v t (Fs i) ∧ ∀ a ∈ Fs i, a ∈ O) ∧ ∀ i j, i ≠ j → ∀ a ∈ Fs i, a ∉ Fs j
  prot : ∀ a ∈ P, a ∉ O ∧ ∃ o, H a = some o
  trk : ∀ a ∈ O, ∃ o, H a = some o
  tag : ∀ (i k : Nat) (t : T), ρ[i]? = some (some t) → t.tagOf = some k → ∃ v, σ[i]? = some (some v) ∧ A[k]? = some v ∧ (k < 100 ∨ k = 100 + i)
/-- a value handed on: a slot's own list, or a thing of no slot (a new list is nobody's yet: F its address) -/
def RR (K : PySem.W.Frag) (P F O : List Addr) (H : Hp) (σ : L2.St) (v : V) : R → Prop
  | .slot i => σ[i]? = some (some v)
  | .tmp t => RepT K (F ++ (O ++ P)) H v t F ∧ (∀ a ∈ F, a ∉ P) ∧ t.tagOf = none
structure Step (O : List Addr) (H : Hp) (O' : List Addr) (H' : Hp) : Prop where
  own : ∀ a ∈ O', a ∈ O ∨ H a = none
  ext : ∀ a o, a ∉ O → H a = some o → H' a = some o
  stay : ∀ a o, H a = some o → ∃ o', H' a = some o'
theorem Step.refl (O : List Addr) (H : Hp) : Step O H O H := ⟨fun _ h => .inl h, fun _ _ _ h => h, fun _ o h => ⟨o, h⟩⟩
theorem Step.less {F O O' : List Addr} {H H' : Hp} (s : Step O H (F ++ O') H') : Step O H O' H' := ⟨fun a h => s.own a (List.mem_append_right _ h), s.ext, s.stay⟩
theorem Step.gone {O O' : List Addr} {H H' : Hp} (s : Step O H O' H') {a : Addr} (h : H' a = none) : H a = none := by
  cases e : H a with
  | none => rfl
  | some o =>
    obtain ⟨o', q⟩ := s.stay a o e
    rw [h] at q
    cases q
theorem Step.trans {O O1 O2 : List Addr} {H H1 H2 : Hp} (a : Step O H O1 H1) (b : Step O1 H1 O2 H2) : Step O H O2 H2 where
  own := fun x hx => by
    by_cases h0 : x ∈ O
    · exact .inl h0
    · rcases b.own x hx with h | h
      · exact a.own x h
      · cases e : H x with
        | none => exact .inr rfl
        | some o =>
          have := a.ext x o h0 e
          rw [h] at this
          cases this
  ext := fun x o h e => b.ext x o (fun h1 => by
    rcases a.own x h1 with q | q
    · exact h q
    · rw [q] at e
      cases e) (a.ext x o h e)
  stay := fun x o e => let ⟨o1, e1⟩ := a.stay x o e; b.stay x o1 e1
/-- the first part's new lists, then the second's -/
theorem Step.transF {O F1 O1 F2 O2 : List Addr} {H H1 H2 : Hp} (a : Step O H (F1 ++ O1) H1) (b : Step O1 H1 (F2 ++ O2) H2) : Step O H ((F2 ++ F1) ++ O2) H2 where
  own := fun x hx => by
    rcases List.mem_append.mp hx with z | z
    · rcases List.mem_append.mp z with z | z
      · rcases b.own x (List.mem_append_left _ z) with y | y
        · exact a.own x (List.mem_append_right _ y)
        · exact .inr (a.gone y)
      · exact a.own x (List.mem_append_left _ z)
    · rcases b.own x (List.mem_append_right _ z) with y | y
      · exact a.own x (List.mem_append_right _ y)
      · exact .inr (a.gone y)
  ext := (a.less.trans b.less).ext
  stay := (a.less.trans b.less).stay
section
variable {K : PySem.W.Frag} {P O O' : List Addr} {A : List V} {H H' : Hp} {σ : L2.St} {ρ : Rho} {v : V}
theorem Step.wo (s : Step O H O' H') (hP : ∀ a ∈ P, a ∉ O ∧ ∃ o, H a = some o) : ∀ a o, wo (O ++ P) H a = some o → DL.wo (O' ++ P) H' a = some o := fun a o e => by
  obtain ⟨h1, h2⟩ := wo_some.mp e
  rw [List.mem_append, not_or] at h1
  refine wo_some.mpr ⟨?_, s.ext a o h1.1 h2⟩
  rw [List.mem_append, not_or]
  refine ⟨fun z => ?_, h1.2⟩
  rcases s.own a z with q | q
  · exact h1.1 q
  · rw [q] at h2
    cases h2
theorem Step.woF (s : Step O H O' H') {F : List Addr} (hF : ∀ a ∈ F, a ∉ O ∧ ∃ o, H a = some o) : ∀ a o, DL.wo (F ++ (O ++ P)) H a = some o → DL.wo (F ++ (O' ++ P)) H' a = some o := fun a o e => by
  obtain ⟨h1, h2⟩ := wo_some.mp e
  simp only [List.mem_append, not_or] at h1
  refine wo_some.mpr ⟨?_, s.ext a o h1.2.1 h2⟩
  simp only [List.mem_append, not_or]
  refine ⟨h1.1, fun z => ?_, h1.2.2⟩
  rcases s.own a z with q | q
  · exact h1.2.1 q
  · rw [q] at h2
    cases h2
theorem RR.step {r : R} {F : List Addr} (h : RR K P F O H σ v r) (s : Step O H O' H') (hF : ∀ a ∈ F, a ∉ O) : RR K P F O' H' σ v r := by
  cases r with
  | slot i => exact h
  | tmp t =>
    obtain ⟨h1, h2, h3⟩ := h
    have hF' : ∀ a ∈ F, a ∉ O ∧ ∃ o, H a = some o := fun a ha => ⟨hF a ha, (h1.in a ha).2⟩
    refine ⟨h1.keep (s.woF hF') fun a ha => ?_, h2, h3⟩
    obtain ⟨q, o, e⟩ := hF' a ha
    exact ⟨List.mem_append_left _ ha, by rw [e]; exact s.ext a o q e⟩
end
/-- values in a row: each one's new lists are the others' protected ones -/
inductive RRs (K : PySem.W.Frag) : List Addr → List Addr → Hp → L2.St → List Addr → List V → List R → Prop where
  | nil {P O : List Addr} {H : Hp} {σ : L2.St} : RRs K P O H σ [] [] []
  | cons {P O : List Addr} {H : Hp} {σ : L2.St} {v : V} {vs : List V} {r : R} {rs : List R} {F Fs G : List Addr} : RR K P F O H σ v r → RRs K (F ++ P) O H σ Fs vs rs → G = Fs ++ F → RRs K P O H σ G (v :: vs) (r :: rs)
theorem RRs.step {K : PySem.W.Frag} {O O' : List Addr} {H H' : Hp} {σ : L2.St} (s : Step O H O' H') : ∀ {P Fs : List Addr} {vs : List V} {rs : List R}, RRs K P O H σ Fs vs rs → (∀ a ∈ Fs, a ∉ O) → RRs K P O' H' σ Fs vs rs
  | _, _, _, _, .nil, _ => .nil
  | _, _, _, _, .cons a b e, h => .cons (a.step s fun x hx => h x (by rw [e]; exact List.mem_append_right _ hx)) (b.step s fun x hx => h x (by rw [e]; exact List.mem_append_left _ hx)) e
/-- an exception of this class by name, with these fields -/
def ExR (K : PySem.W.Frag) (mg : Str → Option Value) (Z : List Addr) (H : Hp) (x : XD) (cls : Value) (d : Option Addr) : Prop :=
  mg x.cls = some cls ∧ match d with
  | none => x.fs = []
  | some a => x.fs ≠ [] ∧ ∃ fs : List (Str × V), H a = some (.xd fs) ∧ a ∉ Z ∧ Paired (fun (p : Str × V) (q : Str × D) => p.1 = q.1 ∧ Rp K (wo Z H) p.2 q.2) fs x.fs
/-- what is wanted behind a computation: rel tells what a value stands for (P protected, F the value's new lists) -/
def Aft {α β : Type} (rel : List Addr → List Addr → List Addr → Hp → β → α → Prop) (K : PySem.W.Frag) (mg : Str → Option Value) (W : WX) (P : List Addr) (A : List V) (σ : L2.St) (O : List Addr) (H : Hp) (o : Out α) (Q : β → Hp → Prop) : Prop :=
  match o with
  | .ok a ρ' => ∀ b H' O' F, EnvR K (F ++ P) A O' H' σ ρ' → rel P F O' H' b a → Step O H (F ++ O') H' → Q b H'
  | .exc x ρ' => ∀ cls d H' O', EnvR K P A O' H' σ ρ' → ExR K mg (O' ++ P) H' x cls d → Step O H O' H' → W cls d σ H'
  | .bad => False
def tG {α β : Type} (rel : PySem.W.Frag → L2.St → List Addr → List Addr → List Addr → Hp → β → α → Prop) (K : PySem.W.Frag) (mg : Str → Option Value) (W : WX) (m : M α) : L2.St → Hp → (β → Hp → Prop) → Prop := fun σ H Q =>
  ∃ P A O ρ, EnvR K P A O H σ ρ ∧ Aft (rel K σ) K mg W P A σ O H (m ρ) Q
abbrev relR : PySem.W.Frag → L2.St → List Addr → List Addr → List Addr → Hp → V → R → Prop := fun K σ P F O H v r => RR K P F O H σ v r
abbrev relRs : PySem.W.Frag → L2.St → List Addr → List Addr → List Addr → Hp → List V → List R → Prop := fun K σ P F O H vs rs => RRs K P O H σ F vs rs
abbrev relB : PySem.W.Frag → L2.St → List Addr → List Addr → List Addr → Hp → Bool → Bool → Prop := fun _ _ _ _ _ _ b c => b = c
abbrev tR := tG relR
abbrev tRs := tG relRs
abbrev tBo := tG relB
theorem EnvR.less {K : PySem.W.Frag} {F P O : List Addr} {A : List V} {H : Hp} {σ : L2.St} {ρ : Rho} (e : EnvR K (F ++ P) A O H σ ρ) : EnvR K P A O H σ ρ where
  len := e.len
  at_ := by
    obtain ⟨Fs, h1, h2⟩ := e.at_
    refine ⟨Fs, fun i t q => ?_, h2⟩
    obtain ⟨v, e1, r, hO⟩ := h1 i t q
    refine ⟨v, e1, r.keep (fun a o z => ?_) fun a ha => ⟨List.mem_append_left _ (hO a ha), rfl⟩, hO⟩
    obtain ⟨z1, z2⟩ := wo_some.mp z
    simp only [List.mem_append, not_or] at z1
    exact wo_some.mpr ⟨by simp only [List.mem_append, not_or]; exact ⟨z1.1, z1.2.2⟩, z2⟩
  prot := fun a ha => e.prot a (List.mem_append_right _ ha)
  trk := e.trk
  tag := e.tag
theorem ExR.less {K : PySem.W.Frag} {mg : Str → Option Value} {Z Z' : List Addr} {H : Hp} {x : XD} {cls : Value} {d : Option Addr} (h : ExR K mg Z H x cls d) (hz : ∀ a, a ∈ Z' → a ∈ Z) : ExR K mg Z' H x cls d := by
  obtain ⟨h1, h2⟩ := h
  refine ⟨h1, ?_⟩
  cases d with
  | none => exact h2
  | some a =>
    obtain ⟨h0, fs, e, n, r⟩ := h2
    exact ⟨h0, fs, e, fun z => n (hz a z), Paired.mapP r fun p q z => ⟨z.1, z.2.mono fun b o y => by
      obtain ⟨y1, y2⟩ := wo_some.mp y
      exact wo_some.mpr ⟨fun w => y1 (hz b w), y2⟩⟩⟩
section
variable {α β : Type} {rel : List Addr → List Addr → List Addr → Hp → β → α → Prop} {K : PySem.W.Frag} {mg : Str → Option Value} {W : WX} {P : List Addr} {A : List V} {σ : L2.St} {O O' : List Addr} {H H' : Hp}
theorem Aft.step {o : Out α} {Q : β → Hp → Prop} (h : Aft rel K mg W P A σ O H o Q) (s : Step O H O' H') : Aft rel K mg W P A σ O' H' o Q := by
  cases o with
  | ok a ρ' => exact fun b H1 O1 F e r t => h b H1 O1 F e r (s.trans t)
  | exc x ρ' => exact fun c d H1 O1 e r t => h c d H1 O1 e r (s.trans t)
  | bad => exact h
theorem Aft.mono {o : Out α} {Q Q' : β → Hp → Prop} (h : Aft rel K mg W P A σ O H o Q) (hq : ∀ b H, Q b H → Q' b H) : Aft rel K mg W P A σ O H o Q' := by
  cases o with
  | ok a ρ' => exact fun b H1 O1 F e r t => hq _ _ (h b H1 O1 F e r t)
  | exc x ρ' => exact h
  | bad => exact h
/-- one part, then the rest; G: the new lists of the parts ahead; s: what was ahead -/
theorem Aft.bindP {α' β' : Type} {rl : List Addr → List Addr → List Addr → Hp → β' → α' → Prop} (G : List Addr) {m : M α'} {k : α' → M α} {ρ : Rho} {Q : β → Hp → Prop} (s : Step O H O' H') (h : Aft rel K mg W P A σ O H (M.bind m k ρ) Q) :
    Aft rl K mg W (G ++ P) A σ O' H' (m ρ) (fun b H1 => ∃ O1 ρ1 a F, EnvR K (F ++ (G ++ P)) A O1 H1 σ ρ1 ∧ rl (G ++ P) F O1 H1 b a ∧ Step O' H' (F ++ O1) H1 ∧ Aft rel K mg W P A σ O H (k a ρ1) Q) := by
  unfold M.bind at h
  cases e : m ρ with
  | ok a ρ1 =>
    rw [e] at h
    exact fun b H1 O1 F q r s => ⟨O1, ρ1, a, F, q, r, s, h⟩
  | exc x ρ1 =>
    rw [e] at h
    exact fun c d H1 O1 q r s1 => h c d H1 O1 q.less (r.less fun a ha => by
      rcases List.mem_append.mp ha with z | z
      · exact List.mem_append_left _ z
      · exact List.mem_append_right _ (List.mem_append_right _ z)) (s.trans s1)
  | bad =>
    rw [e] at h
    exact h
theorem Aft.bind {α' β' : Type} {rl : List Addr → List Addr → List Addr → Hp → β' → α' → Prop} {m : M α'} {k : α' → M α} {ρ : Rho} {Q : β → Hp → Prop} (h : Aft rel K mg W P A σ O H (M.bind m k ρ) Q) :
    Aft rl K mg W P A σ O H (m ρ) (fun b H1 => ∃ O1 ρ1 a F, EnvR K (F ++ P) A O1 H1 σ ρ1 ∧ rl P F O1 H1 b a ∧ Step O H (F ++ O1) H1 ∧ Aft rel K mg W P A σ O H (k a ρ1) Q) := Aft.bindP [] (Step.refl _ _) h
theorem EnvR.off {F : List Addr} {ρ : Rho} (e : EnvR K (F ++ P) A O H σ ρ) : ∀ a ∈ F, a ∉ O := fun a ha => (e.prot a (List.mem_append_left _ ha)).1
end
end DL
namespace L2
open PySem PySem.Spec PyProof.Rows
theorem PE.imp {X : Cx} {e : Expr} {t t' : TE} (h : PE X e t) (q : ∀ σ H Q, t' σ H Q → t σ H Q) : PE X e t' := ⟨fun pins s σ H Q I z => h.run pins s σ H Q I (q σ H Q z)⟩
theorem PT.imp {X : Cx} {e : Expr} {t t' : TT} (h : PT X e t) (q : ∀ σ H Q, t' σ H Q → t σ H Q) : PT X e t' := ⟨fun pins s σ H Q I z => h.run pins s σ H Q I (q σ H Q z)⟩
theorem PA.imp {X : Cx} {e : List Expr} {t t' : TA} (h : PA X e t) (q : ∀ σ H Q, t' σ H Q → t σ H Q) : PA X e t' := ⟨fun pos pins s σ H Q I z => h.run pos pins s σ H Q I (q σ H Q z)⟩
theorem PS.imp {X : Cx} {e : Stmt} {t t' : TS} (h : PS X e t) (q : ∀ D σ H, t' D σ H → t D σ H) : PS X e t' := ⟨fun pins s σ H D I z => h.run pins s σ H D I (q D σ H z)⟩
theorem PSs.imp {X : Cx} {e : List Stmt} {t t' : TS} (h : PSs X e t) (q : ∀ D σ H, t' D σ H → t D σ H) : PSs X e t' := ⟨fun pins s σ H D I z => h.run pins s σ H D I (q D σ H z)⟩
end L2
set_option Elab.async false
set_option maxRecDepth 100000
set_option maxHeartbeats 4000000
namespace DL
open PySem PySem.Spec PyProof.Rows L2
section
variable {K : PySem.W.Frag} {P O : List Addr} {A : List V} {H H' : Hp} {σ : L2.St} {ρ : Rho} {v : V}
theorem wo_le {Z : List Addr} (h : ∀ a o, H a = some o → H' a = some o) : ∀ a o, wo Z H a = some o → wo Z H' a = some o := fun a o e => by
  obtain ⟨h1, h2⟩ := wo_some.mp e
  exact wo_some.mpr ⟨h1, h a o h2⟩
/-- more objects, none changed -/
theorem EnvR.more (e : EnvR K P A O H σ ρ) (h : ∀ a o, H a = some o → H' a = some o) : EnvR K P A O H' σ ρ where
  len := e.len
  at_ := by
    obtain ⟨Fs, h1, h2⟩ := e.at_
    refine ⟨Fs, fun i t q => ?_, h2⟩
    obtain ⟨v, e1, r, hO⟩ := h1 i t q
    refine ⟨v, e1, r.keep (wo_le h) fun a ha => ?_, hO⟩
    obtain ⟨z, o, q'⟩ := r.in a ha
    exact ⟨z, by rw [q', h a o q']⟩
  prot := fun a ha => ⟨(e.prot a ha).1, let ⟨o, q⟩ := (e.prot a ha).2; ⟨o, h a o q⟩⟩
  trk := fun a ha => let ⟨o, q⟩ := e.trk a ha; ⟨o, h a o q⟩
  tag := e.tag
theorem Step.more (h : ∀ a o, H a = some o → H' a = some o) : Step O H O H' := ⟨fun _ q => .inl q, fun a o _ q => h a o q, fun a o q => ⟨o, h a o q⟩⟩
/-- a value just made -/
structure NewT (K : PySem.W.Frag) (Z : List Addr) (H H' : Hp) (v : V) (t : T) : Prop where
  more : ∀ a o, H a = some o → H' a = some o
  rep : ∃ F, RepT K (F ++ Z) H' v t F ∧ ∀ a ∈ F, H a = none
  noTag : t.tagOf = none
/-- the frame's slots do not know what is new -/
theorem EnvR.new {F : List Addr} (e : EnvR K P A O H σ ρ) (h : ∀ a o, H a = some o → H' a = some o) (hF : ∀ a ∈ F, H a = none ∧ ∃ o, H' a = some o) : EnvR K (F ++ P) A O H' σ ρ where
  len := e.len
  at_ := by
    obtain ⟨Fs, h1, h2⟩ := e.at_
    refine ⟨Fs, fun i t q => ?_, h2⟩
    obtain ⟨v, e1, r, hO⟩ := h1 i t q
    refine ⟨v, e1, r.keep (fun a o z => ?_) fun a ha => ?_, hO⟩
    · obtain ⟨z1, z2⟩ := wo_some.mp z
      refine wo_some.mpr ⟨fun y => z1 ?_, h a o z2⟩
      rcases List.mem_append.mp y with y | y
      · exact List.mem_append_left _ y
      · rcases List.mem_append.mp y with y | y
        · rw [(hF a y).1] at z2
          cases z2
        · exact List.mem_append_right _ y
    · obtain ⟨z, o, q'⟩ := r.in a ha
      exact ⟨List.mem_append_left _ (hO a ha), by rw [q', h a o q']⟩
  prot := fun a ha => by
    rcases List.mem_append.mp ha with z | z
    · refine ⟨fun y => ?_, (hF a z).2⟩
      obtain ⟨o, q⟩ := e.trk a y
      rw [(hF a z).1] at q
      cases q
    · obtain ⟨z1, o, q⟩ := e.prot a z
      exact ⟨z1, o, h a o q⟩
  trk := fun a ha => let ⟨o, q⟩ := e.trk a ha; ⟨o, h a o q⟩
  tag := e.tag
theorem NewT.rr {t : T} (n : NewT K (O ++ P) H H' v t) (e : EnvR K P A O H σ ρ) : ∃ F, EnvR K (F ++ P) A O H' σ ρ ∧ RR K P F O H' σ v (.tmp t) ∧ ∀ a ∈ F, H a = none := by
  obtain ⟨F, r, hF⟩ := n.rep
  refine ⟨F, e.new n.more fun a ha => ⟨hF a ha, (r.in a ha).2⟩, ⟨r, fun a ha z => ?_, n.noTag⟩, hF⟩
  obtain ⟨_, o, q⟩ := e.prot a z
  rw [hF a ha] at q
  cases q
theorem NewT.val {Z : List Addr} {d : D} (h : Rp K (wo Z H) v d) : NewT K Z H H v (.val d) := ⟨fun _ _ q => q, ⟨[], .val h, fun _ q => absurd q (List.not_mem_nil)⟩, rfl⟩
theorem NewT.scal {Z : List Addr} {d : D} (h : Rp K (fun _ => none) v d) : NewT K Z H H v (.val d) := .val (h.mono fun _ _ q => by cases q)
theorem wo_upd {Z : List Addr} {p : Addr} {o : HO} (h : H p = none) : ∀ a u, wo Z H a = some u → wo (p :: Z) (upd H p o) a = some u := fun a u e => by
  obtain ⟨h1, h2⟩ := wo_some.mp e
  have n : a ≠ p := ne_of_none h2 h
  refine wo_some.mpr ⟨fun z => (List.mem_cons.mp z).elim n h1, ?_⟩
  rw [upd_ne n]
  exact h2
theorem upd_more {p : Addr} {o : HO} (h : H p = none) : ∀ a u, H a = some u → upd H p o a = some u := fun a u e => by
  rw [upd_ne (ne_of_none e h)]
  exact e
theorem NewT.lst {Z : List Addr} {p : Addr} {vs : List V} {ds : List D} (hp : H p = none) (h : RpAll K (wo Z H) vs ds) : NewT K Z H (upd H p (.lst vs)) (.ref p) (.lst none ds) :=
  ⟨upd_more hp, ⟨[p], .lst (List.mem_append_left _ (List.mem_singleton.mpr rfl)) upd_same (h.mono (wo_upd hp)), fun a ha => by rw [List.mem_singleton.mp ha]; exact hp⟩, rfl⟩
theorem NewT.tup {Z : List Addr} {p : Addr} {vs : List V} {ds : List D} (hp : H p = none) (hz : p ∉ Z) (h : RpAll K (wo Z H) vs ds) : NewT K Z H (upd H p (.tup vs)) (.ref p) (.val (.tuple ds)) :=
  ⟨upd_more hp, ⟨[], .val (.tup (.inl (.inl (wo_some.mpr ⟨hz, upd_same⟩))) (h.mono fun a u e => by
    obtain ⟨h1, h2⟩ := wo_some.mp e
    exact wo_some.mpr ⟨h1, upd_more hp a u h2⟩)), fun _ q => absurd q (List.not_mem_nil)⟩, rfl⟩
/-- what an operation sees: a thing, a list whose items are things, or a dict -/
inductive VR (K : PySem.W.Frag) (Z : List Addr) (H : Hp) : V → D → Prop
  | inl {v : V} {d : D} : Rp K (wo Z H) v d → VR K Z H v d
  | inr {v : V} {d : D} : (∃ a vs ds, v = .ref a ∧ d = .list ds ∧ H a = some (.lst vs) ∧ RpAll K (wo Z H) vs ds) → VR K Z H v d
  | dct {a : Addr} {o : Obj} {es : List KVV} {kvs : List (D × D)} : H a = some (dcO a o es) → KvsOk kvs → RpDct K (wo Z H) es kvs → VR K Z H (.ref a) (.dict kvs)
theorem VR.rp {Z : List Addr} {d : D} (h : VR K Z H v d) : Rp K H v d := by
  rcases h with h | ⟨a, vs, ds, rfl, rfl, e, h⟩ | ⟨h1, h2, h3⟩
  · exact h.mono wo_sub
  · exact .lst (.inl (.inl e)) (h.mono wo_sub)
  · exact .dct h1 h2 (h3.mono wo_sub)
theorem VR.more {Z : List Addr} {d : D} (h : VR K Z H v d) (m : ∀ a o, H a = some o → H' a = some o) : VR K Z H' v d := by
  rcases h with h | ⟨a, vs, ds, rfl, rfl, e, h⟩ | ⟨h1, h2, h3⟩
  · exact .inl (h.mono (wo_le m))
  · exact .inr ⟨a, vs, ds, rfl, rfl, m _ _ e, h.mono (wo_le m)⟩
  · exact .dct (m _ _ h1) h2 (h3.mono (wo_le m))
theorem VR.list {Z : List Addr} {ds : List D} (h : VR K Z H v (.list ds)) : ∃ a vs, v = .ref a ∧ SqL K H a vs ∧ RpAll K (wo Z H) vs ds := by
  rcases h with h | ⟨a, vs, ds, rfl, e0, e, h⟩
  · cases h with
    | lst h1 h2 => exact ⟨_, _, rfl, sql_mono wo_sub h1, h2⟩
  · cases e0
    exact ⟨a, vs, rfl, .inl (.inl e), h⟩
theorem VR.tuple {Z : List Addr} {ds : List D} (h : VR K Z H v (.tuple ds)) : ∃ a vs, v = .ref a ∧ SqT K H a vs ∧ RpAll K (wo Z H) vs ds ∧ Rp K (wo Z H) v (.tuple ds) := by
  rcases h with h | ⟨a, vs, ds, rfl, e0, e, h⟩
  · cases h with
    | tup h1 h2 => exact ⟨_, _, rfl, sqt_mono wo_sub h1, h2, .tup h1 h2⟩
  · cases e0
theorem VR.dict {Z : List Addr} {kvs : List (D × D)} (h : VR K Z H v (.dict kvs)) : ∃ a o es, v = .ref a ∧ H a = some (dcO a o es) ∧ KvsOk kvs ∧ RpDct K (wo Z H) es kvs := by
  rcases h with h | ⟨a, vs, ds, rfl, e0, e, h⟩ | ⟨h1, h2, h3⟩
  · cases h with
    | dct h1 h2 h3 => exact ⟨_, _, _, rfl, wo_sub _ _ h1, h2, h3.mono fun _ _ z => z⟩
  · cases e0
  · exact ⟨_, _, _, rfl, h1, h2, h3⟩
theorem VR.int {Z : List Addr} {i : Int} (h : VR K Z H v (.int i)) : v = .int i := by
  rcases h with h | ⟨a, vs, ds, rfl, e0, e, h⟩
  · cases h; rfl
  · cases e0
theorem VR.bool {Z : List Addr} {i : Bool} (h : VR K Z H v (.bool i)) : v = .bl i := by
  rcases h with h | ⟨a, vs, ds, rfl, e0, e, h⟩
  · cases h; rfl
  · cases e0
theorem VR.str {Z : List Addr} {i : Str} (h : VR K Z H v (.str i)) : v = .str i := by
  rcases h with h | ⟨a, vs, ds, rfl, e0, e, h⟩
  · cases h; rfl
  · cases e0
theorem VR.none {Z : List Addr} (h : VR K Z H v .none) : v = .non := by
  rcases h with h | ⟨a, vs, ds, rfl, e0, e, h⟩
  · cases h; rfl
  · cases e0
def T.cview : T → Option D
  | .val d => some d
  | .lst _ ds => some (.list ds)
  | .dct _ kvs => some (.dict kvs)
  | .shr _ _ => Option.none
  | .any _ _ => Option.none
  | .own _ _ => Option.none
  | .ron _ _ => Option.none
def look (r : R) (ρ : Rho) : Option D := match r with
  | .tmp t => t.tv
  | .slot i => match ρ[i]? with
    | some (some t) => t.cview
    | _ => Option.none
theorem T.cview_view {t : T} {d : D} (h : t.cview = some d) : t.view = d := by
  cases t with
  | shr => cases h
  | any => cases h
  | own => cases h
  | ron => cases h
  | _ => exact Option.some.inj h
theorem RepT.vr {Z : List Addr} {t : T} {F : List Addr} (r : RepT K Z H v t F) {Z' : List Addr} (hZ : ∀ a, a ∈ Z' → a ∈ Z) {d : D} (hd : t.cview = some d) : VR K Z' H v d := by
  cases T.cview_view hd
  cases r with
  | val h => exact .inl (h.mono fun a o e => by
      obtain ⟨h1, h2⟩ := wo_some.mp e
      exact wo_some.mpr ⟨fun z => h1 (hZ a z), h2⟩)
  | lst h1 h2 h3 => exact .inr ⟨_, _, _, rfl, rfl, h2, h3.mono fun a o e => by
      obtain ⟨h1, h2⟩ := wo_some.mp e
      exact wo_some.mpr ⟨fun z => h1 (hZ a z), h2⟩⟩
  | dct h1 h2 h3 h4 => exact .dct h2 h3 (h4.mono fun a o e => by
      obtain ⟨h1, h2⟩ := wo_some.mp e
      exact wo_some.mpr ⟨fun z => h1 (hZ a z), h2⟩)
  | shr h1 h2 h3 => cases hd
  | any => cases hd
  | own => cases hd
  | ron => cases hd
theorem look_vr {r : R} {d : D} {F : List Addr} (e : EnvR K P A O H σ ρ) (h : RR K P F O H σ v r) (l : look r ρ = some d) : VR K (O ++ P) H v d := by
  cases r with
  | tmp t =>
    obtain ⟨h1, h2, h3⟩ := h
    have l : t.tv = some d := l
    refine h1.vr (fun a ha => List.mem_append_right _ ha) ?_
    cases t with
    | shr => cases h3
    | any => cases h3
    | own => cases l
    | ron => cases l
    | _ => exact l
  | slot i =>
    unfold look at l
    simp only at l
    split at l
    · rename_i t q
      obtain ⟨Fs, h1, h2⟩ := e.at_
      obtain ⟨w, e1, r1, hO⟩ := h1 i t q
      have e2 : σ[i]? = some (some v) := h
      rw [e1] at e2
      cases e2
      exact r1.vr (fun _ h => h) l
    · cases l
end
theorem RR.less {K : PySem.W.Frag} {F G P O : List Addr} {H : Hp} {σ : L2.St} {v : V} {r : R} (h : RR K (F ++ P) G O H σ v r) : RR K P G O H σ v r := by
  cases r with
  | slot i => exact h
  | tmp t =>
    obtain ⟨h1, h2, h3⟩ := h
    refine ⟨h1.keep (fun a o z => ?_) fun a ha => ⟨List.mem_append_left _ ha, rfl⟩, fun a ha z => h2 a ha (List.mem_append_right _ z), h3⟩
    obtain ⟨z1, z2⟩ := wo_some.mp z
    simp only [List.mem_append, not_or] at z1
    exact wo_some.mpr ⟨by simp only [List.mem_append, not_or]; exact ⟨z1.1, z1.2.1, z1.2.2.2⟩, z2⟩
theorem RR.perm {K : PySem.W.Frag} {P P' O F : List Addr} {H : Hp} {σ : L2.St} {v : V} {r : R} (h : RR K P F O H σ v r) (p : ∀ a, a ∈ P ↔ a ∈ P') : RR K P' F O H σ v r := by
  cases r with
  | slot i => exact h
  | tmp t =>
    obtain ⟨h1, h2, h3⟩ := h
    refine ⟨h1.keep (fun a o z => ?_) fun a ha => ⟨List.mem_append_left _ ha, rfl⟩, fun a ha z => h2 a ha ((p a).mpr z), h3⟩
    obtain ⟨z1, z2⟩ := wo_some.mp z
    simp only [List.mem_append, not_or] at z1
    exact wo_some.mpr ⟨by simp only [List.mem_append, not_or]; exact ⟨z1.1, z1.2.1, fun y => z1.2.2 ((p a).mpr y)⟩, z2⟩
theorem RRs.perm {K : PySem.W.Frag} {O : List Addr} {H : Hp} {σ : L2.St} : ∀ {vs : List V} {rs : List R} {P P' F : List Addr}, RRs K P O H σ F vs rs → (∀ a, a ∈ P ↔ a ∈ P') → RRs K P' O H σ F vs rs
  | _, _, _, _, _, .nil, _ => .nil
  | _, _, _, _, _, .cons a b e, p => .cons (a.perm p) (RRs.perm b fun x => by simp only [List.mem_append, p x]) e
theorem RRs.less {K : PySem.W.Frag} {G : List Addr} {O : List Addr} {H : Hp} {σ : L2.St} : ∀ {vs : List V} {rs : List R} {F P : List Addr}, RRs K (G ++ P) O H σ F vs rs → RRs K P O H σ F vs rs
  | _, _, _, _, .nil => .nil
  | _, _, _, P, .cons (F := F) a b e => .cons a.less (RRs.less (G := G) (b.perm fun x => by simp only [List.mem_append]; constructor <;> (intro h; rcases h with h | h | h <;> simp [h]))) e
def OpOk (K : PySem.W.Frag) (r : R2) (f : D → D → Option T) : Prop := ∀ (Z : List Addr) (H : Hp) (x y : V) (d e : D) (t : T) (Q : VK), (∀ p, H p = none → p ∉ Z) → VR K Z H x d → VR K Z H y e → f d e = some t →
  (∀ v H', NewT K Z H H' v t → Q v H') → r x y H Q
def op2 (f : D → D → Option T) (ra rb : R) : M R := fun ρ => match look ra ρ, look rb ρ with
  | some x, some y => (match f x y with
    | some t => .ok (.tmp t) ρ
    | none => .bad)
  | _, _ => .bad
section
variable {K : PySem.W.Frag} {mg : Str → Option Value} {W : WX} {P O : List Addr} {A : List V} {H H' : Hp} {σ : L2.St} {ρ : Rho} {v : V}
theorem EnvR.fresh (e : EnvR K P A O H σ ρ) {p : Addr} (h : H p = none) : p ∉ O ++ P := fun z => by
  rcases List.mem_append.mp z with z | z
  · obtain ⟨o, q⟩ := e.trk p z
    rw [h] at q; cases q
  · obtain ⟨_, o, q⟩ := e.prot p z
    rw [h] at q; cases q
/-- the end of an operation that makes t -/
theorem Aft.tmp {t : T} {Q : VK} (h : Aft (relR K σ) K mg W P A σ O H (.ok (.tmp t) ρ) Q) (e : EnvR K P A O H σ ρ) {v : V} {H' : Hp} (n : NewT K (O ++ P) H H' v t) : Q v H' :=
  let ⟨F, e', r, hF⟩ := n.rr e
  h v H' O F e' r ⟨fun a ha => (List.mem_append.mp ha).elim (fun z => .inr (hF a z)) .inl, fun a o _ q => n.more a o q, fun a o q => ⟨o, n.more a o q⟩⟩
theorem op2_ok {r : R2} {f : D → D → Option T} (hf : OpOk K r f) {x y : V} {ra rb : R} {F G : List Addr} {Q : VK} (e : EnvR K P A O H σ ρ) (hx : RR K P F O H σ x ra) (hy : RR K P G O H σ y rb)
    (h : Aft (relR K σ) K mg W P A σ O H (op2 f ra rb ρ) Q) : r x y H Q := by
  unfold op2 at h
  split at h
  · rename_i d d' h1 h2
    split at h
    · rename_i t ht
      exact hf (O ++ P) H x y d d' t Q (fun p hp => e.fresh hp) (look_vr e hx h1) (look_vr e hy h2) ht fun v H' n => h.tmp e n
    · exact h.elim
  · exact h.elim
end
section
variable {X : Cx} {W : WX} {a b c : Expr} {pos : Pos} {ma mb mc : M R}
abbrev JE (X : Cx) (W : WX) (e : Expr) (m : M R) : Prop := PE X e (tR X.K X.mg W m)
abbrev JB (X : Cx) (W : WX) (e : Expr) (m : M Bool) : Prop := PT X e (tBo X.K X.mg W m)
abbrev JEs (X : Cx) (W : WX) (es : List Expr) (m : M (List R)) : Prop := PA X es (tRs X.K X.mg W m)
/-- two things in order, then an operation by values -/
theorem two_of {r : R2} {f : D → D → Option T} (hf : OpOk X.K r f) {σ : L2.St} {H : Hp} {Q : VK} (h : tR X.K X.mg W (M.bind ma fun ra => M.bind mb fun rb => op2 f ra rb) σ H Q) : tOp r (tR X.K X.mg W ma) (tR X.K X.mg W mb) σ H Q := by
  obtain ⟨P, A, O, ρ, e, h⟩ := h
  refine ⟨P, A, O, ρ, e, (Aft.bind (rl := relR X.K σ) h).mono ?_⟩
  rintro x H1 ⟨O1, ρ1, ra, F, e1, r1, s1, h1⟩
  refine ⟨F ++ P, A, O1, ρ1, e1, (Aft.bindP (rl := relR X.K σ) F s1.less h1).mono ?_⟩
  rintro y H2 ⟨O2, ρ2, rb, G, e2, r2, s2, h2⟩
  exact op2_ok hf e2.less.less (r1.step s2.less e1.off) r2.less (h2.step (s1.less.trans s2.less))
theorem j_op {op : Operator} {r : R2} {f : D → D → Option T} (ho : OpR X (binaryOp op) r) (hf : OpOk X.K r f) (ha : JE X W a ma) (hb : JE X W b mb) : JE X W (.BinOp a op b pos) (M.bind ma fun ra => M.bind mb fun rb => op2 f ra rb) :=
  (pe_op ho ha hb).imp fun _ _ _ h => two_of hf h
theorem j_cmp {op : CmpOp} {r : R2} {f : D → D → Option T} (ho : OpR X (compareOp op) r) (hf : OpOk X.K r f) (hm : behindInMarks op b = false) (ha : JE X W a ma) (hb : JE X W b mb) : JE X W (.Compare a [op] [b] pos) (M.bind ma fun ra => M.bind mb fun rb => op2 f ra rb) :=
  (pe_cmpR ho ha hb hm).imp fun _ _ _ h => two_of hf h
def getM (i : Nat) : M R := fun ρ => match ρ[i]? with
  | some (some _) => .ok (.slot i) ρ
  | _ => .bad
theorem j_var {i : Nat} {x : Str} (hN : X.N[i]? = some x) (hv : Vis X.env.scope x) (hd : (x == ("__debug__" : Str)) = false) (hcd : (x == ("__classdict__" : Str)) = false) :
    JE X W (.Name x pos) (getM i) := by
  refine (pe_var (i := i) hN hv hd hcd).imp fun σ H Q h => ?_
  obtain ⟨P, A, O, ρ, e, h⟩ := h
  unfold getM at h
  split at h
  · rename_i t q
    obtain ⟨Fs, h1, h2⟩ := e.at_
    obtain ⟨v, e1, _⟩ := h1 i t q
    exact ⟨v, e1, h v H O [] e e1 (Step.refl _ _)⟩
  · exact h.elim
/-- a constant thing -/
theorem j_const {v : V} {d : D} {x : Expr} (h : PE X x (tC v)) (r : Rp X.K (fun _ => none) v d) : JE X W x (.ret (.tmp (.val d))) := by
  refine h.imp fun σ H Q h => ?_
  obtain ⟨P, A, O, ρ, e, h⟩ := h
  exact Aft.tmp h e (NewT.scal r)
theorem j_int {i j} : JE X W (.Constant (.int i) j pos) (.ret (.tmp (.val (.int i)))) := j_const pe_int (.int i)
theorem j_bl {i j} : JE X W (.Constant (.bool i) j pos) (.ret (.tmp (.val (.bool i)))) := j_const pe_bl (.bl i)
theorem j_non {j} : JE X W (.Constant .none j pos) (.ret (.tmp (.val .none))) := j_const pe_non .non
theorem j_str {i j} : JE X W (.Constant (.str i) j pos) (.ret (.tmp (.val (.str i)))) := j_const pe_str (.str i)
end
end DL
set_option Elab.async false
set_option maxRecDepth 100000
set_option maxHeartbeats 4000000
namespace DL
open PySem PySem.Spec PyProof.Rows L2
def keyEq (a b : D) : Bool := decide (nkD a = nkD b)
def kget : List (D × D) → D → Option D
  | [], _ => none
  | (k, v) :: r, d => if keyEq k d then some v else kget r d
def kput : List (D × D) → D → D → List (D × D)
  | [], d, v => [(d, v)]
  | (k, u) :: r, d, v => if keyEq k d then (k, v) :: r else (k, u) :: kput r d v
theorem keyEq_some {a b : D} {m n : NK} (h : nkD a = some m) (h' : nkD b = some n) : keyEq a b = decide (m = n) := by
  unfold keyEq
  rw [h, h']
  simp
theorem kput_len : ∀ (kvs : List (D × D)) (d v : D), (kput kvs d v).length ≤ kvs.length + 1
  | [], _, _ => by simp [kput]
  | (k, u) :: r, d, v => by
    unfold kput
    have := kput_len r d v
    split <;> simp <;> omega
theorem kput_keys : ∀ (kvs : List (D × D)) (d v : D), (∃ n, nkD d = some n) → (∀ p ∈ kvs, ∃ n, nkD p.1 = some n) → (kput kvs d v).map (·.1) = if (kget kvs d).isSome then kvs.map (·.1) else kvs.map (·.1) ++ [d]
  | [], _, _, _, _ => by simp [kput, kget]
  | (k, u) :: r, d, v, hd, hk => by
    unfold kput kget
    by_cases h : keyEq k d = true
    · simp [h]
    · have ih := kput_keys r d v hd fun p hp => hk p (List.mem_cons_of_mem _ hp)
      simp only [h, Bool.false_eq_true, if_false, List.map_cons, ih]
      split <;> simp
theorem kget_none_mem : ∀ {kvs : List (D × D)} {d : D}, (∃ n, nkD d = some n) → kget kvs d = none → d ∉ kvs.map (·.1)
  | [], _, _, _ => by simp
  | (k, u) :: r, d, hd, h => by
    unfold kget at h
    by_cases e : keyEq k d = true
    · simp [e] at h
    · simp only [e, Bool.false_eq_true, if_false] at h
      simp only [List.map_cons, List.mem_cons, not_or]
      refine ⟨fun z => ?_, kget_none_mem hd h⟩
      subst z
      exact e (by simp [keyEq])
theorem KvsOk.put {kvs : List (D × D)} {d v : D} {n : NK} (h : KvsOk kvs) (hd : nkOf d = some n) (hl : kvs.length < dLine) : KvsOk (kput kvs d v) := by
  obtain ⟨h1, h2, h3⟩ := h
  have hd' : ∃ n, nkD d = some n := ⟨n, (nkOf_some hd).1⟩
  have hk' : ∀ p ∈ kvs, ∃ n, nkD p.1 = some n := fun p hp => let ⟨k, q⟩ := h1 p hp; ⟨k, (nkOf_some q).1⟩
  have ks := kput_keys kvs d v hd' hk'
  refine ⟨fun p hp => ?_, ?_, ?_⟩
  · have : p.1 ∈ (kput kvs d v).map (·.1) := List.mem_map.mpr ⟨p, hp, rfl⟩
    rw [ks] at this
    have key : ∀ x ∈ kvs.map (·.1), ∃ k, nkOf x = some k := fun x hx => by
      obtain ⟨q, hq, rfl⟩ := List.mem_map.mp hx
      exact h1 q hq
    split at this
    · exact key _ this
    · rcases List.mem_append.mp this with z | z
      · exact key _ z
      · rw [List.mem_singleton.mp z]
        exact ⟨n, hd⟩
  · rw [ks]
    split
    · exact h2
    · rename_i hs
      have hn : kget kvs d = none := by simpa using hs
      refine List.nodup_append.mpr ⟨h2, by simp, fun a ha b hb => ?_⟩
      rw [List.mem_singleton.mp hb]
      exact fun z => kget_none_mem hd' hn (by rw [← z]; exact ha)
  · have := kput_len kvs d v
    omega
theorem KvsOk.nil : KvsOk [] := ⟨fun _ h => absurd h List.not_mem_nil, by simp, by simp⟩
section
variable {K : PySem.W.Frag} {H : Hp}
theorem RpDct.length : ∀ {es : List KVV} {kvs : List (D × D)}, RpDct K H es kvs → es.length = kvs.length
  | _, _, .nil => rfl
  | _, _, .cons _ _ _ c => by simp [RpDct.length c]
theorem RpDct.txt : ∀ {es : List KVV} {kvs : List (D × D)}, RpDct K H es kvs → ∀ e ∈ es, noTxt e.1 = true
  | _, _, .nil, _, h => absurd h List.not_mem_nil
  | _, _, .cons a _ _ c, e, h => by
    rcases List.mem_cons.mp h with z | z
    · subst z
      exact nkD_txt a
    · exact c.txt e z
theorem RpDct.nk : ∀ {es : List KVV} {kvs : List (D × D)}, RpDct K H es kvs → es.map (fun e => some e.1) = kvs.map (fun p => nkD p.1)
  | _, _, .nil => rfl
  | _, _, .cons a _ _ c => by simp [a, c.nk]
/-- what is found -/
theorem kget_N {d : D} {k : NK} (hd : nkD d = some k) : ∀ {es : List KVV} {kvs : List (D × D)} {xs : List KV3}, RpDct K H es kvs → Paired RelE es xs →
    (kget kvs d = none → getN xs k = none) ∧ ∀ dv, kget kvs d = some dv → ∃ v u, getN xs k = some u ∧ RelV v u ∧ Rp K H v dv
  | _, _, _, .nil, .nil => ⟨fun _ => rfl, fun _ h => by simp [kget] at h⟩
  | _, _, _, .cons (n := n) (u := u) (v := v) (dk := dk) (dv := dv) a b c r, .cons (b := x) e p => by
    obtain ⟨h1, h2⟩ := kget_N hd r p
    obtain ⟨e1, e2, e3⟩ := e
    have e1' : n = x.1 := e1
    unfold kget getN
    rw [keyEq_some a hd, List.find?_cons]
    by_cases z : n = k
    · have z' : x.1 = k := e1'.symm.trans z
      simp only [z, z', decide_true, if_true]
      exact ⟨fun h => by simp at h, fun w h => by cases h; exact ⟨v, x.2.2, by simp, e3, c⟩⟩
    · have z' : ¬ x.1 = k := fun q => z (e1'.trans q)
      simp only [z, z', decide_false, Bool.false_eq_true, if_false]
      exact ⟨h1, h2⟩
theorem putN_nil {k : NK} {kv v : Value} : putN [] k kv v = [(k, kv, v)] := by simp [putN, getN]
theorem putN_hit {x : KV3} {xs : List KV3} {k : NK} {kv v : Value} (h : x.1 = k) (hn : ∀ y ∈ xs, y.1 ≠ k) : putN (x :: xs) k kv v = (x.1, x.2.1, v) :: xs := by
  unfold putN getN
  rw [List.find?_cons_of_pos (by simpa using h)]
  simp only [Option.map_some, Option.isSome_some, if_true, List.map_cons, h]
  congr 1
  have : ∀ y ∈ xs, (if y.1 = k then (y.1, y.2.1, v) else y) = y := fun y hy => if_neg (hn y hy)
  rw [List.map_congr_left this, List.map_id']
theorem putN_miss {x : KV3} {xs : List KV3} {k : NK} {kv v : Value} (h : x.1 ≠ k) : putN (x :: xs) k kv v = x :: putN xs k kv v := by
  unfold putN getN
  rw [List.find?_cons_of_neg (by simpa using h)]
  split
  · simp [h]
  · simp
theorem kput_N {d dv : D} {k : NK} {uk vv : V} {ukv vvv : Value} (hd : nkD d = some k) (rk : Rp K H uk d) (rv : Rp K H vv dv) (qk : RelV uk ukv) (qv : RelV vv vvv) : ∀ {es : List KVV} {kvs : List (D × D)} {xs : List KV3}, RpDct K H es kvs → Paired RelE es xs → (xs.map (·.1)).Nodup →
    ∃ es', RpDct K H es' (kput kvs d dv) ∧ Paired RelE es' (putN xs k ukv vvv)
  | _, _, _, .nil, .nil, _ => ⟨[(k, uk, vv)], .cons hd rk rv .nil, by rw [putN_nil]; exact .cons ⟨rfl, qk, qv⟩ .nil⟩
  | _, _, _, .cons (n := n) (u := u) (v := v) (dk := dk) (dv := dv0) (es := es) a b c r, .cons (b := x) (l₂ := xs) e p, hn => by
    rw [List.map_cons, List.nodup_cons] at hn
    obtain ⟨es', h1, h2⟩ := kput_N hd rk rv qk qv r p hn.2
    obtain ⟨e1, e2, e3⟩ := e
    have e1' : n = x.1 := e1
    unfold kput
    rw [keyEq_some a hd]
    by_cases z : n = k
    · have z' : x.1 = k := e1'.symm.trans z
      simp only [z, decide_true, if_true]
      refine ⟨(k, u, vv) :: es, .cons (by rw [a, z]) b rv r, ?_⟩
      rw [putN_hit z' fun y hy q => hn.1 (by rw [z', ← q]; exact List.mem_map.mpr ⟨y, hy, rfl⟩)]
      exact .cons ⟨z'.symm, e2, qv⟩ p
    · have z' : ¬ x.1 = k := fun q => z (e1'.trans q)
      simp only [z, decide_false, Bool.false_eq_true, if_false]
      refine ⟨(n, u, v) :: es', .cons a b c h1, ?_⟩
      rw [putN_miss z']
      exact .cons ⟨e1, e2, e3⟩ h2
end
section
variable {X : Cx} {pins : List (Addr × Obj)} {σ : L2.St} {H : Hp} {s : Shared}
mutual
theorem Rp.key (I : Inv X pins σ H s) : ∀ {v : V} {d : D} {k : NK} {u : Value}, Rp X.K H v d → nkD d = some k → RelV v u → NestedIs s.heap k u
  | _, _, _, _, .non, h, r => by
    simp only [nkD, Option.some.injEq] at h
    subst h
    cases (show _ = Value.none from r)
    exact .none
  | _, _, _, _, .int i, h, r => by
    simp only [nkD, Option.some.injEq] at h
    subst h
    obtain ⟨t, rfl⟩ := (show ∃ t, _ = Value.int i t from r)
    exact .int i t
  | _, _, _, _, .tup hs ha, h, r => by
    simp only [nkD, Option.map_eq_some_iff] at h
    obtain ⟨ks, h1, rfl⟩ := h
    cases (show _ = Value.ref _ from r)
    obtain ⟨its, rv, ⟨o, p1, p2, n, p3⟩, hz⟩ := I.tuple hs
    exact .tup p1 p2 p3 (by simpa using RpAll.keys I ha h1 rv)
  | _, _, _, _, .bl _, h, _ => by simp [nkD] at h
  | _, _, _, _, .str _, h, _ => by simp [nkD] at h
  | _, _, _, _, .lst _ _, h, _ => by simp [nkD] at h
  | _, _, _, _, .dct _ _ _, h, _ => by simp [nkD] at h
theorem RpAll.keys (I : Inv X pins σ H s) : ∀ {vs : List V} {ds : List D} {ks : List NK} {us : List Value}, RpAll X.K H vs ds → nkDs ds = some ks → Vals vs us → NestedAll s.heap ks us
  | _, _, _, _, .nil, h, .nil => by
    simp only [nkDs, Option.some.injEq] at h
    subst h
    exact .nil
  | _, _, _, _, .cons (d := d) a b, h, .cons p q => by
    simp only [nkDs] at h
    cases e : nkD d with
    | none => rw [e] at h; cases h
    | some k =>
      rw [e] at h
      obtain ⟨ks, h1, rfl⟩ := Option.map_eq_some_iff.mp h
      exact .cons (Rp.key I a e p) (RpAll.keys I b h1 q)
end
theorem nkD_notStr {v : V} {d : D} {k : NK} {u : Value} (h : Rp X.K H v d) (hk : nkD d = some k) (r : RelV v u) : ∀ x t, u ≠ .str x t := by
  cases h with
  | non => cases (show _ = Value.none from r); exact fun _ _ z => nomatch z
  | int i => obtain ⟨t, rfl⟩ := (show ∃ t, _ = Value.int i t from r); exact fun _ _ z => nomatch z
  | tup _ _ => cases (show _ = Value.ref _ from r); exact fun _ _ z => nomatch z
  | bl _ => simp [nkD] at hk
  | str _ => simp [nkD] at hk
  | lst _ _ => simp [nkD] at hk
  | dct _ _ _ => simp [nkD] at hk
theorem RpDct.keysN (I : Inv X pins σ H s) : ∀ {es : List KVV} {kvs : List (D × D)} {xs : List KV3}, RpDct X.K H es kvs → Paired RelE es xs → (∀ p ∈ kvs, ∃ k, nkOf p.1 = some k) → ∀ x ∈ xs, NestedIs s.heap x.1 x.2.1 ∧ x.1.depth ≤ 8
  | _, _, _, .nil, .nil, _, x, h => absurd h List.not_mem_nil
  | _, _, _, .cons (n := n) a b c r, .cons (b := y) e p, hk, x, h => by
    rcases List.mem_cons.mp h with z | z
    · subst z
      obtain ⟨k, q⟩ := hk _ List.mem_cons_self
      obtain ⟨q1, q2⟩ := nkOf_some q
      have e1 : n = x.1 := e.1
      dsimp only at q1
      rw [a] at q1
      cases q1
      rw [← e1]
      exact ⟨Rp.key I b a e.2.1, q2⟩
    · exact RpDct.keysN I r p (fun p hp => hk p (List.mem_cons_of_mem _ hp)) x z
theorem relE_keys : ∀ {es : List KVV} {xs : List KV3}, Paired RelE es xs → es.map (·.1) = xs.map (·.1)
  | _, _, .nil => rfl
  | _, _, .cons a b => by
    rw [List.map_cons, List.map_cons, relE_keys b, a.1]
theorem RpDct.nodup {K : PySem.W.Frag} {es : List KVV} {kvs : List (D × D)} (r : RpDct K H es kvs) (hn : (kvs.map (·.1)).Nodup) : (es.map (·.1)).Nodup := by
  have key : ∀ {es : List KVV} {kvs : List (D × D)}, RpDct K H es kvs → ∀ n ∈ es.map (·.1), ∃ p ∈ kvs, nkD p.1 = some n := by
    intro es kvs r n hn
    have : some n ∈ es.map (fun e => some e.1) := by
      obtain ⟨e, h1, h2⟩ := List.mem_map.mp hn
      exact List.mem_map.mpr ⟨e, h1, by rw [h2]⟩
    rw [r.nk] at this
    obtain ⟨p, h1, h2⟩ := List.mem_map.mp this
    exact ⟨p, h1, h2⟩
  have go : ∀ {es : List KVV} {kvs : List (D × D)}, RpDct K H es kvs → (kvs.map (·.1)).Nodup → (es.map (·.1)).Nodup := by
    intro es kvs r
    induction es generalizing kvs with
    | nil => intro _; simp
    | cons e es ih =>
      cases r with
      | cons a b c r =>
        intro hn
        rw [List.map_cons, List.nodup_cons] at hn ⊢
        refine ⟨fun z => ?_, ih r hn.2⟩
        obtain ⟨p, h1, h2⟩ := key r _ z
        exact hn.1 (by rw [nkD_inj a h2]; exact List.mem_map.mpr ⟨p, h1, rfl⟩)
  exact go r hn
theorem keysN_of (I : Inv X pins σ H s) {es : List KVV} {kvs : List (D × D)} {xs : List KV3} (r : RpDct X.K H es kvs) (p : Paired RelE es xs) (hk : KvsOk kvs) : KeysN s.heap xs :=
  ⟨RpDct.keysN I r p hk.1, by rw [← relE_keys p]; exact r.nodup hk.2.1⟩
end
def rInN (K : PySem.W.Frag) (neg : Bool) : R2 := fun x y H Q => ∃ d k a o es kvs, Rp K H x d ∧ nkOf d = some k ∧ y = .ref a ∧ H a = some (dcO a o es) ∧ KvsOk kvs ∧ RpDct K H es kvs ∧ Q (.bl (if neg then !(kget kvs d).isSome else (kget kvs d).isSome)) H
def rIxN (K : PySem.W.Frag) : R2 := fun x y H Q => ∃ d k a o es kvs Hs, Rp K H y d ∧ nkOf d = some k ∧ x = .ref a ∧ H a = some (dcO a o es) ∧ KvsOk kvs ∧ (∀ a o, Hs a = some o → H a = some o) ∧ RpDct K Hs es kvs ∧ ∃ dv, kget kvs d = some dv ∧ ∀ v, Rp K Hs v dv → Q v H
def rSetN (K : PySem.W.Frag) : V → V → V → Hp → (Hp → Prop) → Prop := fun x y v H Q => ∃ d k dv a o es kvs Hs, Rp K Hs y d ∧ nkOf d = some k ∧ Rp K Hs v dv ∧ x = .ref a ∧ H a = some (dcO a o es) ∧ KvsOk kvs ∧ kvs.length < dLine ∧ (∀ a o, Hs a = some o → H a = some o) ∧ RpDct K Hs es kvs ∧
  ∀ o' es', RpDct K Hs es' (kput kvs d dv) → Q (upd H a (dcO a o' es'))
section
variable {X : Cx}
theorem isSome_of {K : PySem.W.Frag} {H : Hp} {d : D} {k : NK} (hd : nkD d = some k) {es : List KVV} {kvs : List (D × D)} {xs : List KV3} (r : RpDct K H es kvs) (p : Paired RelE es xs) : (getN xs k).isSome = (kget kvs d).isSome := by
  obtain ⟨h1, h2⟩ := kget_N hd r p
  cases q : kget kvs d with
  | none => rw [h1 q]; rfl
  | some dv =>
    obtain ⟨v, u, e, _⟩ := h2 dv q
    rw [e]; rfl
theorem op_notInN (hu : X.A.units + 65 < cLine) : OpR X (compareOp .NotIn) (rInN X.K true) := by
  intro pins s σ H x y v u Q I rx ry h
  obtain ⟨d, k, a, o, es, kvs, hx, hk, rfl, hH, hok, rd, q⟩ := h
  obtain ⟨h1, h2⟩ := nkOf_some hk
  cases (show u = Value.ref a from ry)
  obtain ⟨hs, xs, hm, hp⟩ := dcO_at (I.hok a _ hH) rd.txt
  show wpAny _ _ (do return Value.bool (!(← contains (.ref a) v))) _ _ s
  refine wpAny_bind (dIn hs (show X.A.units + 1 + 8 < cLine by omega) (Rp.key I hx h1 rx) h2 (nkD_notStr hx h1 rx) hm (keysN_of I rd hp hok) ?_)
  rw [isSome_of h1 rd hp]
  exact wpAny_pure ⟨.bl _, H, I.tok _, rfl, q⟩
theorem ix_dctN (hu : X.A.units + 65 < cLine) : IxR X (rIxN X.K) := by
  intro value slice pins s σ H x y v u Q I rx ry h hs
  obtain ⟨d, k, a, o, es, kvs, Hs, hx, hk, rfl, hH, hok, hsub, rd, dv, hg, q⟩ := h
  obtain ⟨h1, h2⟩ := nkOf_some hk
  cases (show v = Value.ref a from rx)
  obtain ⟨hsm, xs, hm, hp⟩ := dcO_at (I.hok a _ hH) rd.txt
  obtain ⟨_, hgN⟩ := kget_N h1 rd hp
  obtain ⟨w, wv, e1, e2, e3⟩ := hgN dv hg
  exact tail_any hm.typeIs F.slot_dict_getitem.lookup (dIx (show X.A.units + 1 + 8 < cLine by omega) (Rp.key I hx h1 ry) h2 (nkD_notStr hx h1 ry) hm (keysN_of I (rd.mono hsub) hp hok) e1 ⟨w, H, I.tok _, e2, q w e3⟩) hs
theorem set_dctN (hu : X.A.units + 65 < cLine) : PSet X (rSetN X.K) := by
  intro pins s σ H o i v ov iv u Q I ro ri rv h
  obtain ⟨d, k, dv, a, ob, es, kvs, Hs, hx, hk, hv, rfl, hH, hok, hl, hsub, rd, q⟩ := h
  obtain ⟨h1, h2⟩ := nkOf_some hk
  cases (show ov = Value.ref a from ro)
  obtain ⟨hsm, xs, hm, hp⟩ := dcO_at (I.hok a _ hH) rd.txt
  have KN := keysN_of I (rd.mono hsub) hp hok
  have hz : xs.length ≤ sizeLine := by
    have e1 := rd.length
    have e2 := Paired.length hp
    have := hok.2.2
    have big : (1000000 : Nat) ≤ sizeLine := by rw [sizeLine_eq]; decide
    simp only [dLine] at this
    omega
  refine dPut (show X.A.units + 1 + 8 < cLine by omega) (Rp.key I (hx.mono hsub) h1 ri) h2 (nkD_notStr hx h1 ri) hm KN hz fun h' q1 q2 => ?_
  obtain ⟨es', r1, r2⟩ := kput_N h1 hx hv ri rv rd hp KN.2
  obtain ⟨o', ok'⟩ := dcO_ok (P := X.prog) (w := X.w) (H := H) (h := h') (a := a) hsm q1 r2
  refine ⟨upd H a (dcO a o' es'), ?_, q o' es' r1⟩
  obtain ⟨oq, hq⟩ := ok'.2.1
  exact d_write I (by rw [hH]; exact True.intro) q2 ⟨oq, hq⟩ ok'
end
def Itd (a : Addr) (o : Obj) (es : List KVV) : It := ⟨fun i H => Rd H a (dcO a o es) ∧ i < es.length, fun i H x H' => H' = H ∧ ∃ e, es[i]? = some e ∧ x = e.2.1, fun i H => Rd H a (dcO a o es) ∧ es.length ≤ i⟩
theorem Paired.at_ {α β : Type} {R : α → β → Prop} : ∀ {l : List α} {m : List β} {i : Nat} {x : α}, Paired R l m → l[i]? = some x → ∃ y, m[i]? = some y ∧ R x y
  | _, _, _, _, .nil, h => by simp at h
  | _, _, 0, _, .cons a _, h => by
    have := Option.some.inj h
    subst this
    exact ⟨_, rfl, a⟩
  | _, _, i + 1, _, .cons _ b, h => Paired.at_ (i := i) b (by simpa using h)
theorem turn_dict {P : Program} {w : World} {K : PySem.W.Frag} {tg : Expr} (a it : Addr) (o : Obj) (es : List KVV) : Turn P w K tg (Itd a o es) [it] it (fun i h => ∃ arr ep, o.data = .dict arr ep ∧ h.IsKeyIter it a i arr.size ep) where
  mem := by simp
  obj := fun i h st b hb => by
    have e : b = it := by simpa using hb
    subst e
    obtain ⟨arr, ep, _, ob, e, c, d⟩ := st
    exact ⟨ob, e, fun v z => by rw [d] at z; cases z⟩
  keep := fun i h h' st k => let ⟨arr, ep, hd, st⟩ := st; ⟨arr, ep, hd, st.at fun o e => k it (by simp) o e⟩
  item := by
    intro X hP hw hK hc i pins s σ H E I hf st hg
    subst hP hw hK
    obtain ⟨hr, hi⟩ := hg
    obtain ⟨arr, ep, hd, st⟩ := st
    obtain ⟨hs, arr', ep', xs, ho, hcd, hd', hk, hp⟩ := dcO_raw (hr.ok I.hok)
    rw [hd] at hd'
    cases hd'
    obtain ⟨x, hx, e1, e2, e3⟩ := Paired.at_ hp (List.getElem?_eq_getElem hi)
    have hlen : arr.size = es.length := by
      have := congrArg List.length hk
      simp only [List.length_map, Array.length_toList] at this
      have h2 := Paired.length hp
      omega
    have hki : ∀ (h : i < arr.size), arr[i].key = x.2.1 := fun h => by
      have e4 : (arr.toList.map (·.key))[i]? = some arr[i].key := by simp [h]
      rw [hk, List.getElem?_map, hx] at e4
      exact (Option.some.inj e4).symm
    obtain ⟨f0, f1, f2, f3, f4, f5⟩ := hf it (by simp)
    refine wpAny_pyNext_keys_item_raw st ⟨o, ho, hcd, hd⟩ (by omega) fun h' st' sb => ?_
    have I1 : Inv X pins σ H { s with heap := h' } := I.turned (t' := s.toks) (fun b o hb e => (sb.2 b hb).trans e) f0 f1 f3 f4 f5
    obtain ⟨o2, e, c, d⟩ := id st'
    rw [hki]
    exact ⟨_, rfl, go_of (s := { s with heap := h' }) e c d (by decide) ⟨_, H, I1, e2, ⟨rfl, _, List.getElem?_eq_getElem hi, rfl⟩, ⟨arr, ep, hd, st'⟩, fun b hb => (hf b hb).1⟩⟩
  done := by
    intro X hP hw hK hc i pins s σ H E I hf st hg
    subst hP hw hK
    obtain ⟨hr, hi⟩ := hg
    obtain ⟨arr, ep, hd, st⟩ := st
    obtain ⟨hs, arr', ep', xs, ho, hcd, hd', hk, hp⟩ := dcO_raw (hr.ok I.hok)
    rw [hd] at hd'
    cases hd'
    have hlen : arr.size = es.length := by
      have := congrArg List.length hk
      simp only [List.length_map, Array.length_toList] at this
      have h2 := Paired.length hp
      omega
    obtain ⟨f0, f1, f2, f3, f4, f5⟩ := hf it (by simp)
    exact wpAny_pyNext_keys_end_raw (I.ok.hd hc) st ⟨o, ho, hcd, hd⟩ (by omega) fun h' eb => ⟨rfl, I.turned (t' := s.toks) (fun b o hb e => eb b o hb e) f0 f1 f3 f4 f5⟩
  self := fun _ _ _ _ _ st h => let ⟨_, _, _, st⟩ := st; wpAny_pyIter_keyiter st h
/-- iter(d) -/
theorem dict_it {X : Cx} {pins : List (Addr × Obj)} {σ : L2.St} {H : Hp} {s : Shared} {tg : Expr} {R : It → Hp → Prop} {a : Addr} {o : Obj} {es : List KVV} (I : Inv X pins σ H s) (h : Rd H a (dcO a o es)) (q : R (Itd a o es) H) :
    wpAny (model X.prog X.w) X.A (pyIter (.ref a)) (PIE X pins σ tg R) X.xe s := by
  obtain ⟨hs, arr, ep, xs, ho, hcd, hd, hk, hp⟩ := dcO_raw (h.ok I.hok)
  refine wpAny_pyIter_dict_raw hs ⟨o, ho, hcd, hd⟩ ?_
  refine ⟨s.heap.objs.size, [s.heap.objs.size], _, _, H, rfl, I.kept (t' := s.toks) fun b o e => Heap.get?_push_of_some _ e, turn_dict a _ o es, ⟨arr, ep, hd, _, Heap.get?_push_size _ rfl, rfl, rfl⟩, fun b hb => ?_, q⟩
  have e : b = s.heap.objs.size := by simpa using hb
  subst e
  exact I.fpOk (Nat.le_refl _) (I.hok.fresh (Nat.le_refl _))
end DL
set_option Elab.async false
set_option maxRecDepth 100000
set_option maxHeartbeats 4000000
namespace DL
open PySem PySem.Spec PyProof.Rows L2
section
variable {X : Cx}
def rCat2 (K : PySem.W.Frag) : R2 := fun x y H Q => ∃ l b xs zs, x = .ref l ∧ y = .ref b ∧ SqL K H l xs ∧ SqL K H b zs ∧ xs.length + zs.length ≤ sizeLine ∧ ∀ p, H p = none → Q (.ref p) (upd H p (.lst (xs ++ zs)))
theorem op_cat2 : OpR X (binaryOp .Add) (rCat2 X.K) := by
  intro pins s σ H x y v u Q I rx ry h
  obtain ⟨l, b, xs, zs, rfl, rfl, hH, hB, hz, q⟩ := h
  cases rx
  cases ry
  obtain ⟨its, r, ⟨⟨oc, od, odt, osl⟩, n, e, c1, c2, c3⟩, z⟩ := I.list hH
  obtain ⟨its2, r2, ⟨⟨oc2, od2, odt2, osl2⟩, n2, e2, c4, c5, c6⟩, z2⟩ := I.list hB
  simp only at c1 c2 c3 c4 c5 c6
  subst c1 c2 c3 c4 c5 c6
  have hl := r.length
  have hl2 := r2.length
  refine concat_meets ⟨_, e, rfl⟩ ⟨_, e2, rfl⟩ noFill_list_add seq_list_add F.slot_list_add F.entry_list_add (F.args_list_add_2 _ _) (list_addW l b _ _ n n2 none none _ _ (by rw [List.size_toArray, List.size_toArray]; omega)) ⟨e, e2, ?_⟩
  have ea : its.toArray ++ its2.toArray = (its ++ its2).toArray := by simp
  rw [ea]
  exact ⟨.ref _, _, I.lnew (t' := s.toks) (r.append r2) (by rw [List.length_append]; omega), rfl, q _ I.fresh⟩
abbrev rAddS : R2 := fun x y H Q => ∃ i j, x = .str i ∧ y = .str j ∧ i.length + j.length ≤ sizeLine ∧ Q (.str (i ++ j)) H
abbrev rAddI : R2 := rI0 fun i j => .int (i + j)
def rAddD (K : PySem.W.Frag) : R2 := fun x y H Q => rAddI x y H Q ∨ (rAddS x y H Q ∨ (rCat2 K x y H Q ∨ rCatA K x y H Q))
theorem op_addD : OpR X (binaryOp .Add) (rAddD X.K) := op_add.or (op_add_str.or (op_cat2.or op_catA))
end
def fAdd : D → D → Option T
  | .int i, .int j => some (.val (.int (i + j)))
  | .str x, .str y => if x.length + y.length ≤ sizeLine then some (.val (.str (x ++ y))) else none
  | .list xs, .list ys => if xs.length + ys.length ≤ sizeLine then some (.lst none (xs ++ ys)) else none
  | .tuple xs, .tuple ys => if xs.length + ys.length ≤ sizeLine then some (.val (.tuple (xs ++ ys))) else none
  | _, _ => none
theorem add_ok {K : PySem.W.Frag} : OpOk K (rAddD K) fAdd := by
  intro Z H x y d e t Q hz hx hy hf q
  unfold fAdd at hf
  split at hf
  · cases hf
    cases hx.int
    cases hy.int
    exact .inl ⟨_, _, rfl, rfl, q _ _ (NewT.scal (.int _))⟩
  · split at hf
    · rename_i h
      cases hf
      cases hx.str
      cases hy.str
      exact .inr (.inl ⟨_, _, rfl, rfl, h, q _ _ (NewT.scal (.str _))⟩)
    · cases hf
  · split at hf
    · rename_i h
      cases hf
      obtain ⟨a, vs, rfl, h1, h2⟩ := hx.list
      obtain ⟨b, ws, rfl, h3, h4⟩ := hy.list
      exact .inr (.inr (.inl ⟨a, b, vs, ws, rfl, rfl, h1, h3, by rw [h2.length, h4.length]; exact h, fun p hp => q _ _ (NewT.lst hp (h2.append h4))⟩))
    · cases hf
  · split at hf
    · rename_i h
      cases hf
      obtain ⟨a, vs, rfl, h1, h2, h5⟩ := hx.tuple
      obtain ⟨b, ws, rfl, h3, h4, h6⟩ := hy.tuple
      refine .inr (.inr (.inr ⟨a, b, vs, ws, rfl, rfl, h1, h3, by rw [h2.length, h4.length]; exact h, fun e0 => ?_, fun _ e0 => ?_, fun _ _ p hp => q _ _ (NewT.tup hp (hz p hp) (h2.append h4))⟩))
      · subst e0
        cases h2
        exact q _ _ (NewT.val h6)
      · subst e0
        cases h4
        rw [List.append_nil] at q
        exact q _ _ (NewT.val h5)
    · cases hf
  · cases hf
/-- operators of two ints -/
def fInt (C : Int → Int → Bool) (g : Int → Int → D) : D → D → Option T
  | .int i, .int j => if C i j then some (.val (g i j)) else none
  | _, _ => none
theorem int_ok {K : PySem.W.Frag} {C : Int → Int → Prop} {B : Int → Int → Bool} {g : Int → Int → V} {f : Int → Int → D} (hB : ∀ i j, B i j = true → C i j) (hg : ∀ i j, Rp K (fun _ => none) (g i j) (f i j)) : OpOk K (rI C g) (fInt B f) := by
  intro Z H x y d e t Q hz hx hy hf q
  unfold fInt at hf
  split at hf
  · split at hf
    · rename_i h
      cases hf
      cases hx.int
      cases hy.int
      exact ⟨_, _, rfl, rfl, hB _ _ h, q _ _ (NewT.scal (hg _ _))⟩
    · cases hf
  · cases hf
theorem int0_ok {K : PySem.W.Frag} {g : Int → Int → V} {f : Int → Int → D} (hg : ∀ i j, Rp K (fun _ => none) (g i j) (f i j)) : OpOk K (rI0 g) (fInt (fun _ _ => true) f) := by
  intro Z H x y d e t Q hz hx hy hf q
  unfold fInt at hf
  split at hf
  · rw [if_pos rfl] at hf
    cases hf
    cases hx.int
    cases hy.int
    exact ⟨_, _, rfl, rfl, q _ _ (NewT.scal (hg _ _))⟩
  · cases hf
def bMul (i j : Int) : Bool := decide (i.natAbs.log2 + j.natAbs.log2 < 1000000)
def bMod (_ j : Int) : Bool := decide (j ≠ 0)
def bPow (i j : Int) : Bool := decide (0 ≤ j) && decide ((Builtin.Int.intBits i : Int) * j ≤ 2 ^ 27)
def CPowW (i j : Int) : Prop := 0 ≤ j ∧ (Builtin.Int.intBits i : Int) * j ≤ 2 ^ 27
theorem op_powW {X : Cx} : OpR X (binaryOp .Pow) (rI CPowW fun i j => .int (i ^ j.toNat)) := opI fun _ _ _ _ _ _ _ hc q => pow_int hc.1 hc.2 q
/-- // by a number of any sign -/
def CDivZ (_ j : Int) : Prop := j ≠ 0 ∧ j.natAbs.log2 < 9000
theorem op_fdivZ {X : Cx} : OpR X (binaryOp .FloorDiv) (rI CDivZ fun i j => .int (i.fdiv j)) := opI fun i j _ _ _ _ _ hc q => floordiv_int hc.1 q (.inl (PyProof.noPylong_of_log2 hc.2))
def bDivZ (_ j : Int) : Bool := decide (j ≠ 0) && decide (j.natAbs.log2 < 9000)
def fSub : D → D → Option T := fInt (fun _ _ => true) fun i j => .int (i - j)
def fMulI : D → D → Option T := fInt bMul fun i j => .int (i * j)
def fDiv : D → D → Option T := fInt bDivZ fun i j => .int (i.fdiv j)
def fMod : D → D → Option T := fInt bMod fun i j => .int (i.fmod j)
def fPow : D → D → Option T := fInt bPow fun i j => .int (i ^ j.toNat)
theorem sub_ok {K : PySem.W.Frag} : OpOk K (rI0 fun i j => .int (i - j)) fSub := int0_ok fun _ _ => .int _
theorem mulI_ok {K : PySem.W.Frag} : OpOk K (rI CMulW fun i j => .int (i * j)) fMulI := int_ok (fun i j h => (show i.natAbs.log2 + j.natAbs.log2 < 1000000 from of_decide_eq_true h)) fun _ _ => .int _
theorem div_ok {K : PySem.W.Frag} : OpOk K (rI CDivZ fun i j => .int (i.fdiv j)) fDiv := int_ok (fun i j h => by
  obtain ⟨h1, h2⟩ := (Bool.and_eq_true _ _).mp h
  exact ⟨of_decide_eq_true h1, of_decide_eq_true h2⟩) fun _ _ => .int _
theorem mod_ok {K : PySem.W.Frag} : OpOk K (rI (fun _ j => j ≠ 0) fun i j => .int (i.fmod j)) fMod := int_ok (fun i j h => of_decide_eq_true h) fun _ _ => .int _
theorem pow_ok {K : PySem.W.Frag} : OpOk K (rI CPowW fun i j => .int (i ^ j.toNat)) fPow := int_ok (fun i j h => by
  obtain ⟨h1, h2⟩ := (Bool.and_eq_true _ _).mp h
  exact ⟨of_decide_eq_true h1, of_decide_eq_true h2⟩) fun _ _ => .int _
def fCmpI (p : Int → Int → Bool) : D → D → Option T := fInt (fun _ _ => true) fun i j => .bool (p i j)
theorem cmpI_ok {K : PySem.W.Frag} {p : Int → Int → Bool} : OpOk K (rI0 fun i j => .bl (p i j)) (fCmpI p) := int0_ok fun _ _ => .bl _
def eqS : D → D → Option Bool
  | .none, .none => some true
  | .none, .int _ => some false
  | .int _, .none => some false
  | .none, .bool _ => some false
  | .bool _, .none => some false
  | .none, .str _ => some false
  | .str _, .none => some false
  | .int i, .int j => some (decide (i = j))
  | .bool i, .bool j => some (decide (i = j))
  | .str i, .str j => some (decide (i = j))
  | .int _, .str _ => some false
  | .str _, .int _ => some false
  | .bool _, .str _ => some false
  | .str _, .bool _ => some false
  | _, _ => none
def eqD (x y : D) : Option Bool := match eqS x y with
  | some b => some b
  | none => if SeqAt.shaped x && SeqAt.shaped y then some (PyData.eqv x y) else none
def fEq (x y : D) : Option T := (eqD x y).map fun b => .val (.bool b)
def fNe (x y : D) : Option T := (eqD x y).map fun b => .val (.bool (!b))
theorem eqS_ok {K : PySem.W.Frag} {Z : List Addr} {H : Hp} {x y : V} {d e : D} {b : Bool} (hx : VR K Z H x d) (hy : VR K Z H y e) (h : eqS d e = some b) : scal x y = true ∧ decide (x = y) = b := by
  unfold eqS at h
  split at h
  all_goals first
    | (cases h; cases hx.none; cases hy.none; exact ⟨rfl, by simp⟩)
    | (cases h; cases hx.none; cases hy.int; exact ⟨rfl, by simp⟩)
    | (cases h; cases hx.int; cases hy.none; exact ⟨rfl, by simp⟩)
    | (cases h; cases hx.none; cases hy.bool; exact ⟨rfl, by simp⟩)
    | (cases h; cases hx.bool; cases hy.none; exact ⟨rfl, by simp⟩)
    | (cases h; cases hx.none; cases hy.str; exact ⟨rfl, by simp⟩)
    | (cases h; cases hx.str; cases hy.none; exact ⟨rfl, by simp⟩)
    | (cases h; cases hx.int; cases hy.int; exact ⟨rfl, by simp⟩)
    | (cases h; cases hx.bool; cases hy.bool; exact ⟨rfl, by simp⟩)
    | (cases h; cases hx.str; cases hy.str; exact ⟨rfl, by simp⟩)
    | (cases h; cases hx.int; cases hy.str; exact ⟨rfl, by simp⟩)
    | (cases h; cases hx.str; cases hy.int; exact ⟨rfl, by simp⟩)
    | (cases h; cases hx.bool; cases hy.str; exact ⟨rfl, by simp⟩)
    | (cases h; cases hx.str; cases hy.bool; exact ⟨rfl, by simp⟩)
    | cases h
def rEqX (K : PySem.W.Frag) : R2 := fun x y H Q => rEq x y H Q ∨ rEqD K x y H Q
def rNeX (K : PySem.W.Frag) : R2 := fun x y H Q => rNe x y H Q ∨ rNeD K x y H Q
theorem eq_ok {K : PySem.W.Frag} : OpOk K (rEqX K) fEq := by
  intro Z H x y d e t Q hz hx hy hf q
  unfold fEq at hf
  cases h : eqD d e with
  | none =>
    rw [h] at hf
    cases hf
  | some b =>
    rw [h] at hf
    cases hf
    unfold eqD at h
    cases h1 : eqS d e with
    | some c =>
      rw [h1] at h
      cases h
      obtain ⟨h2, h3⟩ := eqS_ok hx hy h1
      exact .inl ⟨h2, by rw [h3]; exact q _ _ (NewT.scal (.bl _))⟩
    | none =>
      rw [h1] at h
      simp only at h
      split at h
      · rename_i h2
        cases h
        obtain ⟨h3, h4⟩ := (Bool.and_eq_true _ _).mp h2
        exact .inr ⟨d, e, hx.rp.dp (shaped_lay h3), hy.rp.dp (shaped_lay h4), h3, h4, q _ _ (NewT.scal (.bl _))⟩
      · cases h
theorem ne_ok {K : PySem.W.Frag} : OpOk K (rNeX K) fNe := by
  intro Z H x y d e t Q hz hx hy hf q
  unfold fNe at hf
  cases h : eqD d e with
  | none =>
    rw [h] at hf
    cases hf
  | some b =>
    rw [h] at hf
    cases hf
    unfold eqD at h
    cases h1 : eqS d e with
    | some c =>
      rw [h1] at h
      cases h
      obtain ⟨h2, h3⟩ := eqS_ok hx hy h1
      exact .inl ⟨h2, by rw [h3]; exact q _ _ (NewT.scal (.bl _))⟩
    | none =>
      rw [h1] at h
      simp only at h
      split at h
      · rename_i h2
        cases h
        obtain ⟨h3, h4⟩ := (Bool.and_eq_true _ _).mp h2
        exact .inr ⟨d, e, hx.rp.dp (shaped_lay h3), hy.rp.dp (shaped_lay h4), h3, h4, q _ _ (NewT.scal (.bl _))⟩
      · cases h
theorem op_eqX {X : Cx} (hu : X.A.units + 64 < cLine) : OpR X (compareOp .Eq) (rEqX X.K) := op_eq.or (op_eqD hu)
theorem op_neX {X : Cx} (hu : X.A.units + 64 < cLine) : OpR X (compareOp .NotEq) (rNeX X.K) := op_ne.or (op_neD hu)
def fIs : D → D → Option T
  | .none, .none => some (.val (.bool true))
  | _, .none => some (.val (.bool false))
  | _, _ => none
theorem VR.non_iff {K : PySem.W.Frag} {Z : List Addr} {H : Hp} {x : V} {d : D} (h : VR K Z H x d) (hd : d ≠ .none) : decide (x = .non) = false := by
  refine decide_eq_false fun e => ?_
  subst e
  cases h with
  | inl h => cases h; exact hd rfl
  | inr h => obtain ⟨a, vs, ds, e, _⟩ := h; cases e
theorem is_ok {K : PySem.W.Frag} : OpOk K (fun x y H Q => y = .non ∧ Q (.bl (decide (x = .non))) H) fIs := by
  intro Z H x y d e t Q hz hx hy hf q
  unfold fIs at hf
  split at hf
  · cases hf
    cases hx.none
    exact ⟨hy.none, by rw [decide_eq_true rfl]; exact q _ _ (NewT.scal (.bl _))⟩
  · rename_i hd
    cases hf
    exact ⟨hy.none, by rw [hx.non_iff hd]; exact q _ _ (NewT.scal (.bl _))⟩
  · cases hf
def flatD : D → Bool
  | .none => true
  | .bool _ => true
  | .int _ => true
  | .str _ => true
  | _ => false
theorem flat_V {K : PySem.W.Frag} {H : Hp} {x : V} {d : D} (h : Rp K H x d) : flatV x = flatD d := by
  cases h <;> rfl
theorem flat_all {K : PySem.W.Frag} {H : Hp} : ∀ {xs : List V} {ds : List D}, RpAll K H xs ds → xs.all flatV = ds.all flatD
  | _, _, .nil => rfl
  | _, _, .cons a b => by rw [List.all_cons, List.all_cons, flat_V a, flat_all b]
theorem eqV_D {K : PySem.W.Frag} {H : Hp} {x y : V} {d e : D} (h : Rp K H x d) (h' : Rp K H y e) (f : flatD d = true) (f' : flatD e = true) : eqV x y = PyData.eqv d e := by
  cases h with
  | lst _ _ => exact absurd (show false = true from f) Bool.false_ne_true
  | tup _ _ => exact absurd (show false = true from f) Bool.false_ne_true
  | _ =>
    cases h' with
    | lst _ _ => exact absurd (show false = true from f') Bool.false_ne_true
    | tup _ _ => exact absurd (show false = true from f') Bool.false_ne_true
    | _ => simp [eqV, PyData.eqv]
theorem inV_D {K : PySem.W.Frag} {H : Hp} {x : V} {d : D} (h : Rp K H x d) (f : flatD d = true) : ∀ {ys : List V} {es : List D}, RpAll K H ys es → es.all flatD = true → inV x ys = es.any fun z => PyData.eqv z d
  | _, _, .nil, _ => rfl
  | _, _, .cons a b, g => by
    rw [List.all_cons, Bool.and_eq_true] at g
    have ih := inV_D h f b g.2
    unfold inV at ih ⊢
    rw [List.any_cons, List.any_cons, eqV_D a h g.1 f, ih]
def inL (d : D) (ds : List D) : Option Bool := if flatD d && ds.all flatD then some (ds.any fun z => PyData.eqv z d) else
  if SeqAt.shaped d && SeqAt.shaped (.list ds) then some (ds.any fun z => PyData.eqv z d) else none
def inD : D → D → Option Bool
  | d, .list ds => inL d ds
  | d, .tuple ds => inL d ds
  | .str x, .str y => some (!(Builtin.Str.occurrences y x 0 y.length 1).isEmpty)
  | d, .dict kvs => if (nkOf d).isSome then some (kget kvs d).isSome else none
  | _, _ => none
def fIn (x y : D) : Option T := (inD x y).map fun b => .val (.bool b)
def fNotIn (x y : D) : Option T := (inD x y).map fun b => .val (.bool (!b))
def rNotInS : R2 := fun x y H Q => ∃ i j, x = .str i ∧ y = .str j ∧ Q (.bl (!(!(Builtin.Str.occurrences j i 0 j.length 1).isEmpty))) H
/-- x in a list or tuple of data -/
def rInDD (K : PySem.W.Frag) (neg : Bool) : R2 := fun x y H Q => ∃ d ds, Dp K H x d ∧ (Dp K H y (.list ds) ∨ Dp K H y (.tuple ds)) ∧ SeqAt.shaped d = true ∧ SeqAt.shaped (.list ds) = true ∧ Q (.bl (if neg then !(ds.any fun z => PyData.eqv z d) else ds.any fun z => PyData.eqv z d)) H
theorem op_notInDD {X : Cx} (hu : X.A.units + 65 < cLine) : OpR X (compareOp .NotIn) (rInDD X.K true) := by
  intro pins s σ H x y v u Q I rx ry h
  obtain ⟨d, ds, hd, he, sd, se, q⟩ := h
  obtain ⟨as, r1⟩ := Dp.reads I d x v hd rx
  rcases he with he | he
  · obtain ⟨bs, r2⟩ := Dp.reads I (.list ds) y u he ry
    exact SeqAt.notIn_list_reads r2 r1 (SeqAt.canLay_of_shaped se) (SeqAt.canLay_of_shaped sd) (room_in_shaped sd hu) ⟨.bl _, H, I, rfl, q⟩
  · obtain ⟨bs, r2⟩ := Dp.reads I (.tuple ds) y u he ry
    exact SeqAt.notIn_tuple_reads r2 r1 (SeqAt.canLay_of_shaped se) (SeqAt.canLay_of_shaped sd) (room_in_shaped sd hu) ⟨.bl _, H, I, rfl, q⟩
def rNotInX (K : PySem.W.Frag) : R2 := fun x y H Q => rIn K true x y H Q ∨ (rInDD K true x y H Q ∨ (rNotInS x y H Q ∨ rInN K true x y H Q))
theorem op_notInX {X : Cx} (hu : X.A.units + 65 < cLine) : OpR X (compareOp .NotIn) (rNotInX X.K) := op_notIn_seq.or ((op_notInDD hu).or (op_notin_str.or (op_notInN hu)))
theorem inL_ok {K : PySem.W.Frag} {Z : List Addr} {H : Hp} {x y : V} {d : D} {ds : List D} {b : Bool} {neg : Bool} {Q : VK} (hx : VR K Z H x d) (hy : (∃ a vs, y = .ref a ∧ (SqL K H a vs ∨ SqT K H a vs) ∧ RpAll K H vs ds) ) (hd : Rp K H y (.list ds) ∨ Rp K H y (.tuple ds))
    (h : inL d ds = some b) (q : Q (.bl (if neg then !b else b)) H) : rIn K neg x y H Q ∨ rInDD K neg x y H Q := by
  unfold inL at h
  split at h
  · rename_i h1
    cases h
    obtain ⟨h2, h3⟩ := (Bool.and_eq_true _ _).mp h1
    obtain ⟨a, vs, rfl, hs, hr⟩ := hy
    refine .inl ⟨a, vs, rfl, hs, by rw [flat_V hx.rp]; exact h2, by rw [flat_all hr]; exact h3, ?_⟩
    rw [inV_D hx.rp h2 hr h3]
    exact q
  · split at h
    · rename_i h1
      cases h
      obtain ⟨h2, h3⟩ := (Bool.and_eq_true _ _).mp h1
      exact .inr ⟨d, ds, hx.rp.dp (shaped_lay h2), hd.elim (fun z => .inl (z.dp (shaped_lay h3))) (fun z => .inr (z.dp (by have := shaped_lay h3; simpa [PyData.canLay0] using this))), h2, h3, q⟩
    · cases h
theorem notIn_ok {K : PySem.W.Frag} : OpOk K (rNotInX K) fNotIn := by
  intro Z H x y d e t Q hz hx hy hf q
  unfold fNotIn at hf
  cases h : inD d e with
  | none => rw [h] at hf; cases hf
  | some b =>
    rw [h] at hf
    cases hf
    have q' := q _ _ (NewT.scal (Rp.bl (K := K) (!b)) (Z := Z))
    unfold inD at h
    split at h
    · obtain ⟨a, vs, rfl, h1, h2⟩ := hy.list
      rcases inL_ok (neg := true) (Q := Q) hx ⟨a, vs, rfl, .inl h1, h2.mono wo_sub⟩ (.inl hy.rp) h q' with z | z
      · exact .inl z
      · exact .inr (.inl z)
    · obtain ⟨a, vs, rfl, h1, h2, _⟩ := hy.tuple
      rcases inL_ok (neg := true) (Q := Q) hx ⟨a, vs, rfl, .inr h1, h2.mono wo_sub⟩ (.inr hy.rp) h q' with z | z
      · exact .inl z
      · exact .inr (.inl z)
    · cases h
      exact .inr (.inr (.inl ⟨_, _, hx.str, hy.str, q'⟩))
    · rename_i kvs
      split at h
      · rename_i hs
        cases h
        obtain ⟨k, hk⟩ := Option.isSome_iff_exists.mp hs
        obtain ⟨a, o, es, rfl, h1, h2, h3⟩ := hy.dict
        exact .inr (.inr (.inr ⟨_, k, a, o, es, kvs, hx.rp, hk, rfl, h1, h2, h3.mono wo_sub, q'⟩))
      · cases h
    · cases h
end DL
set_option Elab.async false
set_option maxRecDepth 100000
set_option maxHeartbeats 4000000
namespace DL
open PySem PySem.Spec PyProof.Rows L2
def Out.ofV (o : Option D) (ρ : Rho) : Out D := match o with
  | some d => .ok d ρ
  | none => .bad
def frz (r : R) : M D := fun ρ => match r with
  | .tmp t => Out.ofV t.fv ρ
  | .slot i => match ρ[i]? with
    | some (some (.val d)) => .ok d ρ
    | some (some (.lst none ds)) => .ok (.list ds) (ρ.set i (some (.val (.list ds))))
    | some (some (.dct none kvs)) => .ok (.dict kvs) (ρ.set i (some (.val (.dict kvs))))
    | some (some (.own none n)) => (match n.fz with
      | some d => .ok d (ρ.set i (some (.val d)))
      | none => .bad)
    | _ => .bad
mutual
theorem RepN.fz {K : PySem.W.Frag} {G N G' : Hp} (hg : ∀ a o, G a = some o → G' a = some o) : ∀ {v : V} {n : Nd} {F : List Addr} {d : D}, RepN K G N v n F → (∀ a ∈ F, ∀ o, N a = some o → G' a = some o) → n.fz = some d → Rp K G' v d
  | _, _, _, _, .d h, _, e => by
    cases e
    exact h.mono hg
  | _, _, _, _, .lst h1 h2 h3, q, e => by
    unfold Nd.fz at e
    obtain ⟨ds, e1, rfl⟩ := Option.map_eq_some_iff.mp e
    exact .lst (.inl (.inl (q _ List.mem_cons_self _ h1))) (RepNs.fz hg h3 (fun a ha => q a (List.mem_cons_of_mem _ ha)) e1)
  | _, _, _, _, .dct h1 h2 h3, q, e => by
    unfold Nd.fz at e
    cases e
    exact .dct (q _ List.mem_cons_self _ h1) h2 (h3.mono hg)
  | _, _, _, _, .obj h1 h2 h3 h4 h5, q, e => by
    unfold Nd.fz at e
    cases e
theorem RepNs.fz {K : PySem.W.Frag} {G N G' : Hp} (hg : ∀ a o, G a = some o → G' a = some o) : ∀ {vs : List V} {ns : List Nd} {F : List Addr} {ds : List D}, RepNs K G N vs ns F → (∀ a ∈ F, ∀ o, N a = some o → G' a = some o) → Nd.fzs ns = some ds → RpAll K G' vs ds
  | _, _, _, _, .nil, _, e => by
    cases e
    exact .nil
  | _, _, _, ds, .cons (n := n) (ns := ns) a b c, q, e => by
    unfold Nd.fzs at e
    cases a1 : n.fz with
    | none => rw [a1] at e; cases e
    | some d =>
      cases a2 : Nd.fzs ns with
      | none => rw [a1, a2] at e; cases e
      | some ds' =>
        rw [a1, a2] at e
        cases e
        exact .cons (RepN.fz hg a (fun x hx => q x (List.mem_append_left _ hx)) a1) (RepNs.fz hg b (fun x hx => q x (List.mem_append_right _ hx)) a2)
end
section
variable {K : PySem.W.Frag} {P O : List Addr} {A : List V} {H H' : Hp} {σ : L2.St} {ρ ρ' : Rho} {v : V}
theorem get_set {α : Type} {l : List α} {i j : Nat} {a b : α} (h : (l.set i a)[j]? = some b) : (j = i ∧ a = b) ∨ (j ≠ i ∧ l[j]? = some b) := by
  by_cases e : i = j
  · subst e
    rw [List.getElem?_set] at h
    simp at h
    exact .inl ⟨rfl, h.2⟩
  · rw [List.getElem?_set_ne e] at h
    exact .inr ⟨fun z => e z.symm, h⟩
/-- what slot i owns is let go -/
theorem EnvR.drop1 {i : Nat} {t : T} (e : EnvR K P A O H σ ρ) (hi : ρ[i]? = some (some t)) : ∃ v F O', σ[i]? = some (some v) ∧ RepT K (O ++ P) H v t F ∧ (∀ a ∈ F, a ∈ O ∧ a ∉ O' ∧ a ∉ P) ∧ (∀ b ∈ O', b ∈ O) ∧ (∀ b o, wo (O ++ P) H b = some o → wo (O' ++ P) H b = some o) ∧
    ∀ d, Rp K (wo (O' ++ P) H) v d → EnvR K P A O' H σ (ρ.set i (some (.val d))) := by
  obtain ⟨Fs, h1, h2⟩ := e.at_
  obtain ⟨v, e1, r, hO⟩ := h1 i _ hi
  have sub : ∀ b o, wo (O ++ P) H b = some o → wo (O.filter (fun b => decide (b ∉ Fs i)) ++ P) H b = some o := fun b o q => by
    obtain ⟨q1, q2⟩ := wo_some.mp q
    refine wo_some.mpr ⟨fun z => q1 ?_, q2⟩
    rcases List.mem_append.mp z with z | z
    · exact List.mem_append_left _ (List.mem_filter.mp z).1
    · exact List.mem_append_right _ z
  refine ⟨v, Fs i, O.filter (fun b => decide (b ∉ Fs i)), e1, r, fun a ha => ⟨hO a ha, fun z => ?_, fun z => (e.prot a z).1 (hO a ha)⟩, fun b hb => (List.mem_filter.mp hb).1, sub, fun d hd => ?_⟩
  · have := (List.mem_filter.mp z).2
    simp only [decide_eq_true_eq] at this
    exact this ha
  refine ⟨by rw [List.length_set]; exact e.len, ⟨fun j => if j = i then [] else Fs j, fun j t q => ?_, fun j k hjk b hb => ?_⟩, fun b hb => ⟨fun z => (e.prot b hb).1 (List.mem_filter.mp z).1, (e.prot b hb).2⟩, fun b hb => e.trk b (List.mem_filter.mp hb).1, fun j k t' q ht => ?_⟩
  · dsimp only
    rcases get_set q with ⟨hj, q'⟩ | ⟨hj, q'⟩
    · subst hj
      cases q'
      rw [if_pos rfl]
      exact ⟨_, e1, .val hd, fun b hb => absurd hb List.not_mem_nil⟩
    · rw [if_neg hj]
      obtain ⟨w, e2, r2, hO2⟩ := h1 j t q'
      have ne : ∀ b ∈ Fs j, b ∉ Fs i := fun b hb => h2 j i hj b hb
      refine ⟨w, e2, r2.keep sub fun b hb => ⟨List.mem_append_left _ (List.mem_filter.mpr ⟨hO2 b hb, by simpa using ne b hb⟩), rfl⟩, fun b hb => List.mem_filter.mpr ⟨hO2 b hb, by simpa using ne b hb⟩⟩
  · dsimp only at hb ⊢
    by_cases hj : j = i
    · rw [if_pos hj] at hb
      exact absurd hb List.not_mem_nil
    · rw [if_neg hj] at hb
      by_cases hk : k = i
      · rw [if_pos hk]
        exact List.not_mem_nil
      · rw [if_neg hk]
        exact h2 j k hjk b hb
  · rcases get_set q with ⟨hj, q'⟩ | ⟨hj, q'⟩
    · cases q'
      cases ht
    · exact e.tag j k t' q' ht
/-- slot i's own list is let go -/
theorem EnvR.letGo {i : Nat} {ds : List D} {t0 : Option Nat} (e : EnvR K P A O H σ ρ) (hi : ρ[i]? = some (some (.lst t0 ds))) : ∃ a vs O', σ[i]? = some (some (.ref a)) ∧ H a = some (.lst vs) ∧ a ∈ O ∧ a ∉ O' ∧ (∀ b ∈ O', b ∈ O) ∧ RpAll K (wo (O' ++ P) H) vs ds ∧
    a ∉ P ∧ ∀ d, Rp K (wo (O' ++ P) H) (.ref a) d → EnvR K P A O' H σ (ρ.set i (some (.val d))) := by
  obtain ⟨v, F, O', e1, r, hF, sub, mo, fin⟩ := e.drop1 hi
  cases r with
  | @lst a vs _ _ m1 m2 m3 =>
    obtain ⟨q1, q2, q3⟩ := hF a (List.mem_singleton.mpr rfl)
    exact ⟨a, vs, O', e1, m2, q1, q2, sub, m3.mono mo, q3, fin⟩
theorem EnvR.letGoD {i : Nat} {kvs : List (D × D)} {t0 : Option Nat} (e : EnvR K P A O H σ ρ) (hi : ρ[i]? = some (some (.dct t0 kvs))) : ∃ a O', σ[i]? = some (some (.ref a)) ∧ Rp K (wo (O' ++ P) H) (.ref a) (.dict kvs) ∧ (∀ b ∈ O', b ∈ O) ∧
    EnvR K P A O' H σ (ρ.set i (some (.val (.dict kvs)))) := by
  obtain ⟨v, F, O', e1, r, hF, sub, mo, fin⟩ := e.drop1 hi
  cases r with
  | @dct a o es _ _ m1 m2 m3 m4 =>
    obtain ⟨q1, q2, q3⟩ := hF a (List.mem_singleton.mpr rfl)
    have z : Rp K (wo (O' ++ P) H) (.ref a) (.dict kvs) := .dct (wo_some.mpr ⟨fun z => (List.mem_append.mp z).elim q2 q3, m2⟩) m3 (m4.mono mo)
    exact ⟨a, O', e1, z, sub, fin _ z⟩
theorem EnvR.swap {F G : List Addr} (e : EnvR K (F ++ (G ++ P)) A O H σ ρ) : EnvR K (G ++ (F ++ P)) A O H σ ρ where
  len := e.len
  at_ := by
    obtain ⟨Fs, h1, h2⟩ := e.at_
    refine ⟨Fs, fun i t q => ?_, h2⟩
    obtain ⟨v, e1, r, hO⟩ := h1 i t q
    refine ⟨v, e1, r.keep (fun a o z => ?_) fun a ha => ⟨List.mem_append_left _ (hO a ha), rfl⟩, hO⟩
    obtain ⟨z1, z2⟩ := wo_some.mp z
    simp only [List.mem_append, not_or] at z1
    exact wo_some.mpr ⟨by simp only [List.mem_append, not_or]; exact ⟨z1.1, z1.2.2.1, z1.2.1, z1.2.2.2⟩, z2⟩
  prot := fun a ha => e.prot a (by
    simp only [List.mem_append] at ha ⊢
    rcases ha with h | h | h
    · exact .inr (.inl h)
    · exact .inl h
    · exact .inr (.inr h))
  trk := e.trk
  tag := e.tag
theorem EnvR.assoc {F G : List Addr} (e : EnvR K ((F ++ G) ++ P) A O H σ ρ) : EnvR K (F ++ (G ++ P)) A O H σ ρ := by
  rw [← List.append_assoc]
  exact e
/-- Fs: the new lists of the values behind -/
theorem frz_ok2 {r : R} {d : D} {F Fs : List Addr} (e : EnvR K (Fs ++ (F ++ P)) A O H σ ρ) (h : RR K P F O H σ v r) (f : frz r ρ = .ok d ρ') : ∃ O', EnvR K (Fs ++ P) A O' H σ ρ' ∧ Step O H O' H ∧ Rp K (wo (O' ++ P) H) v d := by
  have e0 : EnvR K (Fs ++ P) A O H σ ρ := e.swap.less
  unfold frz at f
  cases r with
  | tmp t =>
    simp only at f
    obtain ⟨r1, hF, ht⟩ := h
    cases qf : t.fv with
    | none => rw [qf] at f; cases f
    | some d0 =>
    rw [qf] at f
    cases f
    refine ⟨O, e0, Step.refl _ _, ?_⟩
    cases r1 with
    | val q =>
      cases qf
      rw [List.nil_append] at q
      exact q
    | @lst a vs _ ds m1 m2 m3 =>
      cases qf
      have z2 := hF a (List.mem_singleton.mpr rfl)
      have z1 := e.less.off a (List.mem_singleton.mpr rfl)
      refine .lst (.inl (.inl (wo_some.mpr ⟨fun z => (List.mem_append.mp z).elim z1 z2, m2⟩))) (m3.mono fun b o q => ?_)
      obtain ⟨q1, q2⟩ := wo_some.mp q
      exact wo_some.mpr ⟨fun z => q1 (List.mem_append_right _ z), q2⟩
    | @dct a o es _ kvs m1 m2 m3 m4 =>
      cases qf
      have z2 := hF a (List.mem_singleton.mpr rfl)
      have z1 := e.less.off a (List.mem_singleton.mpr rfl)
      refine .dct (wo_some.mpr ⟨fun z => (List.mem_append.mp z).elim z1 z2, m2⟩) m3 (m4.mono fun b o q => ?_)
      obtain ⟨q1, q2⟩ := wo_some.mp q
      exact wo_some.mpr ⟨fun z => q1 (List.mem_append_right _ z), q2⟩
    | shr m1 m2 m3 => cases ht
    | any => cases ht
    | own m1 =>
      refine m1.fz (fun b o q => ?_) (fun b hb o q => ?_) qf
      · obtain ⟨q1, q2⟩ := wo_some.mp q
        exact wo_some.mpr ⟨fun z => q1 (List.mem_append_right _ z), q2⟩
      · exact wo_some.mpr ⟨fun z => (List.mem_append.mp z).elim (e.less.off b hb) (hF b hb), (onl_some.mp q).2⟩
    | ron => cases qf
  | slot i =>
    simp only at f
    split at f
    · rename_i d' q
      cases f
      obtain ⟨Fs, h1, h2⟩ := e0.less.at_
      obtain ⟨w, e1, r1, _⟩ := h1 i _ q
      have e2 : σ[i]? = some (some v) := h
      rw [e1] at e2
      cases e2
      generalize Fs i = F at r1
      cases r1 with
      | val z => exact ⟨O, e0, Step.refl _ _, z⟩
    · rename_i ds q
      cases f
      obtain ⟨a, vs, O', e1, e2, e3, e4, e5, e6, e7, k⟩ := e0.letGo q
      have e8 : σ[i]? = some (some v) := h
      rw [e1] at e8
      cases e8
      have z : Rp K (wo (O' ++ (Fs ++ P)) H) (.ref a) (.list ds) := .lst (.inl (.inl (wo_some.mpr ⟨fun z => (List.mem_append.mp z).elim e4 e7, e2⟩))) e6
      exact ⟨O', k _ z, ⟨fun b hb => .inl (e5 b hb), fun _ _ _ q => q, fun _ o q => ⟨o, q⟩⟩, z.mono fun b o q => by
        obtain ⟨q1, q2⟩ := wo_some.mp q
        simp only [List.mem_append, not_or] at q1
        exact wo_some.mpr ⟨by simp only [List.mem_append, not_or]; exact ⟨q1.1, q1.2.2⟩, q2⟩⟩
    · rename_i kvs q
      cases f
      obtain ⟨a, O', e1, z, e5, k⟩ := e0.letGoD q
      have e8 : σ[i]? = some (some v) := h
      rw [e1] at e8
      cases e8
      exact ⟨O', k, ⟨fun b hb => .inl (e5 b hb), fun _ _ _ q => q, fun _ o q => ⟨o, q⟩⟩, z.mono fun b o q => by
        obtain ⟨q1, q2⟩ := wo_some.mp q
        simp only [List.mem_append, not_or] at q1
        exact wo_some.mpr ⟨by simp only [List.mem_append, not_or]; exact ⟨q1.1, q1.2.2⟩, q2⟩⟩
    · rename_i n q
      cases qf : n.fz with
      | none => rw [qf] at f; cases f
      | some d0 =>
        rw [qf] at f
        cases f
        obtain ⟨w, F', O', e1, r1, hF, hO', sub, k⟩ := e0.drop1 q
        have e8 : σ[i]? = some (some v) := h
        rw [e1] at e8
        cases e8
        have z : Rp K (wo (O' ++ (Fs ++ P)) H) v d := by
          cases r1 with
          | own m1 => exact m1.fz sub (fun b hb o q => wo_some.mpr ⟨fun z => (List.mem_append.mp z).elim (hF b hb).2.1 (hF b hb).2.2, (onl_some.mp q).2⟩) qf
        exact ⟨O', k _ z, ⟨fun b hb => .inl (hO' b hb), fun _ _ _ q => q, fun _ o q => ⟨o, q⟩⟩, z.mono fun b o q => by
          obtain ⟨q1, q2⟩ := wo_some.mp q
          simp only [List.mem_append, not_or] at q1
          exact wo_some.mpr ⟨by simp only [List.mem_append, not_or]; exact ⟨q1.1, q1.2.2⟩, q2⟩⟩
    · cases f
theorem frz_ok {r : R} {d : D} {F : List Addr} (e : EnvR K (F ++ P) A O H σ ρ) (h : RR K P F O H σ v r) (f : frz r ρ = .ok d ρ') : ∃ O', EnvR K P A O' H σ ρ' ∧ Step O H O' H ∧ Rp K (wo (O' ++ P) H) v d :=
  frz_ok2 (Fs := []) e h f
theorem frz_noexc {r : R} {x : XD} {ρ'' : Rho} : frz r ρ ≠ .exc x ρ'' := by
  unfold frz
  cases r with
  | tmp t =>
    simp only
    cases t.fv <;> exact fun z => nomatch z
  | slot i =>
    simp only
    split
    · exact fun z => nomatch z
    · exact fun z => nomatch z
    · exact fun z => nomatch z
    · split <;> exact fun z => nomatch z
    · exact fun z => nomatch z
def frzs : List R → M (List D)
  | [] => .ret []
  | r :: rs => M.bind (frz r) fun d => M.bind (frzs rs) fun ds => .ret (d :: ds)
theorem frzs_ok : ∀ {rs : List R} {vs : List V} {ds : List D} {P F O : List Addr} {ρ ρ' : Rho}, EnvR K (F ++ P) A O H σ ρ → RRs K P O H σ F vs rs → frzs rs ρ = .ok ds ρ' → ∃ O', EnvR K P A O' H σ ρ' ∧ Step O H O' H ∧ RpAll K (wo (O' ++ P) H) vs ds
  | [], _, _, P, _, O, ρ, _, e, .nil, f => by
    cases f
    exact ⟨O, e, Step.refl _ _, .nil⟩
  | r :: rs, _, ds, P, G, O, ρ, ρ', e, .cons (F := F) (Fs := Fs) h1 h2 hG, f => by
    subst hG
    unfold frzs M.bind at f
    cases q : frz r ρ with
    | ok d ρ1 =>
      rw [q] at f
      simp only at f
      obtain ⟨O1, e1, s1, p1⟩ := frz_ok2 (P := P) (F := F) (Fs := Fs) e.assoc h1 q
      cases q2 : frzs rs ρ1 with
      | ok ds2 ρ2 =>
        rw [q2] at f
        cases f
        obtain ⟨O2, e2, s2, p2⟩ := frzs_ok (P := P) (F := Fs) e1 ((h2.less).step s1 (fun a ha => (e.prot a (List.mem_append_left _ (List.mem_append_left _ ha))).1)) q2
        exact ⟨O2, e2, s1.trans s2, .cons (p1.mono (s2.wo e1.less.prot)) p2⟩
      | exc x ρ2 =>
        rw [q2] at f
        cases f
      | bad =>
        rw [q2] at f
        cases f
    | exc x ρ1 =>
      rw [q] at f
      cases f
    | bad =>
      rw [q] at f
      cases f
theorem frzs_noexc : ∀ {rs : List R} {ρ : Rho} {x : XD} {ρ'' : Rho}, frzs rs ρ ≠ .exc x ρ''
  | [], _, _, _ => fun z => nomatch z
  | r :: rs, ρ, x, ρ'' => fun z => by
    unfold frzs M.bind at z
    cases q : frz r ρ with
    | ok d ρ1 =>
      rw [q] at z
      simp only at z
      cases q2 : frzs rs ρ1 with
      | ok ds2 ρ2 => rw [q2] at z; cases z
      | exc x2 ρ2 => exact frzs_noexc q2
      | bad => rw [q2] at z; cases z
    | exc x1 ρ1 => exact frz_noexc q
    | bad =>
      rw [q] at z
      cases z
end
section
variable {α β : Type} {rel : List Addr → List Addr → List Addr → Hp → β → α → Prop} {K : PySem.W.Frag} {mg : Str → Option Value} {W : WX} {P : List Addr} {A : List V} {σ : L2.St} {O O' : List Addr} {H H' : Hp} {ρ : Rho} {v : V}
theorem Aft.frz {r : R} {k : D → M α} {F : List Addr} {Q : β → Hp → Prop} (e : EnvR K (F ++ P) A O H σ ρ) (h : RR K P F O H σ v r) (a : Aft rel K mg W P A σ O H (M.bind (frz r) k ρ) Q) :
    ∃ O' ρ' d, EnvR K P A O' H σ ρ' ∧ Step O H O' H ∧ Rp K (wo (O' ++ P) H) v d ∧ DL.frz r ρ = .ok d ρ' ∧ Aft rel K mg W P A σ O' H (k d ρ') Q := by
  unfold M.bind at a
  cases q : DL.frz r ρ with
  | ok d ρ' =>
    rw [q] at a
    obtain ⟨O', e', s, p⟩ := frz_ok e h q
    exact ⟨O', ρ', d, e', s, p, rfl, Aft.step a s⟩
  | exc x ρ' => exact (frz_noexc q).elim
  | bad =>
    rw [q] at a
    exact a.elim
theorem Aft.frzs {rs : List R} {vs : List V} {k : List D → M α} {F : List Addr} {Q : β → Hp → Prop} (e : EnvR K (F ++ P) A O H σ ρ) (h : RRs K P O H σ F vs rs) (a : Aft rel K mg W P A σ O H (M.bind (frzs rs) k ρ) Q) :
    ∃ O' ρ' ds, EnvR K P A O' H σ ρ' ∧ Step O H O' H ∧ RpAll K (wo (O' ++ P) H) vs ds ∧ Aft rel K mg W P A σ O' H (k ds ρ') Q := by
  unfold M.bind at a
  cases q : DL.frzs rs ρ with
  | ok d ρ' =>
    rw [q] at a
    obtain ⟨O', e', s, p⟩ := frzs_ok e h q
    exact ⟨O', ρ', d, e', s, p, Aft.step a s⟩
  | exc x ρ' => exact (frzs_noexc q).elim
  | bad =>
    rw [q] at a
    exact a.elim
end
section
variable {X : Cx} {W : WX} {a b c e : Expr} {es : List Expr} {pos : Pos} {ma mb mc : M R} {ms : M (List R)}
theorem js_nil : JEs X W [] (.ret []) := pa_nil.imp fun σ H Q h => by
  obtain ⟨P, A, O, ρ, e, h⟩ := h
  exact h [] H O [] e .nil (Step.refl _ _)
theorem js_cons (ha : JE X W a ma) (hr : JEs X W es ms) (hs : starEach (a :: es) X.env = (false, eval a X.env) :: starEach es X.env) : JEs X W (a :: es) (M.bind ma fun r => M.bind ms fun rs => .ret (r :: rs)) := (pa_cons ha hr hs).imp fun σ H Q h => by
  obtain ⟨P, A, O, ρ, e, h⟩ := h
  refine ⟨P, A, O, ρ, e, (Aft.bind (rl := relR X.K σ) h).mono ?_⟩
  rintro x H1 ⟨O1, ρ1, ra, F, e1, r1, s1, h1⟩
  refine ⟨F ++ P, A, O1, ρ1, e1, (Aft.bindP (rl := relRs X.K σ) F s1.less h1).mono ?_⟩
  rintro ys H2 ⟨O2, ρ2, rb, G, e2, r2, s2, h2⟩
  exact h2 (x :: ys) H2 O2 (G ++ F) (by rw [List.append_assoc]; exact e2) (.cons (r1.step s2.less e1.off) r2 rfl) (s1.transF s2)
def mkTup (rs : List R) : M R := M.bind (frzs rs) fun ds => if ds.length ≤ sizeLine then .ret (.tmp (.val (.tuple ds))) else .bad
def mkLst (rs : List R) : M R := M.bind (frzs rs) fun ds => if ds.length ≤ sizeLine then .ret (.tmp (.lst none ds)) else .bad
theorem j_tup {x1} (h : JEs X W es ms) : JE X W (.Tuple es x1 pos) (M.bind ms mkTup) := (pe_tup h).imp fun σ H Q h => by
  obtain ⟨P, A, O, ρ, e, h⟩ := h
  refine ⟨P, A, O, ρ, e, (Aft.bind (rl := relRs X.K σ) h).mono ?_⟩
  rintro xs H1 ⟨O1, ρ1, rs, F, e1, r1, s1, h1⟩
  obtain ⟨O2, ρ2, ds, e2, s2, p2, h2⟩ := Aft.frzs e1 r1 (h1.step s1.less)
  split at h2
  · rename_i hl
    exact ⟨by rw [p2.length]; exact hl, fun p hp => Aft.tmp h2 e2 (NewT.tup hp (e2.fresh hp) p2)⟩
  · exact h2.elim
theorem j_lst (h : JEs X W es ms) : JE X W (.List es pos) (M.bind ms mkLst) := (pe_lst h).imp fun σ H Q h => by
  obtain ⟨P, A, O, ρ, e, h⟩ := h
  refine ⟨P, A, O, ρ, e, (Aft.bind (rl := relRs X.K σ) h).mono ?_⟩
  rintro xs H1 ⟨O1, ρ1, rs, F, e1, r1, s1, h1⟩
  obtain ⟨O2, ρ2, ds, e2, s2, p2, h2⟩ := Aft.frzs e1 r1 (h1.step s1.less)
  split at h2
  · rename_i hl
    exact ⟨by rw [p2.length]; exact hl, fun p hp => Aft.tmp h2 e2 (NewT.lst hp p2)⟩
  · exact h2.elim
def UnOk (K : PySem.W.Frag) (r : V → Hp → VK → Prop) (f : D → Option T) : Prop := ∀ (Z : List Addr) (H : Hp) (x : V) (d : D) (t : T) (Q : VK), (∀ p, H p = none → p ∉ Z) → VR K Z H x d → f d = some t →
  (∀ v H', NewT K Z H H' v t → Q v H') → r x H Q
def op1 (f : D → Option T) (ra : R) : M R := fun ρ => match look ra ρ with
  | some x => (match f x with
    | some t => .ok (.tmp t) ρ
    | none => .bad)
  | _ => .bad
theorem op1_ok {K : PySem.W.Frag} {mg : Str → Option Value} {W : WX} {P O F : List Addr} {A : List V} {H : Hp} {σ : L2.St} {ρ : Rho} {r : V → Hp → VK → Prop} {f : D → Option T} (hf : UnOk K r f) {x : V} {ra : R} {Q : VK} (e : EnvR K P A O H σ ρ) (hx : RR K P F O H σ x ra)
    (h : Aft (relR K σ) K mg W P A σ O H (op1 f ra ρ) Q) : r x H Q := by
  unfold op1 at h
  split at h
  · rename_i d h1
    split at h
    · rename_i t ht
      exact hf (O ++ P) H x d t Q (fun p hp => e.fresh hp) (look_vr e hx h1) ht fun v H' n => h.tmp e n
    · exact h.elim
  · exact h.elim
theorem j_un {op : UnaryOp} {r : V → Hp → VK → Prop} {f : D → Option T} (ho : UnR X (unaryOp op) r) (hf : UnOk X.K r f) (ha : JE X W a ma) : JE X W (.UnaryOp op a pos) (M.bind ma (op1 f)) := (pe_un ho ha).imp fun σ H Q h => by
  obtain ⟨P, A, O, ρ, e, h⟩ := h
  refine ⟨P, A, O, ρ, e, (Aft.bind (rl := relR X.K σ) h).mono ?_⟩
  rintro x H1 ⟨O1, ρ1, ra, F, e1, r1, s1, h1⟩
  exact op1_ok hf e1.less r1 (h1.step s1.less)
def fNeg : D → Option T
  | .int i => some (.val (.int (-i)))
  | _ => none
theorem neg_ok {K : PySem.W.Frag} : UnOk K (rU fun i => .int (-i)) fNeg := by
  intro Z H x d t Q hz hx hf q
  unfold fNeg at hf
  split at hf
  · cases hf
    cases hx.int
    exact ⟨_, rfl, q _ _ (NewT.scal (.int _))⟩
  · cases hf
def fIx : D → D → Option T
  | .list xs, .int i => (atI xs i).map .val
  | .tuple xs, .int i => (atI xs i).map .val
  | .str z, .int i => if z.length ≤ sizeLine then (atI z.cps.toList i).map fun c => .val (.str ⟨#[c]⟩) else none
  | .dict kvs, d => if (nkOf d).isSome then (kget kvs d).map .val else none
  | _, _ => none
def rIxX (K : PySem.W.Frag) : R2 := fun x y H Q => rIx K x y H Q ∨ rIxN K x y H Q
theorem ix_any {X : Cx} (hu : X.A.units + 65 < cLine) : IxR X (rIxX X.K) := ix_seq.or (ix_dctN hu)
theorem atI_rp {K : PySem.W.Frag} {H : Hp} {vs : List V} {ds : List D} {i : Int} {d : D} (h : RpAll K H vs ds) (e : atI ds i = some d) : ∃ v, atI vs i = some v ∧ Rp K H v d := by
  unfold atI at e ⊢
  rw [h.length]
  cases q : ixN ds.length i with
  | none => rw [q] at e; cases e
  | some j =>
    rw [q] at e
    exact h.get e
theorem ix_ok {K : PySem.W.Frag} : OpOk K (rIxX K) fIx := by
  intro Z H x y d e t Q hz hx hy hf q
  unfold fIx at hf
  split at hf
  · rename_i xs i
    obtain ⟨d', h1, rfl⟩ := Option.map_eq_some_iff.mp hf
    obtain ⟨a, vs, rfl, h2, h3⟩ := hx.list
    obtain ⟨w, h4, h5⟩ := atI_rp h3 h1
    cases hy.int
    exact .inl (.inl ⟨a, vs, i, w, rfl, rfl, h2, h4, q _ _ (NewT.val h5)⟩)
  · rename_i xs i
    obtain ⟨d', h1, rfl⟩ := Option.map_eq_some_iff.mp hf
    obtain ⟨a, vs, rfl, h2, h3, _⟩ := hx.tuple
    obtain ⟨w, h4, h5⟩ := atI_rp h3 h1
    cases hy.int
    exact .inl (.inr (.inl ⟨a, vs, i, w, rfl, rfl, h2, h4, q _ _ (NewT.val h5)⟩))
  · split at hf
    · rename_i z i hl
      obtain ⟨d', h1, rfl⟩ := Option.map_eq_some_iff.mp hf
      cases hx.str
      cases hy.int
      exact .inl (.inr (.inr ⟨z, i, d', rfl, rfl, hl, h1, q _ _ (NewT.scal (.str _))⟩))
    · cases hf
  · rename_i kvs
    split at hf
    · rename_i hs
      obtain ⟨d', h1, rfl⟩ := Option.map_eq_some_iff.mp hf
      obtain ⟨k, hk⟩ := Option.isSome_iff_exists.mp hs
      obtain ⟨a, o, es, rfl, h2, h3, h4⟩ := hx.dict
      exact .inr ⟨_, k, a, o, es, kvs, wo Z H, hy.rp, hk, rfl, h2, h3, wo_sub, h4, d', h1, fun v rv => q _ _ (NewT.val rv)⟩
    · cases hf
  · cases hf
theorem j_ix (hu : X.A.units + 65 < cLine) (ha : JE X W a ma) (hb : JE X W b mb) (hs : PlainIx b) : JE X W (.Subscript a b pos) (M.bind ma fun ra => M.bind mb fun rb => op2 fIx ra rb) := (pe_ix (ix_any hu) ha hb hs).imp fun _ _ _ h => two_of ix_ok h
def fSl : D → Option Int → Option Int → Option T
  | .list xs, lo, hi => some (.lst none ((xs.drop (HT.sIx xs.length 0 lo)).take (HT.sIx xs.length xs.length hi - HT.sIx xs.length 0 lo)))
  | .tuple xs, lo, hi => some (.val (.tuple ((xs.drop (HT.sIx xs.length 0 lo)).take (HT.sIx xs.length xs.length hi - HT.sIx xs.length 0 lo))))
  | .str z, lo, hi => if z.length ≤ sizeLine then some (.val (.str (Txt.slice z lo hi))) else none
  | _, _, _ => none
def rSlX (K : PySem.W.Frag) : V → Option Int → Option Int → Hp → VK → Prop := fun x lo hi H Q => rSlL K x lo hi H Q ∨ (rSlA K x lo hi H Q ∨ C8.rSlX x lo hi H Q)
theorem sl_any : SlR X (rSlX X.K) := sl_list.or (sl_tupA.or C8.sl_txt)
theorem sl_ok {K : PySem.W.Frag} {Z : List Addr} {H : Hp} {x : V} {d : D} {t : T} {lo hi : Option Int} {Q : VK} (hz : ∀ p, H p = none → p ∉ Z) (hx : VR K Z H x d) (hf : fSl d lo hi = some t) (q : ∀ v H', NewT K Z H H' v t → Q v H') : rSlX K x lo hi H Q := by
  unfold fSl at hf
  split at hf
  · cases hf
    obtain ⟨a, vs, rfl, h2, h3⟩ := hx.list
    refine .inl ⟨a, vs, rfl, h2, fun p hp => q _ _ (NewT.lst hp ?_)⟩
    unfold cutV
    rw [h3.length]
    exact (h3.drop _).take _
  · cases hf
    rename_i xs
    obtain ⟨a, vs, rfl, h2, h3, h4⟩ := hx.tuple
    refine .inr (.inl ⟨a, vs, rfl, h2, fun w => ?_, fun w p hp => q _ _ (NewT.tup hp (hz p hp) ?_)⟩)
    · rw [h3.length] at w
      refine q _ _ (NewT.val ?_)
      rw [w.1, w.2, List.drop_zero, Nat.sub_zero, List.take_length]
      exact h4
    · unfold cutV
      rw [h3.length]
      exact (h3.drop _).take _
  · split at hf
    · rename_i hl
      cases hf
      cases hx.str
      exact .inr (.inr ⟨_, rfl, hl, q _ _ (NewT.scal (.str _))⟩)
    · cases hf
  · cases hf
/-- a part of a slice -/
abbrev relO : PySem.W.Frag → L2.St → List Addr → List Addr → List Addr → Hp → Option Int → Option Int → Prop := fun _ _ _ _ _ _ b c => b = c
abbrev JO (X : Cx) (W : WX) (e : Option Expr) (m : M (Option Int)) : Prop := PO X e (tG relO X.K X.mg W m)
def asInt (r : R) : M (Option Int) := fun ρ => match look r ρ with
  | some (.int i) => .ok (some i) ρ
  | _ => .bad
theorem jo_some (h : JE X W a ma) : JO X W (some a) (M.bind ma asInt) := ⟨fun pins s σ H Q I h0 => by
  refine (po_some h).run pins s σ H Q I ?_
  obtain ⟨P, A, O, ρ, e, h⟩ := h0
  refine ⟨P, A, O, ρ, e, (Aft.bind (rl := relR X.K σ) h).mono ?_⟩
  rintro x H1 ⟨O1, ρ1, ra, F, e1, r1, s1, h1⟩
  unfold asInt at h1
  split at h1
  · rename_i i q
    have z := look_vr e1.less r1 q
    cases z.int
    exact ⟨i, rfl, h1 _ H1 O1 [] e1.less rfl s1.less⟩
  · exact h1.elim⟩
def opSl (ra : R) (lo hi : Option Int) : M R := fun ρ => match look ra ρ with
  | some x => (match fSl x lo hi with
    | some t => .ok (.tmp t) ρ
    | none => .bad)
  | none => .bad
theorem j_slice {lo hi : Option Expr} {ml mh : M (Option Int)} {p2 : Pos} (ha : JE X W a ma) (hl : JO X W lo ml) (hu : JO X W hi mh) :
    JE X W (.Subscript a (.Slice lo hi none p2) pos) (M.bind ma fun ra => M.bind ml fun l => M.bind mh fun u => opSl ra l u) := (pe_slice sl_any ha hl hu).imp fun σ H Q h => by
  obtain ⟨P, A, O, ρ, e, h⟩ := h
  refine ⟨P, A, O, ρ, e, (Aft.bind (rl := relR X.K σ) h).mono ?_⟩
  rintro x H1 ⟨O1, ρ1, ra, F, e1, r1, s1, h1⟩
  refine ⟨F ++ P, A, O1, ρ1, e1, (Aft.bindP (rl := relO X.K σ) F s1.less h1).mono ?_⟩
  rintro l H2 ⟨O2, ρ2, l', G2, e2, rfl, s2, h2⟩
  refine ⟨F ++ P, A, O2, ρ2, e2.less, (Aft.bindP (rl := relO X.K σ) F (s1.less.trans s2.less) h2).mono ?_⟩
  rintro u H3 ⟨O3, ρ3, u', G3, e3, rfl, s3, h3⟩
  unfold opSl at h3
  split at h3
  · rename_i d q
    split at h3
    · rename_i t ht
      exact sl_ok (fun p hp => e3.less.less.fresh hp) (look_vr e3.less.less ((r1.step s2.less e1.off).step s3.less e2.less.off) q) ht fun v H' n => (h3.step ((s1.less.trans s2.less).trans s3.less)).tmp e3.less.less n
    · exact h3.elim
  · exact h3.elim
def asB (r : R) : M Bool := fun ρ => match look r ρ with
  | some (.bool b) => .ok b ρ
  | _ => .bad
theorem asB_ok {K : PySem.W.Frag} {mg : Str → Option Value} {W : WX} {P O : List Addr} {A : List V} {H : Hp} {σ : L2.St} {ρ : Rho} {x : V} {r : R} {F : List Addr} {Q : Bool → Hp → Prop} (e : EnvR K P A O H σ ρ) (h : RR K P F O H σ x r) (a : Aft (relB K σ) K mg W P A σ O H (asB r ρ) Q) : ∃ c, x = .bl c ∧ Q c H := by
  unfold asB at a
  split at a
  · rename_i b q
    exact ⟨b, (look_vr e h q).bool, a b H O [] e rfl (Step.refl _ _)⟩
  · exact a.elim
theorem jb_val (ha : JE X W a ma) (he : ∀ whole, isTrue a X.env whole = (do let v ← whole; standAt a.pos; holding [v] (truthy v))) : JB X W a (M.bind ma asB) := (pt_val ha he).imp fun σ H Q h => by
  obtain ⟨P, A, O, ρ, e, h⟩ := h
  refine ⟨P, A, O, ρ, e, (Aft.bind (rl := relR X.K σ) h).mono ?_⟩
  rintro x H1 ⟨O1, ρ1, ra, F, e1, r1, s1, h1⟩
  exact asB_ok e1.less r1 (h1.step s1.less)
theorem jb_cmp {op : CmpOp} {r : R2} {f : D → D → Option T} (ho : OpR X (compareOp op) r) (hf : OpOk X.K r f) (hm : behindInMarks op b = false) (ha : JE X W a ma) (hb : JE X W b mb) :
    JB X W (.Compare a [op] [b] pos) (M.bind (M.bind ma fun ra => M.bind mb fun rb => op2 f ra rb) asB) := (pt_cmpR ho ha hb hm).imp fun σ H Q h => by
  have h' : tR X.K X.mg W (M.bind ma fun ra => M.bind mb fun rb => op2 f ra rb) σ H (fun x H1 => ∃ k, x = .bl k ∧ Q k H1) := by
    obtain ⟨P, A, O, ρ, e, h⟩ := h
    refine ⟨P, A, O, ρ, e, (Aft.bind (rl := relR X.K σ) h).mono ?_⟩
    rintro x H1 ⟨O1, ρ1, ra, F, e1, r1, s1, h1⟩
    exact asB_ok e1.less r1 (h1.step s1.less)
  exact two_of hf h'
def andM (ta tb : M Bool) : M Bool := M.bind ta fun c => if c then tb else .ret false
def orM (ta tb : M Bool) : M Bool := M.bind ta fun c => if c then .ret true else tb
abbrev JW (X : Cx) (W : WX) (e : Expr) (m : M Bool) : Prop := PW X e (tBo X.K X.mg W m)
theorem bind_B {ta : M Bool} {k : Bool → M Bool} {K : PySem.W.Frag} {mg : Str → Option Value} {W : WX} {σ : L2.St} {H : Hp} {Q : Bool → Hp → Prop} (h : tBo K mg W (M.bind ta k) σ H Q) : tBo K mg W ta σ H fun c H1 => tBo K mg W (k c) σ H1 Q := by
  obtain ⟨P, A, O, ρ, e, h⟩ := h
  refine ⟨P, A, O, ρ, e, (Aft.bind (rl := relB K σ) h).mono ?_⟩
  rintro x H1 ⟨O1, ρ1, c, F, e1, rfl, s1, h1⟩
  exact ⟨P, A, O1, ρ1, e1.less, h1.step s1.less⟩
theorem ret_B {c : Bool} {K : PySem.W.Frag} {mg : Str → Option Value} {W : WX} {σ : L2.St} {H : Hp} {Q : Bool → Hp → Prop} (h : tBo K mg W (.ret c) σ H Q) : Q c H := by
  obtain ⟨P, A, O, ρ, e, h⟩ := h
  exact h c H O [] e rfl (Step.refl _ _)
theorem _root_.L2.PW.imp {X : Cx} {e : Expr} {t t' : TT} (h : PW X e t) (q : ∀ σ H Q, t' σ H Q → t σ H Q) : PW X e t' := ⟨fun wh pins s σ H Q I z => h.run wh pins s σ H Q I (q σ H Q z)⟩
variable {ta tb : M Bool} {rest : List Expr}
theorem jw_and1 (ha : JB X W a ta) : JW X W (.BoolOp .And [a] pos) ta := pw_and1 ha
theorem jw_or1 (ha : JB X W a ta) : JW X W (.BoolOp .Or [a] pos) ta := pw_or1 ha
theorem jw_and (ha : JB X W a ta) (hb : JW X W (.BoolOp .And (b :: rest) pos) tb) : JW X W (.BoolOp .And (a :: b :: rest) pos) (andM ta tb) := (pw_and ha hb).imp fun σ H Q h => by
  have h1 := bind_B h
  obtain ⟨P, A, O, ρ, e, h1⟩ := h1
  refine ⟨P, A, O, ρ, e, h1.mono fun c H1 q => ?_⟩
  cases c with
  | true => exact q
  | false => exact ret_B q
theorem jw_or (ha : JB X W a ta) (hb : JW X W (.BoolOp .Or (b :: rest) pos) tb) : JW X W (.BoolOp .Or (a :: b :: rest) pos) (orM ta tb) := (pw_or ha hb).imp fun σ H Q h => by
  have h1 := bind_B h
  obtain ⟨P, A, O, ρ, e, h1⟩ := h1
  refine ⟨P, A, O, ρ, e, h1.mono fun c H1 q => ?_⟩
  cases c with
  | true => exact ret_B q
  | false => exact q
theorem jb_not (ha : JB X W a ta) : JB X W (.UnaryOp .Not a pos) (M.bind ta fun c => .ret (!c)) := (pt_not ha).imp fun σ H Q h => by
  obtain ⟨P, A, O, ρ, e, h⟩ := bind_B h
  exact ⟨P, A, O, ρ, e, h.mono fun c H1 q => ret_B q⟩
end
end DL
set_option Elab.async false
set_option maxRecDepth 100000
set_option maxHeartbeats 4000000
namespace DL
open PySem PySem.Spec PyProof.Rows L2
section
variable {K : PySem.W.Frag} {P O : List Addr} {A : List V} {H H' : Hp} {σ : L2.St} {ρ ρ' : Rho} {v : V}
/-- slot i is cleared: its own list goes -/
theorem EnvR.clear {i : Nat} (e : EnvR K P A O H σ ρ) (x : Option V) : ∃ O', EnvR K P A O' H (σ.set i x) (ρ.set i none) ∧ (∀ b ∈ O', b ∈ O) := by
  obtain ⟨Fs, h1, h2⟩ := e.at_
  have sub : ∀ b o, wo (O ++ P) H b = some o → wo (O.filter (fun b => decide (b ∉ Fs i)) ++ P) H b = some o := fun b o q => by
    obtain ⟨q1, q2⟩ := wo_some.mp q
    refine wo_some.mpr ⟨fun z => q1 ?_, q2⟩
    rcases List.mem_append.mp z with z | z
    · exact List.mem_append_left _ (List.mem_filter.mp z).1
    · exact List.mem_append_right _ z
  refine ⟨O.filter (fun b => decide (b ∉ Fs i)), ⟨by rw [List.length_set, List.length_set]; exact e.len, ⟨fun j => if j = i then [] else Fs j, fun j t q => ?_, fun j k hjk b hb => ?_⟩,
    fun b hb => ⟨fun z => (e.prot b hb).1 (List.mem_filter.mp z).1, (e.prot b hb).2⟩, fun b hb => e.trk b (List.mem_filter.mp hb).1, fun j k t' q ht => ?_⟩, fun b hb => (List.mem_filter.mp hb).1⟩
  · dsimp only
    rcases get_set q with ⟨hj, q'⟩ | ⟨hj, q'⟩
    · cases q'
    · rw [if_neg hj]
      obtain ⟨w, e2, r2, hO2⟩ := h1 j t q'
      have ne : ∀ b ∈ Fs j, b ∉ Fs i := fun b hb => h2 j i hj b hb
      refine ⟨w, by rw [List.getElem?_set_ne (Ne.symm hj)]; exact e2, r2.keep sub fun b hb => ⟨List.mem_append_left _ (List.mem_filter.mpr ⟨hO2 b hb, by simpa using ne b hb⟩), rfl⟩, fun b hb => List.mem_filter.mpr ⟨hO2 b hb, by simpa using ne b hb⟩⟩
  · dsimp only at hb ⊢
    by_cases hj : j = i
    · rw [if_pos hj] at hb
      exact absurd hb List.not_mem_nil
    · rw [if_neg hj] at hb
      by_cases hk : k = i
      · rw [if_pos hk]
        exact List.not_mem_nil
      · rw [if_neg hk]
        exact h2 j k hjk b hb
  · rcases get_set q with ⟨hj, q'⟩ | ⟨hj, q'⟩
    · cases q'
    · obtain ⟨w, e1, e2⟩ := e.tag j k t' q' ht
      exact ⟨w, by rw [List.getElem?_set_ne (Ne.symm hj)]; exact e1, e2⟩
/-- a value is put into an empty slot -/
theorem EnvR.fill {i : Nat} {F : List Addr} {t : T} (e : EnvR K (F ++ P) A O H σ ρ) (hi : ρ[i]? = some none) (hv : σ[i]? = some (some v)) (r : RepT K (F ++ (O ++ P)) H v t F) (hP : ∀ a ∈ F, a ∉ P) (ht : t.tagOf = none) :
    EnvR K P A (F ++ O) H σ (ρ.set i (some t)) := by
  obtain ⟨Fs, h1, h2⟩ := e.at_
  have off := e.off
  refine ⟨by rw [List.length_set]; exact e.len, ⟨fun j => if j = i then F else if (ρ[j]?).join.isSome then Fs j else [], fun j u q => ?_, fun j k hjk b hb => ?_⟩, fun b hb => ⟨fun z => ?_, (e.prot b (List.mem_append_right _ hb)).2⟩, fun b hb => ?_, fun j k t' q ht' => ?_⟩
  · dsimp only
    rcases get_set q with ⟨hj, q'⟩ | ⟨hj, q'⟩
    · subst hj
      cases q'
      rw [if_pos rfl]
      refine ⟨v, hv, ?_, fun a ha => List.mem_append_left _ ha⟩
      rw [List.append_assoc]
      exact r
    · rw [if_neg hj]
      have hs : (ρ[j]?).join.isSome = true := by rw [q']; rfl
      rw [if_pos hs]
      obtain ⟨w, e2, r2, hO2⟩ := h1 j u q'
      refine ⟨w, e2, r2.keep (fun a o z => ?_) fun b hb => ⟨List.mem_append_left _ (List.mem_append_right _ (hO2 b hb)), rfl⟩, fun b hb => List.mem_append_right _ (hO2 b hb)⟩
      obtain ⟨z1, z2⟩ := wo_some.mp z
      simp only [List.mem_append, not_or] at z1
      exact wo_some.mpr ⟨by simp only [List.mem_append, not_or]; exact ⟨⟨z1.2.1, z1.1⟩, z1.2.2⟩, z2⟩
  · dsimp only at hb ⊢
    have inO : ∀ l, ∀ b ∈ (if (ρ[l]?).join.isSome then Fs l else []), b ∈ O := fun l b hb => by
      split at hb
      · rename_i hs
        cases q : ρ[l]? with
        | none => rw [q] at hs; cases hs
        | some o =>
          cases o with
          | none => rw [q] at hs; cases hs
          | some u =>
            obtain ⟨_, _, _, hO⟩ := h1 l u q
            exact hO b hb
      · exact absurd hb List.not_mem_nil
    by_cases hj : j = i
    · rw [if_pos hj] at hb
      rw [if_neg (fun z => hjk (hj.trans z.symm))]
      exact fun z => off b hb (inO k b z)
    · rw [if_neg hj] at hb
      by_cases hk : k = i
      · rw [if_pos hk]
        exact fun z => off b z (inO j b hb)
      · rw [if_neg hk]
        intro z
        split at hb
        · split at z
          · exact h2 j k hjk b hb z
          · exact absurd z List.not_mem_nil
        · exact absurd hb List.not_mem_nil
  · rcases List.mem_append.mp z with z | z
    · exact hP b z hb
    · exact (e.prot b (List.mem_append_right _ hb)).1 z
  · rcases List.mem_append.mp hb with z | z
    · exact (e.prot b (List.mem_append_left _ z)).2
    · exact e.trk b z
  · rcases get_set q with ⟨hj, q'⟩ | ⟨hj, q'⟩
    · cases q'
      rw [ht] at ht'
      cases ht'
    · exact e.tag j k t' q' ht'
theorem EnvR.put {i : Nat} {F : List Addr} {t : T} (e : EnvR K (F ++ P) A O H σ ρ) (hi : i < ρ.length) (r : RR K P F O H σ v (.tmp t)) : ∃ O', EnvR K P A O' H (σ.set i (some v)) (ρ.set i (some t)) ∧ Step O H O' H' = Step O H O' H' ∧ (∀ b ∈ O', b ∈ O ∨ b ∈ F) := by
  obtain ⟨r1, r2, r3⟩ := r
  obtain ⟨O1, e1, s1⟩ := e.clear (i := i) (some v)
  have hn : (ρ.set i none)[i]? = some none := by simp [hi]
  have hs : (σ.set i (some v))[i]? = some (some v) := by
    have := e.len
    simp [show i < σ.length by omega]
  refine ⟨F ++ O1, ?_, rfl, fun b hb => (List.mem_append.mp hb).elim .inr (fun z => .inl (s1 b z))⟩
  have z := e1.fill hn hs (r1.keep (fun a o z => ?_) fun a ha => ⟨List.mem_append_left _ ha, rfl⟩) r2 r3
  · rw [List.set_set] at z
    exact z
  · obtain ⟨z1, z2⟩ := wo_some.mp z
    simp only [List.mem_append, not_or] at z1
    exact wo_some.mpr ⟨by simp only [List.mem_append, not_or]; exact ⟨z1.1, fun y => z1.2.1 (s1 a y), z1.2.2⟩, z2⟩
end
inductive Fl where
  | nx | bk | ct
  | rt (r : R)
def AftS (K : PySem.W.Frag) (mg : Str → Option Value) (W : WX) (P : List Addr) (A : List V) (O : List Addr) (H : Hp) (o : Out Fl) (D : Ends) : Prop :=
  match o with
  | .ok .nx ρ' => ∀ σ' H' O', EnvR K P A O' H' σ' ρ' → Step O H O' H' → D.nx σ' H'
  | .ok .bk ρ' => ∀ σ' H' O', EnvR K P A O' H' σ' ρ' → Step O H O' H' → D.bk σ' H'
  | .ok .ct ρ' => ∀ σ' H' O', EnvR K P A O' H' σ' ρ' → Step O H O' H' → D.ct σ' H'
  | .ok (.rt r) ρ' => ∀ v σ' H' O' F, EnvR K (F ++ P) A O' H' σ' ρ' → RR K P F O' H' σ' v r → Step O H (F ++ O') H' → D.rt v H'
  | .exc x ρ' => ∀ cls d σ' H' O', EnvR K P A O' H' σ' ρ' → ExR K mg (O' ++ P) H' x cls d → Step O H O' H' → W cls d σ' H'
  | .bad => False
def tS (K : PySem.W.Frag) (mg : Str → Option Value) (W : WX) (m : M Fl) : TS := fun D σ H => ∃ P A O ρ, EnvR K P A O H σ ρ ∧ AftS K mg W P A O H (m ρ) D
abbrev JS (X : Cx) (W : WX) (st : Stmt) (m : M Fl) : Prop := PS X st (tS X.K X.mg W m)
abbrev JSs (X : Cx) (W : WX) (st : List Stmt) (m : M Fl) : Prop := PSs X st (tS X.K X.mg W m)
section
variable {K : PySem.W.Frag} {mg : Str → Option Value} {W : WX} {P : List Addr} {A : List V} {σ : L2.St} {O O' : List Addr} {H H' : Hp} {D D' : Ends}
theorem AftS.step {o : Out Fl} (h : AftS K mg W P A O H o D) (s : Step O H O' H') : AftS K mg W P A O' H' o D := by
  cases o with
  | ok f ρ' =>
    cases f with
    | nx => exact fun σ1 H1 O1 e t => h σ1 H1 O1 e (s.trans t)
    | bk => exact fun σ1 H1 O1 e t => h σ1 H1 O1 e (s.trans t)
    | ct => exact fun σ1 H1 O1 e t => h σ1 H1 O1 e (s.trans t)
    | rt r => exact fun v σ1 H1 O1 F e q t => h v σ1 H1 O1 F e q (s.trans t)
  | exc x ρ' => exact fun c d σ1 H1 O1 e r t => h c d σ1 H1 O1 e r (s.trans t)
  | bad => exact h
/-- an expression, then a statement's rest -/
theorem AftS.bindE {α' β' : Type} {rl : List Addr → List Addr → List Addr → Hp → β' → α' → Prop} (G : List Addr) {m : M α'} {k : α' → M Fl} {ρ : Rho} (s : Step O H O' H') (h : AftS K mg W P A O H (M.bind m k ρ) D) :
    Aft rl K mg W (G ++ P) A σ O' H' (m ρ) (fun b H1 => ∃ O1 ρ1 a F, EnvR K (F ++ (G ++ P)) A O1 H1 σ ρ1 ∧ rl (G ++ P) F O1 H1 b a ∧ Step O' H' (F ++ O1) H1 ∧ AftS K mg W P A O H (k a ρ1) D) := by
  unfold M.bind at h
  cases e : m ρ with
  | ok a ρ1 =>
    rw [e] at h
    exact fun b H1 O1 F q r s => ⟨O1, ρ1, a, F, q, r, s, h⟩
  | exc x ρ1 =>
    rw [e] at h
    exact fun c d H1 O1 q r s1 => h c d σ H1 O1 q.less (r.less fun a ha => by
      rcases List.mem_append.mp ha with z | z
      · exact List.mem_append_left _ z
      · exact List.mem_append_right _ (List.mem_append_right _ z)) (s.trans s1)
  | bad =>
    rw [e] at h
    exact h
theorem AftS.bind1 {α' β' : Type} {rl : List Addr → List Addr → List Addr → Hp → β' → α' → Prop} {m : M α'} {k : α' → M Fl} {ρ : Rho} (h : AftS K mg W P A O H (M.bind m k ρ) D) :
    Aft rl K mg W P A σ O H (m ρ) (fun b H1 => ∃ O1 ρ1 a F, EnvR K (F ++ P) A O1 H1 σ ρ1 ∧ rl P F O1 H1 b a ∧ Step O H (F ++ O1) H1 ∧ AftS K mg W P A O H (k a ρ1) D) := AftS.bindE [] (Step.refl _ _) h
/-- one statement, then the rest -/
def seqM (ma mb : M Fl) : M Fl := M.bind ma fun f => match f with
  | .nx => mb
  | f => .ret f
theorem AftS.seq {ma mb : M Fl} {ρ : Rho} (h : AftS K mg W P A O H (seqM ma mb ρ) D) : AftS K mg W P A O H (ma ρ) { D with nx := fun σ H => ∃ O1 ρ1, EnvR K P A O1 H σ ρ1 ∧ AftS K mg W P A O1 H (mb ρ1) D } := by
  unfold seqM M.bind at h
  cases e : ma ρ with
  | ok f ρ1 =>
    rw [e] at h
    cases f with
    | nx => exact fun σ1 H1 O1 q s => ⟨O1, ρ1, q, AftS.step h s⟩
    | bk => exact h
    | ct => exact h
    | rt r => exact h
  | exc x ρ1 =>
    rw [e] at h
    exact h
  | bad =>
    rw [e] at h
    exact h
end
section
variable {X : Cx} {W : WX} {st : Stmt} {rest : List Stmt} {a b e : Expr} {pos : Pos} {ma mb : M R} {m m1 m2 : M Fl} {tb : M Bool}
theorem jss_nil : JSs X W [] (.ret .nx) := pss_nil.imp fun D σ H h => by
  obtain ⟨P, A, O, ρ, e, h⟩ := h
  exact h σ H O e (Step.refl _ _)
theorem jss_cons (h1 : JS X W st m1) (h2 : JSs X W rest m2) : JSs X W (st :: rest) (seqM m1 m2) := (pss_cons h1 h2).imp fun D σ H h => by
  obtain ⟨P, A, O, ρ, e, h⟩ := h
  refine ⟨P, A, O, ρ, e, ?_⟩
  have z := AftS.seq h
  cases q : m1 ρ with
  | ok f ρ1 =>
    rw [q] at z
    cases f with
    | nx => exact fun σ1 H1 O1 q s => let ⟨O2, ρ2, e2, h2⟩ := z σ1 H1 O1 q s; ⟨P, A, O2, ρ2, e2, h2⟩
    | bk => exact z
    | ct => exact z
    | rt r => exact z
  | exc x ρ1 =>
    rw [q] at z
    exact z
  | bad =>
    rw [q] at z
    exact z
theorem jss_one (h1 : JS X W st m) : JSs X W [st] m := pss_one h1
theorem js_break : JS X W (.Break pos) (.ret .bk) := ps_break.imp fun D σ H h => by
  obtain ⟨P, A, O, ρ, e, h⟩ := h
  exact h σ H O e (Step.refl _ _)
theorem js_expr (he : JE X W e ma) (hs : swapsWith e none pos.line X.env = pure false) : JS X W (.Expr e pos) (M.bind ma fun _ => .ret .nx) := (ps_expr he hs).imp fun D σ H h => by
  obtain ⟨P, A, O, ρ, e, h⟩ := h
  refine ⟨P, A, O, ρ, e, (AftS.bind1 (rl := relR X.K σ) h).mono ?_⟩
  rintro x H1 ⟨O1, ρ1, ra, F, e1, r1, s1, h1⟩
  exact h1 σ H1 O1 e1.less s1.less
theorem js_ret (he : JE X W e ma) : JS X W (.Return (some e) pos) (M.bind ma fun r => .ret (.rt r)) := (ps_ret he).imp fun D σ H h => by
  obtain ⟨P, A, O, ρ, e, h⟩ := h
  refine ⟨P, A, O, ρ, e, (AftS.bind1 (rl := relR X.K σ) h).mono ?_⟩
  rintro x H1 ⟨O1, ρ1, ra, F, e1, r1, s1, h1⟩
  exact h1 x σ H1 O1 F e1 r1 s1
theorem js_if {c : Expr} {sa sb : List Stmt} (hc : JB X W c tb) (ha : JSs X W sa m1) (hb : JSs X W sb m2) : JS X W (.If c sa sb pos) (M.bind tb fun b => if b then m1 else m2) := (ps_if hc ha hb).imp fun D σ H h => by
  obtain ⟨P, A, O, ρ, e, h⟩ := h
  refine ⟨P, A, O, ρ, e, (AftS.bind1 (rl := relB X.K σ) h).mono ?_⟩
  rintro x H1 ⟨O1, ρ1, c, F, e1, rfl, s1, h1⟩
  cases x with
  | true => exact ⟨P, A, O1, ρ1, e1.less, h1.step s1.less⟩
  | false => exact ⟨P, A, O1, ρ1, e1.less, h1.step s1.less⟩
/-- while -/
def whileM (tb : M Bool) (m : M Fl) : Nat → M Fl
  | 0 => .bad
  | n + 1 => M.bind tb fun b => if b then M.bind m (fun f => match f with
    | .nx => whileM tb m n
    | .ct => whileM tb m n
    | .bk => .ret .nx
    | .rt r => .ret (.rt r)) else .ret .nx
theorem js_while {c : Expr} {sb : List Stmt} (n : Nat) (hp : PassesOwn (model X.prog X.w) X.A X.env X.xe) (hc : JB X W c tb) (hb : JSs X W sb m) : JS X W (.While c sb [] pos) (whileM tb m n) := (ps_while hp hc hb).imp fun D σ H h => by
  obtain ⟨P, A, O, ρ, e, h⟩ := h
  refine ⟨fun k σ H => ∃ O ρ, EnvR X.K P A O H σ ρ ∧ AftS X.K X.mg W P A O H (whileM tb m k ρ) D, ⟨n, O, ρ, e, h⟩, ?_⟩
  rintro k σ1 H1 ⟨O1, ρ1, e1, h1⟩
  cases k with
  | zero => exact h1.elim
  | succ k =>
    unfold whileM at h1
    refine ⟨P, A, O1, ρ1, e1, (AftS.bind1 (rl := relB X.K σ1) h1).mono ?_⟩
    rintro x H2 ⟨O2, ρ2, c, F, e2, rfl, s2, h2⟩
    cases x with
    | false => exact h2 σ1 H2 O2 e2.less s2.less
    | true =>
      simp only [if_true] at h2 ⊢
      replace h2 := AftS.step h2 s2.less
      refine ⟨fun σ H => ∃ O ρ, EnvR X.K P A O H σ ρ ∧ AftS X.K X.mg W P A O H (whileM tb m k ρ) D, fun σ' H' z => ⟨k, Nat.lt_succ_self _, z⟩, P, A, O2, ρ2, e2.less, ?_⟩
      unfold M.bind at h2
      cases q : m ρ2 with
      | ok f ρ3 =>
        rw [q] at h2
        cases f with
        | nx => exact fun σ3 H3 O3 e3 s3 => ⟨O3, ρ3, e3, AftS.step h2 s3⟩
        | ct => exact fun σ3 H3 O3 e3 s3 => ⟨O3, ρ3, e3, AftS.step h2 s3⟩
        | bk => exact fun σ3 H3 O3 e3 s3 => h2 σ3 H3 O3 e3 s3
        | rt r => exact h2
      | exc x ρ3 =>
        rw [q] at h2
        exact h2
      | bad =>
        rw [q] at h2
        exact h2
def putT (i : Nat) (t : T) : M Unit := fun ρ => if i < ρ.length then .ok () (ρ.set i (some t)) else .bad
def asgR (i : Nat) (r : R) : M Unit := match r with
  | .tmp t => putT i t
  | r => M.bind (frz r) fun d => putT i (.val d)
/-- what a store to a target asks, by values -/
def GOk (K : PySem.W.Frag) (mg : Str → Option Value) (W : WX) (g : TG) (f : R → M Unit) : Prop := ∀ (P : List Addr) (A : List V) (O : List Addr) (H : Hp) (σ : L2.St) (ρ : Rho) (F : List Addr) (v : V) (r : R) (k : M Fl) (D : Ends),
  EnvR K (F ++ P) A O H σ ρ → RR K P F O H σ v r → AftS K mg W P A (F ++ O) H (M.bind (f r) (fun _ => k) ρ) D → ∀ Q : L2.St → Hp → Prop,
    (∀ σ' H' O' ρ', EnvR K P A O' H' σ' ρ' → Step (F ++ O) H O' H' → AftS K mg W P A O' H' (k ρ') D → Q σ' H') → g v σ H Q
theorem g_name {K : PySem.W.Frag} {mg : Str → Option Value} {W : WX} {i : Nat} : GOk K mg W (gName i) (asgR i) := by
  intro P A O H σ ρ F v r k D e hr h Q hQ
  have fin : ∀ {O1 ρ1 F1 t}, EnvR K (F1 ++ P) A O1 H σ ρ1 → RR K P F1 O1 H σ v (.tmp t) → Step (F ++ O) H (F1 ++ O1) H → AftS K mg W P A (F ++ O) H (M.bind (putT i t) (fun _ => k) ρ1) D → gName i v σ H Q := by
    intro O1 ρ1 F1 t e1 r1 s1 h1
    unfold M.bind putT at h1
    by_cases hl : i < ρ1.length
    · rw [if_pos hl] at h1
      obtain ⟨O2, e2, _, s2⟩ := e1.put (H' := H) hl r1
      have s3 : Step (F ++ O) H O2 H := ⟨fun a ha => (s2 a ha).elim (fun z => s1.own a (List.mem_append_right _ z)) (fun z => s1.own a (List.mem_append_left _ z)), s1.ext, s1.stay⟩
      exact hQ _ _ O2 _ e2 s3 (AftS.step h1 s3)
    · rw [if_neg hl] at h1
      exact h1.elim
  cases r with
  | tmp t => exact fin e hr (Step.refl _ _) h
  | slot j =>
    unfold asgR M.bind at h
    simp only at h
    cases q : frz (.slot j) ρ with
    | ok d ρ' =>
      rw [q] at h
      obtain ⟨O', e', s', p⟩ := frz_ok e hr q
      exact fin (F1 := []) (t := .val d) e' ⟨.val p, fun _ z => absurd z List.not_mem_nil, rfl⟩ ⟨fun a ha => (s'.own a ha).imp_left (List.mem_append_right _), fun a o z => s'.ext a o fun y => z (List.mem_append_right _ y), s'.stay⟩ h
    | exc x ρ' => exact (frz_noexc q).elim
    | bad =>
      rw [q] at h
      exact h.elim
theorem js_asg {tg e : Expr} {g : TG} {f : R → M Unit} (he : JE X W e ma) (hg : PG X tg g) (hf : GOk X.K X.mg W g f) (hs : swapsWithSole [tg] e pos.line X.env = pure false) (hw : swappedStores [tg] e X.env = pure none)
    (h1 : (assignEach [tg] X.env).map (·.2) = [assign tg X.env]) : JS X W (.Assign [tg] e pos) (M.bind ma fun r => M.bind (f r) fun _ => .ret .nx) := (ps_asg he hg hs hw h1).imp fun D σ H h => by
  obtain ⟨P, A, O, ρ, e, h⟩ := h
  refine ⟨P, A, O, ρ, e, (AftS.bind1 (rl := relR X.K σ) h).mono ?_⟩
  rintro x H1 ⟨O1, ρ1, ra, F, e1, r1, s1, h1⟩
  exact hf P A O1 H1 σ ρ1 F x ra (.ret .nx) D e1 r1 (AftS.step h1 s1) D.nx fun σ' H' O' ρ' e' s' h' => h' σ' H' O' e' (Step.refl _ _)
/-- name = value, the value a comprehension or not -/
theorem js_set {i : Nat} {x : Str} {pos' : Pos} {te : TE} (hp : PS X (.Assign [.Name x pos'] e pos) (tAsg te (gName i))) (hm : ∀ σ H Q, tR X.K X.mg W ma σ H Q → te σ H Q) : JS X W (.Assign [.Name x pos'] e pos) (M.bind ma fun r => M.bind (asgR i r) fun _ => .ret .nx) := hp.imp fun D σ H h => by
  obtain ⟨P, A, O, ρ, e, h⟩ := h
  refine hm σ H _ ⟨P, A, O, ρ, e, (AftS.bind1 (rl := relR X.K σ) h).mono ?_⟩
  rintro x H1 ⟨O1, ρ1, ra, F, e1, r1, s1, h1⟩
  exact g_name P A O1 H1 σ ρ1 F x ra (.ret .nx) D e1 r1 (AftS.step h1 s1) D.nx fun σ' H' O' ρ' e' s' h' => h' σ' H' O' e' (Step.refl _ _)
end
end DL
set_option Elab.async false
set_option maxRecDepth 100000
set_option maxHeartbeats 4000000
namespace DL
open PySem PySem.Spec PyProof.Rows L2
/-- the targets by values; f tells how many things it takes -/
def GsOk (K : PySem.W.Frag) (mg : Str → Option Value) (W : WX) (g : TGs) (f : List D → M Unit) : Prop := ∀ (P : List Addr) (A : List V) (O : List Addr) (H : Hp) (σ : L2.St) (ρ : Rho) (vs : List V) (ds : List D) (k : M Fl) (D : Ends),
  EnvR K P A O H σ ρ → RpAll K (wo (O ++ P) H) vs ds → AftS K mg W P A O H (M.bind (f ds) (fun _ => k) ρ) D → ∀ Q : L2.St → Hp → Prop,
    (∀ σ' H' O' ρ', EnvR K P A O' H' σ' ρ' → Step O H O' H' → AftS K mg W P A O' H' (k ρ') D → Q σ' H') → g vs σ H Q
def asgNil : List D → M Unit
  | [] => .ret ()
  | _ => .bad
def asgCons (f : R → M Unit) (fs : List D → M Unit) : List D → M Unit
  | [] => .bad
  | d :: ds => M.bind (f (.tmp (.val d))) fun _ => fs ds
section
variable {K : PySem.W.Frag} {mg : Str → Option Value} {W : WX}
theorem gs_nil : GsOk K mg W gNil asgNil := by
  intro P A O H σ ρ vs ds k D e r h Q hQ
  cases r with
  | nil => exact ⟨rfl, hQ σ H O ρ e (Step.refl _ _) h⟩
  | cons a b => exact h.elim
theorem bind_assoc {α β γ : Type} (m : M α) (f : α → M β) (g : β → M γ) : M.bind (M.bind m f) g = M.bind m fun a => M.bind (f a) g := by
  funext ρ
  unfold M.bind
  cases m ρ <;> rfl
theorem rr_val {P O : List Addr} {H : Hp} {σ : L2.St} {v : V} {d : D} (a : Rp K (wo (O ++ P) H) v d) : RR K P [] O H σ v (.tmp (.val d)) := ⟨.val a, fun _ z => absurd z List.not_mem_nil, rfl⟩
theorem gs_cons {g : TG} {gs : TGs} {f : R → M Unit} {fs : List D → M Unit} (h1 : GOk K mg W g f) (h2 : GsOk K mg W gs fs) : GsOk K mg W (gCons g gs) (asgCons f fs) := by
  intro P A O H σ ρ vs ds k D e r h Q hQ
  cases r with
  | nil => exact h.elim
  | @cons v vs d ds a b =>
    have h : AftS K mg W P A O H (M.bind (M.bind (f (.tmp (.val d))) fun _ => fs ds) (fun _ => k) ρ) D := h
    rw [bind_assoc] at h
    refine ⟨v, vs, rfl, h1 P A O H σ ρ [] v (.tmp (.val d)) (M.bind (fs ds) fun _ => k) D e (rr_val a) h _ fun σ1 H1 O1 ρ1 e1 s1 q1 => ?_⟩
    exact h2 P A O1 H1 σ1 ρ1 vs ds k D e1 (b.mono (s1.wo e.prot)) q1 Q fun σ2 H2 O2 ρ2 e2 s2 q2 => hQ σ2 H2 O2 ρ2 e2 (Step.trans s1 s2) q2
/-- (a, b, ..) = a tuple or a list of that length -/
def gSeq (K : PySem.W.Frag) (n : Nat) (t : TGs) : TG := fun v σ H Q => gTup K n t v σ H Q ∨ gLst K n t v σ H Q
theorem pg_seq {X : Cx} {es : List Expr} {k : Nat} {pos : Pos} {t : TGs} {n : Nat} (hc : X.calm = true) (h : PGs X es t) (hn : (assignEach es X.env).length = n) (hst : (assignEach es X.env).findIdx? (·.1) = none) : PG X (.Tuple es k pos) (gSeq X.K n t) :=
  ⟨fun pins s σ H v u Q I r hw => hw.elim ((pg_tup hc h hn hst).run pins s σ H v u Q I r) ((pg_lst hc h hn hst).run pins s σ H v u Q I r)⟩
def asgSeq (n : Nat) (fs : List D → M Unit) (r : R) : M Unit := M.bind (frz r) fun d => match d with
  | .tuple ds => if ds.length = n then fs ds else .bad
  | .list ds => if ds.length = n then fs ds else .bad
  | _ => .bad
theorem g_seq {t : TGs} {n : Nat} {fs : List D → M Unit} (h : GsOk K mg W t fs) : GOk K mg W (gSeq K n t) (asgSeq n fs) := by
  intro P A O H σ ρ F v r k D e hr h0 Q hQ
  unfold asgSeq at h0
  rw [bind_assoc] at h0
  unfold M.bind at h0
  cases q : frz r ρ with
  | exc x ρ' => exact (frz_noexc q).elim
  | bad =>
    rw [q] at h0
    exact h0.elim
  | ok d ρ' =>
    rw [q] at h0
    obtain ⟨O', e', s', p⟩ := frz_ok e hr q
    have s2 : Step (F ++ O) H O' H := ⟨fun a ha => (s'.own a ha).imp_left (List.mem_append_right _), fun a o z => s'.ext a o fun y => z (List.mem_append_right _ y), s'.stay⟩
    simp only at h0
    cases p with
    | @tup a xs ds h1 h2 =>
      simp only at h0
      by_cases hl : ds.length = n
      · rw [if_pos hl] at h0
        exact .inl ⟨a, xs, rfl, sqt_mono wo_sub h1, by rw [h2.length]; exact hl, h P A O' H σ ρ' xs ds k D e' h2 (AftS.step h0 s2) Q fun σ1 H1 O1 ρ1 e1 s1 q1 => hQ σ1 H1 O1 ρ1 e1 (s2.trans s1) q1⟩
      · rw [if_neg hl] at h0
        exact h0.elim
    | @lst a xs ds h1 h2 =>
      simp only at h0
      by_cases hl : ds.length = n
      · rw [if_pos hl] at h0
        exact .inr ⟨a, xs, rfl, sql_mono wo_sub h1, by rw [h2.length]; exact hl, h P A O' H σ ρ' xs ds k D e' h2 (AftS.step h0 s2) Q fun σ1 H1 O1 ρ1 e1 s1 q1 => hQ σ1 H1 O1 ρ1 e1 (s2.trans s1) q1⟩
      · rw [if_neg hl] at h0
        exact h0.elim
    | non => exact h0.elim
    | bl b => exact h0.elim
    | int b => exact h0.elim
    | str b => exact h0.elim
    | dct _ _ _ => exact h0.elim
end
section
variable {X : Cx} {W : WX} {pos : Pos} {ms : M (List R)}
def fSetL (ds : List D) (i : D) (d : D) : Option (List D) := match i with
  | .int k => (ixN ds.length k).map fun j => ds.set j d
  | _ => none
/-- slot i's own list becomes another -/
def mutM {α : Type} (r : R) (f : List D → Option (List D × α)) : M α := fun ρ => match r with
  | .slot i => (match ρ[i]? with
    | some (some (.lst tag ds)) => (match f ds with
      | some (es, a) => .ok a (ρ.set i (some (.lst tag es)))
      | none => .bad)
    | _ => .bad)
  | _ => .bad
/-- the list at slot i, and what a change of it leaves -/
theorem EnvR.own {K : PySem.W.Frag} {P O : List Addr} {A : List V} {H : Hp} {σ : L2.St} {ρ : Rho} {i : Nat} {v : V} {tag : Option Nat} {ds : List D} (e : EnvR K P A O H σ ρ) (hi : ρ[i]? = some (some (.lst tag ds))) (hv : σ[i]? = some (some v)) :
    ∃ a vs, v = .ref a ∧ H a = some (.lst vs) ∧ RpAll K (wo (O ++ P) H) vs ds ∧ a ∈ O ∧ ∀ ws es, RpAll K (wo (O ++ P) H) ws es → EnvR K P A O (upd H a (.lst ws)) σ (ρ.set i (some (.lst tag es))) ∧ Step O H O (upd H a (.lst ws)) := by
  obtain ⟨Fs, h1, h2⟩ := e.at_
  obtain ⟨w, e1, r, hO⟩ := h1 i _ hi
  rw [e1] at hv
  cases hv
  generalize hF : Fs i = F at r hO
  cases r with
  | @lst a vs _ _ m1 m2 m3 =>
    have haO : a ∈ O := hO a (List.mem_singleton.mpr rfl)
    refine ⟨a, vs, rfl, m2, m3, haO, fun ws es hw => ?_⟩
    have same : ∀ b o, wo (O ++ P) H b = some o → wo (O ++ P) (upd H a (.lst ws)) b = some o := fun b o q => by
      obtain ⟨q1, q2⟩ := wo_some.mp q
      refine wo_some.mpr ⟨q1, ?_⟩
      rw [upd_ne (fun z => q1 (by rw [z]; exact List.mem_append_left _ haO))]
      exact q2
    refine ⟨⟨by rw [List.length_set]; exact e.len, ⟨Fs, fun j t q => ?_, h2⟩, fun b hb => ⟨(e.prot b hb).1, ?_⟩, fun b hb => ?_, fun j k t' q ht => ?_⟩, fun _ q => .inl q, fun b o q1 q2 => ?_, fun b o q => ?_⟩
    · rcases get_set q with ⟨hj, q'⟩ | ⟨hj, q'⟩
      · subst hj
        cases q'
        refine ⟨_, e1, ?_, fun b hb => by rw [hF] at hb; exact hO b hb⟩
        rw [hF]
        exact .lst (List.mem_append_left _ haO) upd_same (hw.mono same)
      · obtain ⟨w, e2, r2, hO2⟩ := h1 j t q'
        refine ⟨w, e2, r2.keep same fun b hb => ⟨List.mem_append_left _ (hO2 b hb), ?_⟩, hO2⟩
        rw [upd_ne fun z => by subst z; exact h2 j i hj b hb (by rw [hF]; exact List.mem_singleton.mpr rfl)]
    · by_cases z : b = a
      · subst z
        exact ⟨_, upd_same⟩
      · rw [upd_ne z]
        exact (e.prot b hb).2
    · by_cases z : b = a
      · subst z
        exact ⟨_, upd_same⟩
      · rw [upd_ne z]
        exact e.trk b hb
    · rcases get_set q with ⟨hj, q'⟩ | ⟨hj, q'⟩
      · subst hj
        cases q'
        exact e.tag j k _ hi ht
      · exact e.tag j k t' q' ht
    · rw [upd_ne fun z => q1 (by rw [z]; exact haO)]
      exact q2
    · by_cases z : b = a
      · subst z
        exact ⟨_, upd_same⟩
      · exact ⟨o, by rw [upd_ne z]; exact q⟩
/-- the dict at slot i, and what a change of it leaves -/
theorem EnvR.ownD {K : PySem.W.Frag} {P O : List Addr} {A : List V} {H : Hp} {σ : L2.St} {ρ : Rho} {i : Nat} {v : V} {tag : Option Nat} {kvs : List (D × D)} (e : EnvR K P A O H σ ρ) (hi : ρ[i]? = some (some (.dct tag kvs))) (hv : σ[i]? = some (some v)) :
    ∃ a o es, v = .ref a ∧ H a = some (dcO a o es) ∧ KvsOk kvs ∧ RpDct K (wo (O ++ P) H) es kvs ∧ a ∈ O ∧ ∀ o' es' kvs', KvsOk kvs' → RpDct K (wo (O ++ P) H) es' kvs' → EnvR K P A O (upd H a (dcO a o' es')) σ (ρ.set i (some (.dct tag kvs'))) ∧ Step O H O (upd H a (dcO a o' es')) := by
  obtain ⟨Fs, h1, h2⟩ := e.at_
  obtain ⟨w, e1, r, hO⟩ := h1 i _ hi
  rw [e1] at hv
  cases hv
  generalize hF : Fs i = F at r hO
  cases r with
  | @dct a o es _ _ m1 m2 m3 m4 =>
    have haO : a ∈ O := hO a (List.mem_singleton.mpr rfl)
    refine ⟨a, o, es, rfl, m2, m3, m4, haO, fun o' es' kvs' hk' hw => ?_⟩
    generalize hu : dcO a o' es' = u
    have same : ∀ b o, wo (O ++ P) H b = some o → wo (O ++ P) (upd H a u) b = some o := fun b o q => by
      obtain ⟨q1, q2⟩ := wo_some.mp q
      refine wo_some.mpr ⟨q1, ?_⟩
      rw [upd_ne (fun z => q1 (by rw [z]; exact List.mem_append_left _ haO))]
      exact q2
    refine ⟨⟨by rw [List.length_set]; exact e.len, ⟨Fs, fun j t q => ?_, h2⟩, fun b hb => ⟨(e.prot b hb).1, ?_⟩, fun b hb => ?_, fun j k t' q ht => ?_⟩, fun _ q => .inl q, fun b o q1 q2 => ?_, fun b o q => ?_⟩
    · rcases get_set q with ⟨hj, q'⟩ | ⟨hj, q'⟩
      · subst hj
        cases q'
        refine ⟨_, e1, ?_, fun b hb => by rw [hF] at hb; exact hO b hb⟩
        rw [hF]
        exact .dct (List.mem_append_left _ haO) (by rw [upd_same, hu]) hk' (hw.mono same)
      · obtain ⟨w, e2, r2, hO2⟩ := h1 j t q'
        refine ⟨w, e2, r2.keep same fun b hb => ⟨List.mem_append_left _ (hO2 b hb), ?_⟩, hO2⟩
        rw [upd_ne fun z => by subst z; exact h2 j i hj b hb (by rw [hF]; exact List.mem_singleton.mpr rfl)]
    · by_cases z : b = a
      · subst z
        exact ⟨_, upd_same⟩
      · rw [upd_ne z]
        exact (e.prot b hb).2
    · by_cases z : b = a
      · subst z
        exact ⟨_, upd_same⟩
      · rw [upd_ne z]
        exact e.trk b hb
    · rcases get_set q with ⟨hj, q'⟩ | ⟨hj, q'⟩
      · subst hj
        cases q'
        exact e.tag j k _ hi ht
      · exact e.tag j k t' q' ht
    · rw [upd_ne fun z => q1 (by rw [z]; exact haO)]
      exact q2
    · by_cases z : b = a
      · subst z
        exact ⟨_, upd_same⟩
      · exact ⟨o, by rw [upd_ne z]; exact q⟩
/-- slot i's own dict gets an entry -/
def subM (ra ri : R) (rv : D) : M Unit := fun ρ => match look ri ρ with
  | some k => (match ra with
    | .slot i => (match ρ[i]? with
      | some (some (.lst tag ds)) => (match fSetL ds k rv with
        | some es => .ok () (ρ.set i (some (.lst tag es)))
        | none => .bad)
      | some (some (.dct tag kvs)) => if (nkOf k).isSome ∧ kvs.length < 1000000 then .ok () (ρ.set i (some (.dct tag (kput kvs k rv)))) else .bad
      | _ => .bad)
    | _ => .bad)
  | none => .bad
def rSetX (K : PySem.W.Frag) : TSet := fun x y v H Q => rSetL x y v H Q ∨ rSetN K x y v H Q
theorem set_any {X : Cx} (hu : X.A.units + 65 < cLine) : PSet X (rSetX X.K) := by
  intro pins s σ H o i v ov iv u Q I ro ri rv h
  rcases h with h | h
  · exact set_list pins s σ H o i v ov iv u Q I ro ri rv h
  · exact set_dctN hu pins s σ H o i v ov iv u Q I ro ri rv h
/-- o[i] = v: the value first -/
def asgSub (mo mi : M R) (r : R) : M Unit := M.bind (frz r) fun d => M.bind mo fun ro => M.bind mi fun ri => subM ro ri d
theorem g_sub {mo mi : M R} : GOk X.K X.mg W (gSub (tR X.K X.mg W mo) (tR X.K X.mg W mi) (rSetX X.K)) (asgSub mo mi) := by
  intro P A O H σ ρ F v r k D e hr h0 Q hQ
  unfold asgSub at h0
  rw [bind_assoc] at h0
  unfold M.bind at h0
  cases q : frz r ρ with
  | exc x ρ' => exact (frz_noexc q).elim
  | bad =>
    rw [q] at h0
    exact h0.elim
  | ok d ρ' =>
    rw [q] at h0
    obtain ⟨O', e', s', p⟩ := frz_ok e hr q
    have s2 : Step (F ++ O) H O' H := ⟨fun a ha => (s'.own a ha).imp_left (List.mem_append_right _), fun a o z => s'.ext a o fun y => z (List.mem_append_right _ y), s'.stay⟩
    have h1 : AftS X.K X.mg W P A O' H (M.bind mo (fun ro => M.bind mi fun ri => M.bind (subM ro ri d) fun _ => k) ρ') D := by
      have z := AftS.step h0 s2
      have eq : M.bind mo (fun ro => M.bind mi fun ri => M.bind (subM ro ri d) fun _ => k) = M.bind (M.bind mo fun ro => M.bind mi fun ri => subM ro ri d) fun _ => k := by
        rw [bind_assoc]
        congr 1
        funext ro
        rw [bind_assoc]
      rw [eq]
      exact z
    refine ⟨P, A, O', ρ', e', (AftS.bind1 (rl := relR X.K σ) h1).mono ?_⟩
    rintro x H1 ⟨O1, ρ1, ro, F1, e1, r1, t1, g1⟩
    refine ⟨F1 ++ P, A, O1, ρ1, e1, (AftS.bindE (rl := relR X.K σ) F1 t1.less g1).mono ?_⟩
    rintro y H2 ⟨O2, ρ2, ri, F2, e2, r2, t2, g2⟩
    have e3 := e2.less.less
    have ro2 := r1.step t2.less e1.off
    have ri2 := r2.less
    have s3 := t1.less.trans t2.less
    have g3 := AftS.step g2 s3
    have p3 : Rp X.K (wo (O2 ++ P) H2) v d := p.mono (s3.wo e'.prot)
    unfold M.bind subM at g3
    cases ql : look ri ρ2 with
    | none =>
      rw [ql] at g3
      exact g3.elim
    | some kd =>
      rw [ql] at g3
      have vk := look_vr e3 ri2 ql
      cases ro with
      | tmp t => exact g3.elim
      | slot j =>
        simp only at g3
        cases qj : ρ2[j]? with
        | none => rw [qj] at g3; exact g3.elim
        | some u =>
          cases u with
          | none => rw [qj] at g3; exact g3.elim
          | some u =>
            cases u with
            | val _ => rw [qj] at g3; exact g3.elim
            | shr _ _ => rw [qj] at g3; exact g3.elim
            | any _ _ => rw [qj] at g3; exact g3.elim
            | own _ _ => rw [qj] at g3; exact g3.elim
            | ron _ _ => rw [qj] at g3; exact g3.elim
            | dct tag kvs =>
              rw [qj] at g3
              simp only at g3
              obtain ⟨a, o, es, rfl, m2, m3, m4, m5, m6⟩ := e3.ownD qj ro2
              by_cases hc : (nkOf kd).isSome = true ∧ kvs.length < 1000000
              · rw [if_pos hc] at g3
                obtain ⟨hc1, hc2⟩ := hc
                obtain ⟨n, hn⟩ := Option.isSome_iff_exists.mp hc1
                have hkd : Rp X.K (wo (O2 ++ P) H2) y kd := by
                  cases vk with
                  | inl z => exact z
                  | inr z => obtain ⟨_, _, _, _, rfl, _⟩ := z; simp [nkOf, nkD] at hc1
                  | dct _ _ _ => simp [nkOf, nkD] at hc1
                refine .inr ⟨kd, n, d, a, o, es, kvs, wo (O2 ++ P) H2, hkd, hn, p3, rfl, m2, m3, hc2, wo_sub, m4, fun o' es' r' => ?_⟩
                obtain ⟨e5, s5⟩ := m6 o' es' _ (m3.put hn hc2) r'
                exact hQ σ _ O2 _ e5 ((s2.trans s3).trans s5) (AftS.step g3 s5)
              · rw [if_neg hc] at g3
                exact g3.elim
            | lst tag ds =>
              rw [qj] at g3
              simp only at g3
              obtain ⟨a, ws, rfl, m2, m3, m4, m5⟩ := e3.own qj ro2
              cases qf : fSetL ds kd d with
              | none => rw [qf] at g3; exact g3.elim
              | some es =>
                rw [qf] at g3
                simp only at g3
                unfold fSetL at qf
                cases kd with
                | int kk =>
                  simp only at qf
                  obtain ⟨jj, q1, q2⟩ := Option.map_eq_some_iff.mp qf
                  subst q2
                  cases vk.int
                  obtain ⟨e5, s5⟩ := m5 (ws.set jj v) (ds.set jj d) (m3.set p3 jj)
                  exact .inl ⟨a, ws, kk, jj, rfl, rfl, m2, by rw [m3.length]; exact q1, hQ σ _ O2 _ e5 ((s2.trans s3).trans s5) (AftS.step g3 s5)⟩
                | _ => cases qf
end
end DL
set_option Elab.async false
set_option maxRecDepth 100000
set_option maxHeartbeats 4000000
namespace DL
open PySem PySem.Spec PyProof.Rows L2
/-- the iterator J tells these things, as long as the frame's own lists are its own -/
def ItOk (K : PySem.W.Frag) (P : List Addr) (J : It) (ds : List D) (O0 : List Addr) (H0 : Hp) : Prop :=
  ∀ (G : List Addr) (A : List V) (O : List Addr) (H : Hp) (σ : L2.St) (ρ : Rho), (∀ a ∈ G, H0 a = none) → EnvR K (G ++ P) A O H σ ρ → Step O0 H0 O H → ∀ i : Nat,
    (∀ d, ds[i]? = some d → J.go i H ∧ ∀ x H', J.yld i H x H' → (∀ a o, H a = some o → H' a = some o) ∧ Rp K (wo (O ++ (G ++ P)) H') x d) ∧ (ds.length ≤ i → J.stop i H)
theorem Step.woG {O O' P G : List Addr} {H H' : Hp} (s : Step O H O' H') (hP : ∀ a ∈ P, a ∉ O ∧ ∃ o, H a = some o) (hG : ∀ a ∈ G, H a = none) : ∀ a o, DL.wo (O ++ P) H a = some o → DL.wo (O' ++ (G ++ P)) H' a = some o := fun a o e => by
  obtain ⟨h1, h2⟩ := wo_some.mp (s.wo hP a o e)
  obtain ⟨h3, h4⟩ := wo_some.mp e
  simp only [List.mem_append, not_or] at h1
  refine wo_some.mpr ⟨?_, h2⟩
  simp only [List.mem_append, not_or]
  refine ⟨h1.1, fun z => ?_, h1.2⟩
  rw [hG a z] at h4
  cases h4
abbrev relI : PySem.W.Frag → L2.St → List Addr → List Addr → List Addr → Hp → It → List D → Prop := fun K _ P F O H J ds => F = [] ∧ ItOk K P J ds O H
abbrev tI (K : PySem.W.Frag) (mg : Str → Option Value) (W : WX) (m : M (List D)) : TI := tG relI K mg W m
abbrev JI (X : Cx) (W : WX) (tg e : Expr) (m : M (List D)) : Prop := PI X tg e (tI X.K X.mg W m)
theorem _root_.L2.PI.imp {X : Cx} {tg e : Expr} {t t' : TI} (h : PI X tg e t) (q : ∀ σ H R, t' σ H R → t σ H R) : PI X tg e t' := ⟨fun pins s σ H R I z => h.run pins s σ H R I (q σ H R z)⟩
def iAny (K : PySem.W.Frag) (tl : TE) : TI := fun σ H R => tl σ H fun x H1 => (∃ a, x = .ref a ∧ (∃ xs, SqL K H1 a xs) ∧ R (Itl K a) H1) ∨ (∃ a, x = .ref a ∧ (∃ xs, SqT K H1 a xs) ∧ R (Itt K a) H1) ∨ (∃ z, x = .str z ∧ R (Its z) H1) ∨ (∃ a o es, x = .ref a ∧ Rd H1 a (dcO a o es) ∧ R (Itd a o es) H1)
theorem pi_any {X : Cx} {tg e : Expr} {te : TE} (he : PE X e te) : PI X tg e (iAny X.K te) := by
  refine ⟨fun pins s σ H R I h => ?_⟩
  refine thn (he.run pins s σ H _ I h) fun v s1 ⟨x, H1, I1, r1, q1⟩ => ?_
  rcases q1 with ⟨a, e, ⟨xs, hq⟩, q⟩ | ⟨a, e, ⟨xs, hq⟩, q⟩ | ⟨x, ex, q⟩ | ⟨a, o, es, ex, hq, q⟩
  · subst e
    cases r1
    obtain ⟨its, rv, p, hz⟩ := I1.list hq
    refine wpAny_pyIter_list p.isList ?_
    refine ⟨s1.heap.objs.size, [s1.heap.objs.size], _, _, H1, rfl, I1.kept (t' := s1.toks) fun b o e => Heap.get?_push_of_some _ e, turn_list a _, ⟨_, Heap.get?_push_size _ rfl, rfl, rfl⟩, fun b hb => ?_, q⟩
    have e : b = s1.heap.objs.size := by simpa using hb
    subst e
    exact I1.fpOk (Nat.le_refl _) (I1.hok.fresh (Nat.le_refl _))
  · subst e
    cases r1
    obtain ⟨its, rv, p, hz⟩ := I1.tuple hq
    refine wpAny_pyIter_tuple (show s1.heap.IsTuple a its.toArray from p) ?_
    refine ⟨s1.heap.objs.size, [s1.heap.objs.size], _, _, H1, rfl, I1.kept (t' := s1.toks) fun b o e => Heap.get?_push_of_some _ e, turn_tuple a _, ⟨_, Heap.get?_push_size _ rfl, rfl, rfl⟩, fun b hb => ?_, q⟩
    have e : b = s1.heap.objs.size := by simpa using hb
    subst e
    exact I1.fpOk (Nat.le_refl _) (I1.hok.fresh (Nat.le_refl _))
  · subst ex
    obtain ⟨t, rfl⟩ := r1
    cases ha : x.cps.all (· < 128)
    · exact wpAny_pyIter_wide ha (pi_one (tk := s1.toks) I1 _ (turn_str _ x t "str_iterator" (.inr rfl)) ⟨_, Heap.get?_push_size _ rfl, rfl, rfl⟩ q)
    · exact wpAny_pyIter_ascii ha (pi_one (tk := s1.toks) I1 _ (turn_str _ x t "str_ascii_iterator" (.inl rfl)) ⟨_, Heap.get?_push_size _ rfl, rfl, rfl⟩ q)
  · subst ex
    cases r1
    exact dict_it I1 hq q
def chars (z : Str) : List D := z.cps.toList.map fun c => .str ⟨#[c]⟩
def itemsD : D → Option (List D)
  | .list ds => some ds
  | .tuple ds => some ds
  | .str z => some (chars z)
  | .dict kvs => some (kvs.map (·.1))
  | _ => none
def items (r : R) : M (List D) := M.bind (frz r) fun d ρ => match itemsD d with
  | some ds => .ok ds ρ
  | none => .bad
def irange (lo : Int) (n : Nat) : List D := (List.range n).map fun (i : Nat) => .int (lo + (i : Int))
section
variable {K : PySem.W.Frag} {P O : List Addr} {H : Hp}
theorem itOk_list {x : V} {a : Addr} {vs : List V} {ds : List D} (hP : ∀ b ∈ P, b ∉ O ∧ ∃ o, H b = some o) (h1 : SqL K (wo (O ++ P) H) a vs) (h2 : RpAll K (wo (O ++ P) H) vs ds) : ItOk K P (Itl K a) ds O H := by
  intro G A O1 H1 σ ρ hG e s i
  have m := s.woG hP hG
  have g1 : SqL K H1 a vs := sql_mono wo_sub (sql_mono m h1)
  refine ⟨fun d hd => ?_, fun hl => ⟨vs, g1, by rw [h2.length]; exact hl⟩⟩
  obtain ⟨v, hv, rv⟩ := h2.get hd
  exact ⟨⟨vs, v, g1, hv⟩, fun x H' y => by
    obtain ⟨rfl, y⟩ := y
    refine ⟨fun _ _ q => q, ?_⟩
    have z := y vs g1
    rw [hv] at z
    cases z
    exact rv.mono m⟩
theorem itOk_tup {x : V} {a : Addr} {vs : List V} {ds : List D} (hP : ∀ b ∈ P, b ∉ O ∧ ∃ o, H b = some o) (h1 : SqT K (wo (O ++ P) H) a vs) (h2 : RpAll K (wo (O ++ P) H) vs ds) : ItOk K P (Itt K a) ds O H := by
  intro G A O1 H1 σ ρ hG e s i
  have m := s.woG hP hG
  have g1 : SqT K H1 a vs := sqt_mono wo_sub (sqt_mono m h1)
  refine ⟨fun d hd => ?_, fun hl => ⟨vs, g1, by rw [h2.length]; exact hl⟩⟩
  obtain ⟨v, hv, rv⟩ := h2.get hd
  exact ⟨⟨vs, v, g1, hv⟩, fun x H' y => by
    obtain ⟨rfl, y⟩ := y
    refine ⟨fun _ _ q => q, ?_⟩
    have z := y vs g1
    rw [hv] at z
    cases z
    exact rv.mono m⟩
theorem RpDct.at_ {K : PySem.W.Frag} {H : Hp} : ∀ {es : List KVV} {kvs : List (D × D)} {i : Nat} {d : D}, RpDct K H es kvs → (kvs.map (·.1))[i]? = some d → ∃ e, es[i]? = some e ∧ Rp K H e.2.1 d
  | _, _, _, _, .nil, h => by simp at h
  | _, _, 0, _, .cons a b c r, h => by
    have := Option.some.inj h
    subst this
    exact ⟨_, rfl, b⟩
  | _, _, i + 1, _, .cons a b c r, h => RpDct.at_ (i := i) r (by simpa using h)
theorem itOk_dict {a : Addr} {o : Obj} {es : List KVV} {kvs : List (D × D)} (hP : ∀ b ∈ P, b ∉ O ∧ ∃ o, H b = some o) (h1 : Rd (wo (O ++ P) H) a (dcO a o es)) (h2 : RpDct K (wo (O ++ P) H) es kvs) : ItOk K P (Itd a o es) (kvs.map (·.1)) O H := by
  intro G A O1 H1 σ ρ hG e s i
  have m := s.woG hP hG
  have g1 : Rd H1 a (dcO a o es) := rd_mono wo_sub (rd_mono m h1)
  refine ⟨fun d hd => ?_, fun hl => ⟨g1, by rw [h2.length]; simpa using hl⟩⟩
  obtain ⟨e1, he, rv⟩ := h2.at_ hd
  exact ⟨⟨g1, (List.getElem?_eq_some_iff.mp he).1⟩, fun x H' y => by
    obtain ⟨rfl, e2, he2, rfl⟩ := y
    rw [he] at he2
    cases he2
    exact ⟨fun _ _ q => q, rv.mono m⟩⟩
theorem itOk_str {z : Str} : ItOk K P (Its z) (chars z) O H := by
  intro G A O1 H1 σ ρ hG e s i
  refine ⟨fun d hd => ?_, fun hl => ?_⟩
  · unfold chars at hd
    rw [List.getElem?_map] at hd
    obtain ⟨c, hc, rfl⟩ := Option.map_eq_some_iff.mp hd
    have hi : i < z.cps.size := by
      have := (List.getElem?_eq_some_iff.mp hc).1
      simpa using this
    refine ⟨hi, fun x H' y => ?_⟩
    obtain ⟨rfl, c', hc', rfl⟩ := y
    have : c' = c := by
      have e1 : z.cps.toList[i]? = some c' := by simpa using hc'
      rw [hc] at e1
      exact (Option.some.inj e1).symm
    subst this
    exact ⟨fun _ _ q => q, .str _⟩
  · have : (chars z).length = z.cps.size := by simp [chars]
    show z.cps.size ≤ i
    omega
theorem itOk_range {lo : Int} {n : Nat} : ItOk K P (Itr lo n) (irange lo n) O H := by
  unfold irange
  intro G A O1 H1 σ ρ hG e s i
  refine ⟨fun d hd => ?_, fun hl => ?_⟩
  · rw [List.getElem?_map] at hd
    obtain ⟨c, hc, rfl⟩ := Option.map_eq_some_iff.mp hd
    obtain ⟨h1, h2⟩ := List.getElem?_eq_some_iff.mp hc
    rw [List.length_range] at h1
    rw [List.getElem_range] at h2
    subst h2
    refine ⟨h1, fun x H' y => ?_⟩
    obtain ⟨rfl, rfl⟩ := y
    exact ⟨fun _ _ q => q, .int _⟩
  · show n ≤ i
    simpa using hl
end
section
variable {X : Cx} {W : WX} {tg e : Expr} {pos : Pos} {ma mb : M R} {body : List Stmt} {m : M Fl}
theorem ji_any (he : JE X W e ma) : JI X W tg e (M.bind ma items) := (pi_any he).imp fun σ H R h => by
  obtain ⟨P, A, O, ρ, e, h⟩ := h
  refine ⟨P, A, O, ρ, e, (Aft.bind (rl := relR X.K σ) h).mono ?_⟩
  rintro x H1 ⟨O1, ρ1, ra, F, e1, r1, s1, h1⟩
  obtain ⟨O2, ρ2, d, e2, s2, p, _, h2⟩ := Aft.frz e1 r1 (h1.step s1.less)
  cases q : itemsD d with
  | none =>
    simp only [q] at h2
    exact h2.elim
  | some ds =>
    simp only [q] at h2
    have fin : ∀ J, ItOk X.K P J ds O2 H1 → R J H1 := fun J hJ => h2 J H1 O2 [] e2 ⟨rfl, hJ⟩ (Step.refl _ _)
    cases p with
    | @lst a xs es g1 g2 =>
      cases q
      exact .inl ⟨a, rfl, ⟨xs, sql_mono wo_sub g1⟩, fin _ (itOk_list (x := .non) e2.prot g1 g2)⟩
    | @tup a xs es g1 g2 =>
      cases q
      exact .inr (.inl ⟨a, rfl, ⟨xs, sqt_mono wo_sub g1⟩, fin _ (itOk_tup (x := .non) e2.prot g1 g2)⟩)
    | str z =>
      cases q
      exact .inr (.inr (.inl ⟨z, rfl, fin _ itOk_str⟩))
    | @dct a o es kvs g1 g2 g3 =>
      cases q
      exact .inr (.inr (.inr ⟨a, o, es, rfl, .inl (wo_sub _ _ g1), fin _ (itOk_dict e2.prot (.inl g1) g3)⟩))
    | non => cases q
    | bl b => cases q
    | int b => cases q
def rng1 (rs : List R) : M (List D) := fun ρ => match rs with
  | [r] => (match look r ρ with
    | some (.int j) => if -(2 ^ 62) ≤ j ∧ j < 2 ^ 62 then .ok (irange 0 j.toNat) ρ else .bad
    | _ => .bad)
  | _ => .bad
def rng2 (rs : List R) : M (List D) := fun ρ => match rs with
  | [r, r'] => (match look r ρ, look r' ρ with
    | some (.int i), some (.int j) => if -(2 ^ 62) ≤ i ∧ i < 2 ^ 62 ∧ -(2 ^ 62) ≤ j ∧ j < 2 ^ 62 then .ok (irange i (j - i).toNat) ρ else .bad
    | _, _ => .bad)
  | _ => .bad
theorem rrs1 {K : PySem.W.Frag} {P O F : List Addr} {A : List V} {H : Hp} {σ : L2.St} {ρ : Rho} {vs : List V} {r : R} (e : EnvR K P A O H σ ρ) (h : RRs K P O H σ F vs [r]) : ∃ v, vs = [v] ∧ ∀ d, look r ρ = some d → VR K (O ++ P) H v d := by
  cases h with
  | cons a b _ =>
    cases b
    exact ⟨_, rfl, fun d hd => look_vr e a hd⟩
theorem rrs2 {K : PySem.W.Frag} {P O F : List Addr} {A : List V} {H : Hp} {σ : L2.St} {ρ : Rho} {vs : List V} {r r' : R} (e : EnvR K P A O H σ ρ) (h : RRs K P O H σ F vs [r, r']) : ∃ v v', vs = [v, v'] ∧ (∀ d, look r ρ = some d → VR K (O ++ P) H v d) ∧ ∀ d, look r' ρ = some d → VR K (O ++ P) H v' d := by
  cases h with
  | cons a b _ =>
    cases b with
    | cons a' b' _ =>
      cases b'
      exact ⟨_, _, rfl, fun d hd => look_vr e a hd, fun d hd => look_vr e a'.less hd⟩
theorem ji_range1 {a : Expr} {p : Pos} {ms : M (List R)} (hg : Gl X "range") (hm : X.mg "range" = none) (ha : JEs X W [a] ms) (hs : starEach [a] X.env = [(false, eval a X.env)]) : JI X W tg (.Call (.Name "range" p) [a] [] pos) (M.bind ms rng1) :=
  (pi_range1 hg hm ha hs).imp fun σ H R h => by
    obtain ⟨P, A, O, ρ, e, h⟩ := h
    refine ⟨P, A, O, ρ, e, (Aft.bind (rl := relRs X.K σ) h).mono ?_⟩
    rintro vs H1 ⟨O1, ρ1, rs, F, e1, r1, s1, h1⟩
    unfold rng1 at h1
    split at h1
    · obtain ⟨v, rfl, hv⟩ := rrs1 e1.less r1
      split at h1
      · rename_i j q
        split at h1
        · rename_i hj
          cases (hv _ q).int
          exact ⟨j, rfl, hj.1, hj.2, h1 _ H1 O1 [] e1.less ⟨rfl, itOk_range⟩ s1.less⟩
        · exact h1.elim
      · exact h1.elim
    · exact h1.elim
theorem ji_range2 {a b : Expr} {p : Pos} {ms : M (List R)} (hg : Gl X "range") (hm : X.mg "range" = none) (ha : JEs X W [a, b] ms) (hs : starEach [a, b] X.env = [(false, eval a X.env), (false, eval b X.env)]) (hs2 : starEach [b] X.env = [(false, eval b X.env)]) :
    JI X W tg (.Call (.Name "range" p) [a, b] [] pos) (M.bind ms rng2) :=
  (pi_range2 hg hm ha hs hs2).imp fun σ H R h => by
    obtain ⟨P, A, O, ρ, e, h⟩ := h
    refine ⟨P, A, O, ρ, e, (Aft.bind (rl := relRs X.K σ) h).mono ?_⟩
    rintro vs H1 ⟨O1, ρ1, rs, F, e1, r1, s1, h1⟩
    unfold rng2 at h1
    split at h1
    · obtain ⟨v, v', rfl, hv, hv'⟩ := rrs2 e1.less r1
      split at h1
      · rename_i i j q q'
        split at h1
        · rename_i hj
          cases (hv _ q).int
          cases (hv' _ q').int
          exact ⟨i, j, rfl, hj, h1 _ H1 O1 [] e1.less ⟨rfl, itOk_range⟩ s1.less⟩
        · exact h1.elim
      · exact h1.elim
    · exact h1.elim
def forM (f : R → M Unit) (m : M Fl) : List D → M Fl
  | [] => .ret .nx
  | d :: ds => M.bind (M.bind (f (.tmp (.val d))) fun _ => m) fun fl => match fl with
    | .nx => forM f m ds
    | .ct => forM f m ds
    | .bk => .ret .nx
    | .rt r => .ret (.rt r)
theorem js_for {g : TG} {f : R → M Unit} {mi : M (List D)} (hp : PassesOwn (model X.prog X.w) X.A X.env X.xe) (hc : X.calm = true) (hi : JI X W tg e mi) (hg : PG X tg g) (hf : GOk X.K X.mg W g f) (hb : JSs X W body m) (hs : ∀ x, foldedSetIterable e X.env x = pure x) :
    JS X W (.For tg e body [] pos) (M.bind mi (forM f m)) := (ps_for hp hc hi hg hb hs).imp fun D σ H h => by
  obtain ⟨P, A, O, ρ, e, h⟩ := h
  refine ⟨P, A, O, ρ, e, (AftS.bind1 (rl := relI X.K σ) h).mono ?_⟩
  rintro J H1 ⟨O1, ρ1, ds, F, e1, ⟨rfl, hJ⟩, s1, h1⟩
  refine ⟨fun i k σ H => k = ds.length - i ∧ i ≤ ds.length ∧ ∃ O ρ, EnvR X.K P A O H σ ρ ∧ Step O1 H1 O H ∧ AftS X.K X.mg W P A O H (forM f m (ds.drop i) ρ) D, ⟨ds.length, by simp, Nat.zero_le _, O1, ρ1, e1, Step.refl _ _, AftS.step h1 s1.less⟩, ?_⟩
  rintro i k σ2 H2 ⟨rfl, hi, O2, ρ2, e2, s2, h2⟩
  have J2 := hJ [] A O2 H2 σ2 ρ2 (fun _ h => absurd h List.not_mem_nil) e2 s2 i
  by_cases hlt : i < ds.length
  · have hd : ds[i]? = some ds[i] := List.getElem?_eq_getElem hlt
    obtain ⟨g1, g2⟩ := J2.1 _ hd
    rw [List.drop_eq_getElem_cons hlt] at h2
    refine .inr ⟨g1, fun σ' H' => ∃ O ρ, EnvR X.K P A O H' σ' ρ ∧ Step O1 H1 O H' ∧ AftS X.K X.mg W P A O H' (forM f m (ds.drop (i + 1)) ρ) D, fun σ' H' z => ⟨ds.length - (i + 1), by omega, rfl, hlt, z⟩, fun x H' y => ?_⟩
    obtain ⟨m1, rv⟩ := g2 x H' y
    have e3 : EnvR X.K P A O2 H' σ2 ρ2 := e2.more m1
    have s3 : Step O2 H2 O2 H' := Step.more m1
    unfold forM at h2
    have h3 : AftS X.K X.mg W P A O2 H' (M.bind (f (.tmp (.val ds[i]))) (fun _ => M.bind m fun fl => match fl with
      | .nx => forM f m (ds.drop (i + 1))
      | .ct => forM f m (ds.drop (i + 1))
      | .bk => .ret .nx
      | .rt r => .ret (.rt r)) ρ2) D := by
      rw [← bind_assoc]
      exact AftS.step h2 s3
    refine hf P A O2 H' σ2 ρ2 [] x (.tmp (.val ds[i])) _ D e3 (rr_val rv) h3 _ fun σ4 H4 O4 ρ4 e4 s4 h4 => ?_
    refine ⟨P, A, O4, ρ4, e4, ?_⟩
    have s5 : Step O1 H1 O4 H4 := (s2.trans s3).trans s4
    unfold M.bind at h4
    cases q : m ρ4 with
    | ok fl ρ5 =>
      rw [q] at h4
      cases fl with
      | nx => exact fun σ6 H6 O6 e6 s6 => ⟨O6, ρ5, e6, s5.trans s6, AftS.step h4 s6⟩
      | ct => exact fun σ6 H6 O6 e6 s6 => ⟨O6, ρ5, e6, s5.trans s6, AftS.step h4 s6⟩
      | bk => exact fun σ6 H6 O6 e6 s6 => h4 σ6 H6 O6 e6 s6
      | rt r => exact h4
    | exc x ρ5 =>
      rw [q] at h4
      exact h4
    | bad =>
      rw [q] at h4
      exact h4
  · have hl : i = ds.length := by omega
    rw [List.drop_of_length_le (by omega)] at h2
    exact .inl ⟨J2.2 (by omega), h2 σ2 H2 O2 e2 (Step.refl _ _)⟩
end
end DL
set_option Elab.async false
set_option maxRecDepth 100000
set_option maxHeartbeats 4000000
namespace DL
open PySem PySem.Spec PyProof.Rows L2
def looks : List R → Rho → Option (List D)
  | [], _ => some []
  | r :: rs, ρ => match look r ρ with
    | some d => (looks rs ρ).map (d :: ·)
    | none => none
section
variable {K : PySem.W.Frag} {P O : List Addr} {A : List V} {H H' : Hp} {σ : L2.St} {ρ ρ' : Rho} {v : V}
theorem looks_vr (e : EnvR K P A O H σ ρ) : ∀ {rs : List R} {vs : List V} {ds : List D} {F : List Addr}, RRs K P O H σ F vs rs → looks rs ρ = some ds → Paired (VR K (O ++ P) H) vs ds
  | [], _, ds, _, .nil, h => by
    cases h
    exact .nil
  | r :: rs, _, ds, _, .cons a b _, h => by
    unfold looks at h
    split at h
    · rename_i d q
      obtain ⟨es, q1, rfl⟩ := Option.map_eq_some_iff.mp h
      exact .cons (look_vr e a q) (looks_vr e b.less q1)
    · cases h
theorem Paired.rp {Z : List Addr} : ∀ {vs : List V} {ds : List D}, Paired (VR K Z H) vs ds → RpAll K H vs ds
  | _, _, .nil => .nil
  | _, _, .cons a b => .cons a.rp (Paired.rp b)
end
inductive FO where
  | ok (t : T)
  | exc (x : XD)
  | bad
def scalD : D → Bool
  | .none => true
  | .bool _ => true
  | .int _ => true
  | .str _ => true
  | _ => false
def T.scal : T → Bool
  | .val d => scalD d
  | _ => false
def T.fin : T → FO
  | .val d => .ok (.val d)
  | .lst _ ds => .ok (.lst none ds)
  | .dct _ kvs => .ok (.dct none kvs)
  | .shr _ _ => .bad
  | .any _ _ => .bad
  | .own _ n => .ok (.own none n)
  | .ron _ _ => .bad
def FAft (K : PySem.W.Frag) (mg : Str → Option Value) (P : List Addr) (H : Hp) (o : FO) (Q : VK) (E : XK) : Prop := match o with
  | .ok t => ∀ v H' F, (∀ a o, H a = some o → H' a = some o) → RepT K (F ++ P) H' v t F → (∀ a ∈ F, H a = none) → t.tagOf = none → Q v H'
  | .exc x => ∀ cls d H', (∀ a o, H a = some o → H' a = some o) → ExR K mg P H' x cls d → E cls d H'
  | .bad => False
def spF (K : PySem.W.Frag) (mg : Str → Option Value) (n : Nat) (f : List D → FO) : Sp := fun vs H Q E => ∃ P ds, ds.length = n ∧ RpAll K (wo P H) vs ds ∧ (∀ a ∈ P, ∃ o, H a = some o) ∧ FAft K mg P H (f ds) Q E
def runF (n : Nat) (m : M Fl) (ds : List D) : FO := match m (ds.map (fun d => some (T.val d)) ++ List.replicate n none) with
  | .ok .nx _ => .ok (.val .none)
  | .ok (.rt (.tmp t)) _ => .ok t
  | .ok (.rt (.slot i)) ρ => (match ρ[i]? with
    | some (some t) => t.fin
    | _ => .bad)
  | .ok _ _ => .bad
  | .exc x _ => .exc x
  | .bad => .bad
section
variable {P : Program} {w : World} {K : PySem.W.Frag} {mg : Str → Option Value} {base : Heap} {x qual : Str} {params : Arguments} {body : List Stmt} {scope : Scope} {f : Addr} {fd : FuncData}
theorem RepT.fin {Z : List Addr} {H : Hp} {v : V} {t t' : T} {F : List Addr} (r : RepT K Z H v t F) (h : t.fin = .ok t') : RepT K Z H v t' F ∧ t'.tagOf = none := by
  cases r with
  | val h1 => cases h; exact ⟨.val h1, rfl⟩
  | lst h1 h2 h3 => cases h; exact ⟨.lst h1 h2 h3, rfl⟩
  | dct h1 h2 h3 h4 => cases h; exact ⟨.dct h1 h2 h3 h4, rfl⟩
  | shr h1 h2 h3 => cases h
  | any => cases h
  | own h1 => cases h; exact ⟨.own h1, rfl⟩
  | ron h1 => cases h
theorem T.fin_exc {t : T} {x : XD} : t.fin ≠ .exc x := by
  cases t <;> exact fun z => nomatch z
theorem start_env {N ps : List Str} {n : Nat} {Pr : List Addr} {H : Hp} {vs : List V} {ds : List D} (hN : N.length = ps.length + n) (hl : ds.length = ps.length) (rp : RpAll K (wo Pr H) vs ds) (hP : ∀ a ∈ Pr, ∃ o, H a = some o) :
    EnvR K Pr vs [] H (L2.start N vs) (ds.map (fun d => some (T.val d)) ++ List.replicate n none) := by
  have hv := rp.length
  have key : ∀ (i : Nat) (t : T), (ds.map (fun d => some (T.val d)) ++ List.replicate n none)[i]? = some (some t) → ∃ d, ds[i]? = some d ∧ t = .val d := by
    intro i t q
    by_cases hi : i < ds.length
    · rw [List.getElem?_append_left (by simpa using hi), List.getElem?_map] at q
      obtain ⟨d, q1, q2⟩ := Option.map_eq_some_iff.mp q
      cases q2
      exact ⟨d, q1, rfl⟩
    · rw [List.getElem?_append_right (by simpa using hi), List.getElem?_replicate] at q
      split at q <;> cases q
  refine ⟨?_, ⟨fun _ => [], fun i t q => ?_, fun i j _ a h => absurd h List.not_mem_nil⟩, fun a ha => ⟨List.not_mem_nil, hP a ha⟩, fun a ha => absurd ha List.not_mem_nil, fun i k t' q ht => ?_⟩
  · simp only [L2.start, List.length_append, List.length_map, List.length_replicate]
    omega
  · obtain ⟨d, q1, rfl⟩ := key i t q
    obtain ⟨v, q2, r⟩ := rp.get q1
    refine ⟨v, ?_, .val r, fun a h => absurd h List.not_mem_nil⟩
    unfold L2.start
    rw [List.getElem?_append_left (by simpa using (List.getElem?_eq_some_iff.mp q2).1), List.getElem?_map, q2]
    rfl
  · obtain ⟨d, _, q⟩ := key i _ q
    cases q
    cases ht
theorem fn_ok {N ps : List Str} {k n : Nat} {m : M Fl} (F : FunD K x qual params body scope [] [] f fd) (S : FnScope N ps scope) (hN : N.length = ps.length + n)
    (hbody : ∀ (cdv : Value) (A : Around) (outer : List Env) (s : Shared) (H : Hp) (E : XK), Room k (A.deeper (envOfC qual scope s.heap.objs.size f cdv)) →
      JSs (cxOf (L2.CX P w) P w K mg base N qual scope f cdv A outer s H E) (fun cls d _ H => E cls d H) body m) : FnOk P w K mg base (L2.CX P w) (k + 1) f fd ps (spF K mg ps.length (runF n m)) := by
  refine F.ok S (fun vs H Q E h => ?_) (fun cdv A outer s H vs Q E hr h => ⟨_, hbody cdv A outer s H E hr, ?_⟩)
  · obtain ⟨Pr, ds, hl, rp, _⟩ := h
    rw [rp.length, hl]
  · obtain ⟨Pr, ds, hl, rp, hP, hf⟩ := h
    refine ⟨Pr, vs, [], _, start_env hN hl rp hP, ?_⟩
    show AftS K mg _ Pr vs [] H (m (ds.map (fun d => some (T.val d)) ++ List.replicate n none)) _
    unfold runF at hf
    have more : ∀ {O' H'}, Step [] H O' H' → ∀ a o, H a = some o → H' a = some o := fun s a o q => s.ext a o List.not_mem_nil q
    cases q : m (ds.map (fun d => some (T.val d)) ++ List.replicate n none) with
    | bad =>
      rw [q] at hf
      exact hf
    | exc x ρ' =>
      rw [q] at hf
      exact fun cls d σ' H' O' e r s => hf cls d H' (more s) (r.less fun a ha => List.mem_append_right _ ha)
    | ok fl ρ' =>
      rw [q] at hf
      cases fl with
      | nx => exact fun σ' H' O' e s => hf .non H' [] (more s) (.val .non) (fun _ h => absurd h List.not_mem_nil) rfl
      | bk => exact hf.elim
      | ct => exact hf.elim
      | rt r =>
        intro v σ' H' O' F e r1 s
        have own : ∀ a ∈ F ++ O', H a = none := fun a ha => (s.own a ha).resolve_left List.not_mem_nil
        cases r with
        | tmp t =>
          obtain ⟨r2, r3, r4⟩ := r1
          refine hf v H' F (more s) (r2.keep (fun a o z => ?_) fun a ha => ⟨List.mem_append_left _ ha, rfl⟩) (fun a ha => own a (List.mem_append_left _ ha)) r4
          obtain ⟨z1, z2⟩ := wo_some.mp z
          simp only [List.mem_append, not_or] at z1
          exact wo_some.mpr ⟨by simp only [List.mem_append, not_or]; exact ⟨z1.1, z1.2.2⟩, z2⟩
        | slot i =>
          simp only at hf
          split at hf
          · rename_i t qi
            obtain ⟨Fs, h1, h2⟩ := e.at_
            obtain ⟨w', e1, r2, hO⟩ := h1 i t qi
            have r1' : σ'[i]? = some (some v) := r1
            rw [e1] at r1'
            cases r1'
            have k2 := RepT.keep (Z' := Fs i ++ Pr) r2 (H' := H') (fun a o z => ?_) fun a ha => ⟨List.mem_append_left _ ha, rfl⟩
            · cases qt : t.fin with
              | bad => rw [qt] at hf; exact hf.elim
              | exc x => exact (T.fin_exc qt).elim
              | ok t' =>
                rw [qt] at hf
                obtain ⟨k3, k4⟩ := k2.fin qt
                exact hf v H' (Fs i) (more s) k3 (fun a ha => own a (List.mem_append_right _ (hO a ha))) k4
            · obtain ⟨z1, z2⟩ := wo_some.mp z
              simp only [List.mem_append, not_or] at z1
              exact wo_some.mpr ⟨by simp only [List.mem_append, not_or]; exact ⟨fun y => z1.1 (hO a y), z1.2.2⟩, z2⟩
          · exact hf.elim
end
def callS (f : List D → FO) (rs : List R) : M R := M.bind (frzs rs) fun ds ρ => match f ds with
  | .ok t => .ok (.tmp t) ρ
  | .exc x => .exc x ρ
  | .bad => .bad
def callM (f : List D → FO) (rs : List R) : M R := fun ρ => match looks rs ρ with
  | some ds => (match f ds with
    | .ok t => if t.scal then .ok (.tmp t) ρ else callS f rs ρ
    | .exc _ => callS f rs ρ
    | .bad => .bad)
  | none => .bad
section
variable {X : Cx} {W : WX} {k n : Nat} {f : Addr} {fd : FuncData} {ps : List Str} {g : List D → FO} {x : Str} {p pos : Pos} {e : Expr} {es : List Expr} {ms : M (List R)}
theorem callS_ok {K : PySem.W.Frag} {mg : Str → Option Value} {P O F : List Addr} {A : List V} {H : Hp} {σ : L2.St} {ρ : Rho} {vs : List V} {rs : List R} {Q : VK} (e : EnvR K (F ++ P) A O H σ ρ) (r : RRs K P O H σ F vs rs)
    (h : Aft (relR K σ) K mg W P A σ O H (callS g rs ρ) Q) (hn : ∀ ds ρ', frzs rs ρ = .ok ds ρ' → ds.length = n) : spF K mg n g vs H Q (WE W σ) := by
  unfold callS M.bind at h
  cases q : frzs rs ρ with
  | bad =>
    rw [q] at h
    exact h.elim
  | exc x ρ' => exact (frzs_noexc q).elim
  | ok ds ρ' =>
    rw [q] at h
    simp only at h
    obtain ⟨O', e', s', rp⟩ := frzs_ok e r q
    refine ⟨O' ++ P, ds, hn ds ρ' q, rp, fun a ha => (List.mem_append.mp ha).elim (e'.trk a) (fun z => (e'.prot a z).2), ?_⟩
    cases qf : g ds with
    | bad =>
      rw [qf] at h
      exact h.elim
    | exc x =>
      rw [qf] at h
      exact fun cls d H' m ex => h cls d H' O' (e'.more m) ex (s'.trans (Step.more m))
    | ok t =>
      rw [qf] at h
      intro v H' F' m rep fr nt
      have hF : ∀ a ∈ F', H a = none ∧ ∃ o, H' a = some o := fun a ha => ⟨fr a ha, (rep.in a ha).2⟩
      have s2 : Step O H (F' ++ O') H' := ⟨fun a ha => (List.mem_append.mp ha).elim (fun z => .inr (fr a z)) (s'.own a), fun a o z q => m a o (s'.ext a o z q), fun a o q => ⟨o, m a o q⟩⟩
      refine h v H' O' F' (e'.new m hF) ⟨rep, fun a ha z => ?_, nt⟩ s2
      obtain ⟨_, o, y⟩ := e'.prot a z
      rw [fr a ha] at y
      cases y
theorem frzs_len : ∀ {rs : List R} {ds : List D} {ρ ρ' : Rho}, frzs rs ρ = .ok ds ρ' → ds.length = rs.length
  | [], _, _, _, h => by cases h; rfl
  | r :: rs, ds, ρ, ρ', h => by
    unfold frzs M.bind at h
    cases q : frz r ρ with
    | bad => rw [q] at h; cases h
    | exc x ρ1 => rw [q] at h; cases h
    | ok d ρ1 =>
      rw [q] at h
      simp only at h
      cases q2 : frzs rs ρ1 with
      | bad => rw [q2] at h; cases h
      | exc x ρ2 => rw [q2] at h; cases h
      | ok es ρ2 =>
        rw [q2] at h
        cases h
        rw [List.length_cons, List.length_cons, frzs_len q2]
theorem looks_len : ∀ {rs : List R} {ds : List D} {ρ : Rho}, looks rs ρ = some ds → ds.length = rs.length
  | [], _, _, h => by cases h; rfl
  | r :: rs, ds, ρ, h => by
    unfold looks at h
    split at h
    · obtain ⟨es, q1, rfl⟩ := Option.map_eq_some_iff.mp h
      rw [List.length_cons, List.length_cons, looks_len q1]
    · cases h
theorem callM_ok {K : PySem.W.Frag} {mg : Str → Option Value} {P O F : List Addr} {A : List V} {H : Hp} {σ : L2.St} {ρ : Rho} {vs : List V} {rs : List R} {Q : VK} (e : EnvR K (F ++ P) A O H σ ρ) (r : RRs K P O H σ F vs rs)
    (h : Aft (relR K σ) K mg W P A σ O H (callM g rs ρ) Q) (hn : rs.length = n) : spF K mg n g vs H Q (WE W σ) := by
  unfold callM at h
  cases q : looks rs ρ with
  | none =>
    rw [q] at h
    exact h.elim
  | some ds =>
    rw [q] at h
    simp only at h
    have slow : Aft (relR K σ) K mg W P A σ O H (callS g rs ρ) Q → spF K mg n g vs H Q (WE W σ) := fun h => callS_ok e r h fun ds ρ' z => (frzs_len z).trans hn
    cases qf : g ds with
    | bad =>
      rw [qf] at h
      exact h.elim
    | exc x =>
      rw [qf] at h
      exact slow h
    | ok t =>
      rw [qf] at h
      simp only at h
      by_cases ht : t.scal = true
      · rw [if_pos ht] at h
        refine ⟨[], ds, (looks_len q).trans hn, by rw [wo_nil]; exact Paired.rp (looks_vr e.less r q), fun a ha => absurd ha List.not_mem_nil, ?_⟩
        rw [qf]
        intro v H' F' m rep fr nt
        cases t with
        | lst a b => cases ht
        | dct a b => cases ht
        | shr a b => cases ht
        | any a b => cases ht
        | own a b => cases ht
        | ron a b => cases ht
        | val d =>
          cases rep with
          | val rp =>
            have rp0 : Rp K (fun _ => none) v d := by
              cases rp with
              | non => exact .non
              | bl b => exact .bl b
              | int i => exact .int i
              | str i => exact .str i
              | lst _ _ => cases ht
              | tup _ _ => cases ht
              | dct _ _ _ => cases ht
            exact h v H' O [] (e.less.more m) ⟨.val (rp0.mono fun _ _ z => by cases z), fun _ z => absurd z List.not_mem_nil, nt⟩ (Step.more m)
      · rw [if_neg ht] at h
        exact slow h
theorem j_call (F : FnOk X.prog X.w X.K X.mg X.base (L2.CX X.prog X.w) k f fd ps (spF X.K X.mg (es.length + 1) g)) (hr : Room k X.A) (tk : Takes X W) (hg : Gl X x) (hm : X.mg x = some (.ref f)) (hk : PySem.W.keepIn X.K (.ref f) = true) (hb : Binds X.K fd ps [])
    (ha : JEs X W (e :: es) ms) (hl : ∀ ρ rs ρ', ms ρ = .ok rs ρ' → rs.length = es.length + 1) (hdb : (x == ("__debug__" : Str)) = false) (he : starEach (e :: es) X.env = (false, eval e X.env) :: starEach es X.env) (hpl : (backTo pos (starEach es X.env)).any (·.1) = false) :
    JE X W (.Call (.Name x p) (e :: es) [] pos) (M.bind ms (callM g)) := (pe_callS (E := WE W) F hr hg hm hk hb (fun σ => passAt tk σ) ha hdb he hpl).imp fun σ H Q h => by
  obtain ⟨P, A, O, ρ, e, h⟩ := h
  cases q : ms ρ with
  | bad =>
    unfold M.bind at h
    rw [q] at h
    exact h.elim
  | exc x ρ1 =>
    refine ⟨P, A, O, ρ, e, ?_⟩
    unfold M.bind at h
    rw [q] at h ⊢
    exact h
  | ok rs ρ1 =>
    refine ⟨P, A, O, ρ, e, ?_⟩
    unfold M.bind at h
    rw [q] at h ⊢
    intro vs H1 O1 F1 e1 r1 s1
    exact callM_ok e1 r1 (Aft.step h s1.less) (hl ρ rs ρ1 q)
end
def opN (f : List D → Option T) (rs : List R) : M R := fun ρ => match looks rs ρ with
  | some ds => (match f ds with
    | some t => .ok (.tmp t) ρ
    | none => .bad)
  | none => .bad
def CallOk (K : PySem.W.Frag) (r : List V → Hp → VK → Prop) (f : List D → Option T) : Prop := ∀ (Z : List Addr) (H : Hp) (vs : List V) (ds : List D) (t : T) (Q : VK), (∀ p, H p = none → p ∉ Z) → Paired (VR K Z H) vs ds → f ds = some t →
  (∀ v H', NewT K Z H H' v t → Q v H') → r vs H Q
section
variable {X : Cx} {W : WX} {x : Str} {p pos : Pos} {e : Expr} {es : List Expr} {ms : M (List R)} {id : String} {r : List V → Hp → VK → Prop} {g : List D → Option T}
theorem opN_ok {K : PySem.W.Frag} {mg : Str → Option Value} {P O F : List Addr} {A : List V} {H : Hp} {σ : L2.St} {ρ : Rho} {vs : List V} {rs : List R} {Q : VK} (hf : CallOk K r g) (e : EnvR K P A O H σ ρ) (r1 : RRs K P O H σ F vs rs)
    (h : Aft (relR K σ) K mg W P A σ O H (opN g rs ρ) Q) : r vs H Q := by
  unfold opN at h
  split at h
  · rename_i ds q
    split at h
    · rename_i t qt
      exact hf (O ++ P) H vs ds t Q (fun p hp => e.fresh hp) (looks_vr e r1 q) qt fun v H' n => h.tmp e n
    · exact h.elim
  · exact h.elim
theorem j_callB (hc : CallR X (.builtin id) r) (hf : CallOk X.K r g) (hg : Gl X x) (hm : X.mg x = none) (hv : bootBuiltins x = some (.builtin id)) (ha : JEs X W (e :: es) ms) (hn : x ≠ "__name__") (hdb : (x == ("__debug__" : Str)) = false)
    (he : starEach (e :: es) X.env = (false, eval e X.env) :: starEach es X.env) (hpl : (backTo pos (starEach es X.env)).any (·.1) = false) : JE X W (.Call (.Name x p) (e :: es) [] pos) (M.bind ms (opN g)) :=
  (pe_callB hc hg hm hv ha hn hdb he hpl).imp fun σ H Q h => by
    obtain ⟨P, A, O, ρ, e, h⟩ := h
    refine ⟨P, A, O, ρ, e, (Aft.bind (rl := relRs X.K σ) h).mono ?_⟩
    rintro vs H1 ⟨O1, ρ1, rs, F, e1, r1, s1, h1⟩
    exact opN_ok hf e1.less r1 (h1.step s1.less)
theorem j_callTy (hc : CallR X (.type id) r) (hf : CallOk X.K r g) (hg : Gl X x) (hm : X.mg x = none) (hv : bootBuiltins x = some (.type id)) (ha : JEs X W (e :: es) ms) (hn : x ≠ "__name__") (hdb : (x == ("__debug__" : Str)) = false)
    (he : starEach (e :: es) X.env = (false, eval e X.env) :: starEach es X.env) (hpl : (backTo pos (starEach es X.env)).any (·.1) = false) : JE X W (.Call (.Name x p) (e :: es) [] pos) (M.bind ms (opN g)) :=
  (pe_callTy hc hg hm hv ha hn hdb he hpl).imp fun σ H Q h => by
    obtain ⟨P, A, O, ρ, e, h⟩ := h
    refine ⟨P, A, O, ρ, e, (Aft.bind (rl := relRs X.K σ) h).mono ?_⟩
    rintro vs H1 ⟨O1, ρ1, rs, F, e1, r1, s1, h1⟩
    exact opN_ok hf e1.less r1 (h1.step s1.less)
def fLen : List D → Option T
  | [.list ds] => some (.val (.int ds.length))
  | [.tuple ds] => some (.val (.int ds.length))
  | [.str z] => if z.length ≤ sizeLine then some (.val (.int z.length)) else none
  | _ => none
theorem len_ok {K : PySem.W.Frag} : CallOk K (fun xs H Q => ∃ x n, xs = [x] ∧ LenV K x H n ∧ Q (.int n) H) fLen := by
  intro Z H vs ds t Q hz hv hf q
  unfold fLen at hf
  split at hf
  · cases hf
    cases hv with
    | cons a b =>
      cases b
      obtain ⟨p, ws, rfl, h1, h2⟩ := a.list
      refine ⟨_, ws.length, rfl, .inl ⟨ws, h1, rfl⟩, ?_⟩
      rw [h2.length]
      exact q _ _ (NewT.scal (.int _))
  · cases hf
    cases hv with
    | cons a b =>
      cases b
      obtain ⟨p, ws, rfl, h1, h2, _⟩ := a.tuple
      refine ⟨_, ws.length, rfl, .inr ⟨ws, h1, rfl⟩, ?_⟩
      rw [h2.length]
      exact q _ _ (NewT.scal (.int _))
  · split at hf
    · rename_i hl
      cases hf
      cases hv with
      | cons a b =>
        cases b
        cases a.str
        exact ⟨_, _, rfl, ⟨hl, rfl⟩, q _ _ (NewT.scal (.int _))⟩
    · cases hf
  · cases hf
def fAbs : List D → Option T
  | [.int i] => some (.val (.int i.natAbs))
  | _ => none
theorem abs_ok {K : PySem.W.Frag} : CallOk K (fun xs H Q => ∃ i, xs = [.int i] ∧ Q (.int (if i < 0 then -i else i)) H) fAbs := by
  intro Z H vs ds t Q hz hv hf q
  unfold fAbs at hf
  split at hf
  · cases hf
    cases hv with
    | cons a b =>
      cases b
      cases a.int
      rename_i i
      refine ⟨i, rfl, ?_⟩
      have e : (if i < 0 then -i else i) = (i.natAbs : Int) := by split <;> omega
      rw [e]
      exact q _ _ (NewT.scal (.int _))
  · cases hf
def tyD : D → String
  | .none => "NoneType"
  | .bool _ => "bool"
  | .int _ => "int"
  | .str _ => "str"
  | .list _ => "list"
  | .tuple _ => "tuple"
  | .dict _ => "dict"
theorem TyX.rp {K : PySem.W.Frag} {H : Hp} {v : V} {d : D} (h : Rp K H v d) : TyX K H v (.type (tyD d)) ∨ ∃ a o es, v = .ref a ∧ tyD d = "dict" ∧ H a = some (dcO a o es) := by
  cases h with
  | dct h1 h2 h3 => exact .inr ⟨_, _, _, rfl, rfl, h1⟩
  | non => exact .inl (.base .non)
  | bl b => exact .inl (.base (.bl b))
  | int i => exact .inl (.base (.int i))
  | str i => exact .inl (.base (.str i))
  | lst h1 h2 =>
    rcases h1 with (e | ⟨o, e⟩) | ⟨o, its, n, e, c, _⟩
    · exact .inl (.base (.lst e))
    · exact .inl (.base (.frz e))
    · exact .inl (.kList e c)
  | tup h1 h2 =>
    rcases h1 with (e | ⟨o, e⟩) | ⟨o, its, n, e, c, _⟩
    · exact .inl (.base (.tup e))
    · exact .inl (.fTuple e)
    · exact .inl (.kTuple e c)
def rIsiN (K : PySem.W.Frag) : List V → Hp → VK → Prop := fun xs H Q => rIsi K xs H Q ∨ ∃ (a : Addr) (o : Obj) (es : List KVV) (c : V) (u : Value) (b : Bool), xs = [.ref a, c] ∧ ClsV c u ∧ H a = some (dcO a o es) ∧ PySem.W.kitOne K (.type "dict") u = some b ∧ Q (.bl b) H
theorem call_isiN {X : Cx} : CallR X (.builtin "isinstance") (rIsiN X.K) := by
  intro pins s σ H xs us Q I r h
  rcases h with h | ⟨a, o, es, c, u, b, rfl, k, ha, e, q⟩
  · exact call_isi pins s σ H xs us Q I r h
  · obtain ⟨u1, u2, rfl, r1, r2⟩ := vals2 r
    have e2 := k.eq r2
    subst e2
    cases (show u1 = Value.ref a from r1)
    obtain ⟨hs, arr, ep, ys, ho, hc, _⟩ := dcO_raw (I.hok a _ ha)
    exact PySem.W.kia_one PySem.W.kitx_dict I.kIn ⟨o, ho, hc.1⟩ e (fun z => nomatch z) fun tk => ⟨.bl b, H, I.tok tk, rfl, q⟩
def fIsi (b : D → Bool) : List D → Option T
  | [d] => some (.val (.bool (b d)))
  | _ => none
theorem j_isi {T0 : String} {T1 : Str} {b : D → Bool} {ma : M R} {p2 : Pos} (hb : ∀ d, kitB (tyD d) T0 = some (b d)) (hg : Gl X "isinstance") (hm : X.mg "isinstance" = none) (hg2 : Gl X T1) (hm2 : X.mg T1 = none) (hv : bootBuiltins T1 = some (.type T0)) (ha : JE X W e ma)
    (hn : T1 ≠ "__name__") (hdb : (T1 == ("__debug__" : Str)) = false)
    (he : starEach [e, .Name T1 p2] X.env = (false, eval e X.env) :: starEach [.Name T1 p2] X.env) (he2 : starEach [.Name T1 p2] X.env = (false, eval (.Name T1 p2) X.env) :: starEach [] X.env) (hpl : (backTo pos (starEach [.Name T1 p2] X.env)).any (·.1) = false) :
    JE X W (.Call (.Name "isinstance" p) [e, .Name T1 p2] [] pos) (M.bind ma fun r => opN (fIsi b) [r]) :=
  (pe_callB (call_isiN (X := X)) hg hm (by decide +kernel) (pa_cons ha (pa_cons (pe_bltn (v := .ty T0) hg2 hm2 hv rfl hn hdb) pa_nil he2) he) (by decide) (by decide) he hpl).imp fun σ H Q h => by
    obtain ⟨P, A, O, ρ, e, h⟩ := h
    refine ⟨P, A, O, ρ, e, (Aft.bind (rl := relR X.K σ) h).mono ?_⟩
    rintro v H1 ⟨O1, ρ1, r, F, e1, r1, s1, h1⟩
    unfold opN at h1
    split at h1
    · rename_i ds q
      unfold looks at q
      split at q
      · rename_i d qd
        cases q
        have vr := look_vr e1.less r1 qd
        have fin := (h1.step s1.less).tmp e1.less (NewT.scal (.bl _))
        rcases TyX.rp vr.rp with ty | ⟨a, o, es, rfl, ed, ha⟩
        · exact .inl ⟨v, _, _, _, b d, rfl, .ty _, ty, kit_ty (hb d), fin⟩
        · exact .inr ⟨a, o, es, _, _, b d, rfl, .ty _, ha, by have := kit_ty (K := X.K) (hb d); rw [ed] at this; exact this, fin⟩
      · cases q
    · exact h1.elim
def isInt : D → Bool
  | .int _ => true
  | .bool _ => true
  | _ => false
def isBool : D → Bool
  | .bool _ => true
  | _ => false
def isStr : D → Bool
  | .str _ => true
  | _ => false
def isList : D → Bool
  | .list _ => true
  | _ => false
theorem kit_str : ∀ d, kitB (tyD d) "str" = some (isStr d) := fun d => by cases d <;> (simp only [tyD, isStr]; decide +kernel)
def chkL (r : R) : M Unit := fun ρ => match look r ρ with
  | some (.list _) => .ok () ρ
  | _ => .bad
def apM (ro : R) (d : D) : M R := mutM ro fun ds => if ds.length < sizeLine then some (ds ++ [d], .tmp (.val .none)) else none
theorem j_append {o a : Expr} {mo ma : M R} {apos cpos : Pos} (ho : JE X W o mo) (ha : JE X W a ma) (hs : starEach [a] X.env = (false, eval a X.env) :: starEach [] X.env) (hbase : attributeBase o "append" X.env (eval o X.env) = eval o X.env)
    (hfew : ((backTo cpos (starEach [a] X.env)).all (fun x => !x.1) && (backToKw cpos (keywordEach [] X.env)).all (fun x => x.1.isSome) && decide ([a].length + ([] : List Keyword).length + (if ([] : List Keyword).isEmpty then 0 else 1) < 30)) = true)
    (hline : (apos.endLine == cpos.line) = true) (hplain : (backTo cpos (starEach [] X.env)).any (·.1) = false) :
    JE X W (.Call (.Attribute o "append" apos) [a] [] cpos) (M.bind mo fun ro => M.bind (chkL ro) fun _ => M.bind ma fun ra => M.bind (frz ra) fun d => apM ro d) :=
  (pe_bm PySem.F.plainAttrs_list PySem.F.slot_list_append PySem.F.type_list_append mt_append ho (pa_cons ha pa_nil hs) hbase hfew hline hs hplain).imp fun σ H Q h => by
    obtain ⟨P, A, O, ρ, e, h⟩ := h
    refine ⟨P, A, O, ρ, e, (Aft.bind (rl := relR X.K σ) h).mono ?_⟩
    rintro x H1 ⟨O1, ρ1, ro, F, e1, r1, s1, h1⟩
    unfold M.bind chkL at h1
    cases q : look ro ρ1 with
    | none =>
      rw [q] at h1
      exact h1.elim
    | some dl =>
      rw [q] at h1
      cases dl with
      | list ds =>
        simp only at h1
        obtain ⟨a, ws, rfl, rd, _⟩ := (look_vr e1.less r1 q).list
        refine ⟨.inl ⟨rfl, ws, rd⟩, ?_⟩
        refine ⟨F ++ P, A, O1, ρ1, e1, (Aft.bindP (rl := relR X.K σ) F s1.less (m := ma) (k := fun ra => M.bind (frz ra) fun d => apM ro d) h1).mono ?_⟩
        rintro y H2 ⟨O2, ρ2, ra, G, e2, r2, s2, h2⟩
        have h3 := Aft.step h2 (s1.less.trans s2.less)
        have e2' : EnvR X.K (G ++ P) A O2 H2 σ ρ2 := e2.swap.less
        obtain ⟨O3, ρ3, d, e3, s3, p3, _, h4⟩ := Aft.frz e2' r2.less h3
        show rAppend (.ref a) [y] H2 Q
        cases ro with
        | tmp t => exact h4.elim
        | slot i =>
          unfold apM mutM at h4
          simp only at h4
          cases qi : ρ3[i]? with
          | none => rw [qi] at h4; exact h4.elim
          | some u =>
            cases u with
            | none => rw [qi] at h4; exact h4.elim
            | some u =>
              cases u with
              | val _ => rw [qi] at h4; exact h4.elim
              | dct _ _ => rw [qi] at h4; exact h4.elim
              | shr _ _ => rw [qi] at h4; exact h4.elim
              | any _ _ => rw [qi] at h4; exact h4.elim
              | own _ _ => rw [qi] at h4; exact h4.elim
              | ron _ _ => rw [qi] at h4; exact h4.elim
              | lst tag es =>
                rw [qi] at h4
                simp only at h4
                obtain ⟨b, zs, eb, m2, m3, m4, m5⟩ := e3.own qi (show σ[i]? = some (some (V.ref a)) from r1)
                cases eb
                by_cases hl : es.length < sizeLine
                · rw [if_pos hl] at h4
                  simp only at h4
                  obtain ⟨e5, s5⟩ := m5 (zs ++ [y]) (es ++ [d]) (m3.append (.cons p3 .nil))
                  refine ⟨a, zs, y, rfl, rfl, m2, by rw [m3.length]; exact hl, ?_⟩
                  exact h4 .non _ O3 [] e5 (rr_val .non) s5
                · rw [if_neg hl] at h4
                  exact h4.elim
      | _ => exact h1.elim
end
end DL
set_option Elab.async false
set_option maxRecDepth 100000
set_option maxHeartbeats 4000000
namespace DL
open PySem PySem.Spec PyProof.Rows L2
/-- one turn -/
def turn (tb : M Bool) (m : M Fl) (w : M Fl) : M Fl := M.bind tb fun b => if b then M.bind m (fun f => match f with
    | .nx => w
    | .ct => w
    | .bk => .ret .nx
    | .rt r => .ret (.rt r)) else .ret .nx
theorem turn_eq (tb : M Bool) (m g : M Fl) (ρ : Rho) : turn tb m g ρ = match tb ρ with
    | .ok true ρ1 => (match m ρ1 with
      | .ok .nx ρ2 => g ρ2
      | .ok .ct ρ2 => g ρ2
      | .ok .bk ρ2 => .ok .nx ρ2
      | .ok (.rt r) ρ2 => .ok (.rt r) ρ2
      | .exc x ρ2 => .exc x ρ2
      | .bad => .bad)
    | .ok false ρ1 => .ok .nx ρ1
    | .exc x ρ1 => .exc x ρ1
    | .bad => .bad := by
  unfold turn M.bind
  cases e : tb ρ with
  | bad => rfl
  | exc x ρ1 => rfl
  | ok c ρ1 =>
    cases c with
    | false => rfl
    | true =>
      dsimp only
      rw [if_pos rfl]
      cases e2 : m ρ1 with
      | bad => rfl
      | exc x ρ2 => rfl
      | ok fl ρ2 => cases fl <;> rfl
theorem turn_key (tb : M Bool) (m : M Fl) (ρ : Rho) : (∀ g', turn tb m g' ρ = turn tb m .bad ρ) ∨ ∃ ρ2, ∀ g', turn tb m g' ρ = g' ρ2 := by
  simp only [turn_eq]
  cases e : tb ρ with
  | bad => exact .inl fun _ => rfl
  | exc x ρ1 => exact .inl fun _ => rfl
  | ok c ρ1 =>
    cases c with
    | false => exact .inl fun _ => rfl
    | true =>
      dsimp only
      cases e2 : m ρ1 with
      | bad => exact .inl fun _ => rfl
      | exc x ρ2 => exact .inl fun _ => rfl
      | ok fl ρ2 =>
        cases fl with
        | nx => exact .inr ⟨ρ2, fun _ => rfl⟩
        | ct => exact .inr ⟨ρ2, fun _ => rfl⟩
        | bk => exact .inl fun _ => rfl
        | rt r => exact .inl fun _ => rfl
theorem whileM_turn (tb : M Bool) (m : M Fl) (n : Nat) (ρ : Rho) : whileM tb m (n + 1) ρ = turn tb m (whileM tb m n) ρ := rfl
theorem whileM_up {tb : M Bool} {m : M Fl} : ∀ (n : Nat) (ρ : Rho), whileM tb m n ρ ≠ .bad → whileM tb m (n + 1) ρ = whileM tb m n ρ
  | 0, _, h => (h rfl).elim
  | n + 1, ρ, h => by
    rw [whileM_turn] at h ⊢
    rw [whileM_turn]
    rcases turn_key tb m ρ with k | ⟨ρ2, k⟩
    · rw [k (whileM tb m (n + 1)), k (whileM tb m n)]
    · rw [k] at h ⊢
      rw [k]
      exact whileM_up n ρ2 h
theorem whileM_ups {tb : M Bool} {m : M Fl} {n : Nat} {ρ : Rho} (h : whileM tb m n ρ ≠ .bad) : ∀ k, whileM tb m (n + k) ρ = whileM tb m n ρ
  | 0 => rfl
  | k + 1 => by
    have e := whileM_ups h k
    rw [← e] at h
    rw [← e]
    exact whileM_up (n + k) ρ h
theorem whileM_two {tb : M Bool} {m : M Fl} {n k : Nat} {ρ : Rho} (h : whileM tb m n ρ ≠ .bad) (h2 : whileM tb m k ρ ≠ .bad) : whileM tb m n ρ = whileM tb m k ρ := by
  rw [← whileM_ups h k, ← whileM_ups h2 n, Nat.add_comm]
open Classical in
noncomputable def whileC (tb : M Bool) (m : M Fl) : M Fl := fun ρ => if h : ∃ n, whileM tb m n ρ ≠ .bad then whileM tb m (Classical.choose h) ρ else .bad
theorem whileC_of {tb : M Bool} {m : M Fl} {n : Nat} {ρ : Rho} (h : whileM tb m n ρ ≠ .bad) : whileC tb m ρ = whileM tb m n ρ := by
  unfold whileC
  rw [dif_pos ⟨n, h⟩]
  exact whileM_two (Classical.choose_spec (⟨n, h⟩ : ∃ n, whileM tb m n ρ ≠ .bad)) h
theorem whileC_bad {tb : M Bool} {m : M Fl} {ρ : Rho} (h : ¬ ∃ n, whileM tb m n ρ ≠ .bad) : whileC tb m ρ = .bad := by
  unfold whileC
  rw [dif_neg h]
theorem whileC_turn (tb : M Bool) (m : M Fl) (ρ : Rho) : whileC tb m ρ = turn tb m (whileC tb m) ρ := by
  have up : ∀ n, whileM tb m (n + 1) ρ = turn tb m (whileM tb m n) ρ := fun n => rfl
  rcases turn_key tb m ρ with h | ⟨ρ2, h⟩
  · rw [h (whileC tb m)]
    by_cases hb : turn tb m .bad ρ = .bad
    · rw [hb]
      refine whileC_bad fun ⟨n, hn⟩ => ?_
      cases n with
      | zero => exact hn rfl
      | succ n => exact hn (by rw [up, h, hb])
    · have e : whileM tb m 1 ρ = turn tb m .bad ρ := by rw [up, h]
      rw [whileC_of (n := 1) (by rw [e]; exact hb), e]
  · rw [h (whileC tb m)]
    by_cases hx : ∃ n, whileM tb m n ρ2 ≠ .bad
    · obtain ⟨n, hn⟩ := hx
      have e : whileM tb m (n + 1) ρ = whileM tb m n ρ2 := by rw [up, h]
      rw [whileC_of hn, whileC_of (n := n + 1) (by rw [e]; exact hn), e]
    · rw [whileC_bad hx]
      refine whileC_bad fun ⟨n, hn⟩ => ?_
      cases n with
      | zero => exact hn rfl
      | succ n => exact hx ⟨n, by rw [← h (whileM tb m n), ← up]; exact hn⟩
section
variable {X : Cx} {W : WX} {a b c e : Expr} {es : List Expr} {pos : Pos} {ma mb mc : M R} {ms : M (List R)} {tb : M Bool} {m : M Fl}
theorem js_whileC {c : Expr} {sb : List Stmt} (hp : PassesOwn (model X.prog X.w) X.A X.env X.xe) (hc : JB X W c tb) (hb : JSs X W sb m) : JS X W (.While c sb [] pos) (whileC tb m) := ⟨fun pins s σ H D I h => by
  obtain ⟨P, A, O, ρ, e, h⟩ := h
  by_cases hx : ∃ n, whileM tb m n ρ ≠ .bad
  · obtain ⟨n, hn⟩ := hx
    rw [whileC_of hn] at h
    exact (js_while n hp hc hb).run pins s σ H D I ⟨P, A, O, ρ, e, h⟩
  · rw [whileC_bad hx] at h
    exact h.elim⟩
end
abbrev bin (f : D → D → Option T) (ma mb : M R) : M R := M.bind ma fun ra => M.bind mb fun rb => op2 f ra rb
abbrev un (f : D → Option T) (ma : M R) : M R := M.bind ma (op1 f)
abbrev cst (d : D) : M R := M.ret (.tmp (.val d))
abbrev argN : M (List R) := M.ret []
abbrev argC (ma : M R) (ms : M (List R)) : M (List R) := M.bind ma fun r => M.bind ms fun rs => .ret (r :: rs)
abbrev tupM (ms : M (List R)) : M R := M.bind ms mkTup
abbrev lstM (ms : M (List R)) : M R := M.bind ms mkLst
abbrev callF (g : List D → FO) (ms : M (List R)) : M R := M.bind ms (callM g)
abbrev callB (g : List D → Option T) (ms : M (List R)) : M R := M.bind ms (opN g)
abbrev isi (b : D → Bool) (ma : M R) : M R := M.bind ma fun r => opN (fIsi b) [r]
abbrev tst (ma : M R) : M Bool := M.bind ma asB
abbrev tcmp (f : D → D → Option T) (ma mb : M R) : M Bool := M.bind (bin f ma mb) asB
abbrev notT (tb : M Bool) : M Bool := M.bind tb fun c => .ret (!c)
abbrev ifS (tc : M Bool) (m1 m2 : M Fl) : M Fl := M.bind tc fun c => if c then m1 else m2
abbrev setS (i : Nat) (ma : M R) : M Fl := M.bind ma fun r => M.bind (asgR i r) fun _ => .ret .nx
abbrev retS (ma : M R) : M Fl := M.bind ma fun r => .ret (.rt r)
abbrev exS (ma : M R) : M Fl := M.bind ma fun _ => .ret .nx
abbrev nilS : M Fl := M.ret .nx
abbrev apE (mo ma : M R) : M R := M.bind mo fun ro => M.bind (chkL ro) fun _ => M.bind ma fun ra => M.bind (frz ra) fun d => apM ro d
abbrev forS (f : R → M Unit) (mi : M (List D)) (m : M Fl) : M Fl := M.bind mi (forM f m)
abbrev itA (ma : M R) : M (List D) := M.bind ma items
abbrev itR1 (ms : M (List R)) : M (List D) := M.bind ms rng1
abbrev itR2 (ms : M (List R)) : M (List D) := M.bind ms rng2
abbrev slM (ma : M R) (ml mh : M (Option Int)) : M R := M.bind ma fun ra => M.bind ml fun l => M.bind mh fun u => opSl ra l u
abbrev asgS (f : R → M Unit) (ma : M R) : M Fl := M.bind ma fun r => M.bind (f r) fun _ => .ret .nx
abbrev fLt : D → D → Option T := fCmpI fun i j => decide (i < j)
abbrev fGt : D → D → Option T := fCmpI fun i j => decide (j < i)
abbrev fGe : D → D → Option T := fCmpI fun i j => decide (j ≤ i)
theorem hu64 {A : Around} {k : Nat} (hr : Room k A) : A.units + 64 < cLine := by have := hr.un; omega
theorem hu65 {A : Around} {k : Nat} (hr : Room k A) : A.units + 65 < cLine := by have := hr.un; omega
theorem lenN : ∀ (ρ : Rho) (rs : List R) (ρ' : Rho), argN ρ = .ok rs ρ' → rs.length = 0 := fun ρ rs ρ' h => by
  cases h
  rfl
theorem lenC {ma : M R} {ms : M (List R)} {n : Nat} (h : ∀ (ρ : Rho) (rs : List R) (ρ' : Rho), ms ρ = .ok rs ρ' → rs.length = n) : ∀ (ρ : Rho) (rs : List R) (ρ' : Rho), argC ma ms ρ = .ok rs ρ' → rs.length = n + 1 := fun ρ rs ρ' q => by
  unfold argC M.bind at q
  cases e : ma ρ with
  | bad => rw [e] at q; cases q
  | exc x ρ1 => rw [e] at q; cases q
  | ok r ρ1 =>
    rw [e] at q
    dsimp only at q
    cases e2 : ms ρ1 with
    | bad => rw [e2] at q; cases q
    | exc x ρ2 => rw [e2] at q; cases q
    | ok rs2 ρ2 =>
      rw [e2] at q
      cases q
      rw [List.length_cons, h _ _ _ e2]
theorem _root_.L2.FnOk.calm {P : Program} {w : World} {K : PySem.W.Frag} {mg : Str → Option Value} {base : Heap} {k : Nat} {f : Addr} {fd : FuncData} {ps : List Str} {sp : Sp} (F : FnOk P w K mg base (L2.CX P w) k f fd ps sp) :
    FnOk P w K mg base L2.CX0 k f fd ps (fun vs H Q _ => sp vs H Q (fun _ _ _ => False)) :=
  ⟨fun vs H Q E h => F.len _ _ _ _ h, fun A outer s H args us vs Q E hr he hb hv hs => codeAny_mono (F.run A outer s H args us vs Q _ hr he hb hv hs) fun r s' hq => by
    cases r with
    | ok fl => cases fl <;> exact hq
    | error e =>
      obtain ⟨a, B, H', cls, d, _, _, _, _, _, _, _, z⟩ := hq
      exact z.elim⟩
theorem rp_ints {K : PySem.W.Frag} {H : Hp} : ∀ ns : List Int, RpAll K H (ns.map V.int) (ns.map PyData.int)
  | [] => .nil
  | n :: ns => .cons (.int n) (rp_ints ns)
theorem law_sp {K : PySem.W.Frag} {mg : Str → Option Value} {H : Hp} {a : Addr} {ns : List Int} {f : List D → FO} (h : f [.list (ns.map PyData.int)] = .ok (.val (.bool true))) (hS : SqL K H a (ns.map V.int)) :
    spF K mg 1 f [.ref a] H (fun v _ => v = .bl true) (fun _ _ _ => False) := by
  refine ⟨[], _, rfl, .cons (.lst (by rw [wo_nil]; exact hS) (rp_ints ns)) .nil, fun _ z => absurd z List.not_mem_nil, ?_⟩
  rw [h]
  intro v H' F _ r _ _
  cases r with
  | val q =>
    cases q
    rfl
end DL
set_option Elab.async false
set_option maxRecDepth 100000
set_option maxHeartbeats 4000000
namespace DL
open PySem PySem.Spec PyProof.Rows L2
def Out.bnd {α β : Type} (o : Out α) (k : α → M β) : Out β := match o with
  | .ok a ρ => k a ρ
  | .exc x ρ => .exc x ρ
  | .bad => .bad
section
variable {α β : Type} {ρ : Rho} {x : XD} {a : α} {k : α → M β}
@[simp] theorem bnd_ok : (Out.ok a ρ).bnd k = k a ρ := (rfl)
@[simp] theorem bnd_exc : (Out.exc x ρ : Out α).bnd k = .exc x ρ := (rfl)
@[simp] theorem bnd_bad : (Out.bad : Out α).bnd k = .bad := (rfl)
@[simp] theorem bind_ap (m : M α) (k : α → M β) (ρ : Rho) : M.bind m k ρ = (m ρ).bnd k := (rfl)
@[simp] theorem ret_ap (a : α) (ρ : Rho) : M.ret a ρ = .ok a ρ := (rfl)
@[simp] theorem bad_ap (ρ : Rho) : (M.bad : M α) ρ = .bad := (rfl)
@[simp] theorem if_ap {c : Prop} [Decidable c] (m m' : M α) (ρ : Rho) : (if c then m else m') ρ = if c then m ρ else m' ρ := by split <;> rfl
@[simp] theorem getM0 {t : T} {l : Rho} : getM 0 (some t :: l) = .ok (.slot 0) (some t :: l) := (rfl)
@[simp] theorem getM1 {t : T} {l : Rho} {a} : getM 1 (a :: some t :: l) = .ok (.slot 1) (a :: some t :: l) := (rfl)
@[simp] theorem getM2 {t : T} {l : Rho} {a b} : getM 2 (a :: b :: some t :: l) = .ok (.slot 2) (a :: b :: some t :: l) := (rfl)
@[simp] theorem getM3 {t : T} {l : Rho} {a b c} : getM 3 (a :: b :: c :: some t :: l) = .ok (.slot 3) (a :: b :: c :: some t :: l) := (rfl)
@[simp] theorem getM4 {t : T} {l : Rho} {a b c d} : getM 4 (a :: b :: c :: d :: some t :: l) = .ok (.slot 4) (a :: b :: c :: d :: some t :: l) := (rfl)
@[simp] theorem getM5 {t : T} {l : Rho} {a b c d e} : getM 5 (a :: b :: c :: d :: e :: some t :: l) = .ok (.slot 5) (a :: b :: c :: d :: e :: some t :: l) := (rfl)
@[simp] theorem getM6 {t : T} {l : Rho} {a b c d e f} : getM 6 (a :: b :: c :: d :: e :: f :: some t :: l) = .ok (.slot 6) (a :: b :: c :: d :: e :: f :: some t :: l) := (rfl)
@[simp] theorem getM7 {t : T} {l : Rho} {a b c d e f g} : getM 7 (a :: b :: c :: d :: e :: f :: g :: some t :: l) = .ok (.slot 7) (a :: b :: c :: d :: e :: f :: g :: some t :: l) := (rfl)
@[simp] theorem getM8 {t : T} {l : Rho} {a b c d e f g h} : getM 8 (a :: b :: c :: d :: e :: f :: g :: h :: some t :: l) = .ok (.slot 8) (a :: b :: c :: d :: e :: f :: g :: h :: some t :: l) := (rfl)
@[simp] theorem getM9 {t : T} {l : Rho} {a b c d e f g h i} : getM 9 (a :: b :: c :: d :: e :: f :: g :: h :: i :: some t :: l) = .ok (.slot 9) (a :: b :: c :: d :: e :: f :: g :: h :: i :: some t :: l) := (rfl)
@[simp] theorem look_tmp (t : T) (ρ : Rho) : look (.tmp t) ρ = t.tv := (rfl)
@[simp] theorem tv_val (d : D) : (T.val d).tv = some d := (rfl)
@[simp] theorem tv_lst (t : Option Nat) (ds : List D) : (T.lst t ds).tv = some (.list ds) := (rfl)
@[simp] theorem tv_dct (t : Option Nat) (ds : List (D × D)) : (T.dct t ds).tv = some (.dict ds) := (rfl)
@[simp] theorem fv_val (d : D) : (T.val d).fv = some d := (rfl)
@[simp] theorem fv_lst (t : Option Nat) (ds : List D) : (T.lst t ds).fv = some (.list ds) := (rfl)
@[simp] theorem fv_dct (t : Option Nat) (ds : List (D × D)) : (T.dct t ds).fv = some (.dict ds) := (rfl)
@[simp] theorem fv_own (t : Option Nat) (n : Nd) : (T.own t n).fv = n.fz := (rfl)
@[simp] theorem ofV_some (d : D) (ρ : Rho) : Out.ofV (some d) ρ = .ok d ρ := (rfl)
@[simp] theorem look0 {t : T} {l : Rho} : look (.slot 0) (some t :: l) = t.cview := (rfl)
@[simp] theorem look1 {t : T} {l : Rho} {a} : look (.slot 1) (a :: some t :: l) = t.cview := (rfl)
@[simp] theorem look2 {t : T} {l : Rho} {a b} : look (.slot 2) (a :: b :: some t :: l) = t.cview := (rfl)
@[simp] theorem look3 {t : T} {l : Rho} {a b c} : look (.slot 3) (a :: b :: c :: some t :: l) = t.cview := (rfl)
@[simp] theorem look4 {t : T} {l : Rho} {a b c d} : look (.slot 4) (a :: b :: c :: d :: some t :: l) = t.cview := (rfl)
@[simp] theorem look5 {t : T} {l : Rho} {a b c d e} : look (.slot 5) (a :: b :: c :: d :: e :: some t :: l) = t.cview := (rfl)
@[simp] theorem look6 {t : T} {l : Rho} {a b c d e f} : look (.slot 6) (a :: b :: c :: d :: e :: f :: some t :: l) = t.cview := (rfl)
@[simp] theorem look7 {t : T} {l : Rho} {a b c d e f g} : look (.slot 7) (a :: b :: c :: d :: e :: f :: g :: some t :: l) = t.cview := (rfl)
@[simp] theorem look8 {t : T} {l : Rho} {a b c d e f g h} : look (.slot 8) (a :: b :: c :: d :: e :: f :: g :: h :: some t :: l) = t.cview := (rfl)
@[simp] theorem look9 {t : T} {l : Rho} {a b c d e f g h i} : look (.slot 9) (a :: b :: c :: d :: e :: f :: g :: h :: i :: some t :: l) = t.cview := (rfl)
def getO (i : Nat) (ρ : Rho) : Option (Option T) → Out R
  | some (some _) => .ok (.slot i) ρ
  | _ => .bad
@[simp low] theorem getM_gen (i : Nat) (ρ : Rho) : getM i ρ = getO i ρ ρ[i]? := by
  unfold getM getO
  generalize ρ[i]? = o
  match o with
  | none => rfl
  | some none => rfl
  | some (some _) => rfl
@[simp] theorem getO_some (i : Nat) (ρ : Rho) (t : T) : getO i ρ (some (some t)) = .ok (.slot i) ρ := (rfl)
def lookO : Option (Option T) → Option D
  | some (some t) => t.cview
  | _ => none
@[simp low] theorem look_gen (i : Nat) (ρ : Rho) : look (.slot i) ρ = lookO ρ[i]? := by
  show (match ρ[i]? with | some (some t) => t.cview | _ => none) = _
  unfold lookO
  generalize ρ[i]? = o
  match o with
  | none => rfl
  | some none => rfl
  | some (some _) => rfl
@[simp] theorem lookO_some (t : T) : lookO (some (some t)) = t.cview := (rfl)
@[simp] theorem cview_val (d : D) : (T.val d).cview = some d := (rfl)
@[simp] theorem cview_lst (t : Option Nat) (ds : List D) : (T.lst t ds).cview = some (.list ds) := (rfl)
@[simp] theorem cview_dct (t : Option Nat) (ds : List (D × D)) : (T.dct t ds).cview = some (.dict ds) := (rfl)
@[simp] theorem view_dct (t : Option Nat) (ds : List (D × D)) : (T.dct t ds).view = .dict ds := (rfl)
@[simp] theorem view_val (d : D) : (T.val d).view = d := (rfl)
@[simp] theorem view_lst (t : Option Nat) (ds : List D) : (T.lst t ds).view = .list ds := (rfl)
@[simp] theorem looks_nil (ρ : Rho) : looks [] ρ = some [] := (rfl)
@[simp] theorem looks_cons (r : R) (rs : List R) (ρ : Rho) : looks (r :: rs) ρ = (look r ρ).bind fun d => (looks rs ρ).map (d :: ·) := by
  rw [looks]
  cases look r ρ <;> rfl
/-- what an operation's answer is -/
def Out.ofT (o : Option T) (ρ : Rho) : Out R := match o with
  | some t => .ok (.tmp t) ρ
  | none => .bad
@[simp] theorem ofT_some (t : T) (ρ : Rho) : Out.ofT (some t) ρ = .ok (.tmp t) ρ := (rfl)
@[simp] theorem op2_ap (f : D → D → Option T) (ra rb : R) (ρ : Rho) : op2 f ra rb ρ = Out.ofT ((look ra ρ).bind fun x => (look rb ρ).bind fun y => f x y) ρ := by
  unfold op2
  cases look ra ρ <;> cases look rb ρ <;> rfl
@[simp] theorem op1_ap (f : D → Option T) (ra : R) (ρ : Rho) : op1 f ra ρ = Out.ofT ((look ra ρ).bind f) ρ := by
  unfold op1
  cases look ra ρ <;> rfl
@[simp] theorem opN_ap (f : List D → Option T) (rs : List R) (ρ : Rho) : opN f rs ρ = Out.ofT ((looks rs ρ).bind f) ρ := by
  unfold opN
  cases looks rs ρ <;> rfl
def Out.ofB (o : Option D) (ρ : Rho) : Out Bool := match o with
  | some (.bool b) => .ok b ρ
  | _ => .bad
@[simp] theorem ofB_some (b : Bool) (ρ : Rho) : Out.ofB (some (.bool b)) ρ = .ok b ρ := (rfl)
@[simp] theorem asB_ap (r : R) (ρ : Rho) : asB r ρ = Out.ofB (look r ρ) ρ := (rfl)
@[simp] theorem frz_tmp (t : T) (ρ : Rho) : frz (.tmp t) ρ = Out.ofV t.fv ρ := (rfl)
@[simp] theorem frzs_nil (ρ : Rho) : frzs [] ρ = .ok [] ρ := (rfl)
@[simp] theorem frzs_cons (r : R) (rs : List R) (ρ : Rho) : frzs (r :: rs) ρ = (frz r ρ).bnd fun d ρ' => (frzs rs ρ').bnd fun ds ρ'' => .ok (d :: ds) ρ'' := (rfl)
def mkT' (ds : List D) (ρ : Rho) : Out R := if ds.length ≤ sizeLine then .ok (.tmp (.val (.tuple ds))) ρ else .bad
def mkL' (ds : List D) (ρ : Rho) : Out R := if ds.length ≤ sizeLine then .ok (.tmp (.lst none ds)) ρ else .bad
theorem sizeLine_big {n : Nat} (h : n ≤ 16777216) : n ≤ sizeLine := by
  rw [sizeLine_eq]
  exact h
theorem sizeLine_lt {n : Nat} (h : n < 16777216) : n < sizeLine := by
  rw [sizeLine_eq]
  exact h
@[simp] theorem mkTup_ap (rs : List R) (ρ : Rho) : mkTup rs ρ = (frzs rs ρ).bnd mkT' := by
  show (frzs rs ρ).bnd _ = _
  congr 1
  funext ds ρ'
  unfold mkT'
  split <;> rfl
@[simp] theorem mkLst_ap (rs : List R) (ρ : Rho) : mkLst rs ρ = (frzs rs ρ).bnd mkL' := by
  show (frzs rs ρ).bnd _ = _
  congr 1
  funext ds ρ'
  unfold mkL'
  split <;> rfl
@[simp] theorem mkT_ok (ds : List D) (ρ : Rho) (h : ds.length ≤ 16777216) : mkT' ds ρ = .ok (.tmp (.val (.tuple ds))) ρ := if_pos (sizeLine_big h)
@[simp] theorem mkL_ok (ds : List D) (ρ : Rho) (h : ds.length ≤ 16777216) : mkL' ds ρ = .ok (.tmp (.lst none ds)) ρ := if_pos (sizeLine_big h)
/-- a def's answer -/
def Out.ofF (o : FO) (ρ : Rho) (slow : Out R) : Out R := match o with
  | .ok t => if t.scal then .ok (.tmp t) ρ else slow
  | .exc _ => slow
  | .bad => .bad
@[simp] theorem ofF_ok (t : T) (ρ : Rho) (s : Out R) : Out.ofF (.ok t) ρ s = if t.scal then .ok (.tmp t) ρ else s := (rfl)
def Out.ofFS (o : FO) (ρ : Rho) : Out R := match o with
  | .ok t => .ok (.tmp t) ρ
  | .exc x => .exc x ρ
  | .bad => .bad
@[simp] theorem ofFS_ok (t : T) (ρ : Rho) : Out.ofFS (.ok t) ρ = .ok (.tmp t) ρ := (rfl)
@[simp] theorem ofFS_exc (t : XD) (ρ : Rho) : Out.ofFS (.exc t) ρ = .exc t ρ := (rfl)
@[simp] theorem callS_ap (f : List D → FO) (rs : List R) (ρ : Rho) : callS f rs ρ = (frzs rs ρ).bnd fun ds ρ' => Out.ofFS (f ds) ρ' := (rfl)
def callL (f : List D → FO) (rs : List R) (ρ : Rho) : Option (List D) → Out R
  | some ds => Out.ofF (f ds) ρ (callS f rs ρ)
  | none => .bad
@[simp] theorem callM_eq (f : List D → FO) (rs : List R) (ρ : Rho) : callM f rs ρ = callL f rs ρ (looks rs ρ) := by
  unfold callM callL
  cases looks rs ρ with
  | none => rfl
  | some ds => rfl
@[simp] theorem callL_some (f : List D → FO) (rs : List R) (ρ : Rho) (ds : List D) : callL f rs ρ (some ds) = Out.ofF (f ds) ρ (callS f rs ρ) := (rfl)
@[simp] theorem ofF_exc (x : XD) (ρ : Rho) (s : Out R) : Out.ofF (.exc x) ρ s = s := (rfl)
@[simp] theorem scal_val (d : D) : (T.val d).scal = scalD d := (rfl)
@[simp] theorem scal_lst (a) (d : List D) : (T.lst a d).scal = false := (rfl)
@[simp] theorem scalD_int (i : Int) : scalD (.int i) = true := (rfl)
@[simp] theorem scalD_bool (i : Bool) : scalD (.bool i) = true := (rfl)
@[simp] theorem scalD_str (i : Str) : scalD (.str i) = true := (rfl)
@[simp] theorem scalD_none : scalD .none = true := (rfl)
@[simp] theorem scalD_list (i : List D) : scalD (.list i) = false := (rfl)
@[simp] theorem scalD_tuple (i : List D) : scalD (.tuple i) = false := (rfl)
def frzO (i : Nat) (ρ : Rho) : Option (Option T) → Out D
  | some (some (.val d)) => .ok d ρ
  | some (some (.lst none ds)) => .ok (.list ds) (ρ.set i (some (.val (.list ds))))
  | some (some (.dct none kvs)) => .ok (.dict kvs) (ρ.set i (some (.val (.dict kvs))))
  | some (some (.own none n)) => (match n.fz with
    | some d => .ok d (ρ.set i (some (.val d)))
    | none => .bad)
  | _ => .bad
@[simp] theorem frzO_dct (i : Nat) (ρ : Rho) (kvs : List (D × D)) : frzO i ρ (some (some (.dct none kvs))) = .ok (.dict kvs) (ρ.set i (some (.val (.dict kvs)))) := (rfl)
@[simp] theorem frz_slot (i : Nat) (ρ : Rho) : frz (.slot i) ρ = frzO i ρ ρ[i]? := (rfl)
@[simp] theorem frzO_val (i : Nat) (ρ : Rho) (d : D) : frzO i ρ (some (some (.val d))) = .ok d ρ := (rfl)
@[simp] theorem frzO_lst (i : Nat) (ρ : Rho) (ds : List D) : frzO i ρ (some (some (.lst none ds))) = .ok (.list ds) (ρ.set i (some (.val (.list ds)))) := (rfl)
def apO (i : Nat) (d : D) (ρ : Rho) : Option (Option T) → Out R
  | some (some (.lst tag ds)) => if ds.length < sizeLine then .ok (.tmp (.val .none)) (ρ.set i (some (.lst tag (ds ++ [d])))) else .bad
  | _ => .bad
@[simp] theorem apM_slot (i : Nat) (d : D) (ρ : Rho) : apM (.slot i) d ρ = apO i d ρ ρ[i]? := by
  unfold apM mutM
  dsimp only
  generalize ρ[i]? = o
  match o with
  | none => rfl
  | some none => rfl
  | some (some (.val _)) => rfl
  | some (some (.dct _ _)) => rfl
  | some (some (.shr _ _)) => rfl
  | some (some (.any _ _)) => rfl
  | some (some (.own _ _)) => rfl
  | some (some (.ron _ _)) => rfl
  | some (some (.lst tag ds)) =>
    by_cases hl : ds.length < sizeLine
    · simp only [apO, if_pos hl]
    · simp only [apO, if_neg hl]
@[simp] theorem apO_lst (i : Nat) (d : D) (ρ : Rho) (tag : Option Nat) (ds : List D) (h : ds.length < 16777216) : apO i d ρ (some (some (.lst tag ds))) = .ok (.tmp (.val .none)) (ρ.set i (some (.lst tag (ds ++ [d])))) := if_pos (sizeLine_lt h)
def chkO (ρ : Rho) : Option D → Out Unit
  | some (.list _) => .ok () ρ
  | _ => .bad
@[simp] theorem chkL_eq (r : R) (ρ : Rho) : chkL r ρ = chkO ρ (look r ρ) := (rfl)
@[simp] theorem chkO_list (ρ : Rho) (ds : List D) : chkO ρ (some (.list ds)) = .ok () ρ := (rfl)
def Fl.then_ (f : Fl) (mb : M Fl) : M Fl := match f with
  | .nx => mb
  | f => .ret f
@[simp] theorem then_nx (mb : M Fl) : Fl.nx.then_ mb = mb := (rfl)
@[simp] theorem then_rt (r : R) (mb : M Fl) (ρ : Rho) : (Fl.rt r).then_ mb ρ = .ok (.rt r) ρ := (rfl)
@[simp] theorem then_bk (mb : M Fl) (ρ : Rho) : Fl.bk.then_ mb ρ = .ok .bk ρ := (rfl)
@[simp] theorem then_ct (mb : M Fl) (ρ : Rho) : Fl.ct.then_ mb ρ = .ok .ct ρ := (rfl)
@[simp] theorem seq_ap (ma mb : M Fl) (ρ : Rho) : seqM ma mb ρ = (ma ρ).bnd fun f => f.then_ mb := by
  show (ma ρ).bnd _ = (ma ρ).bnd _
  congr 1
@[simp] theorem putT_ap (i : Nat) (t : T) (ρ : Rho) : putT i t ρ = if i < ρ.length then .ok () (ρ.set i (some t)) else .bad := (rfl)
@[simp] theorem asgR_tmp (i : Nat) (t : T) : asgR i (.tmp t) = putT i t := (rfl)
@[simp] theorem asgR_slot (i j : Nat) : asgR i (.slot j) = M.bind (frz (.slot j)) fun d => putT i (.val d) := (rfl)
end
def Fl.loop (f : Fl) (w : M Fl) : M Fl := match f with
  | .nx => w
  | .ct => w
  | .bk => .ret .nx
  | .rt r => .ret (.rt r)
@[simp] theorem loop_nx (w : M Fl) : Fl.nx.loop w = w := (rfl)
@[simp] theorem loop_ct (w : M Fl) : Fl.ct.loop w = w := (rfl)
@[simp] theorem loop_bk (w : M Fl) (ρ : Rho) : Fl.bk.loop w ρ = .ok .nx ρ := (rfl)
@[simp] theorem loop_rt (r : R) (w : M Fl) (ρ : Rho) : (Fl.rt r).loop w ρ = .ok (.rt r) ρ := (rfl)
@[simp] theorem orM_ap (ta tb : M Bool) (ρ : Rho) : DL.orM ta tb ρ = (ta ρ).bnd fun c => if c then .ret true else tb := (rfl)
@[simp] theorem andM_ap (ta tb : M Bool) (ρ : Rho) : DL.andM ta tb ρ = (ta ρ).bnd fun c => if c then tb else .ret false := (rfl)
theorem forM_cons (f : R → M Unit) (m : M Fl) (d : D) (ds : List D) (ρ : Rho) : forM f m (d :: ds) ρ = ((M.bind (f (.tmp (.val d))) fun _ => m) ρ).bnd fun fl => fl.loop (forM f m ds) := by
  show ((M.bind (f (.tmp (.val d))) fun _ => m) ρ).bnd _ = _
  congr 1
@[simp] theorem forM_nil (f : R → M Unit) (m : M Fl) (ρ : Rho) : forM f m [] ρ = .ok .nx ρ := (rfl)
theorem while_ap (tb : M Bool) (m : M Fl) (ρ : Rho) : whileC tb m ρ = (tb ρ).bnd fun b => if b then M.bind m fun f => f.loop (whileC tb m) else M.ret .nx := by
  rw [whileC_turn]
  unfold turn
  show (tb ρ).bnd _ = (tb ρ).bnd _
  congr 1
def Out.fin (o : Out Fl) : FO := match o with
  | .ok .nx _ => .ok (.val .none)
  | .ok (.rt (.tmp t)) _ => .ok t
  | .ok (.rt (.slot i)) ρ => (match ρ[i]? with
    | some (some t) => t.fin
    | _ => .bad)
  | .ok _ _ => .bad
  | .exc x _ => .exc x
  | .bad => .bad
def Out.finO : Option (Option T) → FO
  | some (some t) => t.fin
  | _ => .bad
theorem run_eq (n : Nat) (m : M Fl) (ds : List D) : runF n m ds = (m (ds.map (fun d => some (T.val d)) ++ List.replicate n none)).fin := (rfl)
@[simp] theorem fin_nx (ρ : Rho) : (Out.ok Fl.nx ρ).fin = .ok (.val .none) := (rfl)
@[simp] theorem fin_tmp (t : T) (ρ : Rho) : (Out.ok (Fl.rt (.tmp t)) ρ).fin = .ok t := (rfl)
@[simp] theorem fin_slot (i : Nat) (ρ : Rho) : (Out.ok (Fl.rt (.slot i)) ρ).fin = Out.finO ρ[i]? := (rfl)
@[simp] theorem fin_exc (x : XD) (ρ : Rho) : (Out.exc x ρ : Out Fl).fin = .exc x := (rfl)
@[simp] theorem finO_val (d : D) : Out.finO (some (some (.val d))) = .ok (.val d) := (rfl)
@[simp] theorem finO_lst (t : Option Nat) (ds : List D) : Out.finO (some (some (.lst t ds))) = .ok (.lst none ds) := (rfl)
@[simp] theorem fAdd_ii (i j : Int) : fAdd (.int i) (.int j) = some (.val (.int (i + j))) := (rfl)
@[simp] theorem fAdd_ll (i j : List D) (h : i.length + j.length ≤ 16777216) : fAdd (.list i) (.list j) = some (.lst none (i ++ j)) := if_pos (sizeLine_big h)
@[simp] theorem fSub_ii (i j : Int) : fSub (.int i) (.int j) = some (.val (.int (i - j))) := (rfl)
@[simp] theorem fNeg_i (i : Int) : fNeg (.int i) = some (.val (.int (-i))) := (rfl)
@[simp] theorem fMul_ii (i j : Int) : fMulI (.int i) (.int j) = if bMul i j = true then some (.val (.int (i * j))) else none := (rfl)
@[simp] theorem fMod_ii (i j : Int) : fMod (.int i) (.int j) = if j ≠ 0 then some (.val (.int (i.fmod j))) else none := by
  show (if bMod i j = true then _ else _) = _
  simp [bMod]
@[simp] theorem fDiv_ii (i j : Int) : fDiv (.int i) (.int j) = if bDivZ i j = true then some (.val (.int (i.fdiv j))) else none := (rfl)
@[simp] theorem fPow_ii (i j : Int) : fPow (.int i) (.int j) = if bPow i j = true then some (.val (.int (i ^ j.toNat))) else none := (rfl)
@[simp] theorem fCmp_ii (p : Int → Int → Bool) (i j : Int) : fCmpI p (.int i) (.int j) = some (.val (.bool (p i j))) := (rfl)
@[simp] theorem fEq_ii (i j : Int) : fEq (.int i) (.int j) = some (.val (.bool (decide (i = j)))) := (rfl)
@[simp] theorem fNe_ii (i j : Int) : fNe (.int i) (.int j) = some (.val (.bool (!decide (i = j)))) := (rfl)
@[simp] theorem fEq_bb (i j : Bool) : fEq (.bool i) (.bool j) = some (.val (.bool (decide (i = j)))) := (rfl)
@[simp] theorem fNe_bb (i j : Bool) : fNe (.bool i) (.bool j) = some (.val (.bool (!decide (i = j)))) := (rfl)
@[simp] theorem fEq_ss (i j : Str) : fEq (.str i) (.str j) = some (.val (.bool (decide (i = j)))) := (rfl)
@[simp] theorem fNe_ss (i j : Str) : fNe (.str i) (.str j) = some (.val (.bool (!decide (i = j)))) := (rfl)
@[simp] theorem fIx_l (xs : List D) (i : Int) : fIx (.list xs) (.int i) = (atI xs i).map .val := (rfl)
@[simp] theorem fIx_t (xs : List D) (i : Int) : fIx (.tuple xs) (.int i) = (atI xs i).map .val := (rfl)
theorem atI_n {α : Type} {l : List α} {k : Nat} {a : α} (h : l[k]? = some a) : atI l (k : Int) = some a := by
  have hl := (List.getElem?_eq_some_iff.mp h).1
  unfold atI ixN
  rw [if_pos (by omega), if_pos (by omega)]
  simpa using h
@[simp] theorem atI0 {α : Type} (a : α) (l : List α) : atI (a :: l) 0 = some a := atI_n (k := 0) rfl
@[simp] theorem atI1 {α : Type} (a b : α) (l : List α) : atI (a :: b :: l) 1 = some b := atI_n (k := 1) rfl
@[simp] theorem atI2 {α : Type} (a b c : α) (l : List α) : atI (a :: b :: c :: l) 2 = some c := atI_n (k := 2) rfl
@[simp] theorem atI3 {α : Type} (a b c d : α) (l : List α) : atI (a :: b :: c :: d :: l) 3 = some d := atI_n (k := 3) rfl
@[simp] theorem atI4 {α : Type} (a b c d e : α) (l : List α) : atI (a :: b :: c :: d :: e :: l) 4 = some e := atI_n (k := 4) rfl
@[simp] theorem fLen_l (ds : List D) : fLen [.list ds] = some (.val (.int ds.length)) := (rfl)
@[simp] theorem fLen_t (ds : List D) : fLen [.tuple ds] = some (.val (.int ds.length)) := (rfl)
@[simp] theorem fAbs_i (i : Int) : fAbs [.int i] = some (.val (.int i.natAbs)) := (rfl)
@[simp] theorem fIsi_d (b : D → Bool) (d : D) : fIsi b [d] = some (.val (.bool (b d))) := (rfl)
def rngO (ρ : Rho) : Option D → Out (List D)
  | some (.int j) => if -(2 ^ 62) ≤ j ∧ j < 2 ^ 62 then .ok (irange 0 j.toNat) ρ else .bad
  | _ => .bad
@[simp] theorem rng1_ap (r : R) (ρ : Rho) : rng1 [r] ρ = rngO ρ (look r ρ) := (rfl)
theorem rngO_int (ρ : Rho) (j : Int) : rngO ρ (some (.int j)) = if -(2 ^ 62) ≤ j ∧ j < 2 ^ 62 then .ok (irange 0 j.toNat) ρ else .bad := (rfl)
theorem rng_nat (ρ : Rho) {n : Nat} (h : n ≤ 1000000000) : rngO ρ (some (.int (n : Int))) = .ok (irange 0 n) ρ := by
  rw [rngO_int, if_pos (by omega), Int.toNat_natCast]
/-- a divisor that is no too great number -/
def Dvs (j : Int) : Prop := j ≠ 0 ∧ j.natAbs.log2 < 9000
theorem Dvs.ok {i j : Int} (h : Dvs j) : bDivZ i j = true := by
  unfold bDivZ
  rw [decide_eq_true h.1, decide_eq_true h.2]
  rfl
def itO (ρ : Rho) : Option (List D) → Out (List D)
  | some ds => .ok ds ρ
  | none => .bad
@[simp] theorem itO_some (ρ : Rho) (ds : List D) : itO ρ (some ds) = .ok ds ρ := (rfl)
@[simp] theorem items_ap (r : R) (ρ : Rho) : items r ρ = (frz r ρ).bnd fun d ρ' => itO ρ' (itemsD d) := by
  show (frz r ρ).bnd _ = _
  congr 1
@[simp] theorem itemsD_l (ds : List D) : itemsD (.list ds) = some ds := (rfl)
@[simp] theorem itemsD_t (ds : List D) : itemsD (.tuple ds) = some ds := (rfl)
@[simp] theorem itemsD_s (z : Str) : itemsD (.str z) = some (chars z) := (rfl)
def Out.ofI (o : Option D) (ρ : Rho) : Out (Option Int) := match o with
  | some (.int i) => .ok (some i) ρ
  | _ => .bad
@[simp] theorem asInt_ap (r : R) (ρ : Rho) : asInt r ρ = Out.ofI (look r ρ) ρ := (rfl)
@[simp] theorem ofI_int (i : Int) (ρ : Rho) : Out.ofI (some (.int i)) ρ = .ok (some i) ρ := (rfl)
@[simp] theorem opSl_ap (ra : R) (lo hi : Option Int) (ρ : Rho) : opSl ra lo hi ρ = Out.ofT ((look ra ρ).bind fun x => fSl x lo hi) ρ := by
  unfold opSl
  cases look ra ρ <;> rfl
@[simp] theorem fSl_l (xs : List D) (lo hi) : fSl (.list xs) lo hi = some (.lst none ((xs.drop (HT.sIx xs.length 0 lo)).take (HT.sIx xs.length xs.length hi - HT.sIx xs.length 0 lo))) := (rfl)
theorem log2_le {n N : Nat} (h : n < 2 ^ N) : n.log2 ≤ N := by
  by_cases z : n = 0
  · subst z
    simp
  · exact Nat.le_of_lt ((Nat.log2_lt z).mpr h)
theorem bMul_of {i j : Int} (N M : Nat) (hi : i.natAbs < 2 ^ N) (hj : j.natAbs < 2 ^ M) (h : N + M < 1000000) : bMul i j = true := by
  have a := log2_le hi
  have b := log2_le hj
  exact decide_eq_true (by omega)
theorem bDivZ_of {i j : Int} (N : Nat) (h0 : j ≠ 0) (hj : j.natAbs < 2 ^ N) (h : N < 9000) : bDivZ i j = true := by
  have b := log2_le hj
  unfold bDivZ
  rw [decide_eq_true h0, decide_eq_true (by omega)]
  rfl
theorem atI_get {l : List D} {i : Int} (h0 : 0 ≤ i) (h1 : i < l.length) : atI l i = some (l.getD i.toNat .none) := by
  unfold atI ixN
  rw [if_pos h0, if_pos h1]
  have : i.toNat < l.length := by omega
  simp [this]
theorem atI_mem {l : List D} {i : Int} (h0 : 0 ≤ i) (h1 : i < l.length) : ∃ d ∈ l, atI l i = some d := by
  have : i.toNat < l.length := by omega
  exact ⟨l[i.toNat], List.getElem_mem this, by rw [atI_get h0 h1]; simp [this]⟩
/-- an int of a written list of ints -/
theorem atI_int {l : List Int} {i : Int} (h0 : 0 ≤ i) (h1 : i < l.length) : ∃ v ∈ l, atI (l.map PyData.int) i = some (.int v) := by
  obtain ⟨d, hd, e⟩ := atI_mem (l := l.map PyData.int) h0 (by simpa using h1)
  obtain ⟨v, hv, rfl⟩ := List.mem_map.mp hd
  exact ⟨v, hv, e⟩
end DL
set_option Elab.async false
set_option maxRecDepth 100000
set_option maxHeartbeats 4000000
namespace DL
open PySem PySem.Spec PyProof.Rows L2
def g_cell : M Fl := seqM (ifS (tcmp fLt (getM 1) (callB fLen (argC (getM 0) (argN)))) (retS (bin fIx (getM 0) (getM 1))) (nilS))
  (retS (cst (.int 0)))
def f_cell : List D → FO := runF 0 g_cell
theorem cell_ok (ns : List Int) (k : Nat) : f_cell [.list (ns.map .int), .int k] = .ok (.val (.int (ns.getD k 0))) := by
  unfold f_cell g_cell
  rw [run_eq]
  by_cases h : k < ns.length
  · have e : atI (ns.map PyData.int) (k : Int) = some (.int (ns.getD k 0)) := atI_n (by simp [h])
    simp [h, e]
  · have e : ns.getD k 0 = 0 := by simp [h]
    simp [h, e]
theorem fmod_pos {a b : Int} (hb : 0 < b) : 0 ≤ a.fmod b ∧ a.fmod b < b := by
  rw [Int.fmod_eq_emod_of_nonneg _ (by omega)]
  exact ⟨Int.emod_nonneg _ (by omega), Int.emod_lt_of_pos _ hb⟩
def okRow (b : Int) (row : List Int) : Prop := ∀ x ∈ row, 0 ≤ x ∧ x < b
theorem irange_cons (lo : Int) (n : Nat) : irange lo (n + 1) = .int lo :: irange (lo + 1) n := by
  unfold irange
  rw [List.range_succ_eq_map]
  simp only [List.map_cons, List.map_map]
  congr 1
  · simp
  · apply List.map_congr_left
    intro i _
    simp only [Function.comp_apply, Nat.succ_eq_add_one]
    congr 1
    omega
@[simp] theorem irange_len (lo : Int) (n : Nat) : (irange lo n).length = n := by simp [irange]
end DL
set_option Elab.async false
set_option maxRecDepth 100000
set_option maxHeartbeats 4000000
namespace DL
open PySem PySem.Spec PyProof.Rows L2
section
variable {K : PySem.W.Frag} {P O : List Addr} {A : List V} {H H' : Hp} {σ σ' : L2.St} {ρ ρ' : Rho} {v : V}
theorem wipe_get {σ : L2.St} {i : Nat} : ∀ {vs : List Nat}, i ∉ vs → (wipe σ vs)[i]? = σ[i]?
  | [], _ => rfl
  | w :: vs, h => by
    unfold wipe
    rw [List.getElem?_set_ne (fun z => h (by rw [z]; exact List.mem_cons_self)), wipe_get fun z => h (List.mem_cons_of_mem _ z)]
/-- slots that are not known are anybody's -/
theorem EnvR.slots (e : EnvR K P A O H σ ρ) (hl : σ'.length = σ.length) (h : ∀ (i : Nat) (t : T), ρ[i]? = some (some t) → σ'[i]? = σ[i]?) : EnvR K P A O H σ' ρ where
  len := by rw [hl]; exact e.len
  at_ := by
    obtain ⟨Fs, h1, h2⟩ := e.at_
    refine ⟨Fs, fun i t q => ?_, h2⟩
    obtain ⟨v, e1, r⟩ := h1 i t q
    exact ⟨v, by rw [h i t q]; exact e1, r⟩
  prot := e.prot
  trk := e.trk
  tag := fun i k t q ht => by
    obtain ⟨v, e1, e2⟩ := e.tag i k t q ht
    exact ⟨v, by rw [h i _ q]; exact e1, e2⟩
theorem EnvR.forget (e : EnvR K P A O H σ ρ) (i : Nat) : EnvR K P A O H σ (ρ.set i none) where
  len := by rw [List.length_set]; exact e.len
  at_ := by
    obtain ⟨Fs, h1, h2⟩ := e.at_
    refine ⟨Fs, fun j t q => ?_, h2⟩
    rcases get_set q with ⟨_, q'⟩ | ⟨_, q'⟩
    · cases q'
    · exact h1 j t q'
  prot := e.prot
  trk := e.trk
  tag := fun j k t q ht => by
    rcases get_set q with ⟨_, q'⟩ | ⟨_, q'⟩
    · cases q'
    · exact e.tag j k t q' ht
def wipeR (ρ : Rho) : List Nat → Rho
  | [] => ρ
  | i :: is => (wipeR ρ is).set i none
theorem EnvR.wipe (e : EnvR K P A O H σ ρ) : ∀ is : List Nat, EnvR K P A O H σ (wipeR ρ is)
  | [] => e
  | i :: is => (EnvR.wipe e is).forget i
theorem wipeR_not {i : Nat} {t : T} : ∀ {is : List Nat}, (wipeR ρ is)[i]? = some (some t) → i ∉ is
  | [], _ => List.not_mem_nil
  | j :: is, h => by
    unfold wipeR at h
    rcases get_set h with ⟨_, q'⟩ | ⟨h1, q'⟩
    · cases q'
    · exact fun z => (List.mem_cons.mp z).elim h1 (wipeR_not q')
/-- the frame's slots, the own ones wiped, are those of any frame with the others alike -/
theorem EnvR.back {own : List Nat} (e : EnvR K P A O H σ' ρ) (hl : σ'.length = σ.length) (h : L2.wipe σ' own = L2.wipe σ own) : EnvR K P A O H σ (wipeR ρ own) :=
  (e.wipe own).slots hl.symm fun i t q => by
    have n := wipeR_not q
    rw [← wipe_get (σ := σ) n, ← h, wipe_get n]
/-- a thing is put into a slot that holds no own list -/
def put1 (i : Nat) (d : D) (ρ : Rho) : Option Rho := match ρ[i]? with
  | some none => some (ρ.set i (some (.val d)))
  | some (some (.val _)) => some (ρ.set i (some (.val d)))
  | _ => none
theorem EnvR.put1 {i : Nat} {d : D} (e : EnvR K P A O H σ ρ) (r : Rp K (wo (O ++ P) H) v d) (h : DL.put1 i d ρ = some ρ') : EnvR K P A O H (σ.set i (some v)) ρ' := by
  have key : i < ρ.length ∧ ρ' = ρ.set i (some (.val d)) := by
    unfold DL.put1 at h
    split at h
    · rename_i q
      cases h
      exact ⟨(List.getElem?_eq_some_iff.mp q).1, rfl⟩
    · rename_i q
      cases h
      exact ⟨(List.getElem?_eq_some_iff.mp q).1, rfl⟩
    · cases h
  obtain ⟨hi, rfl⟩ := key
  have hi2 : i < σ.length := by rw [← e.len]; exact hi
  obtain ⟨Fs, h1, h2⟩ := e.at_
  refine ⟨by rw [List.length_set, List.length_set]; exact e.len, ⟨fun j => if j = i then [] else Fs j, fun j t q => ?_, fun j k hjk b hb => ?_⟩, e.prot, e.trk, fun j k t' q ht => ?_⟩
  · dsimp only
    rcases get_set q with ⟨hj, q'⟩ | ⟨hj, q'⟩
    · subst hj
      cases q'
      rw [if_pos rfl]
      exact ⟨v, by simp [hi2], .val r, fun a ha => absurd ha List.not_mem_nil⟩
    · rw [if_neg hj]
      obtain ⟨w, e1, r1⟩ := h1 j t q'
      exact ⟨w, by rw [List.getElem?_set_ne (Ne.symm hj)]; exact e1, r1⟩
  · dsimp only at hb ⊢
    by_cases hj : j = i
    · rw [if_pos hj] at hb
      exact absurd hb List.not_mem_nil
    · rw [if_neg hj] at hb
      by_cases hk : k = i
      · rw [if_pos hk]
        exact List.not_mem_nil
      · rw [if_neg hk]
        exact h2 j k hjk b hb
  · rcases get_set q with ⟨hj, q'⟩ | ⟨hj, q'⟩
    · cases q'
      cases ht
    · obtain ⟨w, e1, e2⟩ := e.tag j k t' q' ht
      exact ⟨w, by rw [List.getElem?_set_ne (Ne.symm hj)]; exact e1, e2⟩
end
/-- pure targets: only slots among own change -/
def GP (K : PySem.W.Frag) (own : List Nat) (g : TG) (f : D → Rho → Option Rho) : Prop := ∀ (P : List Addr) (A : List V) (O : List Addr) (H : Hp) (σ : L2.St) (ρ ρ' : Rho) (v : V) (d : D) (Q : L2.St → Hp → Prop),
  EnvR K P A O H σ ρ → Rp K (wo (O ++ P) H) v d → f d ρ = some ρ' → (∀ σ', EnvR K P A O H σ' ρ' → wipe σ' own = wipe σ own → σ'.length = σ.length → Q σ' H) → g v σ H Q
section
variable {K : PySem.W.Frag} {own : List Nat}
theorem wipe_set {σ : L2.St} {i : Nat} {x : Option V} : ∀ {vs : List Nat}, i ∈ vs → wipe (σ.set i x) vs = wipe σ vs
  | [], h => absurd h List.not_mem_nil
  | w :: vs, h => by
    unfold wipe
    by_cases hi : i ∈ vs
    · rw [wipe_set hi]
    · have e : i = w := (List.mem_cons.mp h).resolve_right hi
      subst e
      have key : ∀ (σ : L2.St) (x : Option V) (ws : List Nat), i ∉ ws → (wipe (σ.set i x) ws) = (wipe σ ws).set i x := by
        intro σ x ws
        induction ws with
        | nil => exact fun _ => rfl
        | cons a ws ih =>
          intro hn
          unfold wipe
          rw [ih fun z => hn (List.mem_cons_of_mem _ z), List.set_comm _ _ (fun z => hn (by rw [z]; exact List.mem_cons_self))]
      rw [key σ x vs hi, List.set_set]
theorem gp_name {i : Nat} (h : i ∈ own) : GP K own (gName i) (put1 i) := by
  intro P A O H σ ρ ρ' v d Q e r hf hQ
  exact hQ _ (e.put1 r hf) (wipe_set h) (by rw [List.length_set])
theorem wipe_wipe {σ : L2.St} {vs : List Nat} : ∀ {ws : List Nat}, (∀ i ∈ ws, i ∈ vs) → wipe (wipe σ ws) vs = wipe σ vs
  | [], _ => rfl
  | w :: ws, h => by
    show wipe ((wipe σ ws).set w none) vs = _
    rw [wipe_set (h w List.mem_cons_self)]
    exact wipe_wipe fun i hi => h i (List.mem_cons_of_mem _ hi)
end
/-- one item: the own slots are the block's; behind it they are nobody's -/
def lcOne (f : D → Rho → Option Rho) (tt : M Bool) (me : M R) (own : List Nat) (d : D) (acc : List D) (ρ : Rho) : Out (List D) := match f d ρ with
  | none => .bad
  | some ρ1 => match tt ρ1 with
    | .ok false ρ2 => .ok acc (wipeR ρ2 own)
    | .ok true ρ2 => (match M.bind me frz ρ2 with
      | .ok y ρ3 => if acc.length < sizeLine then .ok (acc ++ [y]) (wipeR ρ3 own) else .bad
      | _ => .bad)
    | _ => .bad
def lcLoop (f : D → Rho → Option Rho) (tt : M Bool) (me : M R) (own : List Nat) : List D → List D → M (List D)
  | [], acc => .ret acc
  | d :: ds, acc => fun ρ => match lcOne f tt me own d acc ρ with
    | .ok acc' ρ' => lcLoop f tt me own ds acc' ρ'
    | .exc x ρ' => .exc x ρ'
    | .bad => .bad
def lcM (f : D → Rho → Option Rho) (tt : M Bool) (me : M R) (own : List Nat) (mi : M (List D)) : M R := M.bind mi fun ds ρ => match lcLoop f tt me own ds [] (wipeR ρ own) with
  | .ok xs ρ' => .ok (.tmp (.lst none xs)) ρ'
  | _ => .bad
abbrev W0 : WX := fun _ _ _ _ => False
theorem lcOne_noexc {f : D → Rho → Option Rho} {tt : M Bool} {me : M R} {own : List Nat} {d : D} {acc : List D} {ρ ρ' : Rho} {x : XD} : lcOne f tt me own d acc ρ ≠ .exc x ρ' := by
  unfold lcOne
  split
  · exact fun z => nomatch z
  · split
    · exact fun z => nomatch z
    · split
      · split <;> exact fun z => nomatch z
      · exact fun z => nomatch z
    · exact fun z => nomatch z
theorem lcOne_inv {f : D → Rho → Option Rho} {tt : M Bool} {me : M R} {own : List Nat} {d : D} {acc acc' : List D} {ρ ρ' : Rho} (q : lcOne f tt me own d acc ρ = .ok acc' ρ') : ∃ ρ1, f d ρ = some ρ1 ∧
    ((∃ ρ2, tt ρ1 = .ok false ρ2 ∧ acc' = acc ∧ ρ' = wipeR ρ2 own) ∨ ∃ ρ2 r ρ3 y ρ4, tt ρ1 = .ok true ρ2 ∧ me ρ2 = .ok r ρ3 ∧ frz r ρ3 = .ok y ρ4 ∧ acc.length < sizeLine ∧ acc' = acc ++ [y] ∧ ρ' = wipeR ρ4 own) := by
  unfold lcOne at q
  split at q
  · cases q
  · rename_i ρ1 h1
    refine ⟨ρ1, h1, ?_⟩
    split at q
    · rename_i ρ2 h2
      cases q
      exact .inl ⟨ρ2, h2, rfl, rfl⟩
    · rename_i ρ2 h2
      split at q
      · rename_i y ρ4 h4
        split at q
        · rename_i hl
          cases q
          unfold M.bind at h4
          cases h5 : me ρ2 with
          | bad => rw [h5] at h4; cases h4
          | exc x ρ' => rw [h5] at h4; cases h4
          | ok r ρ3 =>
            rw [h5] at h4
            exact .inr ⟨ρ2, r, ρ3, y, ρ4, h2, h5, h4, hl, rfl, rfl⟩
        · cases q
      · cases q
    · cases q
theorem wo_updP {Z : List Addr} {H : Hp} {p : Addr} {o : HO} (hp : p ∈ Z) : ∀ b u, wo Z H b = some u → wo Z (upd H p o) b = some u := fun b u q => by
  obtain ⟨q1, q2⟩ := wo_some.mp q
  refine wo_some.mpr ⟨q1, ?_⟩
  rw [upd_ne fun z => q1 (by rw [z]; exact hp)]
  exact q2
theorem Step.upNew {O O' : List Addr} {H H' : Hp} {p : Addr} {o : HO} (s : Step O H O' H') (h : H p = none) : Step O H O' (upd H' p o) :=
  ⟨s.own, fun a u z q => by
    rw [upd_ne (ne_of_none q h)]
    exact s.ext a u z q, fun a u q => by
    rw [upd_ne (ne_of_none q h)]
    exact s.stay a u q⟩
/-- a protected list is stored to -/
theorem EnvR.upP {K : PySem.W.Frag} {P O : List Addr} {A : List V} {H : Hp} {σ : L2.St} {ρ : Rho} {p : Addr} {o : HO} (e : EnvR K P A O H σ ρ) (hp : p ∈ P) : EnvR K P A O (upd H p o) σ ρ := by
  have nO : p ∉ O := (e.prot p hp).1
  have same : ∀ b u, wo (O ++ P) H b = some u → wo (O ++ P) (upd H p o) b = some u := fun b u q => by
    obtain ⟨q1, q2⟩ := wo_some.mp q
    refine wo_some.mpr ⟨q1, ?_⟩
    rw [upd_ne fun z => q1 (by rw [z]; exact List.mem_append_right _ hp)]
    exact q2
  obtain ⟨Fs, h1, h2⟩ := e.at_
  have ex : ∀ b, (∃ u, H b = some u) → ∃ u, upd H p o b = some u := fun b ⟨u, q⟩ => by
    by_cases z : b = p
    · subst z
      exact ⟨_, upd_same⟩
    · exact ⟨u, by rw [upd_ne z]; exact q⟩
  refine ⟨e.len, ⟨Fs, fun i t q => ?_, h2⟩, fun a ha => ⟨(e.prot a ha).1, ex a (e.prot a ha).2⟩, fun a ha => ex a (e.trk a ha), e.tag⟩
  obtain ⟨w, e1, r, hO⟩ := h1 i t q
  exact ⟨w, e1, r.keep same fun a ha => ⟨List.mem_append_left _ (hO a ha), upd_ne fun z => nO (by rw [← z]; exact hO a ha)⟩, hO⟩
section
variable {X : Cx} {W : WX} {elt tg iter : Expr} {ifs : List Expr} {scope : Scope} {own : List (Str × Nat)} {pos : Pos} {mi : M (List D)} {g : TG} {f : D → Rho → Option Rho} {mt : M Bool} {me : M R}
abbrev JTs (X : Cx) (W : WX) (ifs : List Expr) (m : M Bool) : Prop := PTs X ifs (tBo X.K X.mg W m)
theorem jts_nil : JTs X W [] (.ret true) := ⟨fun pins s σ H Q I h => pts_nil.run pins s σ H Q I (ret_B h)⟩
def lcEnd (o : Out (List D)) : Out R := match o with
  | .ok xs ρ' => .ok (.tmp (.lst none xs)) ρ'
  | _ => .bad
theorem lc_read (hf : GP X.K (own.map (·.2)) g f) {σ : L2.St} {H : Hp} {Q : VK} (h : tR X.K X.mg W (lcM f mt me (own.map (·.2)) mi) σ H Q) : tLc (tI X.K X.mg W mi) g (tBo X.K X.mg W0 mt) (tR X.K X.mg W0 me) (own.map (·.2)) σ H Q := by
  obtain ⟨P, A, O, ρ, e, h⟩ := h
  refine ⟨P, A, O, ρ, e, (Aft.bind (rl := relI X.K σ) h).mono ?_⟩
  rintro J H1 ⟨O1, ρ1, ds, F, e1, ⟨rfl, hJ⟩, s1, h1⟩ Dn hD
  replace h1 := Aft.step h1 s1.less
  have e1 : EnvR X.K P A O1 H1 σ ρ1 := e1
  generalize hown : own.map (·.2) = vs at h1 hf ⊢
  have h1 : Aft (relR X.K σ) X.K X.mg W P A σ O1 H1 (lcEnd (lcLoop f mt me vs ds [] (wipeR ρ1 vs))) Q := h1
  have n2 : ∀ (i : Nat) (t : T), (wipeR ρ1 vs)[i]? = some (some t) → i ∉ vs := fun i t q => wipeR_not q
  generalize hρ : wipeR ρ1 vs = ρ2 at h1 n2
  have sD : Step O1 H1 O1 (upd H1 Dn (.lst [])) := Step.more (upd_more hD)
  have e2 : EnvR X.K ([Dn] ++ P) A O1 (upd H1 Dn (.lst [])) σ ρ2 := by
    rw [← hρ]
    exact ((e1.new (F := [Dn]) (upd_more hD) fun a ha => by
      rw [List.mem_singleton.mp ha]
      exact ⟨hD, _, upd_same⟩).wipe vs)
  refine ⟨fun i m H => m = ds.length - i ∧ i ≤ ds.length ∧ ∃ O ρ acc xs, EnvR X.K ([Dn] ++ P) A O H σ ρ ∧ (∀ (i : Nat) (t : T), ρ[i]? = some (some t) → i ∉ vs) ∧ Step O1 H1 O H ∧ H Dn = some (.lst acc) ∧ RpAll X.K (wo (O ++ ([Dn] ++ P)) H) acc xs ∧
    Aft (relR X.K σ) X.K X.mg W P A σ O1 H1 (lcEnd (lcLoop f mt me vs (ds.drop i) xs ρ)) Q, ⟨ds.length, by simp, Nat.zero_le _, O1, ρ2, [], [], e2, n2, sD, upd_same, .nil, h1⟩, ?_⟩
  rintro i m H2 ⟨rfl, hi, O2, ρ3, acc, xs, e3, n3, s3, hH, hx, h3⟩
  have J2 := hJ [Dn] A O2 H2 σ ρ3 (fun a ha => by rw [List.mem_singleton.mp ha]; exact hD) e3 s3 i
  by_cases hlt : i < ds.length
  · have hd : ds[i]? = some ds[i] := List.getElem?_eq_getElem hlt
    obtain ⟨g1, g2⟩ := J2.1 _ hd
    rw [List.drop_eq_getElem_cons hlt] at h3
    refine .inr ⟨g1, fun H => ∃ O ρ acc xs, EnvR X.K ([Dn] ++ P) A O H σ ρ ∧ (∀ (i : Nat) (t : T), ρ[i]? = some (some t) → i ∉ vs) ∧ Step O1 H1 O H ∧ H Dn = some (.lst acc) ∧ RpAll X.K (wo (O ++ ([Dn] ++ P)) H) acc xs ∧
      Aft (relR X.K σ) X.K X.mg W P A σ O1 H1 (lcEnd (lcLoop f mt me vs (ds.drop (i + 1)) xs ρ)) Q, fun H' z => ⟨ds.length - (i + 1), by omega, rfl, hlt, z⟩, fun x H' y => ?_⟩
    obtain ⟨m1, rv⟩ := g2 x H' y
    have e4 : EnvR X.K ([Dn] ++ P) A O2 H' σ ρ3 := e3.more m1
    have s4 : Step O1 H1 O2 H' := s3.trans (Step.more m1)
    have hH' : H' Dn = some (.lst acc) := m1 _ _ hH
    have hx' : RpAll X.K (wo (O2 ++ ([Dn] ++ P)) H') acc xs := hx.mono (wo_le m1)
    unfold lcLoop at h3
    cases q1 : lcOne f mt me vs ds[i] xs ρ3 with
    | bad =>
      simp only [q1] at h3
      exact h3.elim
    | exc x ρ' => exact (lcOne_noexc q1).elim
    | ok acc' ρ' =>
      simp only [q1] at h3
      obtain ⟨ρ4, qf, qq⟩ := lcOne_inv q1
      have e5 : EnvR X.K ([Dn] ++ P) A O2 H' (wipe σ vs) ρ3 := e4.slots (wipe_length _ _) fun i t q => wipe_get (n3 i t q)
      refine hf _ A O2 H' (wipe σ vs) ρ3 ρ4 x _ _ e5 rv qf fun σ2 e6 w6 l6 => ?_
      have w7 : wipe σ2 vs = wipe σ vs := w6.trans (wipe_wipe fun _ h => h)
      have l7 : σ2.length = σ.length := l6.trans (wipe_length _ _)
      have nD : ∀ {O : List Addr} {H : Hp} {σ : L2.St} {ρ : Rho}, EnvR X.K ([Dn] ++ P) A O H σ ρ → Dn ∉ O := fun e => (e.prot Dn (List.mem_append_left _ (List.mem_singleton.mpr rfl))).1
      refine ⟨w7, [Dn] ++ P, A, O2, ρ4, e6, ?_⟩
      rcases qq with ⟨ρ5, q2, rfl, rfl⟩ | ⟨ρ5, r, ρ6, d, ρ7, q2, q3, q4, hl, rfl, rfl⟩
      · rw [q2]
        rintro b H3 O3 F e7 rfl s7
        rw [if_neg (by decide)]
        exact ⟨O3, wipeR ρ5 vs, acc, acc', e7.less.back l7 w7, fun i t q => wipeR_not q, s4.trans s7.less, s7.ext _ _ (nD e4) hH', hx'.mono (s7.less.wo e4.prot), h3⟩
      · rw [q2]
        rintro b H3 O3 F e7 rfl s7
        rw [if_pos rfl]
        have e8 := e7.less
        have hH3 : H3 Dn = some (.lst acc) := s7.ext _ _ (nD e4) hH'
        have hx3 := hx'.mono (s7.less.wo e4.prot)
        refine ⟨[Dn] ++ P, A, O3, ρ5, e8, ?_⟩
        rw [q3]
        intro v H4 O4 F2 e9 r9 s9
        obtain ⟨O5, e10, s10, rp⟩ := frz_ok e9 r9 q4
        have s11 := s9.less.trans s10
        have hH4 : H4 Dn = some (.lst acc) := s11.ext _ _ (nD e8) hH3
        have hx4 := hx3.mono (s11.wo e8.prot)
        have mD : Dn ∈ O5 ++ ([Dn] ++ P) := List.mem_append_right _ (List.mem_append_left _ (List.mem_singleton.mpr rfl))
        refine ⟨acc, hH4, by rw [hx4.length]; exact hl, O5, wipeR ρ7 vs, acc ++ [v], xs ++ [d], (e10.upP (List.mem_append_left _ (List.mem_singleton.mpr rfl))).back l7 w7, fun i t q => wipeR_not q, ?_, upd_same, ?_, h3⟩
        · exact ((s4.trans s7.less).trans s11).upNew hD
        · exact (hx4.append (.cons rp .nil)).mono (wo_updP mD)
  · have hl : i = ds.length := by omega
    rw [List.drop_of_length_le (by omega)] at h3
    refine .inl ⟨J2.2 (by omega), ?_⟩
    have h4 : Aft (relR X.K σ) X.K X.mg W P A σ O1 H1 (.ok (.tmp (.lst none xs)) ρ3) Q := h3
    refine h4 (.ref Dn) H2 O2 [Dn] e3 ⟨.lst (List.mem_append_left _ (List.mem_singleton.mpr rfl)) hH (hx.mono fun a o z => ?_), fun a ha z => ?_, rfl⟩ ⟨fun a ha => ?_, s3.ext, s3.stay⟩
    · obtain ⟨z1, z2⟩ := wo_some.mp z
      simp only [List.mem_append, not_or] at z1
      exact wo_some.mpr ⟨by simp only [List.mem_append, not_or]; exact ⟨z1.2.1, z1.1, z1.2.2⟩, z2⟩
    · rw [List.mem_singleton.mp ha] at z
      obtain ⟨_, o, q⟩ := e1.prot _ z
      rw [hD] at q
      cases q
    · rcases List.mem_append.mp ha with z | z
      · rw [List.mem_singleton.mp z]
        exact .inr hD
      · exact s3.own a z
theorem j_lc (hc : X.calm = true) (hN : X.N.Nodup) (hi : JI X W tg iter mi) (ok : BlkOk X.N X.env.scope scope own) (hf : GP X.K (own.map (·.2)) g f)
    (hg : ∀ (s : Shared) (H : Hp) (C : Addr) (cl : List (Str × Addr)) (fp : List Addr), PG (X.blk s H scope (compEnvC scope cl C X.env) fp) tg g) (ht : ∀ (s : Shared) (H : Hp) (C : Addr) (cl : List (Str × Addr)) (fp : List Addr), JTs (X.blk s H scope (compEnvC scope cl C X.env) fp) W0 ifs mt)
    (he : ∀ (s : Shared) (H : Hp) (C : Addr) (cl : List (Str × Addr)) (fp : List Addr), JE (X.blk s H scope (compEnvC scope cl C X.env) fp) W0 elt me) (hs : ∀ x, foldedSetIterable iter X.env x = pure x) :
    JE X W (.ListComp elt [⟨tg, iter, ifs, 0⟩] scope pos) (lcM f mt me (own.map (·.2)) mi) := (pe_lc hc hN hi ok hg ht he hs).imp fun σ H Q h => lc_read hf h
/-- name = [..] on one line -/
theorem js_setLc {i : Nat} {y : Str} {py spos : Pos} (hc : X.calm = true) (hN : X.N.Nodup) (hy : X.N[i]? = some y) (hyl : X.env.scope.names.lookup y = some .local)
    (hsw : swapsWith (.ListComp elt [⟨tg, iter, ifs, 0⟩] scope pos) (some (.Name y py)) spos.line X.env = pure true) (hi : JI X W tg iter mi) (ok : BlkOk X.N X.env.scope scope own) (hf : GP X.K (own.map (·.2)) g f)
    (hg : ∀ (s : Shared) (H : Hp) (C : Addr) (cl : List (Str × Addr)) (fp : List Addr), PG (X.blk s H scope (compEnvC scope cl C X.env) fp) tg g) (ht : ∀ (s : Shared) (H : Hp) (C : Addr) (cl : List (Str × Addr)) (fp : List Addr), JTs (X.blk s H scope (compEnvC scope cl C X.env) fp) W0 ifs mt)
    (he : ∀ (s : Shared) (H : Hp) (C : Addr) (cl : List (Str × Addr)) (fp : List Addr), JE (X.blk s H scope (compEnvC scope cl C X.env) fp) W0 elt me) (hs : ∀ x, foldedSetIterable iter X.env x = pure x) :
    JS X W (.Assign [.Name y py] (.ListComp elt [⟨tg, iter, ifs, 0⟩] scope pos) spos) (setS i (lcM f mt me (own.map (·.2)) mi)) :=
  js_set (ps_setLc hc hN hy hyl hsw hi ok hg ht he hs) fun σ H Q h => lc_read hf h
end
end DL
set_option Elab.async false
set_option maxRecDepth 100000
set_option maxHeartbeats 4000000
namespace DL
open PySem PySem.Spec PyProof.Rows L2
theorem paired1 {K : PySem.W.Frag} {Z : List Addr} {H : Hp} {vs : List V} {d : D} (h : Paired (VR K Z H) vs [d]) : ∃ v, vs = [v] ∧ VR K Z H v d := by
  cases h with
  | cons a b =>
    cases b
    exact ⟨_, rfl, a⟩
theorem paired2 {K : PySem.W.Frag} {Z : List Addr} {H : Hp} {vs : List V} {d d' : D} (h : Paired (VR K Z H) vs [d, d']) : ∃ v v', vs = [v, v'] ∧ VR K Z H v d ∧ VR K Z H v' d' := by
  cases h with
  | cons a b =>
    obtain ⟨v', rfl, r⟩ := paired1 b
    exact ⟨_, _, rfl, a, r⟩
def fMax2 : List D → Option T
  | [.int i, .int j] => some (.val (.int (if j > i then j else i)))
  | _ => none
def fMin2 : List D → Option T
  | [.int i, .int j] => some (.val (.int (if j < i then j else i)))
  | _ => none
theorem max2_ok {K : PySem.W.Frag} : CallOk K (fun xs H Q => ∃ i j, xs = [.int i, .int j] ∧ Q (.int (if j > i then j else i)) H) fMax2 := by
  intro Z H vs ds t Q hz hv hf q
  unfold fMax2 at hf
  split at hf
  · cases hf
    obtain ⟨v, v', rfl, a, b⟩ := paired2 hv
    cases a.int
    cases b.int
    exact ⟨_, _, rfl, q _ _ (NewT.scal (.int _))⟩
  · cases hf
theorem min2_ok {K : PySem.W.Frag} : CallOk K (fun xs H Q => ∃ i j, xs = [.int i, .int j] ∧ Q (.int (if j < i then j else i)) H) fMin2 := by
  intro Z H vs ds t Q hz hv hf q
  unfold fMin2 at hf
  split at hf
  · cases hf
    obtain ⟨v, v', rfl, a, b⟩ := paired2 hv
    cases a.int
    cases b.int
    exact ⟨_, _, rfl, q _ _ (NewT.scal (.int _))⟩
  · cases hf
def fInt1 : List D → Option T
  | [.int i] => some (.val (.int i))
  | [.bool k] => some (.val (.int (if k then 1 else 0)))
  | _ => none
theorem int1_ok {K : PySem.W.Frag} : CallOk K (fun xs H Q => (∃ i, xs = [.int i] ∧ Q (.int i) H) ∨ ∃ k, xs = [.bl k] ∧ Q (.int (if k then 1 else 0)) H) fInt1 := by
  intro Z H vs ds t Q hz hv hf q
  unfold fInt1 at hf
  split at hf
  · cases hf
    obtain ⟨v, rfl, a⟩ := paired1 hv
    cases a.int
    exact .inl ⟨_, rfl, q _ _ (NewT.scal (.int _))⟩
  · cases hf
    obtain ⟨v, rfl, a⟩ := paired1 hv
    cases a.bool
    exact .inr ⟨_, rfl, q _ _ (NewT.scal (.int _))⟩
  · cases hf
def fTuple : List D → Option T
  | [.list ds] => some (.val (.tuple ds))
  | [.tuple ds] => some (.val (.tuple ds))
  | _ => none
theorem tuple_ok {K : PySem.W.Frag} : CallOk K (fun xs H Q => ∃ p ys, xs = [.ref p] ∧ ((SqL K H p ys ∧ ∀ l, H l = none → Q (.ref l) (upd H l (.tup ys))) ∨ (SqT K H p ys ∧ Q (.ref p) H))) fTuple := by
  intro Z H vs ds t Q hz hv hf q
  unfold fTuple at hf
  split at hf
  · cases hf
    obtain ⟨v, rfl, a⟩ := paired1 hv
    obtain ⟨p, ws, rfl, h1, h2⟩ := a.list
    exact ⟨p, ws, rfl, .inl ⟨h1, fun l hl => q _ _ (NewT.tup hl (hz l hl) h2)⟩⟩
  · cases hf
    obtain ⟨v, rfl, a⟩ := paired1 hv
    obtain ⟨p, ws, rfl, h1, h2, h3⟩ := a.tuple
    exact ⟨p, ws, rfl, .inr ⟨h1, q _ _ (NewT.val h3)⟩⟩
  · cases hf
section
variable {X : Cx} {W : WX}
end
end DL
set_option Elab.async false
set_option maxRecDepth 100000
set_option maxHeartbeats 4000000
namespace DL
open PySem PySem.Spec PyProof.Rows L2
section
variable {ρ : Rho}
def lcFin (o : Out (List D)) : Out R := match o with
  | .ok xs ρ' => .ok (.tmp (.lst none xs)) ρ'
  | _ => .bad
@[simp] theorem lcFin_ok (xs : List D) (ρ : Rho) : lcFin (.ok xs ρ) = .ok (.tmp (.lst none xs)) ρ := (rfl)
@[simp] theorem lcM_ap (f : D → Rho → Option Rho) (tt : M Bool) (me : M R) (own : List Nat) (mi : M (List D)) (ρ : Rho) : lcM f tt me own mi ρ = (mi ρ).bnd fun ds ρ => lcFin (lcLoop f tt me own ds [] (wipeR ρ own)) := (rfl)
@[simp] theorem wipeR_nil (ρ : Rho) : wipeR ρ [] = ρ := (rfl)
@[simp] theorem wipeR_cons (ρ : Rho) (i : Nat) (is : List Nat) : wipeR ρ (i :: is) = (wipeR ρ is).set i none := (rfl)
def putO (i : Nat) (d : D) (ρ : Rho) : Option (Option T) → Option Rho
  | some none => some (ρ.set i (some (.val d)))
  | some (some (.val _)) => some (ρ.set i (some (.val d)))
  | _ => none
@[simp] theorem put1_ap (i : Nat) (d : D) (ρ : Rho) : put1 i d ρ = putO i d ρ ρ[i]? := (rfl)
@[simp] theorem putO_none (i : Nat) (d : D) (ρ : Rho) : putO i d ρ (some none) = some (ρ.set i (some (.val d))) := (rfl)
@[simp] theorem putO_val (i : Nat) (d e : D) (ρ : Rho) : putO i d ρ (some (some (.val e))) = some (ρ.set i (some (.val d))) := (rfl)
/-- a comprehension that leaves the slots as they are: what each item gives -/
theorem lcLoop_fm {f : D → Rho → Option Rho} {tt : M Bool} {me : M R} {own : List Nat} (g : D → Option D) : ∀ (ds acc : List D), (∀ d ∈ ds, match g d with
      | some y => ∃ ρ1 ρ2 r ρ3 ρ4, f d ρ = some ρ1 ∧ tt ρ1 = .ok true ρ2 ∧ me ρ2 = .ok r ρ3 ∧ frz r ρ3 = .ok y ρ4 ∧ wipeR ρ4 own = ρ
      | none => ∃ ρ1 ρ2, f d ρ = some ρ1 ∧ tt ρ1 = .ok false ρ2 ∧ wipeR ρ2 own = ρ) → acc.length + ds.length ≤ 16777216 → lcLoop f tt me own ds acc ρ = .ok (acc ++ ds.filterMap g) ρ
  | [], acc, _, _ => by simp [lcLoop]
  | d :: ds, acc, h, hl => by
    have h1 := h d List.mem_cons_self
    simp only [List.length_cons] at hl
    unfold lcLoop
    cases q : g d with
    | some y =>
      rw [q] at h1
      obtain ⟨ρ1, ρ2, r, ρ3, ρ4, a1, a2, a3, a4, a5⟩ := h1
      have e : lcOne f tt me own d acc ρ = .ok (acc ++ [y]) ρ := by
        unfold lcOne
        have a6 : M.bind me frz ρ2 = .ok y ρ4 := by
          rw [bind_ap, a3, bnd_ok, a4]
        simp only [a1, a2, a6, if_pos (sizeLine_lt (show acc.length < 16777216 by omega)), a5]
      rw [e]
      dsimp only
      rw [lcLoop_fm g ds (acc ++ [y]) (fun d hd => h d (List.mem_cons_of_mem _ hd)) (by simp; omega)]
      simp [q]
    | none =>
      rw [q] at h1
      obtain ⟨ρ1, ρ2, a1, a2, a3⟩ := h1
      have e : lcOne f tt me own d acc ρ = .ok acc ρ := by
        unfold lcOne
        simp only [a1, a2, a3]
      rw [e]
      dsimp only
      rw [lcLoop_fm g ds acc (fun d hd => h d (List.mem_cons_of_mem _ hd)) (by omega)]
      simp [q]
theorem lcLoop_map {f : D → Rho → Option Rho} {me : M R} {own : List Nat} (g : D → D) {ds : List D} (h : ∀ d ∈ ds, ∃ ρ1 r ρ3 ρ4, f d ρ = some ρ1 ∧ me ρ1 = .ok r ρ3 ∧ frz r ρ3 = .ok (g d) ρ4 ∧ wipeR ρ4 own = ρ) (hl : ds.length ≤ 16777216) :
    lcLoop f (M.ret true) me own ds [] ρ = .ok (ds.map g) ρ := by
  rw [lcLoop_fm (fun d => some (g d)) ds [] (fun d hd => by
    obtain ⟨ρ1, r, ρ3, ρ4, a1, a2, a3, a4⟩ := h d hd
    exact ⟨ρ1, ρ1, r, ρ3, ρ4, a1, rfl, a2, a3, a4⟩) (by simpa using hl)]
  simp
/-- a small comprehension, item by item -/
@[simp] theorem lcLoop_nil (f : D → Rho → Option Rho) (tt : M Bool) (me : M R) (own : List Nat) (acc : List D) (ρ : Rho) : lcLoop f tt me own [] acc ρ = .ok acc ρ := (rfl)
def seqO (n : Nat) (fs : List D → M Unit) : D → M Unit
  | .tuple ds => if ds.length = n then fs ds else .bad
  | .list ds => if ds.length = n then fs ds else .bad
  | _ => .bad
@[simp] theorem asgSeq_ap (n : Nat) (fs : List D → M Unit) (r : R) (ρ : Rho) : asgSeq n fs r ρ = (frz r ρ).bnd (seqO n fs) := (rfl)
@[simp] theorem seqO_tup (n : Nat) (fs : List D → M Unit) (ds : List D) (ρ : Rho) : seqO n fs (.tuple ds) ρ = if ds.length = n then fs ds ρ else .bad := by
  show (if ds.length = n then fs ds else M.bad) ρ = _
  split <;> rfl
@[simp] theorem seqO_lst (n : Nat) (fs : List D → M Unit) (ds : List D) (ρ : Rho) : seqO n fs (.list ds) ρ = if ds.length = n then fs ds ρ else .bad := by
  show (if ds.length = n then fs ds else M.bad) ρ = _
  split <;> rfl
@[simp] theorem asgNil_ap (ρ : Rho) : asgNil [] ρ = .ok () ρ := (rfl)
@[simp] theorem asgCons_ap (f : R → M Unit) (fs : List D → M Unit) (d : D) (ds : List D) (ρ : Rho) : asgCons f fs (d :: ds) ρ = (f (.tmp (.val d)) ρ).bnd fun _ => fs ds := (rfl)
@[simp] theorem fAdd_tt (i j : List D) (h : i.length + j.length ≤ 16777216) : fAdd (.tuple i) (.tuple j) = some (.val (.tuple (i ++ j))) := if_pos (sizeLine_big h)
@[simp] theorem fAdd_ss (i j : Str) (h : i.length + j.length ≤ 16777216) : fAdd (.str i) (.str j) = some (.val (.str (i ++ j))) := if_pos (sizeLine_big h)
@[simp] theorem fSl_t (xs : List D) (lo hi) : fSl (.tuple xs) lo hi = some (.val (.tuple ((xs.drop (HT.sIx xs.length 0 lo)).take (HT.sIx xs.length xs.length hi - HT.sIx xs.length 0 lo)))) := (rfl)
@[simp] theorem fIx_s (z : Str) (i : Int) (h : z.length ≤ 16777216) : fIx (.str z) (.int i) = (atI z.cps.toList i).map fun c => .val (.str ⟨#[c]⟩) := if_pos (sizeLine_big h)
@[simp] theorem fTuple_l (ds : List D) : fTuple [.list ds] = some (.val (.tuple ds)) := (rfl)
@[simp] theorem fTuple_t (ds : List D) : fTuple [.tuple ds] = some (.val (.tuple ds)) := (rfl)
@[simp] theorem fInt1_i (i : Int) : fInt1 [.int i] = some (.val (.int i)) := (rfl)
@[simp] theorem fInt1_b (i : Bool) : fInt1 [.bool i] = some (.val (.int (if i then 1 else 0))) := (rfl)
end
end DL
set_option Elab.async false
set_option maxRecDepth 100000
set_option maxHeartbeats 4000000
namespace DL
open PySem L2
structure M4 where
  a : Int
  b : Int
  c : Int
  d : Int
deriving DecidableEq
namespace M4
def D (m : M4) : PyData := .tuple [.int m.a, .int m.b, .int m.c, .int m.d]
def mul (x y : M4) : M4 := ⟨x.a * y.a + x.b * y.c, x.a * y.b + x.b * y.d, x.c * y.a + x.d * y.c, x.c * y.b + x.d * y.d⟩
def neg (m : M4) : M4 := ⟨-m.a, -m.b, -m.c, -m.d⟩
def down (m : M4) : Prop := m.c < 0 ∨ (m.c = 0 ∧ m.d < 0)
instance (m : M4) : Decidable m.down := by unfold down; infer_instance
def nrm (m : M4) : M4 := if m.down then m.neg else m
def tm (x y : M4) : M4 := (x.mul y).nrm
def lt (m : M4) (k : Nat) : Prop := m.a.natAbs < 2 ^ k ∧ m.b.natAbs < 2 ^ k ∧ m.c.natAbs < 2 ^ k ∧ m.d.natAbs < 2 ^ k
def one : M4 := ⟨1, 0, 0, 1⟩
def S : M4 := ⟨0, -1, 1, 0⟩
def R : M4 := ⟨0, -1, 1, -1⟩
def Q : M4 := ⟨1, -1, 1, 0⟩
end M4
theorem set_back {l : Rho} {i : Nat} {x : Option T} (h : l[i]? = some none) : (l.set i x).set i none = l := by
  have hlen := (List.getElem?_eq_some_iff.mp h).1
  rw [List.set_set]
  apply List.ext_getElem?
  intro j
  by_cases hi : j = i
  · subst hi
    have h' := (List.getElem?_eq_some_iff.mp h).2
    simp [hlen, h']
  · rw [List.getElem?_set_ne (fun z => hi z.symm)]
def letM (c : Nat) : M4 := if c = 115 then M4.S else if c = 114 then M4.R else M4.Q
def isLet (c : Nat) : Prop := c = 115 ∨ c = 114 ∨ c = 113
abbrev mkS (l : List Nat) : Str := ⟨l.toArray⟩
def trn (l : List Nat) : M4 := l.foldl (fun m c => m.tm (letM c)) M4.one
end DL
set_option Elab.async false
set_option maxRecDepth 100000
set_option maxHeartbeats 4000000
namespace DL
open PySem L2
theorem str_e : ("" : Str) = mkS [] := by decide
theorem mkS_app (l k : List Nat) : mkS l ++ mkS k = mkS (l ++ k) := by
  show (⟨l.toArray ++ k.toArray⟩ : Str) = _
  simp
@[simp] theorem mkS_len (l : List Nat) : (mkS l).length = l.length := by
  show l.toArray.size = _
  simp
def whole (d : D) : Bool := isInt d && !isBool d
theorem okRow.at_ {b : Int} {r : List Int} (h : okRow b r) {k : Nat} (hk : k < r.length) : 0 ≤ r.getD k 0 ∧ r.getD k 0 < b := by
  have e : r.getD k 0 = r[k] := by simp [hk]
  rw [e]
  exact h _ (List.getElem_mem hk)
end DL
set_option Elab.async false
set_option maxRecDepth 100000
set_option maxHeartbeats 4000000
namespace DL
open PySem PySem.Spec PyProof.Rows L2
section
variable {X : Cx} {W : WX}
abbrev Pz := L2.St → Prop
variable {p : Pz} {a b e : Expr} {rest : List Expr} {pos : Pos} {ma mb : M R} {ta tb : M Bool} {st : Stmt} {sts : List Stmt} {m1 m2 : M Fl}
end
section
variable {X : Cx} {W : WX} {a D : Addr} {oe : Obj} {pn : List (Addr × Obj)} {i : Nat} {n T : Str} {p p2 p3 pos : Pos} {b : Bool}
end
section
variable {X : Cx} {W : WX} {i : Nat} {n x : Str} {c : Value} {b₀ : Stmt} {body suite : List Stmt} {np pos pos' : Pos} {mt : Str → Option Bool} {mb ms : M Fl}
end
end DL
set_option Elab.async false
set_option maxRecDepth 100000
set_option maxHeartbeats 4000000
namespace DL
open PySem PySem.Spec PyProof.Rows L2
mutual
def kRp (K : PySem.W.Frag) : Nat → Value → D → Bool
  | _, .none, .none => true
  | _, .bool a, .bool b => a == b
  | _, .int i _, .int j => decide (i = j)
  | _, .str x _, .str y => decide (x = y)
  | n + 1, .ref a, .tuple ds => (match K.lookup a with
    | some ⟨.type c, _, .seq its _, _⟩ => decide (c = "tuple") && (decide (its.size ≤ sizeLine) && kRps K n its.toList ds)
    | _ => false)
  | n + 1, .ref a, .list ds => (match K.lookup a with
    | some ⟨.type c, none, .seq its _, _⟩ => decide (c = "list") && (decide (its.size ≤ sizeLine) && kRps K n its.toList ds)
    | _ => false)
  | _, _, _ => false
def kRps (K : PySem.W.Frag) : Nat → List Value → List D → Bool
  | _, [], [] => true
  | n + 1, u :: us, d :: ds => kRp K n u d && kRps K n us ds
  | _, _, _ => false
end
theorem kRp_both {K : PySem.W.Frag} : ∀ n : Nat, (∀ (u : Value) (d : D), kRp K n u d = true → ∃ v, RelV v u ∧ ∀ H, Rp K H v d) ∧ ∀ (us : List Value) (ds : List D), kRps K n us ds = true → ∃ vs, Vals vs us ∧ ∀ H, RpAll K H vs ds := by
  intro n
  induction n with
  | zero =>
    refine ⟨fun u d h => ?_, fun us ds h => ?_⟩
    · cases d with
      | none => cases u <;> simp [kRp] at h; exact ⟨.non, rfl, fun _ => .non⟩
      | bool b => cases u <;> simp [kRp] at h; subst h; exact ⟨.bl _, rfl, fun _ => .bl _⟩
      | int b => cases u <;> simp [kRp] at h; subst h; exact ⟨.int _, ⟨_, rfl⟩, fun _ => .int _⟩
      | str b => cases u <;> simp [kRp] at h; subst h; exact ⟨.str _, ⟨_, rfl⟩, fun _ => .str _⟩
      | list b => cases u <;> simp [kRp] at h
      | tuple b => cases u <;> simp [kRp] at h
      | dict b => cases u <;> simp [kRp] at h
    · cases us with
      | nil => cases ds with
        | nil => exact ⟨[], .nil, fun _ => .nil⟩
        | cons d ds => simp [kRps] at h
      | cons u us => simp [kRps] at h
  | succ n ih =>
    refine ⟨fun u d h => ?_, fun us ds h => ?_⟩
    · cases d with
      | none => cases u <;> simp [kRp] at h; exact ⟨.non, rfl, fun _ => .non⟩
      | bool b => cases u <;> simp [kRp] at h; subst h; exact ⟨.bl _, rfl, fun _ => .bl _⟩
      | int b => cases u <;> simp [kRp] at h; subst h; exact ⟨.int _, ⟨_, rfl⟩, fun _ => .int _⟩
      | str b => cases u <;> simp [kRp] at h; subst h; exact ⟨.str _, ⟨_, rfl⟩, fun _ => .str _⟩
      | list ds =>
        cases u with
        | ref a =>
          unfold kRp at h
          split at h
          · rename_i c its m sl q
            simp only [Bool.and_eq_true, decide_eq_true_eq] at h
            obtain ⟨h1, h2, h3⟩ := h
            subst h1
            obtain ⟨vs, rv, r⟩ := ih.2 _ _ h3
            exact ⟨.ref a, rfl, fun H => .lst (.inr ⟨_, its, m, q, rfl, rfl, rfl, h2, rv⟩) (r H)⟩
          · cases h
        | _ => simp [kRp] at h
      | tuple ds =>
        cases u with
        | ref a =>
          unfold kRp at h
          split at h
          · rename_i c od its m sl q
            simp only [Bool.and_eq_true, decide_eq_true_eq] at h
            obtain ⟨h1, h2, h3⟩ := h
            subst h1
            obtain ⟨vs, rv, r⟩ := ih.2 _ _ h3
            exact ⟨.ref a, rfl, fun H => .tup (.inr ⟨_, its, m, q, rfl, rfl, h2, rv⟩) (r H)⟩
          · cases h
        | _ => simp [kRp] at h
      | dict b => cases u <;> simp [kRp] at h
    · cases us with
      | nil => cases ds with
        | nil => exact ⟨[], .nil, fun _ => .nil⟩
        | cons d ds => simp [kRps] at h
      | cons u us => cases ds with
        | nil => simp [kRps] at h
        | cons d ds =>
          unfold kRps at h
          rw [Bool.and_eq_true] at h
          obtain ⟨v, r1, r2⟩ := ih.1 _ _ h.1
          obtain ⟨vs, s1, s2⟩ := ih.2 _ _ h.2
          exact ⟨v :: vs, .cons r1 s1, fun H => .cons (r2 H) (s2 H)⟩
theorem kRp_ok {K : PySem.W.Frag} {n : Nat} {u : Value} {d : D} (h : kRp K n u d = true) : ∃ v, RelV v u ∧ ∀ H, Rp K H v d := (kRp_both n).1 u d h
/-- the module's name x is this thing -/
def gRp (K : PySem.W.Frag) (x : Str) (d : D) : Bool := match PySem.W.nsIn K mainGlobals x with
  | some (some u) => kRp K 50 u d
  | _ => false
structure GlD (K : PySem.W.Frag) (mg : Str → Option Value) (x : Str) (d : D) : Prop where
  ex : ∃ u v, mg x = some u ∧ RelV v u ∧ ∀ H, Rp K H v d
theorem gRp_ok {K : PySem.W.Frag} {h : Heap} {mg : Str → Option Value} {x : Str} {d : D} (X : K.In h) (G : h.Ns mainGlobals mg) (q : gRp K x d = true) : GlD K mg x d := by
  unfold gRp at q
  split at q
  · rename_i u e
    obtain ⟨v, r1, r2⟩ := kRp_ok q
    exact ⟨u, v, PySem.W.mg_of X G e, r1, r2⟩
  · cases q
theorem j_glob {X : Cx} {W : WX} {x : Str} {d : D} {pos : Pos} (hg : Gl X x) (c : GlD X.K X.mg x d) (hd : (x == ("__debug__" : Str)) = false) : JE X W (.Name x pos) (cst d) := by
  obtain ⟨u, v, e, r1, r2⟩ := c.ex
  exact j_const (pe_glob hg e r1 hd) (r2 _)
def obsX (fx : PySem.W.Frag → Bool) (fa : List He.Fa) (fn : List He.DefD) (K : PySem.W.Frag) : He.AlD := ((He.obsD fa fn K).1 && fx K, (He.obsD fa fn K).2)
def SaysX (fx : PySem.W.Frag → Bool) (fa : List He.Fa) (fn : List He.DefD) (K : PySem.W.Frag) : Prop := obsX fx fa fn K = He.valD fn
theorem SaysX.says {fx : PySem.W.Frag → Bool} {fa : List He.Fa} {fn : List He.DefD} {K : PySem.W.Frag} (h : SaysX fx fa fn K) : He.SaysD fa fn K ∧ fx K = true := by
  have h1 : ((He.obsD fa fn K).1 && fx K) = true := congrArg (fun z : He.AlD => z.1) h
  have h2 : (He.obsD fa fn K).2 = fn.map He.DefD.val := congrArg (fun z : He.AlD => z.2) h
  rw [Bool.and_eq_true] at h1
  refine ⟨?_, h1.2⟩
  show He.obsD fa fn K = (true, fn.map He.DefD.val)
  rw [← h1.1, ← h2]
def obsXG (n : Nat) (fx : PySem.W.Frag → Bool) (fa : List He.Fa) (fn : List He.DefD) (g : Addr → Option Obj) : He.AlD := obsX fx fa fn (He.frG g (He.asD g n))
def hookX (n : Nat) (fx : PySem.W.Frag → Bool) (fa : List He.Fa) (fn : List He.DefD) : PySem.W.Hook where
  α := He.AlD
  obs := fun s => obsXG n fx fa fn s.heap.get?
  val := fun _ => He.valD fn
  says := fun _ h => ∃ K : PySem.W.Frag, K.In h ∧ SaysX fx fa fn K
  of := fun _ _ e => ⟨_, He.frG_in, e⟩
  keeps := fun _ _ _ ⟨K, hK, c⟩ k => ⟨K, PySem.W.Frag.In.keeps hK k, c⟩
theorem obsXG_eq {n : Nat} {fx : PySem.W.Frag → Bool} {fa : List He.Fa} {fn : List He.DefD} {g : Addr → Option Obj} {s : Shared} (h : ∀ a, g a = s.heap.get? a) : obsXG n fx fa fn g = (hookX n fx fa fn).obs s := by
  have e : g = s.heap.get? := funext h
  rw [e] <;> rfl
end DL
set_option Elab.async false
set_option maxRecDepth 100000
set_option maxHeartbeats 4000000
namespace DL
open PySem PySem.Spec PyProof.Rows L2
def clsOf (l : List (Str × Bool)) (n : Str) : Option Bool := l.lookup n
inductive Hmt (K : PySem.W.Frag) (mg : Str → Option Value) (c : Value) : List (Str × Bool) → Prop where
  | nil : Hmt K mg c []
  | cons {x : Str} {D : Addr} {b : Bool} {l : List (Str × Bool)} : PySem.W.exmOne K (.ref D) c = some b → mg x = some (.ref D) → Hmt K mg c l → Hmt K mg c ((x, b) :: l)
theorem Hmt.ok {K : PySem.W.Frag} {mg : Str → Option Value} {c : Value} : ∀ {l : List (Str × Bool)}, Hmt K mg c l → ∀ n b cls, clsOf l n = some b → mg n = some cls → PySem.W.exmOne K cls c = some b
  | _, .nil, n, b, cls, h, _ => by cases h
  | (x, b0) :: l, .cons h1 h2 t, n, b, cls, h, g => by
    unfold clsOf at h
    rw [List.lookup_cons] at h
    by_cases e : n = x
    · subst e
      simp at h
      subst h
      rw [h2] at g
      cases g
      exact h1
    · have : (n == x) = false := by simpa using e
      rw [this] at h
      exact Hmt.ok t n b cls h g
section
variable {X : Cx} {W : WX} {i : Nat} {n x : Str} {D : Addr} {b₀ : Stmt} {body suite : List Stmt} {np pos pos' : Pos} {l : List (Str × Bool)} {mb ms : M Fl}
end
end DL
set_option Elab.async false
set_option maxRecDepth 100000
set_option maxHeartbeats 4000000
namespace DL
open PySem L2
theorem ints_shaped (xs : List Int) : PyData.canLayAll0 (xs.map .int) = true ∧ PyData.depthAll (xs.map .int) = 0 ∧ ∀ ys : List Int, PyData.eqvAll (xs.map .int) (ys.map .int) = decide (xs = ys) := by
  induction xs with
  | nil => exact ⟨by simp [PyData.canLayAll0], by simp [PyData.depthAll], fun ys => by cases ys <;> simp [PyData.eqvAll]⟩
  | cons x xs ih =>
    refine ⟨by simp [PyData.canLayAll0, PyData.canLay0, ih.1], by simp [PyData.depthAll, PyData.depth, ih.2.1], fun ys => ?_⟩
    cases ys with
    | nil => simp [PyData.eqvAll]
    | cons y ys =>
      simp only [List.map_cons, PyData.eqvAll, PyData.eqv, ih.2.2 ys]
      by_cases h : x = y <;> simp [h]
theorem shaped_t (xs : List Int) : SeqAt.shaped (.tuple (xs.map .int)) = true := by
  unfold SeqAt.shaped
  rw [PyData.canLay0, PyData.depth, (ints_shaped xs).1, (ints_shaped xs).2.1]
  rfl
theorem eqD_t (xs ys : List Int) : eqD (.tuple (xs.map .int)) (.tuple (ys.map .int)) = some (decide (xs = ys)) := by
  unfold eqD
  have e : eqS (.tuple (xs.map .int)) (.tuple (ys.map .int)) = none := rfl
  rw [e]
  simp only [shaped_t, PyData.eqv, (ints_shaped xs).2.2 ys]
  rfl
theorem fEq_t (xs ys : List Int) : fEq (.tuple (xs.map .int)) (.tuple (ys.map .int)) = some (.val (.bool (decide (xs = ys)))) := by
  unfold fEq
  rw [eqD_t]
  rfl
@[simp] theorem fEq_t2 (a b c d : Int) : fEq (.tuple [.int a, .int b]) (.tuple [.int c, .int d]) = some (.val (.bool (decide (a = c ∧ b = d)))) := by
  have := fEq_t [a, b] [c, d]
  simpa using this
@[simp] theorem fEq_t4 (a b c d a' b' c' d' : Int) : fEq (.tuple [.int a, .int b, .int c, .int d]) (.tuple [.int a', .int b', .int c', .int d']) = some (.val (.bool (decide (a = a' ∧ b = b' ∧ c = c' ∧ d = d')))) := by
  have := fEq_t [a, b, c, d] [a', b', c', d']
  simpa using this
theorem fNe_t (xs ys : List Int) : fNe (.tuple (xs.map .int)) (.tuple (ys.map .int)) = some (.val (.bool (!decide (xs = ys)))) := by
  unfold fNe
  rw [eqD_t]
  rfl
@[simp] theorem fNe_t4 (a b c d a' b' c' d' : Int) : fNe (.tuple [.int a, .int b, .int c, .int d]) (.tuple [.int a', .int b', .int c', .int d']) = some (.val (.bool (!decide (a = a' ∧ b = b' ∧ c = c' ∧ d = d')))) := by
  have := fNe_t [a, b, c, d] [a', b', c', d']
  simpa using this
@[simp] theorem fNe_t2 (a b c d : Int) : fNe (.tuple [.int a, .int b]) (.tuple [.int c, .int d]) = some (.val (.bool (!decide (a = c ∧ b = d)))) := by
  have := fNe_t [a, b] [c, d]
  simpa using this
/-- what a fraction is -/
def isF (p q : Int) : Prop := (q = 0 ∧ p = 1) ∨ (0 < q ∧ Nat.gcd p.natAbs q.natAbs = 1)
end DL
set_option Elab.async false
set_option maxRecDepth 100000
set_option maxHeartbeats 4000000
set_option exponentiation.threshold 5000
namespace DL
open PySem L2
namespace M4
def det (m : M4) : Int := m.a * m.d - m.b * m.c
def inv (m : M4) : M4 := (⟨m.d, -m.b, -m.c, m.a⟩ : M4).nrm
theorem det_mul (x y : M4) : (x.mul y).det = x.det * y.det := by
  unfold det mul
  dsimp only
  grind
theorem det_neg (m : M4) : m.neg.det = m.det := by
  unfold det neg
  dsimp only
  grind
theorem det_nrm (m : M4) : m.nrm.det = m.det := by
  unfold nrm
  split
  · exact det_neg m
  · rfl
theorem det_let (c : Nat) : (letM c).det = 1 := by
  unfold letM
  split
  · decide
  · split <;> decide
theorem det_tm {x y : M4} (hx : x.det = 1) (hy : y.det = 1) : (x.tm y).det = 1 := by
  unfold tm
  rw [det_nrm, det_mul, hx, hy]
  rfl
theorem det_inv {m : M4} (h : m.det = 1) : m.inv.det = 1 := by
  unfold inv
  rw [det_nrm]
  unfold det at *
  dsimp only
  grind
theorem nrm_eq (m : M4) : ∃ e : Int, (e = 1 ∨ e = -1) ∧ m.nrm = ⟨e * m.a, e * m.b, e * m.c, e * m.d⟩ := by
  unfold nrm
  split
  · exact ⟨-1, .inr rfl, by simp [neg]⟩
  · exact ⟨1, .inl rfl, by simp⟩
/-- in its form: not down -/
theorem nrm_up {m : M4} (h : m.det = 1) : ¬ m.nrm.down := by
  unfold nrm
  split
  · rename_i hd
    unfold down neg at *
    dsimp only
    intro z
    rcases hd with z1 | ⟨z1, z2⟩
    · omega
    · omega
  · assumption
theorem nrm_id {m : M4} (h : ¬ m.down) : m.nrm = m := if_neg h
theorem nrm_neg {m : M4} (h : m.det = 1) : m.neg.nrm = m.nrm := by
  have h0 : m.c ≠ 0 ∨ m.d ≠ 0 := by
    rcases Decidable.em (m.c = 0) with z | z
    · right
      intro z2
      unfold det at h
      rw [z, z2] at h
      simp at h
    · exact .inl z
  unfold nrm
  by_cases hd : m.down
  · have : ¬ m.neg.down := by
      unfold down neg at *
      dsimp only
      omega
    rw [if_pos hd, if_neg this]
  · have : m.neg.down := by
      unfold down neg at *
      dsimp only
      omega
    rw [if_neg hd, if_pos this]
    unfold neg
    simp
end M4
theorem trn_det (l : List Nat) : (trn l).det = 1 := by
  unfold trn
  have : ∀ (l : List Nat) (m : M4), m.det = 1 → (l.foldl (fun m c => m.tm (letM c)) m).det = 1 := by
    intro l
    induction l with
    | nil => exact fun m h => h
    | cons c l ih => exact fun m h => ih _ (M4.det_tm h (M4.det_let c))
  exact this l M4.one (by decide)
theorem trn_up (l : List Nat) : ¬ (trn l).down := by
  unfold trn
  have : ∀ (l : List Nat) (m : M4), m.det = 1 → ¬ m.down → ¬ (l.foldl (fun m c => m.tm (letM c)) m).down := by
    intro l
    induction l with
    | nil => exact fun m _ h => h
    | cons c l ih => exact fun m h _ => ih _ (M4.det_tm h (M4.det_let c)) (M4.nrm_up (by rw [M4.det_mul, h, M4.det_let]; rfl))
  exact this l M4.one (by decide) (by decide)
abbrev pD (p q : Int) : D := .tuple [.int p, .int q]
/-- the two numbers before they are shortened -/
def M4.up (m : M4) (p q : Int) : Int := m.a * p + m.b * q
def M4.lo (m : M4) (p q : Int) : Int := m.c * p + m.d * q
end DL
set_option Elab.async false
set_option maxRecDepth 100000
set_option maxHeartbeats 4000000
set_option exponentiation.threshold 5000
namespace DL
open PySem L2
theorem eqD_p2 (a b c d a' b' c' d' : Int) : eqD (.tuple [pD a b, pD c d]) (.tuple [pD a' b', pD c' d']) = some (decide (a = a' ∧ b = b' ∧ c = c' ∧ d = d')) := by
  have e : eqS (.tuple [pD a b, pD c d]) (.tuple [pD a' b', pD c' d']) = none := rfl
  have s : ∀ a b c d : Int, SeqAt.shaped (.tuple [pD a b, pD c d]) = true := fun a b c d => by
    simp [SeqAt.shaped, PyData.canLay0, PyData.canLayAll0, PyData.depth, PyData.depthAll]
  unfold eqD
  rw [e]
  simp only [s, Bool.and_self, if_true, PyData.eqv, PyData.eqvAll, Bool.and_true]
  congr 1
  by_cases h1 : a = a' <;> by_cases h2 : b = b' <;> by_cases h3 : c = c' <;> by_cases h4 : d = d' <;> simp [h1, h2, h3, h4]
@[simp] theorem fEq_p2 (a b c d a' b' c' d' : Int) : fEq (.tuple [.tuple [.int a, .int b], .tuple [.int c, .int d]]) (.tuple [.tuple [.int a', .int b'], .tuple [.int c', .int d']]) = some (.val (.bool (decide (a = a' ∧ b = b' ∧ c = c' ∧ d = d')))) := by
  unfold fEq
  rw [eqD_p2]
  rfl
@[simp] theorem fNe_p2 (a b c d a' b' c' d' : Int) : fNe (.tuple [.tuple [.int a, .int b], .tuple [.int c, .int d]]) (.tuple [.tuple [.int a', .int b'], .tuple [.int c', .int d']]) = some (.val (.bool (!decide (a = a' ∧ b = b' ∧ c = c' ∧ d = d')))) := by
  unfold fNe
  rw [eqD_p2]
  rfl
theorem cop_of {a b c d : Int} (h : a * d - b * c = 1) : Nat.gcd a.natAbs c.natAbs = 1 := by
  have d1 : ((Nat.gcd a.natAbs c.natAbs : Nat) : Int) ∣ a := Int.ofNat_dvd_left.mpr (Nat.gcd_dvd_left _ _)
  have d2 : ((Nat.gcd a.natAbs c.natAbs : Nat) : Int) ∣ c := Int.ofNat_dvd_left.mpr (Nat.gcd_dvd_right _ _)
  have d3 : ((Nat.gcd a.natAbs c.natAbs : Nat) : Int) ∣ 1 := by
    rw [← h]
    exact Int.dvd_sub (Int.dvd_mul_of_dvd_left d1) (Int.dvd_mul_of_dvd_right d2)
  have := Int.ofNat_dvd_left.mp d3
  exact Nat.dvd_one.mp this
theorem M4.ext' {x y : M4} : (x.a = y.a ∧ x.b = y.b ∧ x.c = y.c ∧ x.d = y.d) ↔ x = y := by
  obtain ⟨a, b, c, d⟩ := x
  obtain ⟨a', b', c', d'⟩ := y
  simp
@[simp] theorem fEq_D (x y : M4) : fEq x.D y.D = some (.val (.bool (decide (x = y)))) := by
  unfold M4.D
  rw [fEq_t4]
  simp only [M4.ext']
@[simp] theorem fNe_D (x y : M4) : fNe x.D y.D = some (.val (.bool (!decide (x = y)))) := by
  unfold M4.D
  rw [fNe_t4]
  simp only [M4.ext']
@[simp] theorem scalD_D (m : M4) : scalD m.D = false := (rfl)
end DL
set_option Elab.async false
set_option maxRecDepth 100000
set_option maxHeartbeats 4000000
set_option exponentiation.threshold 5000
namespace DL
open PySem L2
end DL
set_option Elab.async false
set_option maxRecDepth 100000
set_option maxHeartbeats 4000000
namespace DL
open PySem L2
namespace M4
def smul (e : Int) (m : M4) : M4 := ⟨e * m.a, e * m.b, e * m.c, e * m.d⟩
def adj (m : M4) : M4 := ⟨m.d, -m.b, -m.c, m.a⟩
theorem inv_adj (m : M4) : m.inv = m.adj.nrm := rfl
theorem nrm_sm (m : M4) : ∃ e : Int, (e = 1 ∨ e = -1) ∧ m.nrm = smul e m := nrm_eq m
theorem nrm_smul {m : M4} {e : Int} (h : m.det = 1) (he : e = 1 ∨ e = -1) : (smul e m).nrm = m.nrm := by
  rcases he with rfl | rfl
  · simp [smul]
  · rw [← nrm_neg h]
    simp [smul, neg]
theorem smul_mul (e : Int) (x y : M4) : (smul e x).mul y = smul e (x.mul y) := by
  simp only [smul, mul, M4.mk.injEq]
  refine ⟨?_, ?_, ?_, ?_⟩ <;> grind
theorem mul_smul (e : Int) (x y : M4) : x.mul (smul e y) = smul e (x.mul y) := by
  simp only [smul, mul, M4.mk.injEq]
  refine ⟨?_, ?_, ?_, ?_⟩ <;> grind
theorem mul_assoc' (x y z : M4) : (x.mul y).mul z = x.mul (y.mul z) := by
  simp only [mul, M4.mk.injEq]
  refine ⟨?_, ?_, ?_, ?_⟩ <;> grind
theorem det_adj (m : M4) : m.adj.det = m.det := by
  unfold det adj
  dsimp only
  grind
theorem mul_adj (m : M4) : m.mul m.adj = ⟨m.det, 0, 0, m.det⟩ := by
  simp only [adj, mul, det, M4.mk.injEq]
  refine ⟨?_, ?_, ?_, ?_⟩ <;> grind
theorem adj_mul_self (m : M4) : m.adj.mul m = ⟨m.det, 0, 0, m.det⟩ := by
  simp only [adj, mul, det, M4.mk.injEq]
  refine ⟨?_, ?_, ?_, ?_⟩ <;> grind
theorem nrm_mul_l {x y : M4} (hx : x.det = 1) (hy : y.det = 1) : (x.nrm.mul y).nrm = (x.mul y).nrm := by
  obtain ⟨e, he, en⟩ := nrm_sm x
  rw [en, smul_mul, nrm_smul (by rw [det_mul, hx, hy]; rfl) he]
theorem nrm_mul_r {x y : M4} (hx : x.det = 1) (hy : y.det = 1) : (x.mul y.nrm).nrm = (x.mul y).nrm := by
  obtain ⟨e, he, en⟩ := nrm_sm y
  rw [en, mul_smul, nrm_smul (by rw [det_mul, hx, hy]; rfl) he]
theorem tm_assoc {x y z : M4} (hx : x.det = 1) (hy : y.det = 1) (hz : z.det = 1) : (x.tm y).tm z = x.tm (y.tm z) := by
  unfold tm
  rw [nrm_mul_l (by rw [det_mul, hx, hy]; rfl) hz, nrm_mul_r hx (by rw [det_mul, hy, hz]; rfl), mul_assoc']
theorem tm_inv {x : M4} (hx : x.det = 1) : x.tm x.inv = one := by
  unfold tm
  rw [inv_adj, nrm_mul_r hx (by rw [det_adj, hx]), mul_adj, hx]
  rfl
theorem inv_tm {x : M4} (hx : x.det = 1) : x.inv.tm x = one := by
  unfold tm
  rw [inv_adj, nrm_mul_l (by rw [det_adj, hx]) hx, adj_mul_self, hx]
  rfl
theorem tm_one {x : M4} (h : ¬ x.down) : x.tm one = x := by
  unfold tm
  have : x.mul one = x := by simp [mul, one]
  rw [this, nrm_id h]
theorem one_tm {x : M4} (h : ¬ x.down) : one.tm x = x := by
  unfold tm
  have : one.mul x = x := by simp [mul, one]
  rw [this, nrm_id h]
theorem tm_up {x y : M4} (hx : x.det = 1) (hy : y.det = 1) : ¬ (x.tm y).down := nrm_up (by rw [det_mul, hx, hy]; rfl)
theorem inv_up {x : M4} (hx : x.det = 1) : ¬ x.inv.down := by
  rw [inv_adj]
  exact nrm_up (by rw [det_adj, hx])
end M4
@[simp] theorem asgSub_ap (mo mi : M R) (r : R) (ρ : Rho) : asgSub mo mi r ρ = (frz r ρ).bnd fun d => M.bind mo fun ro => M.bind mi fun ri => subM ro ri d := (rfl)
def subO (i : Nat) (v : D) (ρ : Rho) : Option D → Option (Option T) → Out Unit
  | some k, some (some (.lst tag ds)) => (match fSetL ds k v with
    | some es => .ok () (ρ.set i (some (.lst tag es)))
    | none => .bad)
  | some k, some (some (.dct tag kvs)) => if (nkOf k).isSome ∧ kvs.length < 1000000 then .ok () (ρ.set i (some (.dct tag (kput kvs k v)))) else .bad
  | _, _ => .bad
@[simp] theorem subM_slot (i : Nat) (ri : R) (v : D) (ρ : Rho) : subM (.slot i) ri v ρ = subO i v ρ (look ri ρ) ρ[i]? := by
  unfold subM subO
  cases look ri ρ with
  | none => rfl
  | some k =>
    dsimp only
    generalize ρ[i]? = o
    match o with
    | none => rfl
    | some none => rfl
    | some (some (.val _)) => rfl
    | some (some (.shr _ _)) => rfl
    | some (some (.any _ _)) => rfl
    | some (some (.own _ _)) => rfl
    | some (some (.ron _ _)) => rfl
    | some (some (.dct _ _)) => rfl
    | some (some (.lst tag ds)) => rfl
theorem subO_ok {i : Nat} {v k : D} {ρ : Rho} {tag : Option Nat} {ds es : List D} (h : fSetL ds k v = some es) : subO i v ρ (some k) (some (some (.lst tag ds))) = .ok () (ρ.set i (some (.lst tag es))) := by
  unfold subO
  simp only [h]
@[simp] theorem subO_4_0 (i : Nat) (v : D) (ρ : Rho) (tag : Option Nat) (a b c d : D) : subO i v ρ (some (.int 0)) (some (some (.lst tag [a, b, c, d]))) = .ok () (ρ.set i (some (.lst tag [v, b, c, d]))) := subO_ok (by simp [fSetL, ixN])
@[simp] theorem subO_4_1 (i : Nat) (v : D) (ρ : Rho) (tag : Option Nat) (a b c d : D) : subO i v ρ (some (.int 1)) (some (some (.lst tag [a, b, c, d]))) = .ok () (ρ.set i (some (.lst tag [a, v, c, d]))) := subO_ok (by simp [fSetL, ixN])
@[simp] theorem subO_4_2 (i : Nat) (v : D) (ρ : Rho) (tag : Option Nat) (a b c d : D) : subO i v ρ (some (.int 2)) (some (some (.lst tag [a, b, c, d]))) = .ok () (ρ.set i (some (.lst tag [a, b, v, d]))) := subO_ok (by simp [fSetL, ixN])
@[simp] theorem subO_4_3 (i : Nat) (v : D) (ρ : Rho) (tag : Option Nat) (a b c d : D) : subO i v ρ (some (.int 3)) (some (some (.lst tag [a, b, c, d]))) = .ok () (ρ.set i (some (.lst tag [a, b, c, v]))) := subO_ok (by simp [fSetL, ixN])
end DL
set_option Elab.async false
set_option maxRecDepth 100000
namespace DL
open PySem L2
@[simp] theorem bDivZ_2 (c : Int) : bDivZ c 2 = true := Dvs.ok ⟨by decide, by decide⟩
@[simp] theorem bDivZ_3 (c : Int) : bDivZ c 3 = true := Dvs.ok ⟨by decide, by decide⟩
@[simp] theorem bDivZ_4 (c : Int) : bDivZ c 4 = true := Dvs.ok ⟨by decide, by decide⟩
@[simp] theorem bDivZ_5 (c : Int) : bDivZ c 5 = true := Dvs.ok ⟨by decide, by decide⟩
@[simp] theorem bDivZ_6 (c : Int) : bDivZ c 6 = true := Dvs.ok ⟨by decide, by decide⟩
@[simp] theorem bDivZ_7 (c : Int) : bDivZ c 7 = true := Dvs.ok ⟨by decide, by decide⟩
@[simp] theorem bDivZ_8 (c : Int) : bDivZ c 8 = true := Dvs.ok ⟨by decide, by decide⟩
@[simp] theorem bDivZ_9 (c : Int) : bDivZ c 9 = true := Dvs.ok ⟨by decide, by decide⟩
@[simp] theorem bDivZ_11 (c : Int) : bDivZ c 11 = true := Dvs.ok ⟨by decide, by decide⟩
@[simp] theorem bDivZ_12 (c : Int) : bDivZ c 12 = true := Dvs.ok ⟨by decide, by decide⟩
@[simp] theorem bDivZ_16 (c : Int) : bDivZ c 16 = true := Dvs.ok ⟨by decide, by decide⟩
@[simp] theorem bDivZ_24 (c : Int) : bDivZ c 24 = true := Dvs.ok ⟨by decide, by decide⟩
@[simp] theorem bDivZ_30 (c : Int) : bDivZ c 30 = true := Dvs.ok ⟨by decide, by decide⟩
@[simp] theorem bDivZ_48 (c : Int) : bDivZ c 48 = true := Dvs.ok ⟨by decide, by decide⟩
@[simp] theorem bDivZ_50 (c : Int) : bDivZ c 50 = true := Dvs.ok ⟨by decide, by decide⟩
@[simp] theorem bDivZ_60 (c : Int) : bDivZ c 60 = true := Dvs.ok ⟨by decide, by decide⟩
@[simp] theorem bDivZ_63 (c : Int) : bDivZ c 63 = true := Dvs.ok ⟨by decide, by decide⟩
@[simp] theorem bDivZ_64 (c : Int) : bDivZ c 64 = true := Dvs.ok ⟨by decide, by decide⟩
@[simp] theorem bDivZ_72 (c : Int) : bDivZ c 72 = true := Dvs.ok ⟨by decide, by decide⟩
@[simp] theorem bDivZ_84 (c : Int) : bDivZ c 84 = true := Dvs.ok ⟨by decide, by decide⟩
@[simp] theorem bDivZ_104 (c : Int) : bDivZ c 104 = true := Dvs.ok ⟨by decide, by decide⟩
@[simp] theorem bDivZ_120 (c : Int) : bDivZ c 120 = true := Dvs.ok ⟨by decide, by decide⟩
@[simp] theorem bDivZ_122 (c : Int) : bDivZ c 122 = true := Dvs.ok ⟨by decide, by decide⟩
@[simp] theorem bDivZ_256 (c : Int) : bDivZ c 256 = true := Dvs.ok ⟨by decide, by decide⟩
@[simp] theorem bDivZ_300 (c : Int) : bDivZ c 300 = true := Dvs.ok ⟨by decide, by decide⟩
@[simp] theorem bDivZ_400 (c : Int) : bDivZ c 400 = true := Dvs.ok ⟨by decide, by decide⟩
@[simp] theorem bDivZ_500 (c : Int) : bDivZ c 500 = true := Dvs.ok ⟨by decide, by decide⟩
@[simp] theorem bDivZ_604 (c : Int) : bDivZ c 604 = true := Dvs.ok ⟨by decide, by decide⟩
@[simp] theorem bDivZ_720 (c : Int) : bDivZ c 720 = true := Dvs.ok ⟨by decide, by decide⟩
@[simp] theorem bDivZ_1000 (c : Int) : bDivZ c 1000 = true := Dvs.ok ⟨by decide, by decide⟩
@[simp] theorem bDivZ_1008 (c : Int) : bDivZ c 1008 = true := Dvs.ok ⟨by decide, by decide⟩
@[simp] theorem bDivZ_1009 (c : Int) : bDivZ c 1009 = true := Dvs.ok ⟨by decide, by decide⟩
@[simp] theorem bDivZ_2000 (c : Int) : bDivZ c 2000 = true := Dvs.ok ⟨by decide, by decide⟩
@[simp] theorem bDivZ_3000 (c : Int) : bDivZ c 3000 = true := Dvs.ok ⟨by decide, by decide⟩
@[simp] theorem bDivZ_3600 (c : Int) : bDivZ c 3600 = true := Dvs.ok ⟨by decide, by decide⟩
@[simp] theorem bDivZ_4096 (c : Int) : bDivZ c 4096 = true := Dvs.ok ⟨by decide, by decide⟩
end DL
set_option Elab.async false
set_option maxRecDepth 100000
set_option maxHeartbeats 4000000
namespace DL
open PySem PySem.Spec PyProof.Rows L2
def MutOk (K : PySem.W.Frag) (r : V → List V → Hp → VK → Prop) (f : List D → List D → Option (List D × D)) : Prop := ∀ (Z : List Addr) (H : Hp) (a : Addr) (zs ys : List V) (es ds es' : List D) (d : D) (Q : VK), H a = some (.lst zs) → RpAll K (wo Z H) zs es → RpAll K (wo Z H) ys ds →
  f es ds = some (es', d) → (∀ zs' v, RpAll K (wo Z H) zs' es' → Rp K (wo Z H) v d → Q v (upd H a (.lst zs'))) → r (.ref a) ys H Q
def mutF (f : List D → List D → Option (List D × D)) (ro : R) (ds : List D) : M R := mutM ro fun es => (f es ds).map fun p => (p.1, .tmp (.val p.2))
section
variable {X : Cx} {W : WX} {o a : Expr} {as : List Expr} {mo : M R} {ms : M (List R)} {apos cpos : Pos} {name : Str} {id : String} {r : V → List V → Hp → VK → Prop} {f : List D → List D → Option (List D × D)}
theorem mut_ok {K : PySem.W.Frag} {mg : Str → Option Value} {P O : List Addr} {A : List V} {H : Hp} {σ : L2.St} {ρ : Rho} {a : Addr} {ys : List V} {ds : List D} {ro : R} {Q : VK} (hf : MutOk K r f) (e : EnvR K P A O H σ ρ) (r1 : ∀ i, ro = .slot i → σ[i]? = some (some (V.ref a)))
    (rp : RpAll K (wo (O ++ P) H) ys ds) (h : Aft (relR K σ) K mg W P A σ O H (mutF f ro ds ρ) Q) : r (.ref a) ys H Q := by
  cases ro with
  | tmp t => exact h.elim
  | slot i =>
    unfold mutF mutM at h
    simp only at h
    cases qi : ρ[i]? with
    | none => rw [qi] at h; exact h.elim
    | some u =>
      cases u with
      | none => rw [qi] at h; exact h.elim
      | some u =>
        cases u with
        | val _ => rw [qi] at h; exact h.elim
        | dct _ _ => rw [qi] at h; exact h.elim
        | shr _ _ => rw [qi] at h; exact h.elim
        | any _ _ => rw [qi] at h; exact h.elim
        | own _ _ => rw [qi] at h; exact h.elim
        | ron _ _ => rw [qi] at h; exact h.elim
        | lst tag es =>
          rw [qi] at h
          simp only at h
          obtain ⟨b, zs, eb, m2, m3, m4, m5⟩ := e.own qi (r1 i rfl)
          cases eb
          cases qf : f es ds with
          | none => rw [qf] at h; exact h.elim
          | some p =>
            obtain ⟨es', d⟩ := p
            rw [qf] at h
            simp only [Option.map_some] at h
            refine hf (O ++ P) H a zs ys es ds es' d Q m2 m3 rp qf fun zs' v q1 q2 => ?_
            obtain ⟨e5, s5⟩ := m5 zs' es' q1
            exact h v _ O [] e5 (rr_val (q2.mono (wo_updP (List.mem_append_left _ m4)))) s5
theorem j_mut (pa : PlainAttrs "list") (slot : Slot "list" name id) (hty : typeOf (.builtin id) = pure (.type "method_descriptor")) (hm : MtR X id r) (hf : MutOk X.K r f) (ho : JE X W o mo) (ha : JEs X W (a :: as) ms)
    (hbase : attributeBase o name X.env (eval o X.env) = eval o X.env)
    (hfew : ((backTo cpos (starEach (a :: as) X.env)).all (fun x => !x.1) && (backToKw cpos (keywordEach [] X.env)).all (fun x => x.1.isSome) && decide ((a :: as).length + ([] : List Keyword).length + (if ([] : List Keyword).isEmpty then 0 else 1) < 30)) = true)
    (hline : (apos.endLine == cpos.line) = true) (hs : starEach (a :: as) X.env = (false, eval a X.env) :: starEach as X.env) (hplain : (backTo cpos (starEach as X.env)).any (·.1) = false) :
    JE X W (.Call (.Attribute o name apos) (a :: as) [] cpos) (M.bind mo fun ro => M.bind (chkL ro) fun _ => M.bind ms fun rs => M.bind (frzs rs) fun ds => mutF f ro ds) :=
  (pe_bm pa slot hty hm ho ha hbase hfew hline hs hplain).imp fun σ H Q h => by
    obtain ⟨P, A, O, ρ, e, h⟩ := h
    refine ⟨P, A, O, ρ, e, (Aft.bind (rl := relR X.K σ) h).mono ?_⟩
    rintro x H1 ⟨O1, ρ1, ro, F, e1, r1, s1, h1⟩
    unfold M.bind chkL at h1
    cases q : look ro ρ1 with
    | none =>
      rw [q] at h1
      exact h1.elim
    | some dl =>
      rw [q] at h1
      cases dl with
      | list ds =>
        simp only at h1
        obtain ⟨a, ws, rfl, rd, _⟩ := (look_vr e1.less r1 q).list
        refine ⟨.inl ⟨rfl, ws, rd⟩, ?_⟩
        refine ⟨F ++ P, A, O1, ρ1, e1, (Aft.bindP (rl := relRs X.K σ) F s1.less (m := ms) (k := fun rs => M.bind (frzs rs) fun ds => mutF f ro ds) h1).mono ?_⟩
        rintro ys H2 ⟨O2, ρ2, rs, G, e2, r2, s2, h2⟩
        have h3 := Aft.step h2 (s1.less.trans s2.less)
        have e2' : EnvR X.K (G ++ P) A O2 H2 σ ρ2 := e2.swap.less
        obtain ⟨O3, ρ3, ds', e3, s3, p3, h4⟩ := Aft.frzs e2' r2.less h3
        exact mut_ok hf e3 (fun i z => by subst z; exact r1) p3 h4
      | _ => exact h1.elim
end
def fPopAt (es ds : List D) : Option (List D × D) := match ds with
  | [.int i] => if -(2 ^ 63) ≤ i ∧ i < 2 ^ 63 then (match seqIndex? i es.length with
    | some k => (match es[k]? with
      | some d => some (es.eraseIdx k, d)
      | none => none)
    | none => none) else none
  | _ => none
def fIns (es ds : List D) : Option (List D × D) := match ds with
  | [.int i, d] => if es.length < sizeLine ∧ 0 ≤ i ∧ i < 2 ^ 63 then some (es.take i.toNat ++ [d] ++ es.drop i.toNat, .none) else none
  | _ => none
theorem popAt_ok {K : PySem.W.Frag} : MutOk K rPopAt fPopAt := by
  intro Z H a zs ys es ds es' d Q h1 h2 h3 hf q
  unfold fPopAt at hf
  split at hf
  · rename_i i
    split at hf
    · rename_i hr
      split at hf
      · rename_i k q0
        split at hf
        · rename_i d0 q1
          cases hf
          obtain ⟨v, q2, q3⟩ := h2.get q1
          cases h3 with
          | cons b c =>
            cases c
            cases b
            exact ⟨a, zs, i, k, v, rfl, rfl, h1, hr.1, hr.2, by rw [h2.length]; exact q0, q2, q _ _ (h2.eraseIdx k) q3⟩
        · cases hf
      · cases hf
    · cases hf
  · cases hf
abbrev rIns : V → List V → Hp → VK → Prop := fun x vs H Q => ∃ (l : Addr) (xs : List V) (i : Int) (y : V), x = .ref l ∧ vs = [.int i, y] ∧ H l = some (.lst xs) ∧ xs.length < sizeLine ∧ 0 ≤ i ∧ i < 2 ^ 63 ∧
    Q .non (upd H l (.lst (xs.take i.toNat ++ [y] ++ xs.drop i.toNat)))
theorem ins_ok {K : PySem.W.Frag} : MutOk K rIns fIns := by
  intro Z H a zs ys es ds es' d Q h1 h2 h3 hf q
  unfold fIns at hf
  split at hf
  · rename_i i d0
    split at hf
    · rename_i hr
      cases hf
      cases h3 with
      | cons b c =>
        cases c with
        | cons b2 c =>
          cases c
          cases b
          exact ⟨a, zs, i, _, rfl, rfl, h1, by rw [h2.length]; exact hr.1, hr.2.1, hr.2.2, q _ _ (((h2.take _).append (.cons b2 .nil)).append (h2.drop _)) .non⟩
    · cases hf
  · cases hf
section
variable {X : Cx} {W : WX} {o a : Expr} {mo ma : M R} {apos cpos : Pos}
end
abbrev muE (f : List D → List D → Option (List D × D)) (mo : M R) (ms : M (List R)) : M R := M.bind mo fun ro => M.bind (chkL ro) fun _ => M.bind ms fun rs => M.bind (frzs rs) fun ds => mutF f ro ds
end DL
set_option Elab.async false
set_option maxRecDepth 100000
set_option maxHeartbeats 4000000
namespace DL
open PySem PySem.Spec PyProof.Rows L2
def muR (i : Nat) (tag : Option Nat) (ρ : Rho) : Option (List D × D) → Out R
  | some p => .ok (.tmp (.val p.2)) (ρ.set i (some (.lst tag p.1)))
  | none => .bad
def muO (f : List D → List D → Option (List D × D)) (i : Nat) (ds : List D) (ρ : Rho) : Option (Option T) → Out R
  | some (some (.lst tag es)) => muR i tag ρ (f es ds)
  | _ => .bad
@[simp] theorem mutF_slot (f : List D → List D → Option (List D × D)) (i : Nat) (ds : List D) (ρ : Rho) : mutF f (.slot i) ds ρ = muO f i ds ρ ρ[i]? := by
  unfold mutF mutM
  dsimp only
  generalize ρ[i]? = o
  match o with
  | none => rfl
  | some none => rfl
  | some (some (.val _)) => rfl
  | some (some (.dct _ _)) => rfl
  | some (some (.shr _ _)) => rfl
  | some (some (.any _ _)) => rfl
  | some (some (.own _ _)) => rfl
  | some (some (.ron _ _)) => rfl
  | some (some (.lst tag es)) =>
    show _ = muR i tag ρ (f es ds)
    cases h : f es ds <;> simp only [h] <;> rfl
@[simp] theorem muO_lst (f : List D → List D → Option (List D × D)) (i : Nat) (ds : List D) (ρ : Rho) (tag : Option Nat) (es : List D) : muO f i ds ρ (some (some (.lst tag es))) = muR i tag ρ (f es ds) := (rfl)
@[simp] theorem muR_some (i : Nat) (tag : Option Nat) (ρ : Rho) (es : List D) (d : D) : muR i tag ρ (some (es, d)) = .ok (.tmp (.val d)) (ρ.set i (some (.lst tag es))) := (rfl)
theorem fPopAt_nat {es : List D} {k : Nat} {d : D} (h : es[k]? = some d) (hl : es.length ≤ 16777216) : fPopAt es [.int (k : Int)] = some (es.eraseIdx k, d) := by
  have hk : k < es.length := (List.getElem?_eq_some_iff.mp h).1
  unfold fPopAt
  simp only
  have e : seqIndex? (k : Int) es.length = some k := by
    unfold seqIndex?
    simp
    omega
  rw [if_pos (by omega), e]
  simp only [h]
theorem fIns_nat {es : List D} {k : Nat} {d : D} (hk : k ≤ es.length) (hl : es.length < 16777216) : fIns es [.int (k : Int), d] = some (es.take k ++ [d] ++ es.drop k, .none) := by
  unfold fIns
  simp only
  rw [if_pos ⟨sizeLine_lt hl, by omega, by omega⟩]
  rfl
def rngO2 (ρ : Rho) : Option D → Option D → Out (List D)
  | some (.int i), some (.int j) => if -(2 ^ 62) ≤ i ∧ i < 2 ^ 62 ∧ -(2 ^ 62) ≤ j ∧ j < 2 ^ 62 then .ok (irange i (j - i).toNat) ρ else .bad
  | _, _ => .bad
@[simp] theorem rng2_ap (r r' : R) (ρ : Rho) : rng2 [r, r'] ρ = rngO2 ρ (look r ρ) (look r' ρ) := by
  unfold rng2
  dsimp only
  generalize look r ρ = a
  generalize look r' ρ = b
  cases a with
  | none => rfl
  | some a => cases b with
    | none => cases a <;> rfl
    | some b => cases a <;> cases b <;> rfl
theorem rngO2_int (ρ : Rho) {i j : Int} (h1 : -(2 ^ 62) ≤ i) (h2 : i < 2 ^ 62) (h3 : -(2 ^ 62) ≤ j) (h4 : j < 2 ^ 62) : rngO2 ρ (some (.int i)) (some (.int j)) = .ok (irange i (j - i).toNat) ρ := if_pos ⟨h1, h2, h3, h4⟩
end DL
set_option Elab.async false
set_option maxRecDepth 100000
set_option maxHeartbeats 4000000
namespace DL
open PySem PySem.Spec PyProof.Rows L2
def MthOk (K : PySem.W.Frag) (r : V → List V → Hp → VK → Prop) (g : D → List D → Option T) : Prop := ∀ (Z : List Addr) (H : Hp) (x : V) (vs : List V) (d : D) (ds : List D) (t : T) (Q : VK), (∀ p, H p = none → p ∉ Z) → VR K Z H x d → Paired (VR K Z H) vs ds → g d ds = some t →
  (∀ v H', NewT K Z H H' v t → Q v H') → r x vs H Q
def tyT : D → String
  | .str _ => "str"
  | .list _ => "list"
  | .tuple _ => "tuple"
  | _ => ""
def chkT (T : String) (r : R) : M Unit := fun ρ => match look r ρ with
  | some d => if tyT d = T then .ok () ρ else .bad
  | none => .bad
def opMN (g : D → List D → Option T) (ro : R) (rs : List R) : M R := fun ρ => match look ro ρ, looks rs ρ with
  | some d, some ds => (match g d ds with
    | some t => .ok (.tmp t) ρ
    | none => .bad)
  | _, _ => .bad
theorem VR.tyV_list {K : PySem.W.Frag} {Z : List Addr} {H : Hp} {x : V} {d : D} (h : VR K Z H x d) (ht : tyT d = "list") : tyV K "list" x H := by
  cases d with
  | list z =>
    obtain ⟨a, ws, rfl, rd, _⟩ := h.list
    exact .inl ⟨rfl, ws, rd⟩
  | none => simp [tyT] at ht
  | bool _ => simp [tyT] at ht
  | int _ => simp [tyT] at ht
  | str _ => simp [tyT] at ht
  | tuple _ => simp [tyT] at ht
  | dict _ => simp [tyT] at ht
section
variable {X : Cx} {W : WX} {o a : Expr} {as : List Expr} {mo : M R} {ms : M (List R)} {apos cpos : Pos} {name : Str} {T id : String} {r : V → List V → Hp → VK → Prop} {g : D → List D → Option DL.T}
theorem j_mth (hT : ∀ {Z : List Addr} {H : Hp} {x : V} {d : D}, VR X.K Z H x d → tyT d = T → tyV X.K T x H) (pa : PlainAttrs T) (slot : Slot T name id) (hty : typeOf (.builtin id) = pure (.type "method_descriptor")) (hm : MtR X id r) (hf : MthOk X.K r g) (ho : JE X W o mo) (ha : JEs X W (a :: as) ms)
    (hbase : attributeBase o name X.env (eval o X.env) = eval o X.env)
    (hfew : ((backTo cpos (starEach (a :: as) X.env)).all (fun x => !x.1) && (backToKw cpos (keywordEach [] X.env)).all (fun x => x.1.isSome) && decide ((a :: as).length + ([] : List Keyword).length + (if ([] : List Keyword).isEmpty then 0 else 1) < 30)) = true)
    (hline : (apos.endLine == cpos.line) = true) (hs : starEach (a :: as) X.env = (false, eval a X.env) :: starEach as X.env) (hplain : (backTo cpos (starEach as X.env)).any (·.1) = false) :
    JE X W (.Call (.Attribute o name apos) (a :: as) [] cpos) (M.bind mo fun ro => M.bind (chkT T ro) fun _ => M.bind ms fun rs => opMN g ro rs) :=
  (pe_bm pa slot hty hm ho ha hbase hfew hline hs hplain).imp fun σ H Q h => by
    obtain ⟨P, A, O, ρ, e, h⟩ := h
    refine ⟨P, A, O, ρ, e, (Aft.bind (rl := relR X.K σ) h).mono ?_⟩
    rintro x H1 ⟨O1, ρ1, ro, F, e1, r1, s1, h1⟩
    unfold M.bind chkT at h1
    cases q : look ro ρ1 with
    | none =>
      rw [q] at h1
      exact h1.elim
    | some d =>
      rw [q] at h1
      simp only at h1
      by_cases ht : tyT d = T
      · rw [if_pos ht] at h1
        simp only at h1
        refine ⟨hT (look_vr e1.less r1 q) ht, ?_⟩
        refine ⟨F ++ P, A, O1, ρ1, e1, (Aft.bindP (rl := relRs X.K σ) F s1.less (m := ms) (k := fun rs => opMN g ro rs) h1).mono ?_⟩
        rintro ys H2 ⟨O2, ρ2, rs, G, e2, r2, s2, h2⟩
        have h3 := Aft.step h2 (s1.less.trans s2.less)
        have r1' := r1.step s2.less e1.off
        unfold opMN at h3
        split at h3
        · rename_i d' ds q1 q2
          split at h3
          · rename_i t qt
            exact hf (O2 ++ P) H2 x ys d' ds t Q (fun p hp => e2.less.less.fresh hp) (look_vr e2.less.less r1' q1) (looks_vr e2.less.less r2.less q2) qt fun v H' n => h3.tmp e2.less.less n
          · exact h3.elim
        · exact h3.elim
      · rw [if_neg ht] at h1
        exact h1.elim
end
/-- texts in a list -/
def asStrs : List D → Option (List Str)
  | [] => some []
  | .str b :: ds => (asStrs ds).map (b :: ·)
  | _ => none
theorem asStrs_V {K : PySem.W.Frag} {H : Hp} : ∀ {ds : List D} {vs : List V} {bs : List Str}, RpAll K H vs ds → asStrs ds = some bs → vs = bs.map V.str
  | [], _, _, .nil, h => by
    cases h
    rfl
  | d :: ds, _, bs, .cons a b, h => by
    cases d with
    | str z =>
      unfold asStrs at h
      obtain ⟨es, q1, rfl⟩ := Option.map_eq_some_iff.mp h
      cases a
      rw [asStrs_V b q1]
      rfl
    | _ => cases h
abbrev mthE (T : String) (g : D → List D → Option DL.T) (mo : M R) (ms : M (List R)) : M R := M.bind mo fun ro => M.bind (chkT T ro) fun _ => M.bind ms fun rs => opMN g ro rs
def signs (z : Str) : List D := z.cps.toList.map fun c => .str ⟨#[c]⟩
def fListU : List D → Option T
  | [.list ds] => some (.lst none ds)
  | [.tuple ds] => some (.lst none ds)
  | [.str z] => if z.length ≤ sizeLine then some (.lst none (signs z)) else none
  | _ => none
theorem call_listS {X : Cx} (hc : X.calm = true) : CallR X (.type "list") (fun xs H Q => ∃ z : Str, xs = [.str z] ∧ z.length ≤ sizeLine ∧ ∀ l, H l = none → Q (.ref l) (upd H l (.lst (z.cps.toList.map fun c => V.str ⟨#[c]⟩)))) := by
  intro pins s σ H xs us Q I r h
  obtain ⟨z, rfl, hz, q⟩ := h
  obtain ⟨u, rfl, t, rfl⟩ := vals1 r
  refine PySem.call_list_str (I.ok.hd hc) z t (fun h' tk acc' c' hk hD hacc => ?_) hz
  have hv : Vals (z.cps.toList.map fun c => V.str ⟨#[c]⟩) acc'.toList := by
    have key : ∀ (cs : List Nat) (us : List Value), us.length = cs.length → (∀ (j : Nat) (v : Value), us[j]? = some v → ∃ c u, cs[j]? = some c ∧ v = .str ⟨#[c]⟩ u) → Vals (cs.map fun c => V.str ⟨#[c]⟩) us := by
      intro cs
      induction cs with
      | nil =>
        intro us hl _
        cases us with
        | nil => exact .nil
        | cons _ _ => cases hl
      | cons c cs ih =>
        intro us hl hj
        cases us with
        | nil => cases hl
        | cons u us =>
          obtain ⟨c', t, e1, e2⟩ := hj 0 u rfl
          cases e1
          exact .cons ⟨t, e2⟩ (ih us (by simpa using hl) fun j v e => hj (j + 1) v e)
    refine key _ _ ?_ fun j v e => ?_
    · rw [Array.length_toList, hacc.1, Array.length_toList]
    · obtain ⟨c, u, e1, e2⟩ := hacc.2 j v (by rw [← Array.getElem?_toList]; exact e)
      exact ⟨c, u, by rw [Array.getElem?_toList]; exact e1, e2⟩
  refine ⟨.ref s.heap.objs.size, upd H s.heap.objs.size (.lst (z.cps.toList.map fun c => V.str ⟨#[c]⟩)), I.laid (t' := tk) hk (Nat.le_refl _)
    (show ObjOk X.prog X.w _ _ _ (.lst (z.cps.toList.map fun c => V.str ⟨#[c]⟩)) from ⟨by rw [List.length_map, Array.length_toList]; exact hz, acc'.toList, c', hv, by rw [Array.toArray_toList]; exact hD⟩), rfl, q _ (I.hok.fresh (Nat.le_refl _))⟩
abbrev rListU (K : PySem.W.Frag) : List V → Hp → VK → Prop := fun xs H Q => (∃ p ys, xs = [.ref p] ∧ (SqL K H p ys ∨ SqT K H p ys) ∧ ∀ l, H l = none → Q (.ref l) (upd H l (.lst ys))) ∨
  ∃ z : Str, xs = [.str z] ∧ z.length ≤ sizeLine ∧ ∀ l, H l = none → Q (.ref l) (upd H l (.lst (z.cps.toList.map fun c => V.str ⟨#[c]⟩)))
theorem call_listU {X : Cx} (hc : X.calm = true) : CallR X (.type "list") (rListU X.K) := call_list_of.or (call_listS hc)
theorem listU_ok {K : PySem.W.Frag} : CallOk K (rListU K) fListU := by
  intro Z H vs ds t Q hz hv hf q
  unfold fListU at hf
  split at hf
  · cases hf
    obtain ⟨v, rfl, a⟩ := paired1 hv
    obtain ⟨p, ws, rfl, h1, h2⟩ := a.list
    exact .inl ⟨p, ws, rfl, .inl h1, fun l hl => q _ _ (NewT.lst hl h2)⟩
  · cases hf
    obtain ⟨v, rfl, a⟩ := paired1 hv
    obtain ⟨p, ws, rfl, h1, h2, h3⟩ := a.tuple
    exact .inl ⟨p, ws, rfl, .inr h1, fun l hl => q _ _ (NewT.lst hl h2)⟩
  · split at hf
    · rename_i z hl
      cases hf
      obtain ⟨v, rfl, a⟩ := paired1 hv
      cases a.str
      refine .inr ⟨z, rfl, hl, fun l hl => q _ _ (NewT.lst hl ?_)⟩
      unfold signs
      generalize z.cps.toList = cs
      induction cs with
      | nil => exact .nil
      | cons c cs ih => exact .cons (.str _) ih
    · cases hf
  · cases hf
end DL
set_option Elab.async false
set_option maxRecDepth 100000
set_option maxHeartbeats 4000000
namespace DL
open PySem PySem.Spec PyProof.Rows L2
section
variable {P : Program} {w : World} {K : PySem.W.Frag} {mg : Str → Option Value} {base : Heap} {x qual : Str} {params : Arguments} {body : List Stmt} {scope : Scope} {f : Addr} {fd : FuncData}
theorem start_envL {N ps : List Str} {n : Nat} {Pr : List Addr} {H : Hp} {a : Addr} {vs zs : List V} {es ds : List D} (hN : N.length = ps.length + n) (hl : ds.length + 1 = ps.length) (ha : H a = some (.lst zs)) (hn : a ∉ Pr) (rz : RpAll K (wo (a :: Pr) H) zs es) (rp : RpAll K (fun _ => none) vs ds) (hP : ∀ a ∈ Pr, ∃ o, H a = some o) :
    EnvR K Pr (.ref a :: vs) [a] H (L2.start N (.ref a :: vs)) ((some (.lst (some 0) es) :: ds.map (fun d => some (T.val d))) ++ List.replicate n none) := by
  have hv := rp.length
  have key : ∀ (i : Nat) (t : T), ((some (.lst (some 0) es) :: ds.map (fun d => some (T.val d))) ++ List.replicate n none)[i]? = some (some t) → (i = 0 ∧ t = .lst (some 0) es) ∨ ∃ j d, i = j + 1 ∧ ds[j]? = some d ∧ t = .val d := by
    intro i t q
    cases i with
    | zero =>
      left
      simp only [List.cons_append, List.getElem?_cons_zero, Option.some.injEq] at q
      exact ⟨rfl, q.symm⟩
    | succ j =>
      right
      rw [List.cons_append, List.getElem?_cons_succ] at q
      by_cases hi : j < ds.length
      · rw [List.getElem?_append_left (by simpa using hi), List.getElem?_map] at q
        obtain ⟨d, q1, q2⟩ := Option.map_eq_some_iff.mp q
        cases q2
        exact ⟨j, d, rfl, q1, rfl⟩
      · rw [List.getElem?_append_right (by simpa using hi), List.getElem?_replicate] at q
        split at q <;> cases q
  have at0 : (L2.start N (.ref a :: vs))[0]? = some (some (V.ref a)) := by
    unfold L2.start
    rfl
  refine ⟨?_, ⟨fun i => if i = 0 then [a] else [], fun i t q => ?_, fun i j hij b h => ?_⟩, fun b hb => ⟨fun z => hn (by rw [← List.mem_singleton.mp z]; exact hb), hP b hb⟩, fun b hb => ?_, fun i k ds' q => ?_⟩
  · simp only [L2.start, List.length_append, List.length_map, List.length_replicate, List.length_cons]
    omega
  · rcases key i t q with ⟨rfl, rfl⟩ | ⟨j, d, rfl, q1, rfl⟩
    · refine ⟨.ref a, at0, ?_, fun b h => by simpa using h⟩
      show RepT K ([a] ++ Pr) H (V.ref a) (T.lst (some 0) es) [a]
      refine .lst (List.mem_append_left _ (List.mem_singleton.mpr rfl)) ha (rz.mono fun b o z => ?_)
      obtain ⟨z1, z2⟩ := wo_some.mp z
      exact wo_some.mpr ⟨by simpa using z1, z2⟩
    · obtain ⟨v, q2, r⟩ := rp.get q1
      refine ⟨v, ?_, .val (r.mono fun _ _ z => by cases z), fun b h => by simp at h⟩
      unfold L2.start
      rw [List.getElem?_append_left (by simpa using (List.getElem?_eq_some_iff.mp q2).1), List.getElem?_map, List.getElem?_cons_succ, q2]
      rfl
  · by_cases hi : i = 0
    · subst hi
      simp only [if_neg (Ne.symm hij)]
      exact List.not_mem_nil
    · simp only [if_neg hi] at h
      exact absurd h List.not_mem_nil
  · rw [List.mem_singleton.mp hb]
    exact ⟨_, ha⟩
  · rcases key i _ q with ⟨rfl, z⟩ | ⟨j, d, rfl, _, z⟩
    · cases z
      intro ht
      cases ht
      exact ⟨.ref a, at0, rfl, .inl (by decide)⟩
    · cases z
      intro ht
      cases ht
end
theorem rp_scal {K : PySem.W.Frag} {H : Hp} {v : V} {d : D} (h : Rp K H v d) (s : scalD d = true) : Rp K (fun _ => none) v d := by
  cases h with
  | non => exact .non
  | bl b => exact .bl b
  | int i => exact .int i
  | str i => exact .str i
  | lst _ _ => cases s
  | tup _ _ => cases s
  | dct _ _ _ => cases s
theorem rps_scal {K : PySem.W.Frag} {H : Hp} : ∀ {vs : List V} {ds : List D}, RpAll K H vs ds → ds.all scalD = true → RpAll K (fun _ => none) vs ds
  | _, _, .nil, _ => .nil
  | _, _, .cons a b, h => by
    rw [List.all_cons, Bool.and_eq_true] at h
    exact .cons (rp_scal a h.1) (rps_scal b h.2)
section
variable {X : Cx} {W : WX} {k n : Nat} {f : Addr} {fd : FuncData} {ps : List Str} {g : List D → List D → Option (List D × D)} {x : Str} {p pos : Pos} {e : Expr} {es : List Expr} {ms : M (List R)}
end
end DL
set_option Elab.async false
set_option maxRecDepth 100000
set_option maxHeartbeats 4000000
namespace DL
open PySem PySem.Spec PyProof.Rows L2
section
variable {X : Cx} {W : WX} {x : Str} {kvs : List (Str × D)} {b : Expr} {mb : M R} {p pos : Pos}
end
abbrev AlY : Type := He.AlD × List (Option (List (Option (Str × Int))))
abbrev TabN : Type := Str × List Str
def obsY (fx : PySem.W.Frag → Bool) (fa : List He.Fa) (fn : List He.DefD) (ts : List TabN) (K : PySem.W.Frag) : AlY := (obsX fx fa fn K, ts.map fun t => He.dicW K (He.ga K t.1))
def valY (fn : List He.DefD) (ts : List TabN) (w : World) : AlY := (He.valD fn, ts.map fun t => some (He.keysIn w.params t.2))
def SaysY (fx : PySem.W.Frag → Bool) (fa : List He.Fa) (fn : List He.DefD) (ts : List TabN) (w : World) (K : PySem.W.Frag) : Prop := obsY fx fa fn ts K = valY fn ts w
theorem SaysY.x {fx : PySem.W.Frag → Bool} {fa : List He.Fa} {fn : List He.DefD} {ts : List TabN} {w : World} {K : PySem.W.Frag} (c : SaysY fx fa fn ts w K) : SaysX fx fa fn K := congrArg (fun z : AlY => z.1) c
end DL
set_option Elab.async false
set_option maxRecDepth 100000
set_option maxHeartbeats 4000000
namespace DL
open PySem L2
def Short (l : List Nat) : Prop := (∀ c ∈ l, isLet c) ∧ ∀ a c d b, l = a ++ c :: d :: b → (c = 115 ↔ ¬ d = 115)
theorem Short.nil : Short [] := ⟨fun _ h => (by cases h), fun a c d b h => by simp at h⟩
theorem Short.one {c : Nat} (h : isLet c) : Short [c] := ⟨fun x hx => by rw [List.mem_singleton.mp hx]; exact h, fun a x d b h => by
  have := congrArg List.length h
  simp at this
  omega⟩
theorem Short.cons {c d : Nat} {t : List Nat} (h : Short (d :: t)) (hc : isLet c) (hj : c = 115 ↔ ¬ d = 115) : Short (c :: d :: t) := by
  refine ⟨fun x hx => ?_, fun a x y b e => ?_⟩
  · rcases List.mem_cons.mp hx with rfl | hx
    · exact hc
    · exact h.1 x hx
  · cases a with
    | nil =>
      simp only [List.nil_append, List.cons.injEq] at e
      obtain ⟨rfl, rfl, rfl⟩ := e
      exact hj
    | cons z a =>
      simp only [List.cons_append, List.cons.injEq] at e
      exact h.2 a x y b e.2
theorem Short.rev {l : List Nat} (h : Short l) : Short l.reverse := by
  refine ⟨fun c hc => h.1 c (List.mem_reverse.mp hc), fun a c d b e => ?_⟩
  have := congrArg List.reverse e
  simp only [List.reverse_reverse, List.reverse_append, List.reverse_cons, List.append_assoc, List.singleton_append] at this
  have := h.2 b.reverse d c a.reverse (by simpa using this)
  constructor
  · intro h1 h2
    exact (this.mp h2) h1
  · intro h1
    exact Decidable.by_contra fun z => h1 (this.mpr z)
theorem Short.left {a b : List Nat} (h : Short (a ++ b)) : Short a := ⟨fun c hc => h.1 c (List.mem_append_left _ hc), fun x c d y e => h.2 x c d (y ++ b) (by rw [e]; simp)⟩
theorem Short.right {a b : List Nat} (h : Short (a ++ b)) : Short b := ⟨fun c hc => h.1 c (List.mem_append_right _ hc), fun x c d y e => h.2 (a ++ x) c d y (by rw [e]; simp)⟩
theorem letM_det (c : Nat) : (letM c).det = 1 := M4.det_let c
theorem letM_up (c : Nat) : ¬ (letM c).down := by
  unfold letM
  split
  · decide
  · split <;> decide
theorem trn_fold (l : List Nat) : ∀ m : M4, m.det = 1 → ¬ m.down → l.foldl (fun m c => m.tm (letM c)) m = m.tm (trn l) := by
  induction l with
  | nil =>
    intro m hd hu
    show m = m.tm M4.one
    rw [M4.tm_one hu]
  | cons c l ih =>
    intro m hd hu
    show l.foldl _ (m.tm (letM c)) = _
    rw [ih _ (M4.det_tm hd (letM_det c)) (M4.tm_up hd (letM_det c))]
    show _ = m.tm (l.foldl _ (M4.one.tm (letM c)))
    rw [ih _ (M4.det_tm rfl (letM_det c)) (M4.tm_up rfl (letM_det c)), M4.one_tm (letM_up c), M4.tm_assoc hd (letM_det c) (trn_det l)]
theorem trn_app (u v : List Nat) : trn (u ++ v) = (trn u).tm (trn v) := by
  show (u ++ v).foldl _ M4.one = _
  rw [List.foldl_append]
  exact trn_fold v _ (trn_det u) (trn_up u)
def Pos (m : M4) : Prop := ∃ e : Int, (e = 1 ∨ e = -1) ∧ 1 ≤ e * m.a ∧ 1 ≤ e * m.d ∧ e * m.b ≤ 0 ∧ e * m.c ≤ 0 ∧ e * m.b + e * m.c < 0
theorem Pos.nrm {m : M4} (h : Pos m) : Pos m.nrm := by
  unfold M4.nrm
  split
  · obtain ⟨e, he, h1, h2, h3, h4, h5⟩ := h
    refine ⟨-e, by omega, ?_, ?_, ?_, ?_, ?_⟩ <;> (simp only [M4.neg, Int.neg_mul_neg]; assumption)
  · exact h
theorem Pos.sr {m : M4} (h : Pos m) : Pos (m.tm ⟨1, -1, 0, 1⟩) := by
  apply Pos.nrm
  obtain ⟨e, he, h1, h2, h3, h4, h5⟩ := h
  refine ⟨e, he, ?_⟩
  rcases he with rfl | rfl <;> (simp only [M4.mul]; omega)
theorem Pos.sq {m : M4} (h : Pos m) : Pos (m.tm ⟨-1, 0, 1, -1⟩) := by
  apply Pos.nrm
  obtain ⟨e, he, h1, h2, h3, h4, h5⟩ := h
  refine ⟨-e, by omega, ?_⟩
  rcases he with rfl | rfl <;> (simp only [M4.mul]; omega)
inductive Ev : List Nat → Prop
  | base (x : Nat) : x = 114 ∨ x = 113 → Ev [x, 115]
  | step (x : Nat) {st : List Nat} : x = 114 ∨ x = 113 → Ev st → Ev (x :: 115 :: st)
theorem Ev.pos {st : List Nat} (h : Ev st) : Pos (trn st.reverse) := by
  induction h with
  | base x hx =>
    rcases hx with rfl | rfl
    · exact ⟨1, .inl rfl, by decide, by decide, by decide, by decide, by decide⟩
    · exact ⟨-1, .inr rfl, by decide, by decide, by decide, by decide, by decide⟩
  | @step x st hx _ ih =>
    have e : (x :: 115 :: st).reverse = st.reverse ++ [115, x] := by simp
    rw [e, trn_app]
    rcases hx with rfl | rfl
    · exact ih.sr
    · exact ih.sq
end DL
set_option Elab.async false
set_option maxRecDepth 100000
set_option maxHeartbeats 4000000
namespace DL
open PySem L2
def pw (c : Nat) : Nat := if c = 114 then 1 else 2
def third (k : Nat) : List Nat := if k = 0 then [] else if k = 1 then [114] else [113]
def sr (n : Nat) : List Nat := (List.replicate n [115, 114]).flatten
end DL
set_option Elab.async false
set_option maxRecDepth 100000
set_option maxHeartbeats 4000000
namespace DL
open PySem L2
@[simp] theorem fListU_l (ds : List D) : fListU [.list ds] = some (.lst none ds) := (rfl)
@[simp] theorem fListU_t (ds : List D) : fListU [.tuple ds] = some (.lst none ds) := (rfl)
@[simp] theorem fListU_s (z : Str) (h : z.length ≤ 16777216) : fListU [.str z] = some (.lst none (signs z)) := if_pos (sizeLine_big h)
def chtO (T : String) (ρ : Rho) : Option D → Out Unit
  | some d => if tyT d = T then .ok () ρ else .bad
  | none => .bad
@[simp] theorem chkT_ap (T : String) (r : R) (ρ : Rho) : chkT T r ρ = chtO T ρ (look r ρ) := (rfl)
@[simp] theorem chtO_str (ρ : Rho) (z : Str) : chtO "str" ρ (some (.str z)) = .ok () ρ := (rfl)
def mnR (ρ : Rho) : Option T → Out R
  | some t => .ok (.tmp t) ρ
  | none => .bad
def mnO (g : D → List D → Option T) (ρ : Rho) : Option D → Option (List D) → Out R
  | some d, some ds => mnR ρ (g d ds)
  | _, _ => .bad
@[simp] theorem opMN_ap (g : D → List D → Option T) (ro : R) (rs : List R) (ρ : Rho) : opMN g ro rs ρ = mnO g ρ (look ro ρ) (looks rs ρ) := by
  unfold opMN
  generalize look ro ρ = a
  generalize looks rs ρ = b
  cases a with
  | none => rfl
  | some d =>
    cases b with
    | none => rfl
    | some ds =>
      show _ = mnR ρ (g d ds)
      cases h : g d ds <;> simp only [h] <;> rfl
@[simp] theorem mnO_ok (g : D → List D → Option T) (ρ : Rho) (d : D) (ds : List D) : mnO g ρ (some d) (some ds) = mnR ρ (g d ds) := (rfl)
@[simp] theorem mnR_some (ρ : Rho) (t : T) : mnR ρ (some t) = .ok (.tmp t) ρ := (rfl)
abbrev Lt (c : Nat) : D := .str ⟨#[c]⟩
theorem atI_last {α : Type} (l : List α) (a : α) : atI (l ++ [a]) (-1) = some a := by
  unfold atI ixN
  rw [if_neg (by decide), if_pos (by simp; omega)]
  simp only [List.length_append, List.length_cons, List.length_nil, Option.bind_some]
  have : ((-1 : Int) + ((l.length + (0 + 1) : Nat) : Int)).toNat = l.length := by omega
  rw [this]
  simp
end DL
set_option Elab.async false
set_option maxRecDepth 100000
set_option maxHeartbeats 4000000
namespace DL
open PySem L2
@[simp] theorem fLen_s (z : Str) (h : z.length ≤ 16777216) : fLen [.str z] = some (.val (.int z.length)) := if_pos (sizeLine_big h)
end DL
set_option Elab.async false
set_option maxRecDepth 100000
set_option maxHeartbeats 4000000
namespace DL
open PySem L2
end DL
set_option Elab.async false
set_option maxRecDepth 100000
set_option maxHeartbeats 4000000
namespace DL
open PySem PySem.Spec PyProof.Rows L2
section
variable {X : Cx} {W : WX}
end
section
variable {X : Cx} {W : WX} {a b c : Expr} {pos : PySem.Pos} {ma mb mc : M R} {p p' : Int → Int → Bool}
end
theorem cr_range1 {X : Cx} : CallR X (.type "range") (fun vs H Q => ∃ j, vs = [V.int j] ∧ ∀ p, H p = none → Q (.ref p) (upd H p (.rng 0 j))) := by
  intro pins s σ H vs us Q I r h
  obtain ⟨j, rfl, q⟩ := h
  obtain ⟨u1, rfl, rj⟩ := vals1 r
  obtain ⟨t, rfl⟩ := rj
  refine PySem.call_range_1 ⟨.ref s.heap.objs.size, upd H s.heap.objs.size (.rng 0 j), I.laid (t' := s.toks + 1 + 1) (fun b o e => Heap.get?_push_of_some _ e) (Nat.le_refl _) ?_, rfl, q _ (I.hok.fresh (Nat.le_refl _))⟩
  exact ⟨s.toks, t, s.toks + 1, Heap.get?_push_size _ rfl⟩
theorem call_listR {X : Cx} (hc : X.calm = true) : CallR X (.type "list") (fun xs H Q => ∃ p j, xs = [.ref p] ∧ H p = some (.rng 0 j) ∧ 0 ≤ j ∧ j ≤ 1000000 ∧ ∀ l, H l = none → Q (.ref l) (upd H l (.lst ((List.range j.toNat).map fun (i : Nat) => V.int (i : Int))))) := by
  intro pins s σ H xs us Q I r h
  obtain ⟨p, j, rfl, hp, h0, h1, q⟩ := h
  obtain ⟨u, rfl, rx⟩ := vals1 r
  cases rx
  obtain ⟨t, u, v, hr⟩ := I.hok p _ hp
  have hn : Builtin.Range.rangeSize 0 j 1 = (j.toNat : Nat) := by
    rw [PySem.rangeSize_one]
    split <;> omega
  refine PySem.call_list_range (I.ok.hd hc) (n := j.toNat) hr (PySem.small_one (by omega) (by omega) (by omega) (by omega)) hn (by omega) (fun h' tk acc' c' hk hD hacc => ?_)
  have hv : Vals ((List.range j.toNat).map fun (i : Nat) => V.int (i : Int)) acc'.toList := by
    have key : ∀ (vs : List V) (us : List Value), us.length = vs.length → (∀ (i : Nat) (v : V) (x : Value), vs[i]? = some v → us[i]? = some x → RelV v x) → Vals vs us := by
      intro vs
      induction vs with
      | nil =>
        intro us hl _
        cases us with
        | nil => exact .nil
        | cons _ _ => cases hl
      | cons c cs ih =>
        intro us hl hj
        cases us with
        | nil => cases hl
        | cons u us => exact .cons (hj 0 c u rfl rfl) (ih us (by simpa using hl) fun i v x a b => hj (i + 1) v x a b)
    refine key _ _ ?_ fun i v x a b => ?_
    · rw [Array.length_toList, hacc.1, List.length_map, List.length_range]
    · obtain ⟨t', e1⟩ := hacc.2 i x (by rw [← Array.getElem?_toList]; exact b)
      rw [List.getElem?_map] at a
      obtain ⟨k, k1, k2⟩ := Option.map_eq_some_iff.mp a
      have : k = i := by
        have hi := (List.getElem?_eq_some_iff.mp k1)
        obtain ⟨h1, h2⟩ := hi
        rw [List.getElem_range] at h2
        exact h2.symm
      subst this
      subst k2
      exact ⟨t', by rw [e1]; simp⟩
  refine ⟨.ref s.heap.objs.size, upd H s.heap.objs.size (.lst ((List.range j.toNat).map fun (i : Nat) => V.int (i : Int))), I.laid (t' := tk) hk (Nat.le_refl _)
    (show ObjOk X.prog X.w _ _ _ (.lst ((List.range j.toNat).map fun (i : Nat) => V.int (i : Int))) from ⟨?_, acc'.toList, c', hv, by rw [Array.toArray_toList]; exact hD⟩), rfl, q _ (I.hok.fresh (Nat.le_refl _))⟩
  have := line63
  rw [List.length_map, List.length_range]
  unfold sizeLine
  omega
def lrM (rs : List R) : M R := fun ρ => match rs with
  | [r] => (match look r ρ with
    | some (.int j) => if 0 ≤ j ∧ j ≤ 1000000 then .ok (.tmp (.lst none (irange 0 j.toNat))) ρ else .bad
    | _ => .bad)
  | _ => .bad
theorem j_listRange {X : Cx} {W : WX} {a : Expr} {p p2 pos pos2 : PySem.Pos} {ms : M (List R)} (hc : X.calm = true) (hg : Gl X "range") (hm : X.mg "range" = none) (hg2 : Gl X "list") (hm2 : X.mg "list" = none) (ha : JEs X W [a] ms)
    (he : starEach [a] X.env = (false, eval a X.env) :: starEach [] X.env) (hpl : (backTo pos2 (starEach [] X.env)).any (·.1) = false)
    (he2 : starEach [.Call (.Name "range" p2) [a] [] pos2] X.env = (false, eval (.Call (.Name "range" p2) [a] [] pos2) X.env) :: starEach [] X.env) (hpl2 : (backTo pos (starEach [] X.env)).any (·.1) = false) :
    JE X W (.Call (.Name "list" p) [.Call (.Name "range" p2) [a] [] pos2] [] pos) (M.bind ms lrM) :=
  (pe_callTy (call_listR hc) hg2 hm2 (by decide +kernel) (pa_cons (pe_callTy cr_range1 hg hm (by decide +kernel) ha (by decide) (by decide) he hpl) pa_nil he2) (by decide) (by decide) he2 hpl2).imp fun σ H Q h => by
    obtain ⟨P, A, O, ρ, e, h⟩ := h
    show tRs X.K X.mg W ms σ H _
    refine ⟨P, A, O, ρ, e, (Aft.bind (rl := relRs X.K σ) h).mono ?_⟩
    rintro vs H1 ⟨O1, ρ1, rs, F, e1, r1, s1, h1⟩
    unfold lrM at h1
    split at h1
    · obtain ⟨v, rfl, hv⟩ := rrs1 e1.less r1
      split at h1
      · rename_i j q
        split at h1
        · rename_i hj
          cases (hv _ q).int
          refine ⟨j, rfl, fun r hr => ?_⟩
          refine ⟨r, j, rfl, upd_same, hj.1, hj.2, fun l hl => ?_⟩
          have hl0 : H1 l = none := by
            by_cases z : l = r
            · rw [z, upd_same] at hl
              cases hl
            · rw [upd_ne z] at hl
              exact hl
          have more : ∀ b o, H1 b = some o → upd (upd H1 r (.rng 0 j)) l (.lst ((List.range j.toNat).map fun (i : Nat) => V.int (i : Int))) b = some o := fun b o z => by
            rw [upd_ne (ne_of_none z hl0), upd_ne (ne_of_none z hr)]
            exact z
          have rp : ∀ Hx : Hp, RpAll X.K Hx ((List.range j.toNat).map fun (i : Nat) => V.int (i : Int)) (irange 0 j.toNat) := fun Hx => by
            unfold irange
            generalize List.range j.toNat = ns
            induction ns with
            | nil => exact .nil
            | cons k ns ih =>
              refine .cons ?_ ih
              show Rp X.K Hx (V.int (k : Int)) (PyData.int (0 + (k : Int)))
              rw [Int.zero_add]
              exact .int _
          exact (h1.step s1.less).tmp e1.less ⟨more, ⟨[l], .lst (List.mem_append_left _ (List.mem_singleton.mpr rfl)) upd_same (rp _), fun a ha => by rw [List.mem_singleton.mp ha]; exact hl0⟩, rfl⟩
        · exact h1.elim
      · exact h1.elim
    · exact h1.elim
end DL
set_option Elab.async false
set_option maxRecDepth 100000
set_option maxHeartbeats 4000000
namespace DL
open PySem L2
abbrev P2 := Int × Int
def fD (p : P2) : D := .tuple [.int p.1, .int p.2]
def crs (x y : P2) : Int := y.1 * x.2 - x.1 * y.2
def Far : List P2 → Prop
  | [] => True
  | [_] => True
  | x :: y :: t => crs x y = 1 ∧ Far (y :: t)
def med (x y : P2) : P2 := (x.1 + y.1, x.2 + y.2)
theorem Far.ins : ∀ {A : List P2} {x y : P2} {B : List P2}, Far (A ++ x :: y :: B) → Far (A ++ x :: med x y :: y :: B)
  | [], x, y, B, h => by
    obtain ⟨h1, h2⟩ := h
    refine ⟨?_, ?_, h2⟩
    · unfold crs med at *
      dsimp only
      grind
    · unfold crs med at *
      dsimp only
      grind
  | [a], x, y, B, h => ⟨h.1, Far.ins (A := []) h.2⟩
  | a :: b :: A, x, y, B, h => ⟨h.1, Far.ins (A := b :: A) h.2⟩
theorem Far.at_ : ∀ {l : List P2} {i : Nat} {x y : P2}, Far l → l[i]? = some x → l[i + 1]? = some y → crs x y = 1
  | [], i, x, y, _, h1, _ => by simp at h1
  | [_], i, x, y, _, _, h2 => by simp at h2
  | a :: b :: t, 0, x, y, h, h1, h2 => by
    simp at h1 h2
    subst h1 h2
    exact h.1
  | a :: b :: t, i + 1, x, y, h, h1, h2 => Far.at_ (l := b :: t) (i := i) h.2 (by simpa using h1) (by simpa using h2)
def Bd (N : Nat) (l : List P2) : Prop := ∀ x ∈ l, x.1.natAbs ≤ N ∧ x.2.natAbs ≤ N
/-- a row: -1/0, what lies within, 1/0 -/
structure RowF (mid : List P2) : Prop where
  far : Far ((-1, 0) :: mid ++ [(1, 0)])
  pos : ∀ x ∈ mid, 1 ≤ x.2
  zero : (0, 1) ∈ mid
  bd : Bd (2 ^ mid.length) mid
theorem row0 : RowF [(0, 1)] := ⟨by simp [Far, crs], by simp, by simp, by simp [Bd]⟩
def full (mid : List P2) : List P2 := (-1, 0) :: mid ++ [(1, 0)]
theorem full_len (mid : List P2) : (full mid).length = mid.length + 2 := by simp [full]
theorem mid_ne {mid : List P2} (h : RowF mid) : mid ≠ [] := fun z => by
  have := h.zero
  rw [z] at this
  cases this
/-- one more within -/
theorem row_ins {mid : List P2} (h : RowF mid) {k : Nat} (hk : k ≤ mid.length) : ∃ (x y : P2) (mid' : List P2), (full mid)[k]? = some x ∧ (full mid)[k + 1]? = some y ∧ x.1.natAbs ≤ 2 ^ mid.length ∧ x.2.natAbs ≤ 2 ^ mid.length ∧ y.1.natAbs ≤ 2 ^ mid.length ∧ y.2.natAbs ≤ 2 ^ mid.length ∧
    (full mid).take (k + 1) ++ [med x y] ++ (full mid).drop (k + 1) = full mid' ∧ mid'.length = mid.length + 1 ∧ RowF mid' := by
  have hl := full_len mid
  have hx : (full mid)[k]? = some ((full mid)[k]'(by omega)) := List.getElem?_eq_getElem (by omega)
  have hy : (full mid)[k + 1]? = some ((full mid)[k + 1]'(by omega)) := List.getElem?_eq_getElem (by omega)
  generalize hxe : (full mid)[k]'(by omega) = x at hx
  generalize hye : (full mid)[k + 1]'(by omega) = y at hy
  have two : 1 ≤ 2 ^ mid.length := Nat.one_le_two_pow
  have mem : ∀ z ∈ full mid, z.1.natAbs ≤ 2 ^ mid.length ∧ z.2.natAbs ≤ 2 ^ mid.length := fun z hz => by
    unfold full at hz
    rw [List.cons_append] at hz
    rcases List.mem_cons.mp hz with rfl | hz
    · exact ⟨by simpa using two, by simp⟩
    · rcases List.mem_append.mp hz with hz | hz
      · exact h.bd z hz
      · rw [List.mem_singleton.mp hz]
        exact ⟨by simpa using two, by simp⟩
  have mx := mem x (List.mem_of_getElem? hx)
  have my := mem y (List.mem_of_getElem? hy)
  have split : full mid = (full mid).take k ++ x :: y :: (full mid).drop (k + 2) := by
    have e1 : (full mid).drop k = x :: (full mid).drop (k + 1) := by
      rw [List.drop_eq_getElem_cons (show k < (full mid).length by omega), hxe]
    have e2 : (full mid).drop (k + 1) = y :: (full mid).drop (k + 2) := by
      rw [List.drop_eq_getElem_cons (show k + 1 < (full mid).length by omega), hye]
    rw [← e2, ← e1, List.take_append_drop]
  have et : (full mid).take (k + 1) ++ [med x y] ++ (full mid).drop (k + 1) = (full mid).take k ++ x :: med x y :: y :: (full mid).drop (k + 2) := by
    have e2 : (full mid).drop (k + 1) = y :: (full mid).drop (k + 2) := by
      rw [List.drop_eq_getElem_cons (show k + 1 < (full mid).length by omega), hye]
    have e3 : (full mid).take (k + 1) = (full mid).take k ++ [x] := by
      rw [List.take_add_one, hx]
      rfl
    rw [e2, e3]
    simp
  have hfar : Far ((full mid).take k ++ x :: med x y :: y :: (full mid).drop (k + 2)) := Far.ins (by rw [← split]; exact h.far)
  have e4 : (full mid).take (k + 1) = (-1, 0) :: mid.take k := by
    show ((-1, 0) :: (mid ++ [(1, 0)])).take (k + 1) = _
    rw [List.take_succ_cons, List.take_append_of_le_length hk]
  have e5 : (full mid).drop (k + 1) = mid.drop k ++ [(1, 0)] := by
    show ((-1, 0) :: (mid ++ [(1, 0)])).drop (k + 1) = _
    rw [List.drop_succ_cons, List.drop_append_of_le_length hk]
  have ef : (full mid).take (k + 1) ++ [med x y] ++ (full mid).drop (k + 1) = full (mid.take k ++ [med x y] ++ mid.drop k) := by
    rw [e4, e5]
    simp [full]
  refine ⟨x, y, mid.take k ++ [med x y] ++ mid.drop k, hx, hy, mx.1, mx.2, my.1, my.2, ef, ?_, ?_⟩
  · simp only [List.length_append, List.length_take, List.length_drop, List.length_cons, List.length_nil]
    omega
  · have hl2 : (mid.take k ++ [med x y] ++ mid.drop k).length = mid.length + 1 := by
      simp only [List.length_append, List.length_take, List.length_drop, List.length_cons, List.length_nil]
      omega
    have pos2 : 0 ≤ x.2 ∧ 0 ≤ y.2 ∧ 1 ≤ x.2 + y.2 := by
      have key : ∀ z ∈ full mid, 0 ≤ z.2 := fun z hz => by
        unfold full at hz
        rw [List.cons_append] at hz
        rcases List.mem_cons.mp hz with rfl | hz
        · simp
        · rcases List.mem_append.mp hz with hz | hz
          · have := h.pos z hz
            omega
          · rw [List.mem_singleton.mp hz]
            simp
      have kx := key x (List.mem_of_getElem? hx)
      have ky := key y (List.mem_of_getElem? hy)
      have hc := h.far.at_ hx hy
      unfold crs at hc
      refine ⟨kx, ky, ?_⟩
      rcases Int.lt_or_le 0 (x.2 + y.2) with z | z
      · omega
      · have z1 : x.2 = 0 := by omega
        have z2 : y.2 = 0 := by omega
        rw [z1, z2] at hc
        simp at hc
    refine ⟨?_, fun z hz => ?_, ?_, ?_⟩
    · have : ((-1, 0) : P2) :: (mid.take k ++ [med x y] ++ mid.drop k) ++ [(1, 0)] = full (mid.take k ++ [med x y] ++ mid.drop k) := rfl
      rw [this, ← ef, et]
      exact hfar
    · rcases List.mem_append.mp hz with hz | hz
      · rcases List.mem_append.mp hz with hz | hz
        · exact h.pos z (List.mem_of_mem_take hz)
        · rw [List.mem_singleton.mp hz]
          exact pos2.2.2
      · exact h.pos z (List.mem_of_mem_drop hz)
    · have hz := h.zero
      rw [← List.take_append_drop k mid] at hz
      rcases List.mem_append.mp hz with hz | hz
      · exact List.mem_append_left _ (List.mem_append_left _ hz)
      · exact List.mem_append_right _ hz
    · rw [hl2]
      have dbl : 2 ^ (mid.length + 1) = 2 ^ mid.length * 2 := Nat.pow_succ ..
      intro z hz
      rcases List.mem_append.mp hz with hz | hz
      · rcases List.mem_append.mp hz with hz | hz
        · have := h.bd z (List.mem_of_mem_take hz)
          omega
        · rw [List.mem_singleton.mp hz]
          unfold med
          dsimp only
          omega
      · have := h.bd z (List.mem_of_mem_drop hz)
        omega
theorem at_fD {l : List P2} {k : Int} {x : P2} (h0 : 0 ≤ k) (h : l[k.toNat]? = some x) : atI (l.map fD) k = some (.tuple [.int x.1, .int x.2]) := by
  have e := atI_n (l := l.map fD) (k := k.toNat) (a := fD x) (by rw [List.getElem?_map, h]; rfl)
  rwa [show ((k.toNat : Nat) : Int) = k by omega] at e
inductive Mk where
  | half | third | pair (j : Nat)
def mkD : Mk → D
  | .half => .str "half"
  | .third => .str "third"
  | .pair j => .int j
/-- marks that fit one another, but at the places that are left -/
structure MkOk (ms : List Mk) (left : List Nat) : Prop where
  sub : ∀ i ∈ left, i < ms.length
  nd : left.Nodup
  todo : ∀ i ∈ left, ms[i]? = some .half
  fit : ∀ (i j : Nat), ms[i]? = some (.pair j) → j ≠ i ∧ ms[j]? = some (.pair i) ∧ j ∉ left ∧ i ∉ left
theorem mk0 (n : Nat) : MkOk (List.replicate n .half) (List.range n) := by
  refine ⟨fun i hi => by simpa using hi, List.nodup_range, fun i hi => ?_, fun i j h => ?_⟩
  · rw [List.getElem?_replicate, if_pos (List.mem_range.mp hi)]
  · rw [List.getElem?_replicate] at h
    split at h <;> cases h
theorem mk_half {ms : List Mk} {g : Nat} {left : List Nat} (h : MkOk ms (g :: left)) : MkOk ms left := by
  refine ⟨fun i hi => h.sub i (List.mem_cons_of_mem _ hi), (List.nodup_cons.mp h.nd).2, fun i hi => h.todo i (List.mem_cons_of_mem _ hi), fun i j hj => ?_⟩
  obtain ⟨a, b, c, d⟩ := h.fit i j hj
  exact ⟨a, b, fun z => c (List.mem_cons_of_mem _ z), fun z => d (List.mem_cons_of_mem _ z)⟩
theorem mk_third {ms : List Mk} {g : Nat} {left : List Nat} (h : MkOk ms (g :: left)) : MkOk (ms.set g .third) left := by
  have hg := h.sub g List.mem_cons_self
  have hn := (List.nodup_cons.mp h.nd).1
  refine ⟨fun i hi => by rw [List.length_set]; exact h.sub i (List.mem_cons_of_mem _ hi), (List.nodup_cons.mp h.nd).2, fun i hi => ?_, fun i j hj => ?_⟩
  · rw [List.getElem?_set_ne (fun z => hn (by rw [z]; exact hi))]
    exact h.todo i (List.mem_cons_of_mem _ hi)
  · have hig : g ≠ i := fun z => by
      subst z
      rw [List.getElem?_set_self (by simpa using hg)] at hj
      cases hj
    rw [List.getElem?_set_ne hig] at hj
    obtain ⟨a, b, c, d⟩ := h.fit i j hj
    have hjg : g ≠ j := fun z => c (by rw [z]; exact List.mem_cons_self)
    refine ⟨a, by rw [List.getElem?_set_ne hjg]; exact b, fun z => c (List.mem_cons_of_mem _ z), fun z => d (List.mem_cons_of_mem _ z)⟩
theorem mk_pair {ms : List Mk} {g o : Nat} {left : List Nat} {k : Nat} (h : MkOk ms (g :: left)) (ho : left[k]? = some o) : MkOk ((ms.set g (.pair o)).set o (.pair g)) (left.eraseIdx k) := by
  have hg := h.sub g List.mem_cons_self
  obtain ⟨hn, hnd⟩ := List.nodup_cons.mp h.nd
  have hom := List.mem_of_getElem? ho
  have hol := h.sub o (List.mem_cons_of_mem _ hom)
  have hgo : g ≠ o := fun z => hn (by rw [z]; exact hom)
  have hk := (List.getElem?_eq_some_iff.mp ho).1
  have sub : ∀ i ∈ left.eraseIdx k, i ∈ left := fun i hi => List.mem_of_mem_eraseIdx hi
  have no : o ∉ left.eraseIdx k := fun z => by
    obtain ⟨i, hi, hik, e⟩ := List.mem_eraseIdx_iff_getElem?.mp z |> fun ⟨i, hi, e⟩ => (⟨i, trivial, hi, e⟩ : ∃ i, True ∧ i ≠ k ∧ left[i]? = some o)
    have hil := (List.getElem?_eq_some_iff.mp e).1
    exact hik ((List.getElem?_inj hil hnd).mp (e.trans ho.symm))
  have at_ : ∀ i, ((ms.set g (.pair o)).set o (.pair g))[i]? = if i = o then some (.pair g) else if i = g then some (.pair o) else ms[i]? := fun i => by
    by_cases h1 : i = o
    · subst h1
      rw [if_pos rfl, List.getElem?_set_self (by rw [List.length_set]; exact hol)]
    · rw [if_neg h1, List.getElem?_set_ne (Ne.symm h1)]
      by_cases h2 : i = g
      · subst h2
        rw [if_pos rfl, List.getElem?_set_self hg]
      · rw [if_neg h2, List.getElem?_set_ne (Ne.symm h2)]
  refine ⟨fun i hi => by rw [List.length_set, List.length_set]; exact h.sub i (List.mem_cons_of_mem _ (sub i hi)), hnd.eraseIdx k, fun i hi => ?_, fun i j hj => ?_⟩
  · have h1 : i ≠ o := fun z => no (by rw [← z]; exact hi)
    have h2 : i ≠ g := fun z => hn (by rw [← z]; exact sub i hi)
    rw [at_, if_neg h1, if_neg h2]
    exact h.todo i (List.mem_cons_of_mem _ (sub i hi))
  · rw [at_] at hj
    by_cases h1 : i = o
    · rw [if_pos h1] at hj
      cases hj
      subst h1
      exact ⟨hgo, by rw [at_, if_neg hgo, if_pos rfl], fun z => hn (sub _ z), no⟩
    · rw [if_neg h1] at hj
      by_cases h2 : i = g
      · rw [if_pos h2] at hj
        cases hj
        subst h2
        exact ⟨Ne.symm hgo, by rw [at_, if_pos rfl], no, fun z => hn (sub _ z)⟩
      · rw [if_neg h2] at hj
        obtain ⟨a, b, c, d⟩ := h.fit i j hj
        have j1 : j ≠ o := fun z => c (by rw [z]; exact List.mem_cons_of_mem _ hom)
        have j2 : j ≠ g := fun z => c (by rw [z]; exact List.mem_cons_self)
        exact ⟨a, by rw [at_, if_neg j1, if_neg j2]; exact b, fun z => c (List.mem_cons_of_mem _ (sub _ z)), fun z => d (List.mem_cons_of_mem _ (sub _ z))⟩
end DL
set_option Elab.async false
set_option maxRecDepth 100000
set_option maxHeartbeats 4000000
namespace DL
open PySem L2
def iD' (k : Nat) : D := .int (k : Int)
theorem lay_ints : ∀ l : List Nat, PyData.canLayAll0 (l.map iD') = true ∧ PyData.depthAll (l.map iD') = 0
  | [] => ⟨by simp [PyData.canLayAll0], by simp [PyData.depthAll]⟩
  | c :: l => by
    obtain ⟨h1, h2⟩ := lay_ints l
    simp only [List.map_cons, PyData.canLayAll0, PyData.depthAll, iD', PyData.canLay0, PyData.depth, Bool.true_and]
    exact ⟨h1, by rw [h2]; rfl⟩
theorem fne_nil {l : List Nat} : fNe (.list (l.map iD')) (.list []) = some (.val (.bool (!decide (l = [])))) := by
  obtain ⟨h1, h2⟩ := lay_ints l
  have s1 : SeqAt.shaped (.list (l.map iD')) = true := by
    unfold SeqAt.shaped
    simp only [PyData.canLay0, PyData.depth, h1, h2]
    decide
  have s2 : SeqAt.shaped (.list []) = true := by decide
  have e : eqD (.list (l.map iD')) (.list []) = some (decide (l = [])) := by
    have : eqS (.list (l.map iD')) (.list []) = none := rfl
    unfold eqD
    rw [this]
    simp only [s1, s2, Bool.and_self, if_true]
    cases l with
    | nil => rfl
    | cons c l => simp [PyData.eqv, PyData.eqvAll]
  unfold fNe
  rw [e]
  rfl
theorem lay_mk : ∀ ms : List Mk, PyData.canLayAll0 (ms.map mkD) = true ∧ PyData.depthAll (ms.map mkD) = 0
  | [] => ⟨by simp [PyData.canLayAll0], by simp [PyData.depthAll]⟩
  | c :: l => by
    obtain ⟨h1, h2⟩ := lay_mk l
    cases c <;> simp only [List.map_cons, PyData.canLayAll0, PyData.depthAll, mkD, PyData.canLay0, PyData.depth, Bool.true_and, h2]
    · exact ⟨by rw [Bool.and_eq_true]; exact ⟨by decide +kernel, h1⟩, rfl⟩
    · exact ⟨by rw [Bool.and_eq_true]; exact ⟨by decide +kernel, h1⟩, rfl⟩
    · exact ⟨h1, rfl⟩
def isThird : Mk → Bool
  | .third => true
  | _ => false
theorem eqv_third (m : Mk) : PyData.eqv (mkD m) (.str "third") = isThird m := by
  cases m with
  | half => exact (by decide +kernel : ((("half" : Str) == ("third" : Str)) = false))
  | third => exact (by decide +kernel : ((("third" : Str) == ("third" : Str)) = true))
  | pair j => rfl
theorem notin_third (ms : List Mk) : fNotIn (.str "third") (.list (ms.map mkD)) = some (.val (.bool (!ms.any isThird))) := by
  obtain ⟨h1, h2⟩ := lay_mk ms
  have s1 : SeqAt.shaped (.list (ms.map mkD)) = true := by
    unfold SeqAt.shaped
    simp only [PyData.canLay0, PyData.depth, h1, h2]
    decide
  have s2 : SeqAt.shaped (.str "third") = true := by decide +kernel
  have e : inD (.str "third") (.list (ms.map mkD)) = some (ms.any isThird) := by
    have ea : (ms.map mkD).any (fun z => PyData.eqv z (.str "third")) = ms.any isThird := by
      rw [List.any_map]
      congr 1
      funext m
      exact eqv_third m
    show inL _ _ = _
    unfold inL
    rw [ea]
    split
    · rfl
    · rw [if_pos (by rw [s1, s2]; rfl)]
  unfold fNotIn
  rw [e]
  rfl
theorem set_mk {ms : List Mk} {g : Nat} (hg : g < ms.length) (v : Mk) (i : Nat) (ρ : Rho) (tag : Option Nat) : subO i (mkD v) ρ (some (.int (g : Int))) (some (some (.lst tag (ms.map mkD)))) = .ok () (ρ.set i (some (.lst tag ((ms.set g v).map mkD)))) := by
  refine subO_ok ?_
  unfold fSetL ixN
  simp only [List.length_map]
  rw [if_pos (by omega), if_pos (by omega)]
  simp
def lrO (ρ : Rho) : Option D → Out R
  | some (.int j) => if 0 ≤ j ∧ j ≤ 1000000 then .ok (.tmp (.lst none (irange 0 j.toNat))) ρ else .bad
  | _ => .bad
@[simp] theorem lrM_ap (r : R) (ρ : Rho) : lrM [r] ρ = lrO ρ (look r ρ) := (rfl)
theorem lrO_nat (ρ : Rho) {n : Nat} (h : n ≤ 1000000) : lrO ρ (some (.int (n : Int))) = .ok (.tmp (.lst none (irange 0 n))) ρ := by
  show (if 0 ≤ (n : Int) ∧ (n : Int) ≤ 1000000 then _ else _) = _
  rw [if_pos (by omega), Int.toNat_natCast]
end DL
set_option Elab.async false
set_option maxRecDepth 100000
set_option maxHeartbeats 4000000
namespace DL
open PySem L2
abbrev Fs (mid : List P2) : List P2 := (1, 0) :: mid
def fanD (mid : List P2) (ms : List Mk) : D := .tuple [.tuple ((Fs mid).map fD), .tuple (ms.map mkD)]
structure Fan (mid : List P2) (ms : List Mk) : Prop where
  row : RowF mid
  len : ms.length = mid.length + 1
  le : mid.length ≤ 40
  marks : MkOk ms []
theorem gcd_of {x y : P2} (h : crs x y = 1) : Nat.gcd x.1.natAbs x.2.natAbs = 1 ∧ Nat.gcd y.1.natAbs y.2.natAbs = 1 := by
  unfold crs at h
  constructor
  · exact cop_of (a := x.1) (b := -y.1) (c := x.2) (d := -y.2) (by grind)
  · exact cop_of (a := y.1) (b := x.1) (c := y.2) (d := x.2) (by grind)
theorem full_at {mid : List P2} {i : Nat} {x : P2} (h : mid[i]? = some x) : (full mid)[i + 1]? = some x := by
  have hi := (List.getElem?_eq_some_iff.mp h).1
  show ((-1, 0) :: (mid ++ [(1, 0)]))[i + 1]? = _
  rw [List.getElem?_cons_succ, List.getElem?_append_left hi, h]
theorem full_zero (mid : List P2) : (full mid)[0]? = some (-1, 0) := rfl
theorem full_end (mid : List P2) : (full mid)[mid.length + 1]? = some (1, 0) := by
  show ((-1, 0) :: (mid ++ [(1, 0)]))[mid.length + 1]? = _
  rw [List.getElem?_cons_succ, List.getElem?_append_right (Nat.le_refl _), Nat.sub_self]
  rfl
theorem mid_next {mid : List P2} (h : RowF mid) {i : Nat} {x y : P2} (h1 : mid[i]? = some x) (h2 : mid[i + 1]? = some y) : crs x y = 1 :=
  h.far.at_ (full_at h1) (full_at h2)
theorem mid_first {mid : List P2} (h : RowF mid) {x : P2} (h1 : mid[0]? = some x) : x.2 = 1 := by
  have := h.far.at_ (full_zero mid) (full_at h1)
  unfold crs at this
  dsimp only at this
  omega
theorem mid_last {mid : List P2} (h : RowF mid) {i : Nat} {x : P2} (h1 : mid[i]? = some x) (hi : i + 1 = mid.length) : x.2 = 1 := by
  have e := full_end mid
  rw [← hi] at e
  have := h.far.at_ (full_at h1) e
  unfold crs at this
  dsimp only at this
  omega
theorem mid_pos {mid : List P2} (h : RowF mid) {i : Nat} {x : P2} (h1 : mid[i]? = some x) : 1 ≤ x.2 := h.pos x (List.mem_of_getElem? h1)
theorem mid_isF {mid : List P2} (h : RowF mid) {i : Nat} {x : P2} (h1 : mid[i]? = some x) : isF x.1 x.2 := by
  have hp := mid_pos h h1
  refine .inr ⟨by omega, ?_⟩
  cases i with
  | zero => exact (gcd_of (h.far.at_ (full_zero mid) (full_at h1))).2
  | succ i =>
    have hi := (List.getElem?_eq_some_iff.mp h1).1
    have e : mid[i]? = some (mid[i]'(by omega)) := List.getElem?_eq_getElem (by omega)
    exact (gcd_of (mid_next h e h1)).2
theorem Fan.bd {mid : List P2} {ms : List Mk} (h : Fan mid ms) {i : Nat} {x : P2} (h1 : (Fs mid)[i]? = some x) : x.1.natAbs < 2 ^ 60 ∧ x.2.natAbs < 2 ^ 60 := by
  cases i with
  | zero =>
    simp at h1
    subst h1
    decide
  | succ i =>
    have := h.row.bd x (List.mem_of_getElem? (List.getElem?_cons_succ ▸ h1))
    have p : 2 ^ mid.length ≤ 2 ^ 40 := Nat.pow_le_pow_right (by decide) h.le
    have q : 2 ^ 40 < 2 ^ 60 := by decide
    omega
theorem Fan.isf {mid : List P2} {ms : List Mk} (h : Fan mid ms) {i : Nat} {x : P2} (h1 : (Fs mid)[i]? = some x) : isF x.1 x.2 := by
  cases i with
  | zero =>
    simp at h1
    subst h1
    exact .inl ⟨rfl, rfl⟩
  | succ i => exact mid_isF h.row (List.getElem?_cons_succ ▸ h1)
theorem Fan.at_ {mid : List P2} {ms : List Mk} (h : Fan mid ms) {i : Nat} (hi : i ≤ mid.length) : ∃ x, (Fs mid)[i]? = some x := ⟨_, List.getElem?_eq_getElem (by simp; omega)⟩
/-- the fractions of a gap -/
theorem Fan.gap {mid : List P2} {ms : List Mk} (h : Fan mid ms) {i : Nat} (hi : i ≤ mid.length) : ∃ (x y : P2) (c : Int), (Fs mid)[i]? = some x ∧ (Fs mid)[(i + 1) % (mid.length + 1)]? = some y ∧ isF x.1 x.2 ∧ isF y.1 y.2 ∧
    x.1.natAbs < 2 ^ 60 ∧ x.2.natAbs < 2 ^ 60 ∧ y.1.natAbs < 2 ^ 60 ∧ y.2.natAbs < 2 ^ 60 ∧ x.1 * y.2 - x.2 * y.1 = c ∧ (c = 1 ∨ c = -1) := by
  have key : ∃ (x y : P2) (c : Int), (Fs mid)[i]? = some x ∧ (Fs mid)[(i + 1) % (mid.length + 1)]? = some y ∧ x.1 * y.2 - x.2 * y.1 = c ∧ (c = 1 ∨ c = -1) := by
    have hne := mid_ne h.row
    have hl : 0 < mid.length := by
      cases mid with
      | nil => exact absurd rfl hne
      | cons _ _ => simp
    obtain ⟨x, hx⟩ := h.at_ hi
    by_cases h1 : i = mid.length
    · subst h1
      rw [Nat.mod_self]
      refine ⟨x, (1, 0), _, hx, rfl, rfl, .inr ?_⟩
      obtain ⟨j, hj⟩ : ∃ j, mid.length = j + 1 := ⟨mid.length - 1, by omega⟩
      have hx' := hx
      rw [hj, List.getElem?_cons_succ] at hx'
      have := mid_last h.row hx' (by omega)
      simp [this]
    · rw [Nat.mod_eq_of_lt (by omega)]
      obtain ⟨y, hy⟩ := h.at_ (i := i + 1) (by omega)
      refine ⟨x, y, _, hx, hy, rfl, ?_⟩
      have hy' := hy
      rw [List.getElem?_cons_succ] at hy'
      cases i with
      | zero =>
        simp at hx
        subst hx
        have := mid_first h.row hy'
        left
        simp [this]
      | succ i =>
        rw [List.getElem?_cons_succ] at hx
        have := mid_next h.row hx hy'
        unfold crs at this
        right
        grind
  obtain ⟨x, y, c, hx, hy, hc, h1⟩ := key
  exact ⟨x, y, c, hx, hy, h.isf hx, h.isf hy, (h.bd hx).1, (h.bd hx).2, (h.bd hy).1, (h.bd hy).2, hc, h1⟩
theorem fr_at {l : List P2} {i : Nat} {x : P2} (h : l[i]? = some x) : atI (l.map fD) (i : Int) = some (.tuple [.int x.1, .int x.2]) :=
  at_fD (by omega) (by rw [Int.toNat_natCast]; exact h)
end DL
set_option Elab.async false
set_option maxRecDepth 100000
set_option maxHeartbeats 4000000
set_option exponentiation.threshold 5000
namespace DL
open PySem L2
end DL
set_option Elab.async false
set_option maxRecDepth 100000
set_option maxHeartbeats 4000000
set_option exponentiation.threshold 5000
namespace DL
open PySem L2
end DL
set_option Elab.async false
set_option maxRecDepth 100000
set_option maxHeartbeats 4000000
set_option exponentiation.threshold 5000
namespace DL
open PySem L2
theorem one_tm (m : M4) : M4.one.tm m = m.nrm := by
  unfold M4.tm M4.one M4.mul
  simp
/-- max(1, min(a, L)) -/
theorem min_max (a : Int) (ha : 1 ≤ a) (L : Nat) : ∃ n : Nat, (n : Int) ≤ a ∧ 1 ≤ n ∧ fMin2 [.int a, .int L] = some (.val (.int (if (L : Int) < a then (L : Int) else a))) ∧ fMax2 [.int 1, .int (if (L : Int) < a then (L : Int) else a)] = some (.val (.int n)) := by
  refine ⟨(if (if (L : Int) < a then (L : Int) else a) > 1 then (if (L : Int) < a then (L : Int) else a) else 1).toNat, ?_, ?_, rfl, ?_⟩
  · repeat' split
    all_goals omega
  · repeat' split
    all_goals omega
  · show some (T.val (.int (if (if (L : Int) < a then (L : Int) else a) > 1 then (if (L : Int) < a then (L : Int) else a) else 1))) = _
    congr 3
    repeat' split
    all_goals omega
end DL
set_option Elab.async false
set_option maxRecDepth 100000
set_option maxHeartbeats 4000000
namespace DL
open PySem PySem.Spec PyProof.Rows L2
section
open Sem (wp)
set_option maxHeartbeats 1000000 in
theorem meets_enum1B {v : Value} {o : Obj} {H : Heap → Prop} (B : Begins v o H) :
    Meets (Builtin.«enumerate.__new__» ⟨[.type "enumerate", v], []⟩) (fun _ R s => H s.heap ∧
      R (.ok (.ret (.ref (s.heap.push o).objs.size))) { s with heap := (s.heap.push o).push { cls := .type "enumerate", data := .fields #[.none, .bool false, .ref s.heap.objs.size, rawInt 0, .none, .none] } }) :=
  .of_wp fun prog w A R s h => by
    obtain ⟨hp, g, d, tk, os⟩ := s; obtain ⟨h1, h⟩ := h
    have hsub := sub_enumerate
    have q1 : ∀ {A' : Around} {E : Value → Shared → Prop} {Q : Value → Shared → Prop}, Q (.ref hp.objs.size) ⟨hp.push o, g, d, tk, os⟩ → wpAny (model prog w) A' (pyIter v) Q E ⟨hp, g, d, tk, os⟩ :=
      fun q => B.iter prog w _ _ ⟨hp, g, d, tk, os⟩ _ h1 q
    wp_walk using q1
    refine wpAny_stack_any fun st => wpAny_pure ?_
    split
    · rename_i c _ _ _ _ _
      cases (c == Value.type "enumerate")
      · wp_walk using q1
        exact ⟨_, rfl, h⟩
      · wp_walk using q1
        exact ⟨_, rfl, h⟩
    · wp_walk using q1
      exact ⟨_, rfl, h⟩
theorem enum1_begins {prog : Program} {w : World} {A : Around} {E : Value → Shared → Prop} {s : Shared} {v : Value} {o : Obj} {H : Heap → Prop} {Q : Value → Shared → Prop} (B : Begins v o H) (h1 : H s.heap)
    (h : ∀ h', IsEnum h' (s.heap.objs.size + 1) s.heap.objs.size 0 .none → h'.get? s.heap.objs.size = some o → h'.objs.size = s.heap.objs.size + 2 →
      (∀ b o, s.heap.get? b = some o → h'.get? b = some o) → Q (.ref (s.heap.objs.size + 1)) { s with heap := h' }) :
    wpAny (model prog w) A (call (.type "enumerate") [v]) Q E s := by
  refine callType_new F.called_enumerate (by decide) (F.typeCall_enumerate_1 _) (F.newCall_enumerate_1 _) (fun obj => F.args_object_init_2 obj _) F.entry_enumerate_new
    (meets_enum1B B) ⟨h1, ?_⟩
  have hz : (s.heap.push o).objs.size = s.heap.objs.size + 1 := Heap.size_push ..
  show _ ∧ _
  rw [hz]
  have he : IsEnum ((s.heap.push o).push { cls := .type "enumerate", data := .fields #[.none, .bool false, .ref s.heap.objs.size, rawInt 0, .none, .none] }) (s.heap.objs.size + 1) s.heap.objs.size 0 .none := by
    have := Heap.get?_push_size (s.heap.push o) (o := { cls := .type "enumerate", data := .fields #[.none, .bool false, .ref s.heap.objs.size, rawInt 0, .none, .none] }) rfl
    rw [hz] at this; exact this
  refine ⟨⟨_, he, rfl⟩, h _ he (Heap.get?_push_of_some _ (Heap.get?_push_size _ B.free)) (by rw [Heap.size_push, hz]) fun b o x => Heap.get?_push_of_some _ (Heap.get?_push_of_some _ x)⟩
end
/-- the tuple at a, each item in a new pair -/
def Itte (K : PySem.W.Frag) (a : Addr) : It :=
  ⟨fun i H => ∃ (xs : List V) (x : V), SqT K H a xs ∧ xs[i]? = some x, fun i H v H' => ∃ T x, v = .ref T ∧ H T = none ∧ H' = upd H T (.tup [.int (i : Nat), x]) ∧ ∀ xs, SqT K H a xs → xs[i]? = some x, fun i H => ∃ xs : List V, SqT K H a xs ∧ xs.length ≤ i⟩
theorem pyNext_enumT_end {prog : Program} {w : World} {A : Around} {E : Value → Shared → Prop} {s : Shared} {e it a : Addr} {i : Nat} {items : Array Value} {old : Value} {Q : Option Value → Shared → Prop} (hh : A.handled = none) (he : IsEnum s.heap e it (i : Nat) old) (hit : s.heap.IsTupleIter it a i) (ht : s.heap.IsTuple a items) (hx : items[i]? = none)
    (hQ : ∀ h', Heap.ExtBut it s.heap h' → Q none { s with heap := h' }) : wpAny (model prog w) A (pyNext (.ref e)) Q E s := by
  have hT : s.TypeIs (.ref e) "enumerate" := ⟨_, he, rfl⟩
  unfold pyNext
  refine wpAny_bind (wpAny_attempt (wpAny_callSpecial?_slot (name := Str.ofString "__next__") hT F.slot_enumerate_next
    (wpAny_call_entry F.slot_enumerate_next hT F.entry_enumerate_next ?_ (F.args_enumerate_next_1 _))))
  show wpAny _ _ (field (.ref e) 2 >>= _) _ _ _
  refine wpAny_bind (wpAny_field he rfl (x := .ref it) rfl ?_)
  refine wpAny_bind (wpAny_nextOf_tuple_end hh hit ht hx fun h' x he' hx' => ?_)
  obtain ⟨o, ho, hc⟩ := hx'
  refine wpAny_bind (wpAny_isInstance (T := "StopIteration") (b := true) ⟨o, ho, hc⟩ isSubtype_stop ?_)
  exact wpAny_pure (hQ _ he')
theorem turn_enumT {P : Program} {w : World} {K : PySem.W.Frag} {elts : List Expr} {kk : Nat} {tpos : PySem.Pos} (a e it : Addr) :
    Turn P w K (.Tuple elts kk tpos) (Itte K a) [e, it] e (fun i h => (∃ old, IsEnum h e it ((i : Nat) : Int) old) ∧ h.IsTupleIter it a i ∧ e ≠ it) where
  mem := by simp
  obj := fun i h st b hb => by
    obtain ⟨⟨old, he⟩, ⟨o, ho, hc, hd⟩, _⟩ := st
    have e' : b = e ∨ b = it := by simpa using hb
    rcases e' with z | z
    · rw [z]; exact ⟨_, he, fun v q => nomatch q⟩
    · rw [z]; exact ⟨o, ho, fun v q => by rw [hd] at q; cases q⟩
  keep := fun i h h' st k => let ⟨⟨old, he⟩, hi, hne⟩ := st; ⟨⟨old, k e (by simp) _ he⟩, hi.at fun o q => k it (by simp) o q, hne⟩
  item := by
    intro X hP hw hK hc i pins s σ H E I hf st hg
    subst hP hw hK
    obtain ⟨⟨old, he⟩, hit, hne⟩ := st
    obtain ⟨xs, x, hq, hx⟩ := hg
    obtain ⟨its, rv, p, hz⟩ := I.tuple hq
    have p' : s.heap.IsTuple a its.toArray := p
    obtain ⟨u, hu, ru⟩ := rv.get hx
    have hel : e < s.heap.objs.size := Heap.lt_size he
    have hil : it < s.heap.objs.size := by obtain ⟨_, q, _⟩ := hit; exact Heap.lt_size q
    have hae : e ≠ a := fun q => by
      obtain ⟨o, ho, hc1, _⟩ := p'
      rw [← q, he] at ho
      cases ho
      have hc1 : Value.type "enumerate" = Value.type "tuple" := hc1
      exact absurd hc1 (by decide)
    have hai : a ≠ it := fun q => by
      obtain ⟨o, ho, hc1, _⟩ := p'
      obtain ⟨o2, ho2, hc2, _⟩ := hit
      rw [q, ho2] at ho
      cases ho
      rw [hc2] at hc1
      exact absurd hc1 (by decide)
    have hul : i < its.toArray.size := by
      have := (List.getElem?_eq_some_iff.mp hu).1
      simpa using this
    refine wpAny_pyNext_enum_itemD (Draws.tuple (A := X.A.in1) (I.ok.hd hc) it a hai its.toArray) he ⟨hit, p'⟩ hul hne (by simp [hne, hae]) fun u' h' tk hP ho st' hT hsz hk => ?_
    have eu : u' = u := by
      have : its.toArray[i]? = some u' := hP
      have h2 : its.toArray[i]? = some u := by simpa using hu
      rw [h2] at this
      exact (Option.some.inj this).symm
    subst eu
    refine ⟨_, rfl, wpAny_letOwnedTupleGo_enum (s := { s with heap := h', toks := tk + 1 }) ho fun h'' he' sb => ?_⟩
    have hT2 : h''.get? s.heap.objs.size = some { cls := .type "tuple", data := .seq #[.int i tk, u'] } := (sb.2 _ (Nat.ne_of_gt hel)).trans hT
    have new : ObjOk X.prog X.w (upd H s.heap.objs.size (.tup [.int (i : Nat), x])) h'' s.heap.objs.size (.tup [.int (i : Nat), x]) :=
      ⟨by show 2 ≤ sizeLine; decide, [.int i tk, u'], .cons ⟨_, rfl⟩ (.cons ru .nil), ⟨_, hT2, rfl, _, rfl⟩⟩
    have I1 : Inv X pins σ (upd H s.heap.objs.size (.tup [.int (i : Nat), x])) { s with heap := h'', toks := tk + 1 } :=
      I.turnedNew (ch := [e, it]) (fun b ob hb q => (sb.2 b (fun z => hb (by simp [z]))).trans (hk b ob (fun z => hb (by simp [z])) (fun z => hb (by simp [z])) q)) hf (Nat.le_refl _) new
    refine ⟨.ref s.heap.objs.size, _, I1, rfl, ⟨_, x, rfl, I.hok.fresh (Nat.le_refl _), rfl, fun ys hy => by rw [I.tuple_inj hy hq]; exact hx⟩, ⟨⟨u', ?_⟩, st'.1.at fun o q => (sb.2 it (Ne.symm hne)).trans q, hne⟩, fun b hb => ?_⟩
    · have e1 : ((i + 1 : Nat) : Int) = (i : Int) + 1 := by omega
      rw [e1]; exact he'
    · have hb' : b < s.heap.objs.size := by
        have e' : b = e ∨ b = it := by simpa using hb
        rcases e' with z | z
        · rw [z]; exact hel
        · rw [z]; exact hil
      rw [upd_ne (Nat.ne_of_lt hb')]
      exact (hf b hb).1
  done := by
    intro X hP hw hK hc i pins s σ H E I hf st hg
    subst hP hw hK
    obtain ⟨⟨old, he⟩, hit, hne⟩ := st
    obtain ⟨xs, hq, hx⟩ := hg
    obtain ⟨its, rv, p, hz⟩ := I.tuple hq
    have p' : s.heap.IsTuple a its.toArray := p
    obtain ⟨f0, f1, f2, f3, f4, f5⟩ := hf it (by simp)
    have hl := rv.length
    have hai : a ≠ it := fun q => by
      obtain ⟨o, ho, hc1, _⟩ := p'
      obtain ⟨o2, ho2, hc2, _⟩ := hit
      rw [q, ho2] at ho
      cases ho
      rw [hc2] at hc1
      exact absurd hc1 (by decide)
    exact pyNext_enumT_end (I.ok.hd hc) he hit p' (by simp; omega) fun h' eb => ⟨rfl, I.turned (t' := s.toks) (fun b o hb q => eb b o hb q) f0 f1 f3 f4 f5⟩
  self := fun A i s Q E st h => let ⟨⟨_, he⟩, _⟩ := st; wpAny_pyIter_enum he h
def iEnumA (K : PySem.W.Frag) (ta : TA) : TI := fun σ H R => ta σ H fun vs H1 => ∃ a, vs = [.ref a] ∧ ((∃ xs, SqL K H1 a xs ∧ R (Ite K a) H1) ∨ (∃ xs, SqT K H1 a xs ∧ R (Itte K a) H1))
theorem pi_enumA {X : Cx} {e : Expr} {ta : TA} {p pos tpos : PySem.Pos} {elts : List Expr} {kk : Nat} (hg : Gl X "enumerate") (hm : X.mg "enumerate" = none) (ha : PA X [e] ta) (hs : starEach [e] X.env = [(false, eval e X.env)]) :
    PI X (.Tuple elts kk tpos) (.Call (.Name "enumerate" p) [e] [] pos) (iEnumA X.K ta) := by
  refine ⟨fun pins s σ H R I h => ?_⟩
  refine Call_ (ld_blt I hg hm boot_enumerate (PyProof.Rows.callWith_type1 (thn (ha.run pos pins s σ H _ I h) fun us s1 ⟨vs, H1, I1, r1, q1⟩ => ?_) hs rfl))
  obtain ⟨a, ex, q1⟩ := q1
  subst ex
  cases r1 with
  | cons r rr =>
    cases rr
    cases r
    have fresh : ∀ b, b ∈ [s1.heap.objs.size + 1, s1.heap.objs.size] → FpOk X pins H1 b := fun b hb => by
      have e' : b = s1.heap.objs.size + 1 ∨ b = s1.heap.objs.size := by simpa using hb
      have hle : s1.heap.objs.size ≤ b := by
        rcases e' with z | z
        · rw [z]; exact Nat.le_add_right _ _
        · rw [z]; exact Nat.le_refl _
      exact I1.fpOk hle (I1.hok.fresh hle)
    rcases q1 with ⟨xs, hq, q⟩ | ⟨xs, hq, q⟩
    · obtain ⟨its, rv, p', hz⟩ := I1.list hq
      refine call_enumerate_list p'.isList fun h' he hit hsz hk => wpAny_pyIter_enum he ?_
      have I2 : Inv X pins σ H1 { s1 with heap := h' } := I1.kept (t' := s1.toks) hk
      exact ⟨s1.heap.objs.size + 1, [s1.heap.objs.size + 1, s1.heap.objs.size], _, _, H1, rfl, I2, turn_enum a (s1.heap.objs.size + 1) s1.heap.objs.size, ⟨⟨.none, he⟩, hit, Nat.succ_ne_self _⟩, fresh, q⟩
    · obtain ⟨its, rv, p', hz⟩ := I1.tuple hq
      refine enum1_begins (begins_tuple a its.toArray) p' fun h' he hit hsz hk => wpAny_pyIter_enum he ?_
      have I2 : Inv X pins σ H1 { s1 with heap := h' } := I1.kept (t' := s1.toks) hk
      exact ⟨s1.heap.objs.size + 1, [s1.heap.objs.size + 1, s1.heap.objs.size], _, _, H1, rfl, I2, turn_enumT a (s1.heap.objs.size + 1) s1.heap.objs.size, ⟨⟨.none, he⟩, ⟨_, hit, rfl, rfl⟩, Nat.succ_ne_self _⟩, fresh, q⟩
def enumL : Nat → List D → List D
  | _, [] => []
  | k, d :: ds => .tuple [.int (k : Nat), d] :: enumL (k + 1) ds
theorem enumL_len : ∀ (k : Nat) (ds : List D), (enumL k ds).length = ds.length
  | _, [] => rfl
  | k, d :: ds => by simp [enumL, enumL_len (k + 1) ds]
theorem enumL_get : ∀ (k : Nat) (ds : List D) (i : Nat), (enumL k ds)[i]? = ds[i]?.map fun d => .tuple [.int ((k + i : Nat) : Int), d]
  | _, [], _ => by simp [enumL]
  | k, d :: ds, 0 => by simp [enumL]
  | k, d :: ds, i + 1 => by
    rw [enumL, List.getElem?_cons_succ, enumL_get (k + 1) ds i, List.getElem?_cons_succ]
    congr 1
    funext d'
    rw [show k + 1 + i = k + (i + 1) by omega]
def seqD : D → Option (List D)
  | .list ds => some ds
  | .tuple ds => some ds
  | _ => none
def en1 : List D → Option (List D)
  | [d] => (seqD d).map (enumL 0)
  | _ => none
def enM (rs : List R) : M (List D) := M.bind (frzs rs) fun ds ρ => match en1 ds with
  | some es => .ok es ρ
  | none => .bad
section
variable {K : PySem.W.Frag} {P O : List Addr} {H : Hp}
theorem itOk_enum {a : Addr} {vs : List V} {ds : List D} (hP : ∀ b ∈ P, b ∉ O ∧ ∃ o, H b = some o) (h1 : SqL K (wo (O ++ P) H) a vs) (h2 : RpAll K (wo (O ++ P) H) vs ds) : ItOk K P (Ite K a) (enumL 0 ds) O H := by
  intro G A O1 H1 σ ρ hG e s i
  have m := s.woG hP hG
  have g1 : SqL K H1 a vs := sql_mono wo_sub (sql_mono m h1)
  refine ⟨fun d hd => ?_, fun hl => ⟨vs, g1, by rw [h2.length]; rw [enumL_len] at hl; exact hl⟩⟩
  rw [enumL_get] at hd
  obtain ⟨d0, hd0, rfl⟩ := Option.map_eq_some_iff.mp hd
  obtain ⟨v, hv, rv⟩ := h2.get hd0
  exact ⟨⟨vs, v, g1, hv⟩, fun x H' y => by
    obtain ⟨T, v', rfl, hT, rfl, y⟩ := y
    have z := y vs g1
    rw [hv] at z
    cases z
    have ext : ∀ b o, H1 b = some o → upd H1 T (.tup [.int ((i : Nat) : Int), v]) b = some o := fun b o q => by
      rw [upd_ne (fun z => by rw [z, hT] at q; cases q)]
      exact q
    refine ⟨ext, ?_⟩
    have nT : T ∉ O1 ++ (G ++ P) := fun z => by
      rcases List.mem_append.mp z with z | z
      · obtain ⟨o, ho⟩ := e.trk T z
        rw [hT] at ho
        cases ho
      · obtain ⟨_, o, ho⟩ := e.prot T z
        rw [hT] at ho
        cases ho
    have ew : ∀ b o, wo (O1 ++ (G ++ P)) H1 b = some o → wo (O1 ++ (G ++ P)) (upd H1 T (.tup [.int ((i : Nat) : Int), v])) b = some o := fun b o q => by
      obtain ⟨q1, q2⟩ := wo_some.mp q
      exact wo_some.mpr ⟨q1, ext b o q2⟩
    rw [Nat.zero_add]
    exact .tup (.inl (.inl (wo_some.mpr ⟨nT, upd_same⟩))) (.cons (.int _) (.cons ((rv.mono m).mono ew) .nil))⟩
theorem itOk_enumT {a : Addr} {vs : List V} {ds : List D} (hP : ∀ b ∈ P, b ∉ O ∧ ∃ o, H b = some o) (h1 : SqT K (wo (O ++ P) H) a vs) (h2 : RpAll K (wo (O ++ P) H) vs ds) : ItOk K P (Itte K a) (enumL 0 ds) O H := by
  intro G A O1 H1 σ ρ hG e s i
  have m := s.woG hP hG
  have g1 : SqT K H1 a vs := sqt_mono wo_sub (sqt_mono m h1)
  refine ⟨fun d hd => ?_, fun hl => ⟨vs, g1, by rw [h2.length]; rw [enumL_len] at hl; exact hl⟩⟩
  rw [enumL_get] at hd
  obtain ⟨d0, hd0, rfl⟩ := Option.map_eq_some_iff.mp hd
  obtain ⟨v, hv, rv⟩ := h2.get hd0
  exact ⟨⟨vs, v, g1, hv⟩, fun x H' y => by
    obtain ⟨T, v', rfl, hT, rfl, y⟩ := y
    have z := y vs g1
    rw [hv] at z
    cases z
    have ext : ∀ b o, H1 b = some o → upd H1 T (.tup [.int ((i : Nat) : Int), v]) b = some o := fun b o q => by
      rw [upd_ne (fun z => by rw [z, hT] at q; cases q)]
      exact q
    refine ⟨ext, ?_⟩
    have nT : T ∉ O1 ++ (G ++ P) := fun z => by
      rcases List.mem_append.mp z with z | z
      · obtain ⟨o, ho⟩ := e.trk T z
        rw [hT] at ho
        cases ho
      · obtain ⟨_, o, ho⟩ := e.prot T z
        rw [hT] at ho
        cases ho
    have ew : ∀ b o, wo (O1 ++ (G ++ P)) H1 b = some o → wo (O1 ++ (G ++ P)) (upd H1 T (.tup [.int ((i : Nat) : Int), v])) b = some o := fun b o q => by
      obtain ⟨q1, q2⟩ := wo_some.mp q
      exact wo_some.mpr ⟨q1, ext b o q2⟩
    rw [Nat.zero_add]
    exact .tup (.inl (.inl (wo_some.mpr ⟨nT, upd_same⟩))) (.cons (.int _) (.cons ((rv.mono m).mono ew) .nil))⟩
end
section
variable {X : Cx} {W : WX} {e : Expr} {pos tpos : PySem.Pos} {ms : M (List R)} {elts : List Expr} {kk : Nat}
theorem ji_enum {p : PySem.Pos} (hg : Gl X "enumerate") (hm : X.mg "enumerate" = none) (ha : JEs X W [e] ms) (hs : starEach [e] X.env = [(false, eval e X.env)]) : JI X W (.Tuple elts kk tpos) (.Call (.Name "enumerate" p) [e] [] pos) (M.bind ms enM) :=
  (pi_enumA hg hm ha hs).imp fun σ H R h => by
    obtain ⟨P, A, O, ρ, e, h⟩ := h
    refine ⟨P, A, O, ρ, e, (Aft.bind (rl := relRs X.K σ) h).mono ?_⟩
    rintro vs H1 ⟨O1, ρ1, rs, F, e1, r1, s1, h1⟩
    unfold enM at h1
    obtain ⟨O2, ρ2, ds, e2, s2, p2, h2⟩ := Aft.frzs e1 r1 (h1.step s1.less)
    cases q : en1 ds with
    | none =>
      simp only [q] at h2
      exact h2.elim
    | some es =>
      simp only [q] at h2
      unfold en1 at q
      split at q
      · rename_i d
        obtain ⟨ds0, q0, rfl⟩ := Option.map_eq_some_iff.mp q
        obtain ⟨v, rfl, p⟩ : ∃ v, vs = [v] ∧ Rp X.K (wo (O2 ++ P) H1) v d := by
          cases p2 with
          | cons a b =>
            cases b
            exact ⟨_, rfl, a⟩
        have fin : ∀ J, ItOk X.K P J (enumL 0 ds0) O2 H1 → R J H1 := fun J hJ => h2 J H1 O2 [] e2 ⟨rfl, hJ⟩ (Step.refl _ _)
        cases p with
        | @lst a xs es g1 g2 =>
          cases q0
          exact ⟨a, rfl, .inl ⟨xs, sql_mono wo_sub g1, fin _ (itOk_enum e2.prot g1 g2)⟩⟩
        | @tup a xs es g1 g2 =>
          cases q0
          exact ⟨a, rfl, .inr ⟨xs, sqt_mono wo_sub g1, fin _ (itOk_enumT e2.prot g1 g2)⟩⟩
        | str z => cases q0
        | dct _ _ _ => cases q0
        | non => cases q0
        | bl b => cases q0
        | int b => cases q0
      · cases q
abbrev itE (ms : M (List R)) : M (List D) := M.bind ms enM
end
@[simp] theorem enM_ap (rs : List R) (ρ : Rho) : enM rs ρ = (frzs rs ρ).bnd fun ds ρ' => itO ρ' (en1 ds) := by
  show (frzs rs ρ).bnd _ = _
  congr 1
@[simp] theorem en1_t (ds : List D) : en1 [.tuple ds] = some (enumL 0 ds) := (rfl)
@[simp] theorem en1_l (ds : List D) : en1 [.list ds] = some (enumL 0 ds) := (rfl)
end DL
set_option Elab.async false
set_option maxRecDepth 100000
set_option maxHeartbeats 4000000
set_option exponentiation.threshold 5000
namespace DL
open PySem L2
structure Tn (m : M4) : Prop where
  det : m.det = 1
  up : ¬ m.down
theorem Tn.tm {x y : M4} (a : Tn x) (b : Tn y) : Tn (x.tm y) := ⟨M4.det_tm a.det b.det, M4.tm_up a.det b.det⟩
theorem Tn.inv {x : M4} (a : Tn x) : Tn x.inv := ⟨M4.det_inv a.det, M4.inv_up a.det⟩
theorem Tn.one : Tn M4.one := ⟨by decide, by decide⟩
theorem Tn.S : Tn M4.S := ⟨by decide, by decide⟩
theorem Tn.assoc {x y z : M4} (a : Tn x) (b : Tn y) (c : Tn z) : (x.tm y).tm z = x.tm (y.tm z) := M4.tm_assoc a.det b.det c.det
theorem Tn.left {x y z : M4} (a : Tn x) (b : Tn y) (c : Tn z) (h : x.tm y = x.tm z) : y = z := by
  have : x.inv.tm (x.tm y) = x.inv.tm (x.tm z) := by rw [h]
  rwa [← a.inv.assoc a b, ← a.inv.assoc a c, M4.inv_tm a.det, M4.one_tm b.up, M4.one_tm c.up] at this
theorem Tn.right {x y z : M4} (a : Tn x) (b : Tn y) (c : Tn z) (h : y.tm x = z.tm x) : y = z := by
  have : (y.tm x).tm x.inv = (z.tm x).tm x.inv := by rw [h]
  rwa [b.assoc a a.inv, c.assoc a a.inv, M4.tm_inv a.det, M4.tm_one b.up, M4.tm_one c.up] at this
def gx (mid : List P2) (i : Nat) : P2 := (Fs mid).getD i (1, 0)
theorem Tn.R : Tn M4.R := ⟨by decide, by decide⟩
end DL
set_option Elab.async false
set_option maxRecDepth 100000
set_option maxHeartbeats 4000000
set_option exponentiation.threshold 5000
namespace DL
open PySem L2
theorem mid_lt {mid : List P2} (h : RowF mid) : ∀ (d a : Nat) (x y : P2), mid[a]? = some x → mid[a + d + 1]? = some y → 0 < crs x y
  | 0, a, x, y, h1, h2 => by rw [mid_next h h1 h2]; decide
  | d + 1, a, x, y, h1, h2 => by
    have hl := (List.getElem?_eq_some_iff.mp h2).1
    have e : mid[a + d + 1]? = some (mid[a + d + 1]'(by omega)) := List.getElem?_eq_getElem (by omega)
    generalize mid[a + d + 1]'(by omega) = z at e
    have c1 := mid_lt h d a x z h1 e
    have c2 := mid_next h e (show mid[a + d + 1 + 1]? = some y by rw [← h2]; congr 1)
    have px := mid_pos h h1
    have py := mid_pos h h2
    have pz := mid_pos h e
    have id : crs x y * z.2 = crs x z * y.2 + crs z y * x.2 := by
      unfold crs
      grind
    rw [c2, Int.one_mul] at id
    have q : 0 < crs x z * y.2 := Int.mul_pos c1 (by omega)
    have : 0 < crs x y * z.2 := by omega
    exact Int.pos_of_mul_pos_left this (by omega)
theorem Fan.inj {mid : List P2} {ms : List Mk} (h : Fan mid ms) {i j : Nat} {x : P2} (h1 : (Fs mid)[i]? = some x) (h2 : (Fs mid)[j]? = some x) : i = j := by
  have no : ∀ (a b : Nat), mid[a]? = some x → mid[b]? = some x → a < b → False := fun a b q1 q2 hab => by
    have := mid_lt h.row (b - a - 1) a x x q1 (by rw [show a + (b - a - 1) + 1 = b by omega]; exact q2)
    unfold crs at this
    rw [Int.mul_comm] at this
    omega
  cases i with
  | zero =>
    cases j with
    | zero => rfl
    | succ j =>
      simp at h1
      have := mid_pos h.row (show mid[j]? = some x by rwa [List.getElem?_cons_succ] at h2)
      rw [← h1] at this
      exact absurd this (by decide)
  | succ i =>
    rw [List.getElem?_cons_succ] at h1
    cases j with
    | zero =>
      simp at h2
      have := mid_pos h.row h1
      rw [← h2] at this
      exact absurd this (by decide)
    | succ j =>
      rw [List.getElem?_cons_succ] at h2
      rcases Nat.lt_trichotomy i j with z | z | z
      · exact (no i j h1 h2 z).elim
      · rw [z]
      · exact (no j i h2 h1 z).elim
theorem no_pair2 {ms : List Mk} (h : MkOk ms []) (h2 : ms.length = 2) (ht : ms.any isThird = true) {i j : Nat} (hm : ms[i]? = some (.pair j)) : False := by
  obtain ⟨n, fj, _, _⟩ := h.fit i j hm
  have hi := (List.getElem?_eq_some_iff.mp hm).1
  have hj := (List.getElem?_eq_some_iff.mp fj).1
  obtain ⟨m, m1, m2⟩ := List.any_eq_true.mp ht
  obtain ⟨k, hk⟩ := List.getElem?_of_mem m1
  have hk2 := (List.getElem?_eq_some_iff.mp hk).1
  have : k = i ∨ k = j := by omega
  rcases this with z | z
  · rw [z, hm] at hk
    cases hk
    cases m2
  · rw [z, fj] at hk
    cases hk
    cases m2
end DL
set_option Elab.async false
set_option maxRecDepth 100000
set_option maxHeartbeats 4000000
namespace DL
open PySem PySem.Spec PyProof.Rows L2
section
variable {K : PySem.W.Frag} {P O : List Addr} {H : Hp}
end
section
variable {X : Cx} {W : WX} {e e2 : Expr} {pos tpos : PySem.Pos} {ms : M (List R)} {elts : List Expr} {kk : Nat}
end
end DL
set_option Elab.async false
set_option maxRecDepth 100000
set_option maxHeartbeats 4000000
namespace DL
open PySem PySem.Spec PyProof.Rows L2 HT
section
variable {prog : Program} {w : World} {A : Around} {E : Value → Shared → Prop} {s : Shared}
end
theorem RpAll.rev {K : PySem.W.Frag} {H : Hp} : ∀ {vs : List V} {ds : List D}, RpAll K H vs ds → RpAll K H vs.reverse ds.reverse
  | _, _, .nil => .nil
  | v :: vs, d :: ds, .cons a b => by
    rw [List.reverse_cons, List.reverse_cons]
    exact (RpAll.rev b).append (.cons a .nil)
end DL
set_option Elab.async false
set_option maxRecDepth 100000
set_option maxHeartbeats 4000000
namespace DL
open PySem L2
abbrev RwG := Nat × Int
def cg (ms : List Mk) (g : Nat) : Nat := match ms[g]? with
  | some (.pair j) => if j < g then j else g
  | _ => g
def sg (ms : List Mk) (g : Nat) (p : Int) : Int := match ms[g]? with
  | some (.pair j) => if j < g then 0 - p else p
  | _ => p
def rd (ms : List Mk) (c : Nat) (p : Int) : Int := match ms[c]? with
  | some .half => p.fmod 2
  | some .third => p.fmod 3
  | _ => p
def own (ms : List Mk) (x : RwG) : RwG := (cg ms x.1, rd ms (cg ms x.1) (sg ms x.1 x.2))
section
variable {ms : List Mk} (h : MkOk ms [])
end
section
variable {mid : List P2} {ms : List Mk} (F : Fan mid ms)
end
end DL
set_option Elab.async false
set_option maxRecDepth 100000
set_option maxHeartbeats 4000000
set_option exponentiation.threshold 5000
namespace DL
open PySem L2
end DL
set_option Elab.async false
set_option maxRecDepth 100000
set_option maxHeartbeats 4000000
set_option exponentiation.threshold 5000
namespace DL
open PySem L2
end DL
set_option Elab.async false
set_option maxRecDepth 100000
set_option maxHeartbeats 4000000
namespace DL
open PySem PySem.Spec PyProof.Rows L2
abbrev Gr (H H' : Hp) : Prop := ∀ a o, H a = some o → H' a = some o
abbrev GG := L2.St → Hp → Prop
section
variable {G : GG} {X : Cx} {a b e : Expr} {rest : List Expr} {pos : PySem.Pos} {ca cb : Bool}
theorem Gr.refl (H : Hp) : Gr H H := fun _ _ h => h
theorem Gr.trans {H H' H'' : Hp} (h : Gr H H') (h' : Gr H' H'') : Gr H H'' := fun a o z => h' a o (h a o z)
end
section
variable {G : GG} {X : Cx} {a D dd : Addr} {oe : Obj} {pn : List (Addr × Obj)} {i : Nat} {n T : Str} {p p2 p3 pos : PySem.Pos} {b : Bool}
end
end DL
set_option Elab.async false
set_option maxRecDepth 100000
set_option maxHeartbeats 4000000
namespace DL
open PySem PySem.Spec PyProof.Rows L2
def Ga (i : Nat) (a dd : Addr) (fs : List (Str × V)) : GG := fun σ H => σ[i]? = some (some (.ref a)) ∧ H dd = some (.xd fs)
def Gb (i j : Nat) (a dd : Addr) (fs : List (Str × V)) (b : Bool) : GG := fun σ H => Ga i a dd fs σ H ∧ σ[j]? = some (some (.bl b))
theorem Ga.is {i : Nat} {a dd : Addr} {fs : List (Str × V)} : ∀ σ H, Ga i a dd fs σ H → σ[i]? = some (some (.ref a)) ∧ ∃ fs, H dd = some (.xd fs) := fun _ _ h => ⟨h.1, fs, h.2⟩
theorem Gb.is {i j : Nat} {a dd : Addr} {fs : List (Str × V)} {b : Bool} : ∀ σ H, Gb i j a dd fs b σ H → σ[i]? = some (some (.ref a)) ∧ ∃ fs, H dd = some (.xd fs) := fun _ _ h => ⟨h.1.1, fs, h.1.2⟩
theorem Gb.fl {i j : Nat} {a dd : Addr} {fs : List (Str × V)} {b : Bool} : ∀ σ H, Gb i j a dd fs b σ H → σ[i]? = some (some (.ref a)) ∧ H dd = some (.xd fs) := fun _ _ h => h.1
theorem Gb.at_ {i j : Nat} {a dd : Addr} {fs : List (Str × V)} {b : Bool} : ∀ σ H, Gb i j a dd fs b σ H → σ[j]? = some (some (.bl b)) := fun _ _ h => h.2
section
variable {X : Cx} {W : WX} {i j : Nat} {n x : Str} {C : Addr} {b₀ : Stmt} {body suite : List Stmt} {np pos pos' : PySem.Pos} {l : List (Str × Bool)} {mb : M Fl} {f1 f2 : Str}
end
end DL
set_option Elab.async false
set_option maxRecDepth 100000
set_option maxHeartbeats 4000000
namespace DL
open PySem PySem.Spec PyProof.Rows L2
section
variable {X : Cx} {B : Addr} {x : Str} {e : Expr} {es : List Expr} {ta : TA} {p1 p2 pos : PySem.Pos}
end
end DL
set_option Elab.async false
set_option maxRecDepth 100000
set_option maxHeartbeats 4000000
namespace DL
open PySem PySem.Spec PyProof.Rows L2
theorem Rp.scal {K : PySem.W.Frag} {H H' : Hp} {v : V} {d : D} (h : Rp K H v d) (hs : scalD d = true) : Rp K H' v d := by
  cases h with
  | non => exact .non
  | bl b => exact .bl b
  | int i => exact .int i
  | str i => exact .str i
  | lst _ _ => cases hs
  | tup _ _ => cases hs
  | dct _ _ _ => cases hs
section
variable {X : Cx} {W : WX} {x f1 f2 : Str} {C fI : Addr} {fd : FuncData} {k : Nat} {p pos pos' : PySem.Pos} {e1 e2 : Expr} {ms : M (List R)}
end
end DL
set_option Elab.async false
set_option maxRecDepth 100000
set_option maxHeartbeats 4000000
namespace DL
open PySem PySem.Spec PyProof.Rows L2
end DL
set_option Elab.async false
set_option maxRecDepth 100000
set_option maxHeartbeats 4000000
namespace DL
open PySem PySem.Spec PyProof.Rows L2
def FAftM (K : PySem.W.Frag) (P : List Addr) (a : Addr) (H : Hp) (o : Option (List D × D)) (Q : VK) : Prop := match o with
  | some p => ∀ v H' zs', (∀ b u, b ≠ a → H b = some u → H' b = some u) → H' a = some (.lst zs') → RpAll K (wo (a :: P) H') zs' p.1 → Rp K (wo (a :: P) H') v p.2 → Q v H'
  | none => False
def spM (K : PySem.W.Frag) (n : Nat) (f : List D → List D → Option (List D × D)) : Sp := fun vs H Q _ => ∃ (P : List Addr) (a : Addr) (vs' zs : List V) (es ds : List D), vs = .ref a :: vs' ∧ ds.length + 1 = n ∧ H a = some (.lst zs) ∧ a ∉ P ∧ RpAll K (wo (a :: P) H) zs es ∧
  RpAll K (fun _ => none) vs' ds ∧ (∀ b ∈ P, ∃ o, H b = some o) ∧ FAftM K P a H (f es ds) Q
def lstO : Option (Option T) → D → Option (List D × D)
  | some (some (T.lst (some 0) es')), d => some (es', d)
  | _, _ => none
def valO (ρ : Rho) : Option (Option T) → Option (List D × D)
  | some (some (T.val d)) => lstO ρ[0]? d
  | _ => none
def finM : Out Fl → Option (List D × D)
  | .ok .nx ρ => lstO ρ[0]? .none
  | .ok (.rt (.tmp (.val d))) ρ => lstO ρ[0]? d
  | .ok (.rt (.slot i)) ρ => valO ρ ρ[i]?
  | _ => none
def runM (n : Nat) (m : M Fl) (es ds : List D) : Option (List D × D) := finM (m ((some (.lst (some 0) es) :: ds.map (fun d => some (T.val d))) ++ List.replicate n none))
theorem lstO_some {o : Option (Option T)} {d : D} {p : List D × D} (h : lstO o d = some p) : o = some (some (T.lst (some 0) p.1)) ∧ p.2 = d := by
  unfold lstO at h
  split at h
  · cases h
    exact ⟨rfl, rfl⟩
  · cases h
section
variable {P : Program} {w : World} {K : PySem.W.Frag} {mg : Str → Option Value} {base : Heap} {x qual : Str} {params : Arguments} {body : List Stmt} {scope : Scope} {f : Addr} {fd : FuncData}
theorem fn_okM {N ps : List Str} {k n : Nat} {m : M Fl} (F : FunD K x qual params body scope [] [] f fd) (S : FnScope N ps scope) (hN : N.length = ps.length + n)
    (hbody : ∀ (cdv : Value) (A : Around) (outer : List Env) (s : Shared) (H : Hp) (E : XK), Room k (A.deeper (envOfC qual scope s.heap.objs.size f cdv)) →
      JSs (cxOf (L2.CX P w) P w K mg base N qual scope f cdv A outer s H E) (fun cls d _ H => E cls d H) body m) : FnOk P w K mg base (L2.CX P w) (k + 1) f fd ps (spM K ps.length (runM n m)) := by
  refine F.ok S (fun vs H Q E h => ?_) (fun cdv A outer s H vs Q E hr h => ⟨_, hbody cdv A outer s H E hr, ?_⟩)
  · obtain ⟨Pr, a, vs', zs, es, ds, rfl, hl, _, _, _, rp, _⟩ := h
    rw [List.length_cons, rp.length, hl]
  · obtain ⟨Pr, a, vs', zs, es, ds, rfl, hl, ha, hn, rz, rp, hP, hf⟩ := h
    refine ⟨Pr, .ref a :: vs', [a], _, start_envL hN hl ha hn rz rp hP, ?_⟩
    show AftS K mg _ Pr (.ref a :: vs') [a] H (m ((some (.lst (some 0) es) :: ds.map (fun d => some (T.val d))) ++ List.replicate n none)) _
    unfold runM at hf
    -- the list behind the run
    have own : ∀ {ρ' : Rho} {O' : List Addr} {H' : Hp} {σ' : L2.St} {es' : List D}, EnvR K Pr (.ref a :: vs') O' H' σ' ρ' → ρ'[0]? = some (some (T.lst (some 0) es')) → Step [a] H O' H' →
        a ∈ O' ∧ (∀ b u, b ≠ a → H b = some u → H' b = some u) ∧ ∃ zs', H' a = some (.lst zs') ∧ RpAll K (wo (a :: Pr) H') zs' es' := fun {ρ' O' H' σ' es'} e q0 s1 => by
      obtain ⟨v, t1, t2, _⟩ := e.tag 0 0 _ q0 rfl
      obtain rfl : V.ref a = v := Option.some.inj t2
      obtain ⟨Fs, h1, h2⟩ := e.at_
      obtain ⟨w', e1, r, hO⟩ := h1 0 _ q0
      rw [t1] at e1
      cases e1
      generalize hF : Fs 0 = F at r hO
      cases r with
      | @lst _ zs' _ _ m1 m2 m3 =>
        have haO : a ∈ O' := hO a (List.mem_singleton.mpr rfl)
        refine ⟨haO, fun b u hb hu => s1.ext b u (fun z => hb (List.mem_singleton.mp z)) hu, zs', m2, m3.mono fun b u z => ?_⟩
        obtain ⟨z1, z2⟩ := wo_some.mp z
        refine wo_some.mpr ⟨fun y => z1 ?_, z2⟩
        rcases List.mem_cons.mp y with y | y
        · rw [y]
          exact List.mem_append_left _ haO
        · exact List.mem_append_right _ y
    cases q : m ((some (.lst (some 0) es) :: ds.map (fun d => some (T.val d))) ++ List.replicate n none) with
    | bad =>
      rw [q] at hf
      exact hf
    | exc x ρ' =>
      rw [q] at hf
      exact hf.elim
    | ok fl ρ' =>
      rw [q] at hf
      cases fl with
      | bk => exact hf.elim
      | ct => exact hf.elim
      | nx =>
        intro σ' H' O' e s1
        cases ql : lstO ρ'[0]? PyData.none with
        | none =>
          have hf' : FAftM K Pr a H (lstO ρ'[0]? PyData.none) Q := hf
          rw [ql] at hf'
          exact hf'.elim
        | some p =>
          have hf' : FAftM K Pr a H (lstO ρ'[0]? PyData.none) Q := hf
          rw [ql] at hf'
          obtain ⟨q0, qd⟩ := lstO_some ql
          obtain ⟨haO, h1, zs', h2, h3⟩ := own e q0 s1
          exact hf' .non H' zs' h1 h2 h3 (by rw [qd]; exact .non)
      | rt r =>
        intro v σ' H' O' F e r1 s1
        have e0 : EnvR K Pr (.ref a :: vs') O' H' σ' ρ' := e.less
        cases r with
        | tmp t =>
          cases t with
          | lst tag ys => exact hf.elim
          | dct tag ys => exact hf.elim
          | shr tag ys => exact hf.elim
          | any tag ys => exact hf.elim
          | own tag ys => exact hf.elim
          | ron tag ys => exact hf.elim
          | val d =>
            have hf' : FAftM K Pr a H (lstO ρ'[0]? d) Q := hf
            cases ql : lstO ρ'[0]? d with
            | none =>
              rw [ql] at hf'
              exact hf'.elim
            | some p =>
              rw [ql] at hf'
              obtain ⟨q0, qd⟩ := lstO_some ql
              obtain ⟨haO, h1, zs', h2, h3⟩ := own e0 q0 s1.less
              obtain ⟨r2, r3, r4⟩ := r1
              generalize hFF : F = FF at r2
              cases r2 with
              | val rp =>
                refine hf' v H' zs' h1 h2 h3 ?_
                rw [qd]
                refine rp.mono fun b u z => ?_
                obtain ⟨z1, z2⟩ := wo_some.mp z
                refine wo_some.mpr ⟨fun y => z1 ?_, z2⟩
                rcases List.mem_cons.mp y with y | y
                · rw [y]
                  exact List.mem_append_right _ (List.mem_append_left _ haO)
                · exact List.mem_append_right _ (List.mem_append_right _ y)
        | slot i =>
          have hf' : FAftM K Pr a H (valO ρ' ρ'[i]?) Q := hf
          unfold valO at hf'
          split at hf'
          · rename_i d qi
            cases ql : lstO ρ'[0]? d with
            | none =>
              rw [ql] at hf'
              exact hf'.elim
            | some p =>
              rw [ql] at hf'
              obtain ⟨q0, qd⟩ := lstO_some ql
              obtain ⟨haO, h1, zs', h2, h3⟩ := own e0 q0 s1.less
              obtain ⟨Fs, g1, g2⟩ := e0.at_
              obtain ⟨w', e1, r2, hO⟩ := g1 i _ qi
              have r1' : σ'[i]? = some (some v) := r1
              rw [e1] at r1'
              cases r1'
              generalize hFF : Fs i = FF at r2
              cases r2 with
              | val rp =>
                refine hf' v H' zs' h1 h2 h3 ?_
                rw [qd]
                refine rp.mono fun b u z => ?_
                obtain ⟨z1, z2⟩ := wo_some.mp z
                refine wo_some.mpr ⟨fun y => z1 ?_, z2⟩
                rcases List.mem_cons.mp y with y | y
                · rw [y]
                  exact List.mem_append_left _ haO
                · exact List.mem_append_right _ y
          · exact hf'.elim
end
def callMM (f : List D → List D → Option (List D × D)) (rs : List R) : M R := fun ρ => match rs with
  | .slot i :: rs' => (match ρ[i]?, looks rs' ρ with
    | some (some (.lst tag es)), some ds => if ds.all scalD = true then (match f es ds with
      | some p => .ok (.tmp (.val p.2)) (ρ.set i (some (.lst tag p.1)))
      | none => .bad) else .bad
    | _, _ => .bad)
  | _ => .bad
theorem callMM_ok {K : PySem.W.Frag} {mg : Str → Option Value} {W : WX} {P O F : List Addr} {A : List V} {H : Hp} {σ : L2.St} {ρ : Rho} {vs : List V} {rs : List R} {n : Nat} {f : List D → List D → Option (List D × D)} {Q : VK} (e : EnvR K (F ++ P) A O H σ ρ) (r : RRs K P O H σ F vs rs)
    (h : Aft (relR K σ) K mg W P A σ O H (callMM f rs ρ) Q) (hn : rs.length = n) (E : XK) : spM K n f vs H Q E := by
  unfold callMM at h
  cases r with
  | nil => exact h.elim
  | @cons _ _ _ _ v vs' ro rs' F1 Fs G r1 r2 hG =>
    cases ro with
    | tmp t => exact h.elim
    | slot i =>
      simp only at h
      split at h
      · rename_i tag es ds q1 q2
        by_cases hs : ds.all scalD = true
        · rw [if_pos hs] at h
          have e0 : EnvR K P A O H σ ρ := e.less
          obtain ⟨a, zs, rfl, m2, m3, m4, m5⟩ := e0.own q1 (show σ[i]? = some (some v) from r1)
          have rp : RpAll K (fun _ => none) vs' ds := by
            have e1 : EnvR K (F1 ++ P) A O H σ ρ := by
              rw [hG, List.append_assoc] at e
              exact e.less
            exact rps_scal (Paired.rp (looks_vr e1 r2 q2)) hs
          have na : a ∉ P := fun z => (e0.prot a z).1 m4
          have mem : ∀ b, b ∈ a :: (O.filter (fun c => decide (c ≠ a)) ++ P) ↔ b ∈ O ++ P := fun b => by
            simp only [List.mem_cons, List.mem_append, List.mem_filter, decide_eq_true_eq]
            constructor
            · rintro (rfl | ⟨h1, _⟩ | h1)
              · exact .inl m4
              · exact .inl h1
              · exact .inr h1
            · rintro (h1 | h1)
              · by_cases hb : b = a
                · exact .inl hb
                · exact .inr (.inl ⟨h1, hb⟩)
              · exact .inr (.inr h1)
          refine ⟨O.filter (fun c => decide (c ≠ a)) ++ P, a, vs', zs, es, ds, rfl, ?_, m2, fun z => ?_, m3.mono fun b o z => ?_, rp, fun b hb => ?_, ?_⟩
          · have := looks_len q2
            rw [this, ← hn, List.length_cons]
          · rcases List.mem_append.mp z with z | z
            · have := (List.mem_filter.mp z).2
              simp at this
            · exact na z
          · obtain ⟨z1, z2⟩ := wo_some.mp z
            exact wo_some.mpr ⟨fun y => z1 ((mem b).mp y), z2⟩
          · rcases List.mem_append.mp hb with z | z
            · exact e0.trk b (List.mem_filter.mp z).1
            · exact (e0.prot b z).2
          · cases qf : f es ds with
            | none =>
              rw [qf] at h
              exact h.elim
            | some p =>
              rw [qf] at h
              simp only at h
              · intro v H' zs' k1 k2 k3 k4
                have more : ∀ b u, H b = some u → upd H' a (.lst zs) b = some u := fun b u z => by
                  by_cases hb : b = a
                  · subst hb
                    rw [m2] at z
                    rw [upd_same, z]
                  · rw [upd_ne hb]
                    exact k1 b u hb z
                have e1 : EnvR K P A O (upd H' a (.lst zs)) σ ρ := e0.more more
                obtain ⟨a', zs1, ea, _, _, _, m5'⟩ := e1.own q1 (show σ[i]? = some (some (V.ref a)) from r1)
                cases ea
                have back : upd (upd H' a (.lst zs)) a (.lst zs') = H' := by
                  rw [upd_upd]
                  funext b
                  by_cases hb : b = a
                  · subst hb
                    rw [upd_same, k2]
                  · rw [upd_ne hb]
                have k3' : RpAll K (wo (O ++ P) (upd H' a (.lst zs))) zs' p.1 := k3.mono fun b u z => by
                  obtain ⟨z1, z2⟩ := wo_some.mp z
                  refine wo_some.mpr ⟨fun y => z1 ((mem b).mpr y), ?_⟩
                  rw [upd_ne fun y => z1 (by rw [y]; exact List.mem_cons_self)]
                  exact z2
                obtain ⟨e5, s5⟩ := m5' zs' p.1 k3'
                rw [back] at e5 s5
                refine h v H' O [] e5 (rr_val (k4.mono fun b u z => ?_)) ((Step.more more).trans s5)
                obtain ⟨z1, z2⟩ := wo_some.mp z
                exact wo_some.mpr ⟨fun y => z1 ((mem b).mpr y), z2⟩
        · rw [if_neg hs] at h
          exact h.elim
      · exact h.elim
section
variable {X : Cx} {W : WX} {k n : Nat} {f : Addr} {fd : FuncData} {ps : List Str} {g : List D → List D → Option (List D × D)} {x : Str} {p pos : PySem.Pos} {e : Expr} {es : List Expr} {ms : M (List R)}
theorem j_callM (F : FnOk X.prog X.w X.K X.mg X.base (L2.CX X.prog X.w) k f fd ps (spM X.K (es.length + 1) g)) (hr : Room k X.A) (tk : Takes X W) (hg : Gl X x) (hm : X.mg x = some (.ref f)) (hk : PySem.W.keepIn X.K (.ref f) = true) (hb : Binds X.K fd ps [])
    (ha : JEs X W (e :: es) ms) (hl : ∀ ρ rs ρ', ms ρ = .ok rs ρ' → rs.length = es.length + 1) (hdb : (x == ("__debug__" : Str)) = false) (he : starEach (e :: es) X.env = (false, eval e X.env) :: starEach es X.env) (hpl : (backTo pos (starEach es X.env)).any (·.1) = false) :
    JE X W (.Call (.Name x p) (e :: es) [] pos) (M.bind ms (callMM g)) := (pe_callS (E := WE W) F hr hg hm hk hb (fun σ => passAt tk σ) ha hdb he hpl).imp fun σ H Q h => by
  obtain ⟨P, A, O, ρ, e, h⟩ := h
  cases q : ms ρ with
  | bad =>
    unfold M.bind at h
    rw [q] at h
    exact h.elim
  | exc x ρ1 =>
    refine ⟨P, A, O, ρ, e, ?_⟩
    unfold M.bind at h
    rw [q] at h ⊢
    exact h
  | ok rs ρ1 =>
    refine ⟨P, A, O, ρ, e, ?_⟩
    unfold M.bind at h
    rw [q] at h ⊢
    intro vs H1 O1 F1 e1 r1 s1
    exact callMM_ok e1 r1 (Aft.step h s1.less) (hl ρ rs ρ1 q) _
end
abbrev lenF (f : List D → List D → Option (List D × D)) (ms : M (List R)) : M R := M.bind ms (callMM f)
end DL
set_option Elab.async false
set_option maxRecDepth 100000
set_option maxHeartbeats 4000000
namespace DL
open PySem PySem.Spec PyProof.Rows L2
section
variable {X : Cx} {W : WX} {e : Expr} {st : Stmt}
end
section
variable {X : Cx} {W : WX} {x f1 : Str} {C fI : Addr} {fd : FuncData} {k : Nat} {p pos pos' : PySem.Pos} {e1 : Expr} {ms : M (List R)}
end
end DL
set_option Elab.async false
set_option maxRecDepth 100000
set_option maxHeartbeats 4000000
namespace DL
open PySem PySem.Spec PyProof.Rows L2
section
variable {X : Cx} {W : WX} {i : Nat} {n x : Str} {C : Addr} {b₀ : Stmt} {body suite : List Stmt} {np pos pos' : PySem.Pos} {l : List (Str × Bool)} {mb ms : M Fl} {f1 : Str}
end
section
variable {X : Cx} {W : WX} {x : Str} {C : Addr} {b₀ : Stmt} {body suite : List Stmt} {np pos pos' : PySem.Pos} {l : List (Str × Bool)} {mb ms : M Fl}
end
end DL
set_option Elab.async false
set_option maxRecDepth 100000
set_option maxHeartbeats 4000000
namespace DL
open PySem L2
def lnmR (i : Nat) (tag : Option Nat) (ρ : Rho) : Option (List D × D) → Out R
  | some p => .ok (.tmp (.val p.2)) (ρ.set i (some (.lst tag p.1)))
  | none => .bad
def lnmO (f : List D → List D → Option (List D × D)) (i : Nat) (ρ : Rho) : Option (Option T) → Option (List D) → Out R
  | some (some (.lst tag es)), some ds => if ds.all scalD = true then lnmR i tag ρ (f es ds) else .bad
  | _, _ => .bad
@[simp] theorem callMM_ap (f : List D → List D → Option (List D × D)) (i : Nat) (rs : List R) (ρ : Rho) : callMM f (.slot i :: rs) ρ = lnmO f i ρ ρ[i]? (looks rs ρ) := by
  unfold callMM
  dsimp only
  generalize ρ[i]? = a
  generalize looks rs ρ = b
  match a with
  | none => rfl
  | some none => rfl
  | some (some (.val _)) => rfl
  | some (some (.dct _ _)) => rfl
  | some (some (.shr _ _)) => rfl
  | some (some (.any _ _)) => rfl
  | some (some (.own _ _)) => rfl
  | some (some (.ron _ _)) => rfl
  | some (some (.lst tag es)) =>
    cases b with
    | none => rfl
    | some ds =>
      show (if _ then _ else _) = lnmO f i ρ (some (some (.lst tag es))) (some ds)
      unfold lnmO
      by_cases h : ds.all scalD = true
      · simp only [if_pos h]
        cases h2 : f es ds <;> simp only [h2] <;> rfl
      · simp only [if_neg h]
@[simp] theorem lnmO_ok (f : List D → List D → Option (List D × D)) (i : Nat) (ρ : Rho) (tag : Option Nat) (es ds : List D) : lnmO f i ρ (some (some (.lst tag es))) (some ds) = if ds.all scalD = true then lnmR i tag ρ (f es ds) else .bad := (rfl)
@[simp] theorem lnmR_some (i : Nat) (tag : Option Nat) (ρ : Rho) (es : List D) (d : D) : lnmR i tag ρ (some (es, d)) = .ok (.tmp (.val d)) (ρ.set i (some (.lst tag es))) := (rfl)
theorem runM_eq (n : Nat) (m : M Fl) (es ds : List D) : runM n m es ds = finM (m ((some (.lst (some 0) es) :: ds.map (fun d => some (T.val d))) ++ List.replicate n none)) := (rfl)
@[simp] theorem finM_nx (es : List D) (l : Rho) : finM (.ok .nx (some (.lst (some 0) es) :: l)) = some (es, .none) := (rfl)
@[simp] theorem finM_tmp (es : List D) (l : Rho) (d : D) : finM (.ok (.rt (.tmp (.val d))) (some (.lst (some 0) es) :: l)) = some (es, d) := (rfl)
@[simp] theorem finM_slot (es : List D) (l : Rho) (i : Nat) : finM (.ok (.rt (.slot i)) (some (.lst (some 0) es) :: l)) = valO (some (.lst (some 0) es) :: l) (some (T.lst (some 0) es) :: l : Rho)[i]? := (rfl)
@[simp] theorem valO_val (es : List D) (l : Rho) (d : D) : valO (some (.lst (some 0) es) :: l) (some (some (T.val d))) = some (es, d) := (rfl)
end DL
set_option Elab.async false
set_option maxRecDepth 100000
set_option maxHeartbeats 4000000
namespace DL
open PySem PySem.Spec PyProof.Rows L2
section
variable {X : Cx} {W : WX} {i j : Nat} {n x : Str} {C : Addr} {b₀ : Stmt} {body suite : List Stmt} {np pos pos' : PySem.Pos} {l : List (Str × Bool)} {mb ms : M Fl} {f1 : Str}
end
end DL
set_option Elab.async false
set_option maxRecDepth 100000
set_option maxHeartbeats 4000000
namespace DL
open PySem PySem.Spec PyProof.Rows L2
def repD (m : Nat) (ds : List D) : List D := (List.replicate m ds).flatten
theorem RpAll.rep {K : PySem.W.Frag} {H : Hp} {vs : List V} {ds : List D} (h : RpAll K H vs ds) : ∀ m : Nat, RpAll K H (List.replicate m vs).flatten (repD m ds)
  | 0 => .nil
  | m + 1 => by
    unfold repD
    rw [List.replicate_succ, List.replicate_succ, List.flatten_cons, List.flatten_cons]
    exact h.append (RpAll.rep h m)
end DL
set_option Elab.async false
set_option maxRecDepth 100000
set_option maxHeartbeats 4000000
namespace DL
open PySem PySem.Spec PyProof.Rows L2
def memA (a : Addr) : List Addr → Bool
  | [] => false
  | b :: bs => match Nat.beq a b with
    | true => true
    | false => memA a bs
def addA : List Addr → List Addr → List Addr → List Addr
  | [], _, new => new
  | a :: as, seen, new => match memA a seen with
    | true => addA as seen new
    | false => match memA a new with
      | true => addA as seen new
      | false => addA as seen (a :: new)
def growF (g : Addr → Option Obj) : Nat → List Addr → List Addr → List Addr
  | 0, seen, _ => seen
  | n + 1, seen, front =>
    let new := addA (front.flatMap fun a => match g a with
      | some o => He.refsD o
      | none => []) seen []
    growF g n (seen ++ new) new
def asF (g : Addr → Option Obj) (n : Nat) : List Addr := growF g n [mainGlobals] [mainGlobals] ++ [cStatics]
end DL
set_option Elab.async false
set_option maxRecDepth 100000
set_option maxHeartbeats 4000000
namespace DL
open PySem PySem.W PySem.Calls PyProof.Rows HandSHeadRun
section
variable {r : OpenRow} {q : Program} {n : Nat} {fx : PySem.W.Frag → Bool} {fa : List He.Fa} {fn : List He.DefD} {ts : List TabN} {M : Nat} {loose : List PySem.Str} {w : World}
noncomputable abbrev runE (r : OpenRow) (M : Nat) (w : World) (os : OsState) := endF (stepQ (denQ tabQ) r.prog w) M r.prog w os
/-- a look -/
def PartB (r : OpenRow) (n : Nat) (b : PySem.W.Frag → Bool) (M : Nat) (w : World) : Prop :=
  ∀ os : OsState, (runE r M w os).map (fun s => b (He.frG (getT s) (asF (getT s) n))) = some true
theorem PartB.and {b1 b2 : PySem.W.Frag → Bool} (a : PartB r n b1 M w) (b : PartB r n b2 M w) : PartB r n (fun K => b1 K && b2 K) M w := by
  intro os
  have ha := a os
  have hb := b os
  cases e : runE r M w os with
  | none => rw [e] at ha; cases ha
  | some s =>
    rw [e] at ha hb
    have ha := Option.some.inj ha
    have hb := Option.some.inj hb
    refine congrArg some ?_
    dsimp only at ha hb
    show (b1 _ && b2 _) = true
    rw [ha, hb]
    rfl
end
end DL
set_option Elab.async false
set_option maxRecDepth 100000
set_option maxHeartbeats 4000000
namespace DL
open PySem PySem.Spec PyProof.Rows L2
def argP : List (M R × M R) → M (List R)
  | [] => M.ret []
  | (k, v) :: r => argC k (argC v (argP r))
def pairUp : List D → List (D × D) → Option (List (D × D))
  | [], acc => some acc
  | k :: v :: r, acc => if (nkOf k).isSome ∧ acc.length < 1000000 then pairUp r (kput acc k v) else none
  | _, _ => none
def mkDct (rs : List R) : M R := M.bind (frzs rs) fun ds => match pairUp ds [] with
  | some kvs => M.ret (.tmp (.dct none kvs))
  | none => M.bad
def dispM (ms : List (M R × M R)) : M R := M.bind (argP ms) mkDct
def flatP {α : Type} : List (α × α) → List α
  | [] => []
  | (x, y) :: r => x :: y :: flatP r
section
variable {X : Cx} {W : WX}
theorem pairs_of : ∀ (ms : List (M R × M R)) {σ : L2.St} {H : Hp} {Q : List V → Hp → Prop}, tRs X.K X.mg W (argP ms) σ H Q → tPairs (ms.map fun m => (tR X.K X.mg W m.1, tR X.K X.mg W m.2)) σ H fun ps H' => Q (flatP ps) H'
  | [], σ, H, Q, h => by
    obtain ⟨P, A, O, ρ, e, h⟩ := h
    exact h [] H O [] e .nil (Step.refl _ _)
  | (mk, mv) :: r, σ, H, Q, h => by
    obtain ⟨P, A, O, ρ, e, h⟩ := h
    refine ⟨P, A, O, ρ, e, (Aft.bind (rl := relR X.K σ) (m := mk) (k := fun r1 => M.bind (argC mv (argP r)) fun rs => .ret (r1 :: rs)) h).mono ?_⟩
    rintro x H1 ⟨O1, ρ1, ra, F, e1, r1, s1, h1⟩
    have h1' : Aft (relRs X.K σ) X.K X.mg W P A σ O H (M.bind mv (fun r2 => M.bind (argP r) fun rs => .ret (ra :: r2 :: rs)) ρ1) Q := by
      have : M.bind (argC mv (argP r)) (fun rs => M.ret (ra :: rs)) = M.bind mv (fun r2 => M.bind (argP r) fun rs => M.ret (ra :: r2 :: rs)) := by
        unfold argC
        rw [bind_assoc]
        congr 1
        funext r2
        rw [bind_assoc]
        rfl
      rw [← this]
      exact h1
    refine ⟨F ++ P, A, O1, ρ1, e1, (Aft.bindP (rl := relR X.K σ) F s1.less h1').mono ?_⟩
    rintro y H2 ⟨O2, ρ2, rb, G, e2, r2, s2, h2⟩
    have e2' : EnvR X.K ((G ++ F) ++ P) A O2 H2 σ ρ2 := by rw [List.append_assoc]; exact e2
    refine pairs_of r (Q := fun zs H3 => Q (x :: y :: zs) H3) ⟨(G ++ F) ++ P, A, O2, ρ2, e2', (Aft.bindP (rl := relRs X.K σ) (G ++ F) (s1.less.trans s2.less) h2).mono ?_⟩
    rintro zs H3 ⟨O3, ρ3, rs, G2, e3, r3, s3, h3⟩
    have ra3 : RR X.K P F O3 H3 σ x ra := (r1.step (s2.less.trans s3.less) e1.off)
    have rb3 : RR X.K (F ++ P) G O3 H3 σ y rb := r2.step s3.less e2.off
    have r3' : RRs X.K (G ++ (F ++ P)) O3 H3 σ G2 zs rs := r3.perm fun a => by simp only [List.mem_append, or_assoc]
    refine h3 (x :: y :: zs) H3 O3 (G2 ++ (G ++ F)) (by rw [List.append_assoc]; exact e3) (.cons ra3 (.cons rb3 r3' rfl) (by rw [List.append_assoc])) ?_
    have t1 := s1.transF (s2.transF s3)
    exact ⟨fun a ha => t1.own a (by simp only [List.mem_append] at ha ⊢; rcases ha with (h | h | h) | h <;> simp [h]), t1.ext, t1.stay⟩
theorem disp_new {P : Program} {w : World} {H : Hp} (h : Heap) (hb : sysModules < h.objs.size) : ObjOk P w H (h.push { cls := .type "dict", data := .dict #[] }) h.objs.size (dcO h.objs.size { cls := .type "dict", data := .dict #[] } []) :=
  ⟨⟨Heap.get?_push_size _ rfl, beq_eq_false_iff_ne.mpr (Ne.symm (Nat.ne_of_lt hb)), w, #[], 0, [], ⟨rfl, rfl, rfl⟩, rfl, rfl, .nil⟩, ⟨_, Heap.get?_push_size _ rfl⟩, fun _ _ z k => ⟨k _ z.1, z.2⟩⟩
theorem store_N (hu : X.A.units + 65 < cLine) {pins : List (Addr × Obj)} {σ : L2.St} {H Hs : Hp} {p : Addr} (hsub : ∀ (o : HO) (a : Addr) (u : HO), Hs a = some u → upd H p o a = some u) : ∀ {ps : List (V × V)} {us : List (Value × Value)} {ds : List D} {kvs kvs' : List (D × D)} {s : Shared} {o : Obj} {es : List KVV} {Q : PUnit → Shared → Prop}, VV ps us → RpAll X.K Hs (flatP ps) ds → pairUp ds kvs = some kvs' → Inv X pins σ (upd H p (dcO p o es)) s →
    KvsOk kvs → RpDct X.K Hs es kvs → (∀ s' o' es', Inv X pins σ (upd H p (dcO p o' es')) s' → KvsOk kvs' → RpDct X.K Hs es' kvs' → Q ⟨⟩ s') → wpAny (model X.prog X.w) X.A (storeAll p us) Q X.xe s
  | _, _, _, _, _, s, o, es, Q, .nil, .nil, hp, I, hk, hr, hQ => by
    cases hp
    unfold storeAll
    exact wpAny_pure (hQ s o es I hk hr)
  | (x, y) :: ps, (u, w) :: us, _, kvs, kvs', s, o, es, Q, .cons rel rest, .cons (d := dk) rk (.cons (d := dv) rv rr), hp, I, hk, hr, hQ => by
    have rk : Rp X.K Hs x dk := rk
    have rv : Rp X.K Hs y dv := rv
    have rr : RpAll X.K Hs (flatP ps) _ := rr
    simp only [pairUp] at hp
    split at hp
    · rename_i hc
      obtain ⟨n, hn⟩ := Option.isSome_iff_exists.mp hc.1
      obtain ⟨n1, n2⟩ := nkOf_some hn
      have hH : (upd H p (dcO p o es)) p = some (dcO p o es) := upd_same
      obtain ⟨hsm, xs, hm, hpr⟩ := dcO_at (I.hok p _ hH) hr.txt
      have KN := keysN_of I (hr.mono (hsub _)) hpr hk
      have hz : xs.length ≤ sizeLine := by
        have e1 := hr.length
        have e2 := Paired.length hpr
        have := hk.2.2
        have big : (1000000 : Nat) ≤ sizeLine := by rw [sizeLine_eq]; decide
        simp only [dLine] at this
        omega
      unfold storeAll
      simp only [List.forIn_cons]
      refine wpAny_bind (wpAny_bind (dSet (show X.A.units + 8 < cLine by omega) (Rp.key I (rk.mono (hsub _)) n1 rel.1) n2 (nkD_notStr rk n1 rel.1) hm KN hz fun h' q1 q2 => ?_))
      obtain ⟨es', r1, r2⟩ := kput_N n1 rk rv rel.1 rel.2 hr hpr KN.2
      obtain ⟨o', ok'⟩ := dcO_ok (P := X.prog) (w := X.w) (H := upd H p (dcO p o es)) (h := h') (a := p) hsm q1 r2
      obtain ⟨oq, hq⟩ := ok'.2.1
      have I2 := d_write (t' := s.toks + n.draws) I (by rw [hH]; exact True.intro) q2 ⟨oq, hq⟩ (show ObjOk X.prog X.w (upd (upd H p (dcO p o es)) p (dcO p o' es')) h' p (dcO p o' es') from ok')
      rw [upd_upd] at I2
      refine wpAny_pure ?_
      exact store_N hu hsub (kvs := kput kvs dk dv) rest rr hp I2 (hk.put hn hc.2) r1 hQ
    · cases hp
theorem j_disp {keys : List (Option Expr)} {values : List Expr} {pos : PySem.Pos} {ms : List (M R × M R)} (hu : X.A.units + 65 < cLine) (h : PPs X pos keys values (ms.map fun m => (tR X.K X.mg W m.1, tR X.K X.mg W m.2))) (hall : keys.all (·.isSome) = true) (hl : keys.length = values.length) (h0 : keys ≠ []) (h15 : keys.length ≤ 15) : JE X W (.Dict keys values pos) (dispM ms) := by
  refine ⟨fun pins s σ H Q I q => ?_⟩
  obtain ⟨P, A, O, ρ, e, q⟩ := q
  generalize hp : s.heap.objs.size = p
  have hn : H p = none := I.hok.fresh (by rw [hp]; exact Nat.le_refl _)
  have ok0 := disp_new (P := X.prog) (w := X.w) (H := upd H s.heap.objs.size (dcO s.heap.objs.size { cls := .type "dict", data := .dict #[] } [])) s.heap I.big
  have I1 := I.laid (a := s.heap.objs.size) (o := dcO s.heap.objs.size { cls := .type "dict", data := .dict #[] } []) (h' := s.heap.push { cls := .type "dict", data := .dict #[] }) (t' := s.toks) (fun _ _ q => Heap.get?_push_of_some _ q) (Nat.le_refl _) ok0
  rw [hp] at I1
  generalize hu0 : ({ cls := .type "dict", data := .dict #[] } : Obj) = o0 at I1
  have mo : ∀ a o, H a = some o → upd H p (dcO p o0 []) a = some o := fun a o z => by rw [upd_ne (ne_of_none z hn)]; exact z
  have e1 : EnvR X.K ([p] ++ P) A O (upd H p (dcO p o0 [])) σ ρ := e.new mo fun a ha => by
    rw [List.mem_singleton.mp ha]
    exact ⟨hn, _, upd_same⟩
  have s1 : Step O H O (upd H p (dcO p o0 [])) := Step.more mo
  refine wpAny_Dict_any hall hl h0 h15 ?_
  rw [hu0]
  have pr := pairs_of (X := X) (W := W) ms ⟨[p] ++ P, A, O, ρ, e1, Aft.bindP (rl := relRs X.K σ) [p] s1 q⟩
  refine thn (h.run pins _ σ _ _ I1 pr) fun us s2 ⟨ps, H2, I2, rel, O2, ρ2, rs, F, e2, r2, t2, h2⟩ => ?_
  have pO : p ∉ O := fun z => by
    obtain ⟨o, w⟩ := e.trk p z
    rw [hn] at w
    cases w
  have hp2 : H2 p = some (dcO p o0 []) := t2.ext p _ pO upd_same
  have h2' : Aft (relR X.K σ) X.K X.mg W P A σ O H (M.bind (frzs rs) (fun ds => match pairUp ds [] with
    | some kvs => M.ret (.tmp (.dct none kvs))
    | none => M.bad) ρ2) Q := h2
  unfold M.bind at h2'
  cases qf : frzs rs ρ2 with
  | exc x ρ' => exact (frzs_noexc qf).elim
  | bad =>
    rw [qf] at h2'
    exact h2'.elim
  | ok ds ρ3 =>
    rw [qf] at h2'
    simp only at h2'
    obtain ⟨O3, e3, t3, p3⟩ := frzs_ok (P := [p] ++ P) e2 r2 qf
    cases qp : pairUp ds [] with
    | none =>
      rw [qp] at h2'
      exact h2'.elim
    | some kvs =>
      rw [qp] at h2'
      have hsub : ∀ (o : HO) (a : Addr) (u : HO), wo (O3 ++ ([p] ++ P)) H2 a = some u → upd H2 p o a = some u := fun o a u z => by
        obtain ⟨z1, z2⟩ := wo_some.mp z
        rw [upd_ne fun y => z1 (by rw [y]; simp)]
        exact z2
      have I2' : Inv X pins σ (upd H2 p (dcO p o0 [])) s2 := by
        have : upd H2 p (dcO p o0 []) = H2 := by
          funext b
          by_cases hb : b = p
          · subst hb
            rw [upd_same, hp2]
          · rw [upd_ne hb]
        rw [this]
        exact I2
      rw [hp]
      refine store_N hu hsub rel p3 qp I2' KvsOk.nil .nil fun s' o' es' I3 k3 r3 => ?_
      refine ⟨.ref p, _, I3, rfl, ?_⟩
      have z := h2' (.ref p) (upd H2 p (dcO p o' es')) O3 [p] (e3.upP (by simp)) ⟨.dct (by simp) upd_same k3 (r3.mono fun a u z => ?_), fun a ha z => ?_, rfl⟩ ?_
      · exact z
      · obtain ⟨z1, z2⟩ := wo_some.mp z
        simp only [List.mem_append, not_or] at z1
        refine wo_some.mpr ⟨by simp only [List.mem_append, not_or]; exact ⟨z1.2.1, z1.1, z1.2.2⟩, ?_⟩
        rw [upd_ne fun y => z1.2.1 (by rw [y]; simp)]
        exact z2
      · rw [List.mem_singleton.mp ha] at z
        obtain ⟨_, o, w⟩ := e.prot p z
        rw [hn] at w
        cases w
      · have t4 := (s1.trans t2.less).trans t3
        exact ⟨fun a ha => by
          rcases List.mem_append.mp ha with z | z
          · rw [List.mem_singleton.mp z]
            exact .inr hn
          · exact t4.own a z, (t4.upNew hn).ext, (t4.upNew hn).stay⟩
/-- {} -/
theorem j_disp0 {pos : PySem.Pos} : JE X W (.Dict [] [] pos) (M.ret (.tmp (.dct none []))) := by
  refine ⟨fun pins s σ H Q I q => ?_⟩
  obtain ⟨P, A, O, ρ, e, q⟩ := q
  have hn : H s.heap.objs.size = none := I.hok.fresh (Nat.le_refl _)
  have ok0 := disp_new (P := X.prog) (w := X.w) (H := upd H s.heap.objs.size (dcO s.heap.objs.size { cls := .type "dict", data := .dict #[] } [])) s.heap I.big
  have I1 := I.laid (a := s.heap.objs.size) (o := dcO s.heap.objs.size { cls := .type "dict", data := .dict #[] } []) (h' := s.heap.push { cls := .type "dict", data := .dict #[] }) (t' := s.toks) (fun _ _ q => Heap.get?_push_of_some _ q) (Nat.le_refl _) ok0
  generalize hp : s.heap.objs.size = p at hn I1 ok0
  generalize hu0 : ({ cls := .type "dict", data := .dict #[] } : Obj) = o0 at I1 ok0
  have mo : ∀ a o, H a = some o → upd H p (dcO p o0 []) a = some o := fun a o z => by rw [upd_ne (ne_of_none z hn)]; exact z
  refine wpAny_Dict_empty ?_
  rw [hp, hu0]
  exact ⟨.ref p, _, I1, rfl, Aft.tmp q e ⟨mo, ⟨[p], .dct (by simp) upd_same KvsOk.nil .nil, fun a ha => by rw [List.mem_singleton.mp ha]; exact hn⟩, rfl⟩⟩
end
end DL
set_option Elab.async false
set_option maxRecDepth 100000
set_option maxHeartbeats 4000000
namespace DL
open PySem PySem.Spec PyProof.Rows L2
/-- the abstract heap says another thing of the object at a -/
theorem Inv.recast {X : Cx} {pins : List (Addr × Obj)} {σ : L2.St} {H : Hp} {s : Shared} {a : Addr} {o1 o2 : HO} (I : Inv X pins σ H s) (h1 : H a = some o1) (hf : ∀ o u, X.H_0 a ≠ some (.frz o u)) (k1 : ∀ xs, o1 ≠ .tup xs) (k2 : ∀ y, o1 ≠ .own y) (k3 : ∀ ps, o1 ≠ .tbl ps)
    (new : ObjOk X.prog X.w (upd H a o2) s.heap a o2) : Inv X pins σ (upd H a o2) s where
  ok := I.ok
  os := I.os
  bare := I.bare
  base := {
    keep := I.base.keep
    slot := I.base.slot
    free := fun b o e n hx => by
      have z := I.base.free b o e n hx
      rw [upd_ne (fun y => by rw [y, h1] at z; cases z)]
      exact z
    there := I.base.there
    tups := fun b xs e => by
      have z := I.base.tups b xs e
      rw [upd_ne (fun y => by rw [y, h1] at z; exact k1 xs (Option.some.inj z))]
      exact z
    frzs := fun b o u e => by
      have z := I.base.frzs b o u e
      rw [upd_ne (fun y => hf o u (by rw [← y]; exact e))]
      exact z
    tbls := fun b ps e => by
      obtain ⟨m, z⟩ := I.base.tbls b ps e
      exact ⟨m, by rw [upd_ne (fun y => by rw [y, h1] at z; exact k3 _ (Option.some.inj z))]; exact z⟩ }
  loc := I.loc
  cell := I.cell
  free := by
    have z := I.free
    rw [upd_ne (fun y => by rw [y, h1] at z; cases z)]
    exact z
  freeC := fun x c e => by
    have z := I.freeC x c e
    rw [upd_ne (fun y => by rw [y, h1] at z; cases z)]
    exact z
  pin := fun p hp => by
    obtain ⟨z1, z2, z3⟩ := I.pin p hp
    refine ⟨z1, ?_, z3⟩
    rw [upd_ne (fun y => by rw [y, h1] at z2; cases z2)]
    exact z2
  hok := fun b u e => by
    by_cases hb : b = a
    · subst hb
      rw [upd_same] at e
      cases e
      exact new
    · rw [upd_ne hb] at e
      refine (I.hok b u e).stay (fun _ _ _ q => q) (fun c q => ?_) fun c xs q => ?_
      · rw [upd_ne (fun y => by rw [y, h1] at q; exact k2 _ (Option.some.inj q))]
        exact q
      · rw [upd_ne (fun y => by rw [y, h1] at q; exact k1 _ (Option.some.inj q))]
        exact q
  len := I.len
def extA (A : List V) (i : Nat) (a : Addr) : List V := (A ++ List.replicate (101 + i) V.non).set (100 + i) (.ref a)
theorem extA_at {A : List V} {i : Nat} {a : Addr} : (extA A i a)[100 + i]? = some (.ref a) := by
  unfold extA
  rw [List.getElem?_set_self]
  simp
  omega
theorem extA_in {A : List V} {i k : Nat} {a : Addr} {v : V} (hk : k ≠ 100 + i) (h : A[k]? = some v) : (extA A i a)[k]? = some v := by
  unfold extA
  rw [List.getElem?_set_ne (Ne.symm hk), List.getElem?_append_left (List.getElem?_eq_some_iff.mp h).1]
  exact h
theorem extA_out {A : List V} {i k : Nat} {a b : Addr} (hk : k ≠ 100 + i) (h : (extA A i a)[k]? = some (.ref b)) : A[k]? = some (.ref b) := by
  unfold extA at h
  rw [List.getElem?_set_ne (Ne.symm hk)] at h
  by_cases hl : k < A.length
  · rw [List.getElem?_append_left hl] at h
    exact h
  · rw [List.getElem?_append_right (by omega), List.getElem?_replicate] at h
    split at h <;> cases h
theorem dcO_ne_frz {a : Addr} {o o' : Obj} {es : List KVV} {u : HO} : dcO a o es ≠ .frz o' u := fun z => by cases z
section
variable {K : PySem.W.Frag} {P O : List Addr} {A : List V} {H H' : Hp} {σ σ' : L2.St} {ρ ρ' : Rho}
/-- what things lean on -/
structure Seen (H H' : Hp) : Prop where
  l : ∀ (b : Addr) (xs : List V), Rd H b (.lst xs) → Rd H' b (.lst xs)
  t : ∀ (b : Addr) (xs : List V), Rd H b (.tup xs) → Rd H' b (.tup xs)
  d : ∀ (b : Addr) (o : Obj) (es : List KVV), H b = some (dcO b o es) → H' b = some (dcO b o es)
mutual
theorem Rp.seen (h : Seen H H') : ∀ {v : V} {d : D}, Rp K H v d → Rp K H' v d
  | _, _, .non => .non
  | _, _, .bl b => .bl b
  | _, _, .int i => .int i
  | _, _, .str x => .str x
  | _, _, .lst (.inl hs) ha => .lst (.inl (h.l _ _ hs)) (RpAll.seen h ha)
  | _, _, .lst (.inr hs) ha => .lst (.inr hs) (RpAll.seen h ha)
  | _, _, .tup (.inl hs) ha => .tup (.inl (h.t _ _ hs)) (RpAll.seen h ha)
  | _, _, .tup (.inr hs) ha => .tup (.inr hs) (RpAll.seen h ha)
  | _, _, .dct hs ho hd => .dct (h.d _ _ _ hs) ho (RpDct.seen h hd)
theorem RpAll.seen (h : Seen H H') : ∀ {vs : List V} {ds : List D}, RpAll K H vs ds → RpAll K H' vs ds
  | _, _, .nil => .nil
  | _, _, .cons a b => .cons (Rp.seen h a) (RpAll.seen h b)
theorem RpDct.seen (h : Seen H H') : ∀ {es : List KVV} {kvs : List (D × D)}, RpDct K H es kvs → RpDct K H' es kvs
  | _, _, .nil => .nil
  | _, _, .cons e a b c => .cons e (Rp.seen h a) (Rp.seen h b) (RpDct.seen h c)
end
/-- nobody knows a dict that stands as known -/
theorem seen_frz {Z : List Addr} {a : Addr} {o0 o1 : Obj} {es0 : List KVV} {u1 : HO} (h : H a = some (.frz o0 (dcO a o1 es0))) : Seen (wo Z H) (wo (a :: Z) (upd H a u1)) := by
  have key : ∀ {b : Addr} {u : HO}, wo Z H b = some u → u ≠ .frz o0 (dcO a o1 es0) → wo (a :: Z) (upd H a u1) b = some u := fun {b u} z ne => by
    obtain ⟨z1, z2⟩ := wo_some.mp z
    have hb : b ≠ a := fun y => by
      rw [y, h] at z2
      exact ne (Option.some.inj z2).symm
    exact wo_some.mpr ⟨by simp [hb, z1], by rw [upd_ne hb]; exact z2⟩
  refine ⟨fun b xs z => ?_, fun b xs z => ?_, fun b o es z => key z dcO_ne_frz⟩
  · rcases z with z | ⟨o, z⟩
    · exact .inl (key z (fun y => by cases y))
    · exact .inr ⟨o, key z (fun y => by cases y)⟩
  · rcases z with z | ⟨o, z⟩
    · exact .inl (key z (fun y => by cases y))
    · exact .inr ⟨o, key z (fun y => by cases y)⟩
/-- slot i's own dict is lent to a walk -/
theorem EnvR.shrIn {i : Nat} {kvs : List (D × D)} (e : EnvR K P A O H σ ρ) (hi : ρ[i]? = some (some (.dct none kvs))) : ∃ a o es O1, σ[i]? = some (some (.ref a)) ∧ H a = some (dcO a o es) ∧ KvsOk kvs ∧ a ∈ O ∧ a ∉ O1 ∧ (∀ b ∈ O1, b ∈ O) ∧ (∀ b ∈ O, b ≠ a → b ∈ O1 ∨ True) ∧
    EnvR K P (extA A i a) O1 (upd H a (.frz o (dcO a o es))) σ (ρ.set i (some (.shr (100 + i) kvs))) := by
  obtain ⟨Fs, h1, h2⟩ := e.at_
  obtain ⟨v, e1, r, hO⟩ := h1 i _ hi
  generalize hF : Fs i = F at r hO
  cases r with
  | @dct a o es _ _ m1 m2 m3 m4 =>
    have haO : a ∈ O := hO a (List.mem_singleton.mpr rfl)
    have haP : a ∉ P := fun z => (e.prot a z).1 haO
    refine ⟨a, o, es, O.filter (fun b => decide (b ≠ a)), e1, m2, m3, haO, by simp, fun b hb => (List.mem_filter.mp hb).1, fun _ _ _ => .inr trivial, ?_⟩
    have sub : ∀ b u, wo (O ++ P) H b = some u → wo (O.filter (fun b => decide (b ≠ a)) ++ P) (upd H a (.frz o (dcO a o es))) b = some u := fun b u q => by
      obtain ⟨q1, q2⟩ := wo_some.mp q
      have hb : b ≠ a := fun z => q1 (by rw [z]; exact List.mem_append_left _ haO)
      refine wo_some.mpr ⟨fun z => q1 ?_, by rw [upd_ne hb]; exact q2⟩
      rcases List.mem_append.mp z with z | z
      · exact List.mem_append_left _ (List.mem_filter.mp z).1
      · exact List.mem_append_right _ z
    have there : ∀ b, (∃ u, H b = some u) → ∃ u, upd H a (.frz o (dcO a o es)) b = some u := fun b ⟨u, q⟩ => by
      by_cases hb : b = a
      · subst hb
        exact ⟨_, upd_same⟩
      · exact ⟨u, by rw [upd_ne hb]; exact q⟩
    refine ⟨by rw [List.length_set]; exact e.len, ⟨fun j => if j = i then [] else Fs j, fun j t q => ?_, fun j k hjk b hb => ?_⟩, fun b hb => ⟨fun z => (e.prot b hb).1 (List.mem_filter.mp z).1, there b (e.prot b hb).2⟩, fun b hb => there b (e.trk b (List.mem_filter.mp hb).1), fun j k t' q ht => ?_⟩
    · dsimp only
      rcases get_set q with ⟨hj, q'⟩ | ⟨hj, q'⟩
      · subst hj
        cases q'
        rw [if_pos rfl]
        refine ⟨_, e1, .shr (o := o) (es := es) (wo_some.mpr ⟨fun z => ?_, upd_same⟩) m3 (m4.mono sub), fun b hb => absurd hb List.not_mem_nil⟩
        rcases List.mem_append.mp z with z | z
        · simp at z
        · exact haP z
      · rw [if_neg hj]
        obtain ⟨w, e2, r2, hO2⟩ := h1 j t q'
        have ne : ∀ b ∈ Fs j, b ≠ a := fun b hb z => by
          subst z
          exact h2 j i hj b hb (by rw [hF]; exact List.mem_singleton.mpr rfl)
        refine ⟨w, e2, r2.keep sub fun b hb => ⟨List.mem_append_left _ (List.mem_filter.mpr ⟨hO2 b hb, by simpa using ne b hb⟩), upd_ne (ne b hb)⟩, fun b hb => List.mem_filter.mpr ⟨hO2 b hb, by simpa using ne b hb⟩⟩
    · dsimp only at hb ⊢
      by_cases hj : j = i
      · rw [if_pos hj] at hb
        exact absurd hb List.not_mem_nil
      · rw [if_neg hj] at hb
        by_cases hk : k = i
        · rw [if_pos hk]
          exact List.not_mem_nil
        · rw [if_neg hk]
          exact h2 j k hjk b hb
    · rcases get_set q with ⟨hj, q'⟩ | ⟨hj, q'⟩
      · subst hj
        cases q'
        cases ht
        exact ⟨_, e1, extA_at, .inr rfl⟩
      · obtain ⟨w, e2, e3, e4⟩ := e.tag j k t' q' ht
        exact ⟨w, e2, extA_in (by omega) e3, e4⟩
theorem RepT.tagRef {Z : List Addr} {v : V} {t : T} {F : List Addr} {k : Nat} (r : RepT K Z H v t F) (h : t.tagOf = some k) : ∃ b, v = .ref b := by
  cases r with
  | val _ => cases h
  | lst _ _ _ => exact ⟨_, rfl⟩
  | dct _ _ _ _ => exact ⟨_, rfl⟩
  | shr _ _ _ => exact ⟨_, rfl⟩
  | any => exact ⟨_, rfl⟩
  | own _ => exact ⟨_, rfl⟩
  | ron _ => exact ⟨_, rfl⟩
mutual
theorem RepN.noFrz {K : PySem.W.Frag} {G N : Hp} : ∀ {v : V} {n : Nd} {F : List Addr}, RepN K G N v n F → ∀ a ∈ F, ∀ x u, N a ≠ some (.frz x u)
  | _, _, _, .d h, a, ha, _, _ => absurd ha List.not_mem_nil
  | _, _, _, .lst h1 h2 h3, a, ha, x, u => (List.mem_cons.mp ha).elim (fun e => by rw [e, h1]; exact fun z => nomatch z) (fun z => RepNs.noFrz h3 a z x u)
  | _, _, _, .dct h1 h2 h3, a, ha, x, u => by rw [List.mem_singleton.mp ha, h1]; exact fun z => dcO_ne_frz (Option.some.inj z)
  | _, _, _, .obj h1 h2 h3 h4 h5, a, ha, x, u => (List.mem_cons.mp ha).elim (fun e => by rw [e, h1]; exact fun z => nomatch z) (fun z => RepNs.noFrz h5 a z x u)
theorem RepNs.noFrz {K : PySem.W.Frag} {G N : Hp} : ∀ {vs : List V} {ns : List Nd} {F : List Addr}, RepNs K G N vs ns F → ∀ a ∈ F, ∀ x u, N a ≠ some (.frz x u)
  | _, _, _, .nil, a, ha, _, _ => absurd ha List.not_mem_nil
  | _, _, _, .cons x y c, a, ha, i, j => (List.mem_append.mp ha).elim (fun z => RepN.noFrz x a z i j) (fun z => RepNs.noFrz y a z i j)
end
/-- the walk's slot is forgotten -/
theorem EnvR.shrOff {i : Nat} {a : Addr} (e : EnvR K P (extA A i a) O H σ ρ) : EnvR K P A O H σ (ρ.set i none) where
  len := by rw [List.length_set]; exact e.len
  at_ := by
    obtain ⟨Fs, h1, h2⟩ := e.at_
    refine ⟨Fs, fun j t q => ?_, h2⟩
    rcases get_set q with ⟨_, q'⟩ | ⟨_, q'⟩
    · cases q'
    · exact h1 j t q'
  prot := e.prot
  trk := e.trk
  tag := fun j k t q ht => by
    rcases get_set q with ⟨_, q'⟩ | ⟨hj, q'⟩
    · cases q'
    · obtain ⟨v, e1, e2, e3⟩ := e.tag j k t q' ht
      obtain ⟨Fs, h1, h2⟩ := e.at_
      obtain ⟨v', e4, r, _⟩ := h1 j t q'
      rw [e1] at e4
      cases e4
      obtain ⟨b, rfl⟩ := r.tagRef ht
      exact ⟨_, e1, extA_out (by omega) e2, e3⟩
def unshr : Option T → Option T
  | some (.shr _ _) => none
  | x => x
theorem unshr_some {x : Option T} {t : T} (h : unshr x = some t) : x = some t ∧ ∀ k kvs, t ≠ .shr k kvs := by
  cases x with
  | none => cases h
  | some u =>
    cases u with
    | shr _ _ => cases h
    | any _ _ => cases h; exact ⟨rfl, fun _ _ z => nomatch z⟩
    | own _ _ => cases h; exact ⟨rfl, fun _ _ z => nomatch z⟩
    | ron _ _ => cases h; exact ⟨rfl, fun _ _ z => nomatch z⟩
    | val _ => cases h; exact ⟨rfl, fun _ _ z => nomatch z⟩
    | lst _ _ => cases h; exact ⟨rfl, fun _ _ z => nomatch z⟩
    | dct _ _ => cases h; exact ⟨rfl, fun _ _ z => nomatch z⟩
theorem unshr_at {ρ : Rho} {j : Nat} {t : T} (h : (ρ.map unshr)[j]? = some (some t)) : ρ[j]? = some (some t) ∧ ∀ k kvs, t ≠ .shr k kvs := by
  rw [List.getElem?_map] at h
  obtain ⟨x, h1, h2⟩ := Option.map_eq_some_iff.mp h
  obtain ⟨h3, h4⟩ := unshr_some h2
  rw [h1, h3]
  exact ⟨rfl, h4⟩
/-- the walk is over: the dict is the slot's own again -/
theorem EnvR.shrOut {i : Nat} {a : Addr} {kvs : List (D × D)} (e : EnvR K P (extA A i a) O H σ ρ) (hi : ρ[i]? = some (some (.shr (100 + i) kvs))) (hP : a ∉ P) (hO : a ∉ O) :
    ∃ o es, H a = some (.frz o (dcO a o es)) ∧ EnvR K P A (a :: O) (upd H a (dcO a o es)) σ ((ρ.map unshr).set i (some (.dct none kvs))) := by
  obtain ⟨w, t1, t2, _⟩ := e.tag i (100 + i) _ hi rfl
  rw [extA_at] at t2
  cases t2
  have e0 := e.shrOff
  obtain ⟨Fs, h1, h2⟩ := e.at_
  obtain ⟨v, e1, r, hF⟩ := h1 i _ hi
  rw [t1] at e1
  cases e1
  generalize Fs i = F at r
  cases r with
  | @shr _ o es _ _ z1 z2 z3 =>
    have ha := wo_sub _ _ z1
    refine ⟨o, es, ha, ?_⟩
    have sn : Seen (wo (O ++ P) H) (wo (a :: (O ++ P)) (upd H a (dcO a o es))) := seen_frz ha
    have there : ∀ b, (∃ u, H b = some u) → ∃ u, upd H a (dcO a o es) b = some u := fun b ⟨u, q⟩ => by
      by_cases hb : b = a
      · subst hb
        exact ⟨_, upd_same⟩
      · exact ⟨u, by rw [upd_ne hb]; exact q⟩
    have keep : ∀ {v : V} {t : T} {F : List Addr}, RepT K (O ++ P) H v t F → (∀ b ∈ F, b ∈ O) → (∀ b kvs' k, v = .ref b → t = .shr k kvs' → b ≠ a) → RepT K (a :: O ++ P) (upd H a (dcO a o es)) v t F := by
      intro v t F r hF hne
      cases r with
      | any => exact .any
      | own h => exact .own (h.map (fun _ _ z => z.seen sn) fun b hb u q => by
          obtain ⟨q1, q2⟩ := onl_some.mp q
          have hne : b ≠ a := fun z => hO (by rw [← z]; exact hF b hb)
          exact onl_some.mpr ⟨List.mem_cons_of_mem _ q1, by rw [upd_ne hne]; exact q2⟩)
      | ron h =>
        have nf := h.noFrz
        exact .ron (h.map (fun _ _ z => z.seen sn) fun b hb u q => by
          obtain ⟨q1, q2⟩ := wo_some.mp q
          have hne : b ≠ a := fun z => by
            subst z
            rw [ha] at q2
            exact nf b hb o (dcO b o es) (wo_some.mpr ⟨q1, ha⟩)
          refine wo_some.mpr ⟨fun z => ?_, by rw [upd_ne hne]; exact q2⟩
          rcases List.mem_cons.mp z with z | z
          · exact hne z
          · exact q1 z)
      | val h => exact .val (h.seen sn)
      | @lst b _ _ _ m1 m2 m3 =>
        have hb : b ≠ a := fun z => hO (by rw [← z]; exact hF b (List.mem_singleton.mpr rfl))
        exact .lst (List.mem_cons_of_mem _ m1) (by rw [upd_ne hb]; exact m2) (m3.seen sn)
      | @dct b _ _ _ _ m1 m2 m3 m4 =>
        have hb : b ≠ a := fun z => hO (by rw [← z]; exact hF b (List.mem_singleton.mpr rfl))
        exact .dct (List.mem_cons_of_mem _ m1) (by rw [upd_ne hb]; exact m2) m3 (m4.seen sn)
      | @shr b _ _ _ _ m1 m2 m3 =>
        have hb : b ≠ a := hne b _ _ rfl rfl
        obtain ⟨w1, w2⟩ := wo_some.mp m1
        exact .shr (wo_some.mpr ⟨by simp only [List.cons_append, List.mem_cons, not_or]; exact ⟨hb, w1⟩, by rw [upd_ne hb]; exact w2⟩) m2 (m3.seen sn)
    refine ⟨by rw [List.length_set, List.length_map]; exact e.len, ⟨fun j => if j = i then [a] else if (ρ[j]?).join.isSome then Fs j else [], fun j t q => ?_, fun j k hjk b hb => ?_⟩, fun b hb => ⟨fun z => ?_, there b (e.prot b hb).2⟩, fun b hb => ?_, fun j k t' q ht => ?_⟩
    · dsimp only
      rcases get_set q with ⟨hj, q'⟩ | ⟨hj, q'⟩
      · subst hj
        cases q'
        rw [if_pos rfl]
        exact ⟨_, t1, .dct (by simp) upd_same z2 (z3.seen sn), fun b hb => by rw [List.mem_singleton.mp hb]; simp⟩
      · rw [if_neg hj]
        obtain ⟨q2, q3⟩ := unshr_at q'
        have hs : (ρ[j]?).join.isSome = true := by rw [q2]; rfl
        rw [if_pos hs]
        obtain ⟨w, e2, r2, hO2⟩ := h1 j t q2
        exact ⟨w, e2, keep r2 hO2 fun b kvs' k hw htk hb => q3 _ _ htk, fun b hb => List.mem_cons_of_mem _ (hO2 b hb)⟩
    · have inO : ∀ l, ∀ b ∈ (if (ρ[l]?).join.isSome then Fs l else []), b ∈ O := fun l b hb => by
        split at hb
        · rename_i hs
          cases q : ρ[l]? with
          | none => rw [q] at hs; cases hs
          | some o =>
            cases o with
            | none => rw [q] at hs; cases hs
            | some u =>
              obtain ⟨_, _, _, hO⟩ := h1 l u q
              exact hO b hb
        · exact absurd hb List.not_mem_nil
      dsimp only at hb ⊢
      by_cases hj : j = i
      · rw [if_pos hj] at hb
        rw [if_neg (fun z => hjk (hj.trans z.symm)), List.mem_singleton.mp hb]
        exact fun z => hO (inO k a z)
      · rw [if_neg hj] at hb
        by_cases hk : k = i
        · rw [if_pos hk]
          intro z
          rw [List.mem_singleton.mp z] at hb
          exact hO (inO j a hb)
        · rw [if_neg hk]
          intro z
          split at hb
          · split at z
            · exact h2 j k hjk b hb z
            · exact absurd z List.not_mem_nil
          · exact absurd hb List.not_mem_nil
    · rcases List.mem_cons.mp z with z | z
      · exact hP (by rw [← z]; exact hb)
      · exact (e.prot b hb).1 z
    · rcases List.mem_cons.mp hb with z | z
      · rw [z]
        exact ⟨_, upd_same⟩
      · exact there b (e.trk b z)
    · rcases get_set q with ⟨hj, q'⟩ | ⟨hj, q'⟩
      · cases q'
        cases ht
      · obtain ⟨q2, q3⟩ := unshr_at q'
        obtain ⟨v, e1, e2, e3⟩ := e.tag j k t' q2 ht
        obtain ⟨v', e4, r, _⟩ := h1 j t' q2
        rw [e1] at e4
        cases e4
        obtain ⟨b, rfl⟩ := r.tagRef ht
        exact ⟨_, e1, extA_out (by omega) e2, e3⟩
end
def itemsS (i : Nat) : M (List D) := fun ρ => match ρ[i]? with
  | some (some (.shr _ kvs)) => .ok (kvs.map (·.1)) ρ
  | _ => .bad
def thawN (i : Nat) (ρ : Rho) : Option (Option T) → Out Fl
  | some (some (.shr k kvs)) => if k = 100 + i then .ok .nx ((ρ.map unshr).set i (some (.dct none kvs))) else .bad
  | _ => .bad
def thawO (i : Nat) : Out Fl → Out Fl
  | .ok .nx ρ => thawN i ρ ρ[i]?
  | .ok (.rt r) ρ => .ok (.rt r) (ρ.set i none)
  | .exc x ρ => .exc x (ρ.set i none)
  | _ => .bad
def forD (i : Nat) (f : R → M Unit) (m : M Fl) : M Fl := fun ρ => match ρ[i]? with
  | some (some (.dct none kvs)) => thawO i (forM f m (kvs.map (·.1)) (ρ.set i (some (.shr (100 + i) kvs))))
  | _ => .bad
section
variable {X : Cx} {W : WX} {tg : Expr} {pos p : PySem.Pos} {body : List Stmt} {m : M Fl} {i : Nat} {x : PySem.Str}
theorem ji_shr (hN : X.N[i]? = some x) (hv : Vis X.env.scope x) (hd : (x == ("__debug__" : PySem.Str)) = false) (hcd : (x == ("__classdict__" : PySem.Str)) = false) : JI X W tg (.Name x p) (itemsS i) := (pi_any (pe_var (i := i) hN hv hd hcd)).imp fun σ H R h => by
  obtain ⟨P, A, O, ρ, e, h⟩ := h
  unfold itemsS at h
  split at h
  · rename_i k kvs q
    obtain ⟨Fs, h1, h2⟩ := e.at_
    obtain ⟨v, e1, r, _⟩ := h1 i _ q
    refine ⟨v, e1, ?_⟩
    generalize Fs i = F at r
    cases r with
    | @shr a o es _ _ z1 z2 z3 => exact .inr (.inr (.inr ⟨a, o, es, rfl, .inr ⟨_, wo_sub _ _ z1⟩, h _ H O [] e ⟨rfl, itOk_dict e.prot (.inr ⟨_, z1⟩) z3⟩ (Step.refl _ _)⟩))
  · exact h.elim
theorem forM_noBk {f : R → M Unit} {m : M Fl} : ∀ {ds : List D} {ρ ρ' : Rho}, forM f m ds ρ ≠ .ok .bk ρ' ∧ forM f m ds ρ ≠ .ok .ct ρ'
  | [], _, _ => by
    unfold forM M.ret
    constructor <;> (intro z; injection z with z1 z2; cases z1)
  | d :: ds, ρ, ρ' => by
    unfold forM M.bind
    constructor
    all_goals
      intro z
      dsimp only at z
      cases q : f (.tmp (.val d)) ρ with
      | bad => rw [q] at z; cases z
      | exc x ρ1 => rw [q] at z; cases z
      | ok u ρ1 =>
        rw [q] at z
        dsimp only at z
        cases q2 : m ρ1 with
        | bad => rw [q2] at z; cases z
        | exc x ρ2 => rw [q2] at z; cases z
        | ok fl ρ2 =>
          rw [q2] at z
          cases fl with
          | nx => first | exact (forM_noBk (ds := ds)).1 z | exact (forM_noBk (ds := ds)).2 z
          | ct => first | exact (forM_noBk (ds := ds)).1 z | exact (forM_noBk (ds := ds)).2 z
          | bk => cases z
          | rt r => cases z
theorem js_forD {g : TG} {f : R → M Unit} (hN : X.N[i]? = some x) (hv : Vis X.env.scope x) (hd : (x == ("__debug__" : PySem.Str)) = false) (hcd : (x == ("__classdict__" : PySem.Str)) = false) (hp : PassesOwn (model X.prog X.w) X.A X.env X.xe) (hc : X.calm = true) (hg : PG X tg g) (hf : GOk X.K X.mg W g f) (hb : JSs X W body m) (hs : ∀ v, foldedSetIterable (.Name x p) X.env v = pure v) :
    JS X W (.For tg (.Name x p) body [] pos) (forD i f m) := by
  have base := js_for (W := W) (pos := pos) hp hc (ji_shr (W := W) (p := p) (tg := tg) hN hv hd hcd) hg hf hb hs
  refine ⟨fun pins s σ H D I h => ?_⟩
  obtain ⟨P, A, O, ρ, e, h⟩ := h
  unfold forD at h
  split at h
  · rename_i kvs hi
    obtain ⟨a, o, es, O1, hv1, ha, hk, haO, haO1, hsub, _, e1⟩ := e.shrIn hi
    have haP : a ∉ P := fun z => (e.prot a z).1 haO
    have hf0 : ∀ o u, X.H_0 a ≠ some (.frz o u) := fun o' u z => by
      have := I.base.frzs a o' u z
      rw [ha] at this
      exact dcO_ne_frz (Option.some.inj this)
    have I1 : Inv X pins σ (upd H a (.frz o (dcO a o es))) s := by
      have hob := I.hok a _ ha
      refine Inv.recast I ha hf0 (fun _ z => nomatch z) (fun _ z => nomatch z) (fun _ z => nomatch z) ⟨?_, hob⟩
      obtain ⟨_, _, _, _, ho, _⟩ := dcO_raw hob
      exact ho
    have H1a : (upd H a (.frz o (dcO a o es))) a = some (.frz o (dcO a o es)) := upd_same
    have hll : i < ρ.length := (List.getElem?_eq_some_iff.mp hi).1
    have stepB : ∀ {O' H' F}, Step O1 (upd H a (.frz o (dcO a o es))) (F ++ O') H' → Step O H (F ++ O') H' := fun {O' H' F} s1 => ⟨fun b hb => by
        rcases s1.own b hb with z | z
        · exact .inl (hsub b z)
        · have hba : b ≠ a := fun y => by rw [y, H1a] at z; cases z
          rw [upd_ne hba] at z
          exact .inr z, fun b u z q => by
        have hba : b ≠ a := fun y => z (by rw [y]; exact haO)
        exact s1.ext b u (fun y => z (hsub b y)) (by rw [upd_ne hba]; exact q), fun b u q => by
        by_cases hba : b = a
        · subst hba
          exact s1.stay b _ H1a
        · exact s1.stay b u (by rw [upd_ne hba]; exact q)⟩
    let D1 : Ends := { nx := fun σ' H' => ∃ o' es', H' a = some (.frz o' (dcO a o' es')) ∧ D.nx σ' (upd H' a (dcO a o' es')), rt := D.rt, bk := fun _ _ => False, ct := fun _ _ => False }
    refine thn (base.run pins s σ _ D1 I1 ⟨P, extA A i a, O1, _, e1, ?_⟩) fun fl s2 q => ?_
    · have hit : itemsS i (ρ.set i (some (.shr (100 + i) kvs))) = .ok (kvs.map (·.1)) (ρ.set i (some (.shr (100 + i) kvs))) := by
        unfold itemsS
        simp [hll]
      show AftS X.K X.mg W P (extA A i a) O1 _ (M.bind (itemsS i) (forM f m) _) D1
      unfold M.bind
      rw [hit]
      dsimp only
      cases qo : forM f m (kvs.map (·.1)) (ρ.set i (some (.shr (100 + i) kvs))) with
      | bad => rw [qo] at h; exact h
      | exc y ρ' =>
        rw [qo] at h
        exact fun cls d σ' H' O' e' x' s' => h cls d σ' H' O' e'.shrOff x' (stepB (F := []) s')
      | ok fl ρ' =>
        rw [qo] at h
        cases fl with
        | bk => exact (forM_noBk.1 qo).elim
        | ct => exact (forM_noBk.2 qo).elim
        | rt r => exact fun v σ' H' O' F e' r' s' => h v σ' H' O' F e'.shrOff r' (stepB s')
        | nx =>
          intro σ' H' O' e' s'
          replace h : AftS X.K X.mg W P A O H (thawN i ρ' ρ'[i]?) D := h
          cases hk' : ρ'[i]? with
          | none => rw [hk'] at h; exact h.elim
          | some x =>
            cases x with
            | none => rw [hk'] at h; exact h.elim
            | some t =>
              cases t with
              | any _ _ => rw [hk'] at h; exact h.elim
              | own _ _ => rw [hk'] at h; exact h.elim
              | ron _ _ => rw [hk'] at h; exact h.elim
              | val _ => rw [hk'] at h; exact h.elim
              | lst _ _ => rw [hk'] at h; exact h.elim
              | dct _ _ => rw [hk'] at h; exact h.elim
              | shr k kvs' =>
                rw [hk'] at h
                unfold thawN at h
                dsimp only at h
                by_cases hkk : k = 100 + i
                · rw [if_pos hkk] at h
                  subst hkk
                  have haO' : a ∉ O' := fun z => by
                    rcases s'.own a z with y | y
                    · exact haO1 y
                    · rw [H1a] at y; cases y
                  obtain ⟨o', es', z1, z2⟩ := e'.shrOut hk' haP haO'
                  refine ⟨o', es', z1, h σ' _ (a :: O') z2 ⟨fun b hb => ?_, fun b u z q => ?_, fun b u q => ?_⟩⟩
                  · rcases List.mem_cons.mp hb with z | z
                    · rw [z]; exact .inl haO
                    · exact (stepB (F := []) s').own b z
                  · have hba : b ≠ a := fun y => z (by rw [y]; exact haO)
                    rw [upd_ne hba]
                    exact (stepB (F := []) s').ext b u z q
                  · by_cases hba : b = a
                    · subst hba
                      exact ⟨_, upd_same⟩
                    · rw [upd_ne hba]
                      exact (stepB (F := []) s').stay b u q
                · rw [if_neg hkk] at h
                  exact h.elim
    · cases fl with
      | next =>
        obtain ⟨σ', H', I', o', es', z1, z2⟩ := q
        refine ⟨σ', _, Inv.recast I' z1 hf0 (fun _ z => nomatch z) (fun _ z => nomatch z) (fun _ z => nomatch z) ?_, z2⟩
        exact ((show ObjOk X.prog X.w H' s2.heap a (.frz o' (dcO a o' es')) from I'.hok a _ z1).2)
      | brk => obtain ⟨_, _, _, z⟩ := q; exact z.elim
      | cont => obtain ⟨_, _, _, z⟩ := q; exact z.elim
      | ret u => exact q
  · exact h.elim
end
end DL
set_option Elab.async false
set_option maxRecDepth 100000
set_option maxHeartbeats 4000000
namespace DL
open PySem PySem.Spec PyProof.Rows L2
section
variable {X : Cx}
end
/-- l.index(x) -/
def rIndexX (K : PySem.W.Frag) : V → List V → Hp → VK → Prop := fun x xs H Q => rIndex K x xs H Q ∨ rIndexD K x xs H Q
theorem mt_indexX {X : Cx} (hu : X.A.units + 65 < cLine) : MtR X "list.index" (rIndexX X.K) := mt_index.or (mt_indexD hu)
def fIndex (d : D) (ds : List D) : Option T := match d, ds with
  | .list xs, [y] => if (flatD y && xs.all flatD) || (SeqAt.shaped y && SeqAt.shaped (.list xs)) then (if (xs.findIdx fun z => PyData.eqv z y) < xs.length then some (.val (.int (xs.findIdx fun z => PyData.eqv z y : Nat))) else none) else none
  | _, _ => none
theorem index_ok {K : PySem.W.Frag} : MthOk K (rIndexX K) fIndex := by
  intro Z H x vs d ds t Q hz hx hv hf q
  unfold fIndex at hf
  split at hf
  · rename_i xs y
    split at hf
    · rename_i h1
      split at hf
      · rename_i h2
        cases hf
        obtain ⟨v, rfl, c⟩ := paired1 hv
        obtain ⟨a, ws, rfl, h4, h5⟩ := hx.list
        have q' := q _ _ (NewT.scal (Z := Z) (H := H) (Rp.int (K := K) (xs.findIdx fun z => PyData.eqv z y : Nat)))
        have hj : xs[xs.findIdx fun z => PyData.eqv z y]? = some xs[xs.findIdx fun z => PyData.eqv z y] := List.getElem?_eq_getElem h2
        have hje : PyData.eqv xs[xs.findIdx fun z => PyData.eqv z y] y = true := List.findIdx_getElem (w := h2)
        have hno : ∀ (m : Nat) (z' : D), m < (xs.findIdx fun z => PyData.eqv z y) → xs[m]? = some z' → PyData.eqv z' y = false := fun m z' hm hz' => by
          have := List.not_of_lt_findIdx hm
          obtain ⟨hl, e⟩ := List.getElem?_eq_some_iff.mp hz'
          rw [e] at this
          simpa using this
        rcases (Bool.or_eq_true _ _).mp h1 with h1 | h1
        · obtain ⟨f1, f2⟩ := (Bool.and_eq_true _ _).mp h1
          have h5' := h5.mono (wo_sub (Z := Z) (H := H))
          obtain ⟨z, hz1, hz2⟩ := h5'.get hj
          have fl : ∀ {m : Nat} {z' : D}, xs[m]? = some z' → flatD z' = true := fun {m z'} e => List.all_eq_true.mp f2 z' (List.mem_of_getElem? e)
          refine .inl ⟨a, ws, v, _, z, rfl, rfl, h4, by rw [flat_V c.rp]; exact f1, by rw [flat_all h5]; exact f2, hz1, by rw [eqV_D hz2 c.rp (fl hj) f1]; exact hje, fun m z' hm hz' => ?_, q'⟩
          obtain ⟨d', hd', rd'⟩ := h5'.get' hz'
          rw [eqV_D rd' c.rp (fl hd') f1]
          exact hno m d' hm hd'
        · obtain ⟨f1, f2⟩ := (Bool.and_eq_true _ _).mp h1
          have dl := hx.rp.dp (shaped_lay f2)
          exact .inr ⟨a, v, y, xs, _, _, rfl, rfl, dl, c.rp.dp (shaped_lay f1), f2, f1, hj, hje, hno, q'⟩
      · cases hf
    · cases hf
  · cases hf
def rLenN (K : PySem.W.Frag) : List V → Hp → VK → Prop := fun xs H Q => (∃ x n, xs = [x] ∧ LenV K x H n ∧ Q (.int n) H) ∨ ∃ a o es kvs, xs = [.ref a] ∧ H a = some (dcO a o es) ∧ KvsOk kvs ∧ RpDct K H es kvs ∧ Q (.int kvs.length) H
theorem call_lenN {X : Cx} : CallR X (.builtin "len") (rLenN X.K) := by
  intro pins s σ H xs us Q I r h
  rcases h with h | ⟨a, o, es, kvs, rfl, ha, hk, rd, q⟩
  · exact call_len pins s σ H xs us Q I r h
  · obtain ⟨u, rfl, rx⟩ := vals1 r
    cases (show u = Value.ref a from rx)
    obtain ⟨hs, arr, ep, ys, ho, hc, hd, hkk, hp⟩ := dcO_raw (I.hok a _ ha)
    have hlen : arr.size = kvs.length := by
      have := congrArg List.length hkk
      simp only [List.length_map, Array.length_toList] at this
      have h2 := Paired.length hp
      have h3 := rd.length
      omega
    have hl := hk.2.2
    simp only [dLine] at hl
    refine PyProof.Rows.call_len_slot (n := (kvs.length : Int)) (s := s) (T := "dict") ⟨o, ho, hc.1⟩ F.slot_dict_len (fun Q' hq => call_len_raw hs ⟨o, ho, hc, hd⟩ (by rw [hlen]; exact hq)) (by omega) (by omega) ⟨.int kvs.length, H, I.tok _, ⟨_, rfl⟩, q⟩
def fLenX : List D → Option T
  | [.dict kvs] => some (.val (.int kvs.length))
  | ds => fLen ds
theorem lenX_ok {K : PySem.W.Frag} : CallOk K (rLenN K) fLenX := by
  intro Z H vs ds t Q hz hv hf q
  unfold fLenX at hf
  split at hf
  · cases hf
    obtain ⟨v, rfl, c⟩ := paired1 hv
    obtain ⟨a, o, es, rfl, h1, h2, h3⟩ := c.dict
    exact .inr ⟨a, o, es, _, rfl, h1, h2, h3.mono wo_sub, q _ _ (NewT.scal (.int _))⟩
  · exact .inl (len_ok Z H vs ds t Q hz hv hf q)
@[simp] theorem fIx_d (kvs : List (D × D)) (d : D) : fIx (.dict kvs) d = if (nkOf d).isSome then (kget kvs d).map .val else none := by
  cases d <;> rfl
@[simp] theorem finO_dct (t : Option Nat) (ds : List (D × D)) : Out.finO (some (some (.dct t ds))) = .ok (.dct none ds) := (rfl)
end DL
set_option Elab.async false
set_option maxRecDepth 100000
set_option maxHeartbeats 4000000
namespace DL
open PySem PySem.Spec PyProof.Rows L2
section
variable {X : Cx} {W : WX} {elt tg : Expr} {ifs : List Expr} {scope : Scope} {own : List (PySem.Str × Nat)} {pos p : PySem.Pos} {g : TG} {f : D → Rho → Option Rho} {mt : M Bool} {me : M R}
end
end DL
set_option Elab.async false
set_option maxRecDepth 100000
set_option maxHeartbeats 4000000
namespace DL
open PySem PySem.Spec PyProof.Rows L2
section
variable {prog : Program} {w : World} {A : Around} {E : Value → Shared → Prop} {s : Shared} {d : Addr} {xs : List KV3} {k : NK} {kv : Value}
end
end DL
set_option Elab.async false
set_option maxRecDepth 100000
set_option maxHeartbeats 4000000
namespace DL
open PySem PySem.Spec PyProof.Rows L2
def sdF (ro : R) (ds : List D) : M R := fun ρ => match ro, ds with
  | .slot i, [dk, dv] => (match ρ[i]? with
    | some (some (.dct tag kvs)) => if (nkOf dk).isSome ∧ kvs.length < 1000000 then (match kget kvs dk with
      | some d => .ok (.tmp (.val d)) ρ
      | none => .ok (.tmp (.val dv)) (ρ.set i (some (.dct tag (kput kvs dk dv))))) else .bad
    | _ => .bad)
  | _, _ => .bad
def chkDct (r : R) : M Unit := fun ρ => match look r ρ with
  | some (.dict _) => .ok () ρ
  | _ => .bad
section
variable {X : Cx} {W : WX} {o a : Expr} {as : List Expr} {mo : M R} {ms : M (List R)} {apos cpos : PySem.Pos} {name : Str}
abbrev sdE (mo : M R) (ms : M (List R)) : M R := M.bind mo fun ro => M.bind (chkDct ro) fun _ => M.bind ms fun rs => M.bind (frzs rs) fun ds => sdF ro ds
end
end DL
set_option Elab.async false
set_option maxRecDepth 100000
set_option maxHeartbeats 4000000
namespace DL
open PySem PySem.Spec PyProof.Rows L2
def ExAt (D : Addr) (o : Obj) : Prop := Zc (.ref D) none o ∧ ∃ vs, o.data = .fields vs
structure FnE (P : Program) (w : World) (K : PySem.W.Frag) (mg : Str → Option Value) (base : Heap) (k : Nat) (f : Addr) (fd : FuncData) (x : Str) (D : Addr) (g : Addr → FO) : Prop where
  run : ∀ (A : Around) (outer : List Env) (s : Shared) (H : Hp) (args : Args) (p : Addr × Obj) (Q : VK), L2H.RoomH k A → ExAt D p.2 → L2H.PinOk outer H s p → Env0 P w K mg base A outer s H → BindsTo s fd args ([x].zip [.ref p.1]) →
    FAft K mg [] H (g p.1) Q (fun _ _ _ => False) → codeAny (model P w) A (.call (.ref f) args) (CR (L2.CX P w) outer P w H s Q (fun _ _ _ => False)) s
section
variable {P : Program} {w : World} {K : PySem.W.Frag} {mg : Str → Option Value} {base : Heap} {x qual : Str} {params : Arguments} {body : List Stmt} {scope : Scope} {f : Addr} {fd : FuncData}
end
section
variable {X : Cx} {W : WX} {k i : Nat} {f D a : Addr} {fd : FuncData} {y x n : Str} {oe : Obj} {pn : List (Addr × Obj)} {q p2 pos : PySem.Pos}
end
section
variable {X : Cx} {W : WX} {D : Addr} {p : Addr × Obj} {i k : Nat} {n T : Str} {q p2 p3 pos : PySem.Pos} {b : Bool}
end
section
variable {X : Cx} {W : WX} {i : Nat} {n x : Str} {c : Value} {b₀ : Stmt} {body suite : List Stmt} {np pos pos' : PySem.Pos} {mb : M Fl} {l : List (Str × Option (M Fl))}
end
theorem FnE.mono {P : Program} {w : World} {K : PySem.W.Frag} {mg : Str → Option Value} {base : Heap} {j k : Nat} {f : Addr} {fd : FuncData} {x : Str} {D : Addr} {g : Addr → FO} (F : FnE P w K mg base j f fd x D g) (h : j ≤ k) : FnE P w K mg base k f fd x D g :=
  ⟨fun A outer s H args p Q hr => F.run A outer s H args p Q (hr.mono h)⟩
end DL
set_option Elab.async false
set_option maxRecDepth 100000
set_option maxHeartbeats 4000000
namespace DL
open PySem PySem.Spec PyProof.Rows L2
@[simp] theorem chtO_listB (ρ : Rho) (z : List D) : chtO "list" ρ (some (.list z)) = .ok () ρ := (rfl)
end DL
set_option Elab.async false
set_option maxRecDepth 100000
set_option maxHeartbeats 4000000
namespace DL
section
variable {α : Type} [DecidableEq α]
def addM (met : List α) (y : α) : List α := if y ∈ met then met else met ++ [y]
/-- one place is looked behind -/
def stepM (h t : α → α) (met : List α) (x : α) : List α := addM (addM met (h x)) (t x)
def bfs (h t : α → α) : Nat → List α → Nat → List α
  | 0, met, _ => met
  | n + 1, met, at_ => match met[at_]? with
    | some x => bfs h t n (stepM h t met x) (at_ + 1)
    | none => met
theorem addM_mem {met : List α} {y z : α} : z ∈ addM met y ↔ z ∈ met ∨ z = y := by
  unfold addM
  split
  · rename_i h
    constructor
    · exact .inl
    · rintro (h1 | h1)
      · exact h1
      · rw [h1]; exact h
  · simp
theorem addM_nodup {met : List α} {y : α} (h : met.Nodup) : (addM met y).Nodup := by
  unfold addM
  split
  · exact h
  · rename_i hn
    refine List.nodup_append.mpr ⟨h, by simp, fun a ha b hb => ?_⟩
    rw [List.mem_singleton.mp hb]
    exact fun z => hn (by rw [← z]; exact ha)
theorem addM_pre (met : List α) (y : α) : ∃ r, addM met y = met ++ r := by
  unfold addM
  split
  · exact ⟨[], by simp⟩
  · exact ⟨[y], rfl⟩
theorem stepM_pre (h t : α → α) (met : List α) (x : α) : ∃ r, stepM h t met x = met ++ r := by
  obtain ⟨r1, e1⟩ := addM_pre met (h x)
  obtain ⟨r2, e2⟩ := addM_pre (addM met (h x)) (t x)
  exact ⟨r1 ++ r2, by unfold stepM; rw [e2, e1, List.append_assoc]⟩
/-- how far one has come: what lies ahead of at_ is closed -/
structure MetI (h t : α → α) (K : List α) (met : List α) (at_ : Nat) : Prop where
  nd : met.Nodup
  sub : ∀ x ∈ met, x ∈ K
  le : at_ ≤ met.length
  cl : ∀ (i : Nat) (x : α), i < at_ → met[i]? = some x → h x ∈ met ∧ t x ∈ met
  ne : met ≠ []
theorem MetI.step {h t : α → α} {K met : List α} {at_ : Nat} {x : α} (I : MetI h t K met at_) (hK : ∀ x ∈ K, h x ∈ K ∧ t x ∈ K) (hx : met[at_]? = some x) : MetI h t K (stepM h t met x) (at_ + 1) := by
  have hxK := I.sub x (List.mem_of_getElem? hx)
  obtain ⟨r, er⟩ := stepM_pre h t met x
  have hlt := (List.getElem?_eq_some_iff.mp hx).1
  have hm : ∀ z, z ∈ met → z ∈ stepM h t met x := fun z hz => by rw [er]; exact List.mem_append_left _ hz
  refine ⟨addM_nodup (addM_nodup I.nd), fun z hz => ?_, ?_, fun i y hi hy => ?_, ?_⟩
  · unfold stepM at hz
    rcases addM_mem.mp hz with h1 | h1
    · rcases addM_mem.mp h1 with h2 | h2
      · exact I.sub z h2
      · rw [h2]; exact (hK x hxK).1
    · rw [h1]; exact (hK x hxK).2
  · rw [er, List.length_append]; omega
  · by_cases hia : i = at_
    · subst hia
      rw [er, List.getElem?_append_left hlt, hx] at hy
      cases hy
      exact ⟨addM_mem.mpr (.inl (addM_mem.mpr (.inr rfl))), addM_mem.mpr (.inr rfl)⟩
    · have hi' : i < at_ := by omega
      rw [er, List.getElem?_append_left (by omega)] at hy
      obtain ⟨h1, h2⟩ := I.cl i y hi' hy
      exact ⟨hm _ h1, hm _ h2⟩
  · rw [er]
    intro z
    exact I.ne (List.append_eq_nil_iff.mp z).1
theorem nodup_le : ∀ {l K : List α}, l.Nodup → (∀ x ∈ l, x ∈ K) → l.length ≤ K.length
  | [], _, _, _ => Nat.zero_le _
  | a :: l, K, hn, hs => by
    obtain ⟨h1, h2⟩ := List.nodup_cons.mp hn
    have ha := hs a List.mem_cons_self
    have ih := nodup_le (l := l) (K := K.erase a) h2 fun x hx => (List.mem_erase_of_ne fun z => h1 (by rw [← z]; exact hx)).mpr (hs x (List.mem_cons_of_mem _ hx))
    rw [List.length_erase_of_mem ha] at ih
    have := List.length_pos_of_mem ha
    simp only [List.length_cons]
    omega
theorem MetI.len {h t : α → α} {K met : List α} {at_ : Nat} (I : MetI h t K met at_) : met.length ≤ K.length :=
  nodup_le I.nd I.sub
/-- at the end all is closed -/
theorem bfs_end {h t : α → α} {K : List α} (hK : ∀ x ∈ K, h x ∈ K ∧ t x ∈ K) : ∀ (n : Nat) (met : List α) (at_ : Nat), MetI h t K met at_ → K.length ≤ n + at_ → ∃ m, bfs h t n met at_ = m ∧ MetI h t K m m.length
  | 0, met, at_, I, hn => by
    have := I.len
    have h1 := I.le
    have : at_ = met.length := by omega
    exact ⟨met, rfl, this ▸ I⟩
  | n + 1, met, at_, I, hn => by
    unfold bfs
    cases e : met[at_]? with
    | none =>
      have h1 := I.le
      have h2 := List.getElem?_eq_none_iff.mp e
      have : at_ = met.length := by omega
      exact ⟨met, rfl, this ▸ I⟩
    | some x => exact bfs_end hK n _ _ (I.step hK e) (by omega)
theorem bfs_start {h t : α → α} {K : List α} {x : α} (hx : x ∈ K) : MetI h t K [x] 0 := ⟨by simp, fun z hz => by rw [List.mem_singleton.mp hz]; exact hx, by simp, fun i y hi => by omega, by simp⟩
theorem bfs_pre (h t : α → α) : ∀ (n : Nat) (met : List α) (at_ : Nat), ∃ r, bfs h t n met at_ = met ++ r
  | 0, met, at_ => ⟨[], by simp [bfs]⟩
  | n + 1, met, at_ => by
    unfold bfs
    cases e : met[at_]? with
    | none => exact ⟨[], by simp⟩
    | some x =>
      obtain ⟨r1, e1⟩ := stepM_pre h t met x
      obtain ⟨r2, e2⟩ := bfs_pre h t n (stepM h t met x) (at_ + 1)
      exact ⟨r1 ++ r2, by dsimp only; rw [e2, e1, List.append_assoc]⟩
/-- more fuel than needed changes nothing -/
theorem bfs_stop {h t : α → α} {met : List α} {at_ : Nat} (hl : met.length ≤ at_) : ∀ n, bfs h t n met at_ = met
  | 0 => rfl
  | n + 1 => by
    unfold bfs
    rw [List.getElem?_eq_none_iff.mpr hl]
theorem bfs_more {h t : α → α} : ∀ (n : Nat) (met : List α) (at_ : Nat), (bfs h t n met at_).length ≤ at_ + n → bfs h t (n + 1) met at_ = bfs h t n met at_
  | 0, met, at_, hl => bfs_stop (by simpa [bfs] using hl) 1
  | n + 1, met, at_, hl => by
    rw [bfs]
    unfold bfs at hl ⊢
    cases e : met[at_]? with
    | none => rfl
    | some x =>
      rw [e] at hl
      dsimp only at hl ⊢
      exact bfs_more n _ _ (by omega)
theorem bfs_far {h t : α → α} {n : Nat} {met : List α} {at_ : Nat} (hl : (bfs h t n met at_).length ≤ at_ + n) : ∀ k, bfs h t (n + k) met at_ = bfs h t n met at_
  | 0 => rfl
  | k + 1 => by
    have ih := bfs_far hl k
    rw [← Nat.add_assoc, bfs_more (n + k) met at_ (by rw [ih]; omega), ih]
end
section
variable {α β : Type} [DecidableEq α] [DecidableEq β]
theorem addM_map {f : α → β} {met : List α} {y : α} (hf : ∀ a b, a ∈ met → f a = f b → b = y → a = b) : addM (met.map f) (f y) = (addM met y).map f := by
  unfold addM
  by_cases h : y ∈ met
  · rw [if_pos h, if_pos (List.mem_map.mpr ⟨y, h, rfl⟩)]
  · rw [if_neg h, if_neg, List.map_append]
    · rfl
    · intro z
      obtain ⟨a, ha, e⟩ := List.mem_map.mp z
      exact h (hf a y ha e rfl ▸ ha)
theorem bfs_map {f : α → β} {h t : α → α} {h' t' : β → β} {K : List α} (inj : ∀ a ∈ K, ∀ b ∈ K, f a = f b → a = b) (eh : ∀ a ∈ K, h' (f a) = f (h a)) (et : ∀ a ∈ K, t' (f a) = f (t a)) (hK : ∀ x ∈ K, h x ∈ K ∧ t x ∈ K) :
    ∀ (n : Nat) (met : List α) (at_ : Nat), MetI h t K met at_ → bfs h' t' n (met.map f) at_ = (bfs h t n met at_).map f
  | 0, met, at_, I => rfl
  | n + 1, met, at_, I => by
    unfold bfs
    rw [List.getElem?_map]
    cases e : met[at_]? with
    | none => rfl
    | some x =>
      have hx := I.sub x (List.mem_of_getElem? e)
      have e1 : stepM h' t' (met.map f) (f x) = (stepM h t met x).map f := by
        unfold stepM
        rw [eh x hx, et x hx, addM_map, addM_map]
        · intro a b ha e2 hb
          rw [hb] at e2 ⊢
          refine inj a ?_ _ (hK x hx).2 e2
          rcases addM_mem.mp ha with z | z
          · exact I.sub a z
          · rw [z]; exact (hK x hx).1
        · intro a b ha e2 hb
          rw [hb] at e2 ⊢
          exact inj a (I.sub a ha) _ (hK x hx).1 e2
      show bfs h' t' n (stepM h' t' (met.map f) (f x)) (at_ + 1) = _
      rw [e1]
      exact bfs_map inj eh et hK n _ _ (I.step hK e)
end
/-- s twice and r three times lead back; the places are numbered as they are met -/
structure TabP (hs ts : List Nat) : Prop where
  len : hs.length = ts.length
  pos : 0 < hs.length
  hlt : ∀ i ∈ hs, i < hs.length
  tlt : ∀ i ∈ ts, i < hs.length
  h2 : ∀ i, i < hs.length → hs.getD (hs.getD i 0) 0 = i
  t3 : ∀ i, i < hs.length → ts.getD (ts.getD (ts.getD i 0) 0) 0 = i
  met : ∀ n, hs.length ≤ n → bfs (fun i => hs.getD i 0) (fun i => ts.getD i 0) n [0] 0 = List.range hs.length
section
variable {α : Type} [DecidableEq α]
def numT (h : α → α) (met : List α) : List Nat := met.map fun x => met.idxOf (h x)
theorem numT_at {h : α → α} {met : List α} {i : Nat} {x : α} (e : met[i]? = some x) : (numT h met).getD i 0 = met.idxOf (h x) := by
  unfold numT
  rw [List.getD_eq_getElem?_getD, List.getElem?_map, e]
  rfl
theorem idx_at {met : List α} {i : Nat} {x : α} (hn : met.Nodup) (e : met[i]? = some x) : met.idxOf x = i := by
  obtain ⟨hi, he⟩ := List.getElem?_eq_some_iff.mp e
  rw [← he]
  exact hn.idxOf_getElem i hi
theorem at_idx {met : List α} {x : α} (h : x ∈ met) : met[met.idxOf x]? = some x := by
  have hi := List.idxOf_lt_length_iff.mpr h
  rw [List.getElem?_eq_getElem hi, List.getElem_idxOf hi]
theorem tab_of {h t : α → α} {K : List α} {x : α} (hx : x ∈ K) (hK : ∀ x ∈ K, h x ∈ K ∧ t x ∈ K) (h2 : ∀ x ∈ K, h (h x) = x) (t3 : ∀ x ∈ K, t (t (t x)) = x) {N : Nat} (hN : K.length ≤ N) :
    ∃ met, bfs h t N [x] 0 = met ∧ MetI h t K met met.length ∧ met[0]? = some x ∧ TabP (numT h met) (numT t met) := by
  obtain ⟨met, em, I⟩ := bfs_end hK N [x] 0 (bfs_start hx) (by omega)
  obtain ⟨r, er⟩ := bfs_pre h t N [x] 0
  rw [em] at er
  have m0 : met[0]? = some x := by rw [er]; rfl
  refine ⟨met, em, I, m0, ?_⟩
  have lh : (numT h met).length = met.length := by simp [numT]
  have lt : (numT t met).length = met.length := by simp [numT]
  have clH : ∀ y ∈ met, h y ∈ met := fun y hy => by
    obtain ⟨i, hi⟩ := List.mem_iff_getElem?.mp hy
    exact (I.cl i y (List.getElem?_eq_some_iff.mp hi).1 hi).1
  have clT : ∀ y ∈ met, t y ∈ met := fun y hy => by
    obtain ⟨i, hi⟩ := List.mem_iff_getElem?.mp hy
    exact (I.cl i y (List.getElem?_eq_some_iff.mp hi).1 hi).2
  have hne : 0 < met.length := (List.getElem?_eq_some_iff.mp m0).1
  refine ⟨by rw [lh, lt], by rw [lh]; exact hne, fun i hi => ?_, fun i hi => ?_, fun i hi => ?_, fun i hi => ?_, fun n hn => ?_⟩
  · rw [lh]
    obtain ⟨y, hy, e⟩ := List.mem_map.mp (show i ∈ met.map fun x => met.idxOf (h x) from hi)
    rw [← e]
    exact List.idxOf_lt_length_iff.mpr (clH y hy)
  · rw [lh]
    obtain ⟨y, hy, e⟩ := List.mem_map.mp (show i ∈ met.map fun x => met.idxOf (t x) from hi)
    rw [← e]
    exact List.idxOf_lt_length_iff.mpr (clT y hy)
  · rw [lh] at hi
    have e : met[i]? = some met[i] := List.getElem?_eq_getElem hi
    have hm := List.mem_of_getElem? e
    rw [numT_at e, numT_at (at_idx (clH _ hm)), h2 _ (I.sub _ hm), idx_at I.nd e]
  · rw [lh] at hi
    have e : met[i]? = some met[i] := List.getElem?_eq_getElem hi
    have hm := List.mem_of_getElem? e
    rw [numT_at e, numT_at (at_idx (clT _ hm)), numT_at (at_idx (clT _ (clT _ hm))), t3 _ (I.sub _ hm), idx_at I.nd e]
  · rw [lh] at hn ⊢
    have inj : ∀ a ∈ met, ∀ b ∈ met, met.idxOf a = met.idxOf b → a = b := fun a ha b hb e => by
      have h1 := at_idx ha
      rw [e, at_idx hb] at h1
      exact (Option.some.inj h1).symm
    have xm : x ∈ met := List.mem_of_getElem? m0
    have z := bfs_map (f := fun a => met.idxOf a) (h := h) (t := t) (h' := fun i => (numT h met).getD i 0) (t' := fun i => (numT t met).getD i 0) (K := met) inj (fun a ha => numT_at (at_idx ha)) (fun a ha => numT_at (at_idx ha)) (fun y hy => ⟨clH y hy, clT y hy⟩) n [x] 0 (bfs_start xm)
    rw [List.map_cons, List.map_nil, idx_at I.nd m0] at z
    rw [z]
    have em2 : bfs h t n [x] 0 = met := by
      obtain ⟨m, e1, I2⟩ := bfs_end (K := met) (fun y hy => ⟨clH y hy, clT y hy⟩) n [x] 0 (bfs_start xm) (by omega)
      have l1 : (bfs h t n [x] 0).length ≤ 0 + n := by
        rw [e1]
        have := I2.len
        omega
      have l2 : (bfs h t N [x] 0).length ≤ 0 + N := by
        rw [em]
        have := I.len
        omega
      have f1 := bfs_far l1 N
      have f2 := bfs_far l2 n
      rw [Nat.add_comm N n] at f2
      rw [← f1, f2, em]
    rw [em2]
    apply List.ext_getElem?
    intro i
    rw [List.getElem?_map]
    by_cases hi : i < met.length
    · rw [List.getElem?_eq_getElem hi, List.getElem?_range hi]
      show some (met.idxOf met[i]) = some i
      rw [idx_at I.nd (List.getElem?_eq_getElem hi)]
    · rw [List.getElem?_eq_none_iff.mpr (by omega), List.getElem?_eq_none_iff.mpr (by simp; omega)]
      rfl
end
end DL
set_option Elab.async false
set_option maxRecDepth 100000
set_option maxHeartbeats 4000000
namespace DL
abbrev Sd := P2 × P2
def rev (s : Sd) : Sd := (s.2, s.1)
def edges : List P2 → List Sd
  | x :: y :: t => (x, y) :: edges (y :: t)
  | _ => []
theorem edges_split : ∀ (P : List P2) (y : P2) (R : List P2), edges (P ++ y :: R) = edges (P ++ [y]) ++ edges (y :: R)
  | [], y, R => by simp [edges]
  | [a], y, R => by simp [edges]
  | a :: b :: P, y, R => by
    have ih := edges_split (b :: P) y R
    simp only [List.cons_append, edges] at ih ⊢
    rw [ih]
theorem edges_mem : ∀ {l : List P2} {e : Sd}, e ∈ edges l → e.1 ∈ l ∧ e.2 ∈ l
  | [], e, h => by simp [edges] at h
  | [_], e, h => by simp [edges] at h
  | x :: y :: t, e, h => by
    simp only [edges, List.mem_cons] at h
    rcases h with rfl | h
    · simp
    · have := edges_mem h
      exact ⟨List.mem_cons_of_mem _ this.1, List.mem_cons_of_mem _ this.2⟩
theorem edges_next {x y w : P2} : ∀ {P R : List P2}, (P ++ y :: x :: R).Nodup → (y, w) ∈ edges (P ++ y :: x :: R) → w = x
  | [], R, hn, h => by
    simp only [List.nil_append, edges, List.mem_cons, Prod.mk.injEq] at h
    rcases h with ⟨_, h⟩ | h
    · exact h
    · have := (edges_mem h).1
      simp only [List.nil_append, List.nodup_cons] at hn
      exact absurd this hn.1
  | [a], R, hn, h => by
    simp only [List.cons_append, List.nil_append, edges, List.mem_cons, Prod.mk.injEq] at h
    simp only [List.cons_append, List.nil_append, List.nodup_cons, List.mem_cons, not_or] at hn
    rcases h with ⟨h, _⟩ | ⟨_, h⟩ | h
    · exact absurd h.symm hn.1.1
    · exact h
    · have := (edges_mem h).1
      exact absurd (List.mem_cons.mp this) (by simpa using hn.2.1)
  | a :: b :: P, R, hn, h => by
    simp only [List.cons_append, edges, List.mem_cons, Prod.mk.injEq] at h
    have hn' := hn
    simp only [List.cons_append, List.nodup_cons] at hn
    rcases h with ⟨h, _⟩ | h
    · subst h
      exact absurd (List.mem_cons_of_mem _ (List.mem_append_right _ List.mem_cons_self)) hn.1
    · exact edges_next (P := b :: P) (List.nodup_cons.mp hn').2 h
/-- in an ordered row nothing lies between the ends of an edge -/
theorem edges_gap {r : P2 → P2 → Prop} : ∀ {l : List P2} {e : Sd} {x : P2}, l.Pairwise r → e ∈ edges l → x ∈ l → x = e.1 ∨ x = e.2 ∨ r x e.1 ∨ r e.2 x
  | [], e, x, _, h, _ => by simp [edges] at h
  | [_], e, x, _, h, _ => by simp [edges] at h
  | a :: b :: t, e, x, hp, h, hx => by
    simp only [edges, List.mem_cons] at h
    have hp2 := (List.pairwise_cons.mp hp)
    rcases h with rfl | h
    · rcases List.mem_cons.mp hx with rfl | hx
      · exact .inl rfl
      · rcases List.mem_cons.mp hx with rfl | hx
        · exact .inr (.inl rfl)
        · exact .inr (.inr (.inr ((List.pairwise_cons.mp hp2.2).1 x hx)))
    · rcases List.mem_cons.mp hx with rfl | hx
      · exact .inr (.inr (.inl (hp2.1 _ (edges_mem h).1)))
      · exact edges_gap hp2.2 h hx
theorem edges_nodup : ∀ {l : List P2}, l.Nodup → (edges l).Nodup
  | [], _ => by simp [edges]
  | [_], _ => by simp [edges]
  | x :: y :: t, h => by
    simp only [edges]
    obtain ⟨h1, h2⟩ := List.nodup_cons.mp h
    exact List.nodup_cons.mpr ⟨fun z => h1 (edges_mem z).1, edges_nodup h2⟩
theorem edges_far : ∀ {l : List P2} {e : Sd}, Far l → e ∈ edges l → crs e.1 e.2 = 1
  | [], e, _, h => by simp [edges] at h
  | [_], e, _, h => by simp [edges] at h
  | x :: y :: t, e, hf, h => by
    simp only [edges, List.mem_cons] at h
    rcases h with rfl | h
    · exact hf.1
    · exact edges_far hf.2 h
theorem Far.pop : ∀ {A : List P2} {x y z : P2} {B : List P2}, Far (A ++ y :: x :: z :: B) → crs y z = 1 → Far (A ++ y :: z :: B)
  | [], x, y, z, B, h, h1 => ⟨h1, h.2.2⟩
  | [a], x, y, z, B, h, h1 => ⟨h.1, h1, h.2.2.2⟩
  | a :: b :: A, x, y, z, B, h, h1 => ⟨h.1, Far.pop (A := b :: A) h.2 h1⟩
theorem crs_trans {x y z : P2} (hx : 0 ≤ x.2) (hy : 0 < y.2) (hz : 0 ≤ z.2) (hxz : 0 < x.2 + z.2) (h1 : 0 < crs x y) (h2 : 0 < crs y z) : 0 < crs x z := by
  have e : crs x z * y.2 = crs x y * z.2 + crs y z * x.2 := by
    unfold crs
    grind
  have p : 0 < crs x z * y.2 := by
    rw [e]
    rcases Int.lt_or_le 0 z.2 with hz' | hz'
    · have a := Int.mul_pos h1 hz'
      have b := Int.mul_nonneg (Int.le_of_lt h2) hx
      omega
    · have hx' : 0 < x.2 := by omega
      have a := Int.mul_pos h2 hx'
      have b := Int.mul_nonneg (Int.le_of_lt h1) hz
      omega
  exact Int.pos_of_mul_pos_left p hy |> fun h => h
/-- a row as it gets lesser -/
structure RowG (mid : List P2) : Prop where
  far : Far (full mid)
  pos : ∀ x ∈ mid, 1 ≤ x.2
  zero : (0, 1) ∈ mid
theorem RowF.g {mid : List P2} (h : RowF mid) : RowG mid := ⟨h.far, h.pos, h.zero⟩
theorem Far.left : ∀ {A B : List P2}, Far (A ++ B) → Far A
  | [], _, _ => trivial
  | [_], _, _ => trivial
  | x :: y :: A, B, h => ⟨h.1, Far.left (A := y :: A) h.2⟩
theorem far_pw : ∀ {l : List P2}, Far l → (∀ x ∈ l, 1 ≤ x.2) → l.Pairwise fun x y => 0 < crs x y
  | [], _, _ => .nil
  | [_], _, _ => by simp
  | x :: y :: t, h, hp => by
    have ih := far_pw (l := y :: t) h.2 fun z hz => hp z (List.mem_cons_of_mem _ hz)
    refine List.pairwise_cons.mpr ⟨fun z hz => ?_, ih⟩
    have h1 : crs x y = 1 := h.1
    rcases List.mem_cons.mp hz with rfl | hz'
    · omega
    · have px := hp x List.mem_cons_self
      have py := hp y (by simp)
      have pz := hp z (List.mem_cons_of_mem _ hz)
      exact crs_trans (by omega) (by omega) (by omega) (by omega) (by omega) ((List.pairwise_cons.mp ih).1 z hz')
def lt2 (u v : P2) : Prop := 0 < crs u v ∨ (u = (-1, 0) ∧ v = (1, 0))
theorem lt2_no {x y : P2} (h : lt2 x y) (h1 : crs y x = 1) : False := by
  rcases h with h | ⟨rfl, rfl⟩
  · unfold crs at h h1
    have : x.1 * y.2 - y.1 * x.2 = -(y.1 * x.2 - x.1 * y.2) := by omega
    omega
  · simp [crs] at h1
theorem lt2_irr {x : P2} : ¬ lt2 x x := by
  rintro (h | ⟨h1, h2⟩)
  · unfold crs at h
    omega
  · rw [h1] at h2
    simp at h2
theorem RowG.midFar {mid : List P2} (h : RowG mid) : Far mid := by
  have h1 : Far (((-1, 0) : P2) :: (mid ++ [(1, 0)])) := h.far
  have h2 : Far (mid ++ [((1, 0) : P2)]) := by
    cases mid with
    | nil => trivial
    | cons a m => exact h1.2
  exact h2.left
theorem RowG.srt {mid : List P2} (h : RowG mid) : mid.Pairwise fun x y => 0 < crs x y := far_pw h.midFar h.pos
theorem RowG.full_pw {mid : List P2} (h : RowG mid) : (full mid).Pairwise lt2 := by
  unfold full
  rw [List.cons_append]
  refine List.pairwise_cons.mpr ⟨fun z hz => ?_, List.pairwise_append.mpr ⟨h.srt.imp fun q => .inl q, by simp, fun a ha b hb => ?_⟩⟩
  · rcases List.mem_append.mp hz with hz | hz
    · left
      have := h.pos z hz
      unfold crs
      simp
      omega
    · right
      exact ⟨rfl, List.mem_singleton.mp hz⟩
  · left
    rw [List.mem_singleton.mp hb]
    have := h.pos a ha
    unfold crs
    simp
    omega
theorem pw_nodup {l : List P2} (h : l.Pairwise lt2) : l.Nodup := h.imp fun q z => by
  subst z
  exact lt2_irr q
theorem RowG.full_nd {mid : List P2} (h : RowG mid) : (full mid).Nodup := pw_nodup h.full_pw
theorem RowG.q0 {mid : List P2} (h : RowG mid) {x : P2} (hx : x ∈ full mid) : 0 ≤ x.2 := by
  unfold full at hx
  rw [List.cons_append] at hx
  rcases List.mem_cons.mp hx with rfl | hx
  · simp
  · rcases List.mem_append.mp hx with hx | hx
    · have := h.pos x hx
      omega
    · rw [List.mem_singleton.mp hx]
      simp
theorem zero_full {mid : List P2} (h : (0, 1) ∈ mid) : ((0, 1) : P2) ∈ full mid := by
  unfold full
  rw [List.cons_append]
  exact List.mem_cons_of_mem _ (List.mem_append_left _ h)
/-- an edge lies on one side of 0/1 -/
theorem RowG.edge_side {mid : List P2} (h : RowG mid) {e : Sd} (he : e ∈ edges (full mid)) : (e.1.1 < 0 ∧ e.2.1 ≤ 0) ∨ (0 ≤ e.1.1 ∧ 0 < e.2.1) := by
  have c := edges_far h.far he
  obtain ⟨m1, m2⟩ := edges_mem he
  have q1 := h.q0 m1
  have q2 := h.q0 m2
  rcases edges_gap h.full_pw he (zero_full h.zero) with z | z | z | z
  · right
    rw [← z] at c ⊢
    unfold crs at c
    simp at c ⊢
    omega
  · left
    rw [← z] at c ⊢
    unfold crs at c
    simp at c ⊢
    omega
  · right
    rcases z with z | ⟨z, _⟩
    · unfold crs at z c
      simp at z
      refine ⟨by omega, ?_⟩
      have p : 0 < e.2.1 * e.1.2 := by
        have := Int.mul_nonneg (Int.le_of_lt z) q2
        omega
      exact Int.pos_of_mul_pos_left p (by
        rcases Int.lt_or_le 0 e.1.2 with w | w
        · exact w
        · have w0 : e.1.2 = 0 := by omega
          rw [w0] at p
          simp at p)
    · simp at z
  · left
    rcases z with z | ⟨_, z⟩
    · unfold crs at z c
      simp at z
      refine ⟨?_, by omega⟩
      have p : e.1.1 * e.2.2 < 0 := by
        have := Int.mul_nonneg (show (0 : Int) ≤ -e.2.1 by omega) q1
        have e1 : -e.2.1 * e.1.2 = -(e.2.1 * e.1.2) := by rw [Int.neg_mul]
        omega
      rcases Int.lt_or_le e.1.1 0 with w | w
      · exact w
      · have := Int.mul_nonneg w q2
        omega
    · simp at z
theorem first_max {α : Type} (g : α → Nat) : ∀ l : List α, l ≠ [] → ∃ (A : List α) (x : α) (B : List α), l = A ++ x :: B ∧ (∀ y ∈ l, g y ≤ g x) ∧ ∀ y ∈ A, g y < g x
  | [], h => absurd rfl h
  | [a], _ => ⟨[], a, [], rfl, by simp, by simp⟩
  | a :: b :: l, _ => by
    obtain ⟨A, x, B, e, h1, h2⟩ := first_max g (b :: l) (by simp)
    by_cases hg : g x ≤ g a
    · refine ⟨[], a, b :: l, rfl, fun y hy => ?_, by simp⟩
      rcases List.mem_cons.mp hy with rfl | hy
      · exact Nat.le_refl _
      · exact Nat.le_trans (h1 y hy) hg
    · refine ⟨a :: A, x, B, by rw [e]; rfl, fun y hy => ?_, fun y hy => ?_⟩
      · rcases List.mem_cons.mp hy with rfl | hy
        · omega
        · exact h1 y hy
      · rcases List.mem_cons.mp hy with rfl | hy
        · omega
        · exact h2 y hy
/-- x's neighbours in the row -/
theorem nbrs (A B : List P2) (x : P2) : ∃ (P : List P2) (y z : P2) (Q : List P2), ((-1, 0) : P2) :: A = P ++ [y] ∧ B ++ [((1, 0) : P2)] = z :: Q ∧ full (A ++ x :: B) = P ++ y :: x :: z :: Q ∧ full (A ++ B) = P ++ y :: z :: Q ∧ (y = (-1, 0) ∨ y ∈ A) ∧ (z = (1, 0) ∨ z ∈ B) := by
  obtain ⟨P, y, e1⟩ : ∃ P y, ((-1, 0) : P2) :: A = P ++ [y] := ⟨_, _, (List.dropLast_concat_getLast (List.cons_ne_nil ((-1, 0) : P2) A)).symm⟩
  obtain ⟨z, Q, e2⟩ : ∃ z Q, B ++ [((1, 0) : P2)] = z :: Q := by
    cases B with
    | nil => exact ⟨_, _, rfl⟩
    | cons b B => exact ⟨_, _, rfl⟩
  refine ⟨P, y, z, Q, e1, e2, ?_, ?_, ?_, ?_⟩
  · have : full (A ++ x :: B) = (((-1, 0) : P2) :: A) ++ x :: (B ++ [(1, 0)]) := by simp [full]
    rw [this, e1, e2]
    simp
  · have : full (A ++ B) = (((-1, 0) : P2) :: A) ++ (B ++ [(1, 0)]) := by simp [full]
    rw [this, e1, e2]
    simp
  · have : y ∈ ((-1, 0) : P2) :: A := by rw [e1]; simp
    exact List.mem_cons.mp this
  · have : z ∈ B ++ [((1, 0) : P2)] := by rw [e2]; simp
    rcases List.mem_append.mp this with h | h
    · exact .inr h
    · exact .inl (List.mem_singleton.mp h)
theorem edges_two {P Q : List P2} {y x z : P2} : (y, x) ∈ edges (P ++ y :: x :: z :: Q) ∧ (x, z) ∈ edges (P ++ y :: x :: z :: Q) := by
  rw [edges_split]
  simp [edges]
theorem mul_one_of {k f : Int} (hf : 0 < f) (h1 : 0 < k * f) (h2 : k * f < 2 * f) : k = 1 := by
  have a : 0 < k := by
    rcases Int.lt_or_le 0 k with h | h
    · exact h
    · have := Int.mul_nonneg (show (0 : Int) ≤ -k by omega) (Int.le_of_lt hf)
      rw [Int.neg_mul] at this
      omega
  have b : k < 2 := Int.lt_of_mul_lt_mul_right h2 (Int.le_of_lt hf)
  omega
/-- there is an ear -/
theorem RowG.ear {mid : List P2} (h : RowG mid) (hl : 2 ≤ mid.length) : ∃ (A : List P2) (x : P2) (B P : List P2) (y z : P2) (Q : List P2), mid = A ++ x :: B ∧ x ≠ (0, 1) ∧ ((-1, 0) : P2) :: A = P ++ [y] ∧ B ++ [((1, 0) : P2)] = z :: Q ∧ crs y z = 1 := by
  let g : P2 → Nat := fun x => if x = (0, 1) then 0 else x.1.natAbs + x.2.natAbs
  obtain ⟨A, x, B, em, hmax, hlt⟩ := first_max g mid (fun z => by rw [z] at hl; simp at hl)
  obtain ⟨P, y, z, Q, e1, e2, ef, _, hy, hz⟩ := nbrs A B x
  rw [← em] at ef
  have nd : mid.Nodup := h.srt.imp fun q w => by
    subst w
    unfold crs at q
    omega
  -- another one than 0/1
  have two : 1 ≤ g x := by
    obtain ⟨w, hw, hw0⟩ : ∃ w ∈ mid, w ≠ (0, 1) := by
      match mid, hl, nd with
      | a :: b :: m, _, nd =>
        by_cases ha : a = (0, 1)
        · refine ⟨b, by simp, fun hb => ?_⟩
          rw [ha, hb] at nd
          simp at nd
        · exact ⟨a, by simp, ha⟩
    have h1 := hmax w hw
    have h2 := h.pos w hw
    simp only [g, if_neg hw0] at h1
    show 1 ≤ g x
    simp only [g]
    omega
  have hx0 : x ≠ (0, 1) := fun w => by simp [g, w] at two
  have hxm : x ∈ mid := by rw [em]; simp
  have hx2 := h.pos x hxm
  obtain ⟨ed1, ed2⟩ : (y, x) ∈ edges (full mid) ∧ (x, z) ∈ edges (full mid) := by rw [ef]; exact edges_two
  have c1 := edges_far h.far ed1
  have c2 := edges_far h.far ed2
  have s1 := h.edge_side ed1
  have s2 := h.edge_side ed2
  dsimp only at s1 s2
  have hy2 := h.q0 (edges_mem ed1).1
  have hz2 := h.q0 (edges_mem ed2).2
  dsimp only at hy2 hz2
  have k2 : crs y z * x.2 = y.2 + z.2 := by
    unfold crs at *
    dsimp only at c1 c2
    grind
  have k1 : crs y z * x.1 = y.1 + z.1 := by
    unfold crs at *
    dsimp only at c1 c2
    grind
  refine ⟨A, x, B, P, y, z, Q, em, hx0, e1, e2, ?_⟩
  have gx : g x = x.1.natAbs + x.2.natAbs := by simp [g, hx0]
  have hgy : y ∈ A → y ≠ (0, 1) → y.1.natAbs + y.2.natAbs < x.1.natAbs + x.2.natAbs := fun hy hy0 => by
    have := hlt y hy
    rw [gx] at this
    simpa [g, hy0] using this
  have hgz : z ∈ B → z ≠ (0, 1) → z.1.natAbs + z.2.natAbs ≤ x.1.natAbs + x.2.natAbs := fun hz hz0 => by
    have := hmax z (by rw [em]; simp [hz])
    rw [gx] at this
    simpa [g, hz0] using this
  have memA : ∀ w ∈ A, 1 ≤ w.2 := fun w hw => h.pos w (by rw [em]; simp [hw])
  have memB : ∀ w ∈ B, 1 ≤ w.2 := fun w hw => h.pos w (by rw [em]; simp [hw])
  rcases Int.lt_trichotomy x.1 0 with hx1 | hx1 | hx1
  · -- left of 0/1
    have hy1 : y.1 < 0 := by omega
    have hz1 : z.1 ≤ 0 := by omega
    have fy : -y.1 + y.2 < -x.1 + x.2 ∧ 1 ≤ -y.1 + y.2 := by
      rcases hy with rfl | hy
      · simp
        omega
      · have := hgy hy (fun w => by rw [w] at hy1; simp at hy1)
        have := memA y hy
        omega
    have fz : -z.1 + z.2 ≤ -x.1 + x.2 ∧ 1 ≤ -z.1 + z.2 := by
      rcases hz with rfl | hz
      · simp at hz1
      · have m := memB z hz
        by_cases hz0 : z = (0, 1)
        · rw [hz0]
          simp
          omega
        · have := hgz hz hz0
          omega
    refine mul_one_of (f := -x.1 + x.2) (by omega) ?_ ?_
    · have : crs y z * (-x.1 + x.2) = (-y.1 + y.2) + (-z.1 + z.2) := by rw [Int.mul_add, Int.mul_neg, k1, k2]; omega
      omega
    · have : crs y z * (-x.1 + x.2) = (-y.1 + y.2) + (-z.1 + z.2) := by rw [Int.mul_add, Int.mul_neg, k1, k2]; omega
      omega
  · -- it is 0/1
    exfalso
    have c1' : x.1 * y.2 - y.1 * x.2 = 1 := c1
    rw [hx1] at c1'
    have : -y.1 * x.2 = 1 := by rw [Int.neg_mul]; omega
    have hx21 : x.2 = 1 := Int.eq_one_of_dvd_one (by omega) ⟨-y.1, by rw [Int.mul_comm]; exact this.symm⟩
    exact hx0 (Prod.ext hx1 hx21)
  · have hy1 : 0 ≤ y.1 := by omega
    have hz1 : 0 < z.1 := by omega
    have fy : y.1 + y.2 < x.1 + x.2 ∧ 1 ≤ y.1 + y.2 := by
      rcases hy with rfl | hy
      · simp at hy1
      · have m := memA y hy
        by_cases hy0 : y = (0, 1)
        · rw [hy0]
          simp
          omega
        · have := hgy hy hy0
          omega
    have fz : z.1 + z.2 ≤ x.1 + x.2 ∧ 1 ≤ z.1 + z.2 := by
      rcases hz with rfl | hz
      · simp
        omega
      · have m := memB z hz
        have := hgz hz (fun w => by rw [w] at hz1; simp at hz1)
        omega
    refine mul_one_of (f := x.1 + x.2) (by omega) ?_ ?_
    · have : crs y z * (x.1 + x.2) = (y.1 + y.2) + (z.1 + z.2) := by rw [Int.mul_add, k1, k2]; omega
      omega
    · have : crs y z * (x.1 + x.2) = (y.1 + y.2) + (z.1 + z.2) := by rw [Int.mul_add, k1, k2]; omega
      omega
end DL
set_option Elab.async false
set_option maxRecDepth 100000
set_option maxHeartbeats 4000000
namespace DL
theorem RowG.pop {A B P Q : List P2} {x y z : P2} (h : RowG (A ++ x :: B)) (hx : x ≠ (0, 1)) (e1 : ((-1, 0) : P2) :: A = P ++ [y]) (e2 : B ++ [((1, 0) : P2)] = z :: Q) (hc : crs y z = 1) : RowG (A ++ B) := by
  have f1 : full (A ++ x :: B) = P ++ y :: x :: z :: Q := by
    have : full (A ++ x :: B) = (((-1, 0) : P2) :: A) ++ x :: (B ++ [(1, 0)]) := by simp [full]
    rw [this, e1, e2]; simp
  have f2 : full (A ++ B) = P ++ y :: z :: Q := by
    have : full (A ++ B) = (((-1, 0) : P2) :: A) ++ (B ++ [(1, 0)]) := by simp [full]
    rw [this, e1, e2]; simp
  refine ⟨?_, fun w hw => h.pos w ?_, ?_⟩
  · rw [f2]
    have := h.far
    rw [f1] at this
    exact this.pop hc
  · rcases List.mem_append.mp hw with q | q
    · exact List.mem_append_left _ q
    · exact List.mem_append_right _ (List.mem_cons_of_mem _ q)
  · rcases List.mem_append.mp h.zero with q | q
    · exact List.mem_append_left _ q
    · rcases List.mem_cons.mp q with q | q
      · exact absurd q.symm hx
      · exact List.mem_append_right _ q
def sides3 (t : P2 × P2 × P2) : List Sd := [(t.1, t.2.1), (t.2.1, t.2.2), (t.2.2, t.1)]
def FwS (m0 mid : List P2) (s : Sd) : Prop := (0 < crs s.1 s.2 ∧ (s.1 ∉ full mid ∨ s.2 ∉ full mid)) ∨ (0 < crs s.2 s.1 ∧ (s.2, s.1) ∉ edges (full m0) ∧ (s.1 ∈ full mid → s.2 ∈ full mid → (s.2, s.1) ∈ edges (full mid)))
def OnSide (s : Sd) : Prop := (s.1.1 ≤ 0 ∧ s.2.1 ≤ 0) ∨ (0 ≤ s.1.1 ∧ 0 ≤ s.2.1)
structure TI (m0 mid : List P2) (S : List Sd) : Prop where
  row : RowG mid
  sub : ∀ x ∈ mid, x ∈ m0
  nd : S.Nodup
  i1 : ∀ e ∈ edges (full m0), e ∈ S ∨ e ∈ edges (full mid)
  i7 : ∀ e ∈ edges (full mid), e ∈ edges (full m0) ∨ rev e ∈ S
  i2 : ∀ s ∈ S, s ∈ edges (full m0) ∨ rev s ∈ S ∨ rev s ∈ edges (full mid)
  fw : ∀ s ∈ S, FwS m0 mid s
  side : ∀ s ∈ S, OnSide s
  mem : ∀ s ∈ S, s.1 ∈ full m0 ∧ s.2 ∈ full m0
theorem full_sub {m0 mid : List P2} (h : ∀ x ∈ mid, x ∈ m0) : ∀ x ∈ full mid, x ∈ full m0 := fun x hx => by
  unfold full at *
  rw [List.cons_append] at *
  rcases List.mem_cons.mp hx with rfl | hx
  · exact List.mem_cons_self
  · rcases List.mem_append.mp hx with hx | hx
    · exact List.mem_cons_of_mem _ (List.mem_append_left _ (h x hx))
    · exact List.mem_cons_of_mem _ (List.mem_append_right _ hx)
theorem TI.start {m0 : List P2} (h : RowG m0) : TI m0 m0 [] := ⟨h, fun _ h => h, by simp, fun e he => .inr he, fun e he => .inl he, by simp, by simp, by simp, by simp⟩
theorem TI.step {m0 A B P Q : List P2} {x y z : P2} {S : List Sd} (h0 : RowG m0) (I : TI m0 (A ++ x :: B) S) (hx : x ≠ (0, 1)) (e1 : ((-1, 0) : P2) :: A = P ++ [y]) (e2 : B ++ [((1, 0) : P2)] = z :: Q) (hc : crs y z = 1) : TI m0 (A ++ B) (S ++ sides3 (y, x, z)) := by
  have row' := I.row.pop hx e1 e2 hc
  have f1 : full (A ++ x :: B) = P ++ y :: x :: z :: Q := by
    have : full (A ++ x :: B) = (((-1, 0) : P2) :: A) ++ x :: (B ++ [(1, 0)]) := by simp [full]
    rw [this, e1, e2]; simp
  have f2 : full (A ++ B) = P ++ y :: z :: Q := by
    have : full (A ++ B) = (((-1, 0) : P2) :: A) ++ (B ++ [(1, 0)]) := by simp [full]
    rw [this, e1, e2]; simp
  have E1 : edges (full (A ++ x :: B)) = edges (P ++ [y]) ++ (y, x) :: (x, z) :: edges (z :: Q) := by
    rw [f1, edges_split]
    simp [edges]
  have E2 : edges (full (A ++ B)) = edges (P ++ [y]) ++ (y, z) :: edges (z :: Q) := by
    rw [f2, edges_split]
    simp [edges]
  have nd1 := I.row.full_nd
  have nd1' := nd1
  rw [f1] at nd1'
  have ed1 : (y, x) ∈ edges (full (A ++ x :: B)) := by rw [E1]; simp
  have ed2 : (x, z) ∈ edges (full (A ++ x :: B)) := by rw [E1]; simp
  have ed3 : (y, z) ∈ edges (full (A ++ B)) := by rw [E2]; simp
  have c1 : crs y x = 1 := edges_far I.row.far ed1
  have c2 : crs x z = 1 := edges_far I.row.far ed2
  have anti : ∀ u v : P2, crs v u = - crs u v := fun u v => by unfold crs; omega
  have my : y ∈ full (A ++ x :: B) := (edges_mem ed1).1
  have mx : x ∈ full (A ++ x :: B) := (edges_mem ed1).2
  have mz : z ∈ full (A ++ x :: B) := (edges_mem ed2).2
  have xn : x ∉ full (A ++ B) := by
    rw [f2]
    have nd2 : (P ++ y :: (x :: z :: Q)).Nodup := nd1'
    have e : P ++ y :: x :: z :: Q = (P ++ [y]) ++ x :: (z :: Q) := by simp
    rw [e] at nd1'
    have := (List.nodup_append.mp nd1')
    intro hm
    have e' : P ++ y :: z :: Q = (P ++ [y]) ++ (z :: Q) := by simp
    rw [e'] at hm
    rcases List.mem_append.mp hm with q | q
    · exact this.2.2 x q x List.mem_cons_self rfl
    · exact (List.nodup_cons.mp this.2.1).1 q
  have subF : ∀ w ∈ full (A ++ B), w ∈ full (A ++ x :: B) := fun w hw => by
    rw [f1]
    rw [f2] at hw
    simp only [List.mem_append, List.mem_cons] at hw ⊢
    rcases hw with h | h | h | h <;> simp [h]
  have nyz : (y, z) ∉ edges (full (A ++ x :: B)) := fun w => by
    rw [f1] at w
    have := edges_next nd1' w
    rw [this] at c2
    simp [crs] at c2
  have n1 : (y, x) ∉ S := fun w => by
    rcases I.fw _ w with ⟨_, q | q⟩ | ⟨q, _⟩
    · exact q my
    · exact q mx
    · have q' : 0 < crs x y := q
      rw [anti y x] at q'
      omega
  have n2 : (x, z) ∉ S := fun w => by
    rcases I.fw _ w with ⟨_, q | q⟩ | ⟨q, _⟩
    · exact q mx
    · exact q mz
    · have q' : 0 < crs z x := q
      rw [anti x z] at q'
      omega
  have n3 : (z, y) ∉ S := fun w => by
    rcases I.fw _ w with ⟨q, _⟩ | ⟨_, _, q⟩
    · have q' : 0 < crs z y := q
      rw [anti y z] at q'
      omega
    · exact nyz (q mz my)
  have nyx : y ≠ x := fun w => by rw [w] at c1; simp [crs] at c1
  have nxz : x ≠ z := fun w => by rw [w] at c2; simp [crs] at c2
  have hyz : y ≠ z := fun w => by rw [w] at hc; simp [crs] at hc
  refine ⟨row', fun w hw => I.sub w ?_, ?_, fun e he => ?_, fun e he => ?_, fun s hs => ?_, fun s hs => ?_, fun s hs => ?_, fun s hs => ?_⟩
  · rcases List.mem_append.mp hw with q | q
    · exact List.mem_append_left _ q
    · exact List.mem_append_right _ (List.mem_cons_of_mem _ q)
  · refine List.nodup_append.mpr ⟨I.nd, ?_, fun a ha b hb e => ?_⟩
    · simp [sides3, nyx, nxz, hyz, Ne.symm nyx, Ne.symm nxz, Ne.symm hyz]
    · subst e
      simp only [sides3, List.mem_cons, List.not_mem_nil, or_false] at hb
      rcases hb with rfl | rfl | rfl
      · exact n1 ha
      · exact n2 ha
      · exact n3 ha
  · rcases I.i1 e he with q | q
    · exact .inl (List.mem_append_left _ q)
    · rw [E1] at q
      simp only [List.mem_append, List.mem_cons] at q
      rcases q with q | rfl | rfl | q
      · right; rw [E2]; simp [q]
      · left; simp [sides3]
      · left; simp [sides3]
      · right; rw [E2]; simp [q]
  · rw [E2] at he
    simp only [List.mem_append, List.mem_cons] at he
    have old : e ∈ edges (full (A ++ x :: B)) → e ∈ edges (full m0) ∨ rev e ∈ S ++ sides3 (y, x, z) := fun q => (I.i7 e q).imp_right fun w => List.mem_append_left _ w
    rcases he with q | rfl | q
    · exact old (by rw [E1]; simp [q])
    · right; simp [sides3, rev]
    · exact old (by rw [E1]; simp [q])
  · rcases List.mem_append.mp hs with q | q
    · rcases I.i2 s q with w | w | w
      · exact .inl w
      · exact .inr (.inl (List.mem_append_left _ w))
      · rw [E1] at w
        simp only [List.mem_append, List.mem_cons] at w
        rcases w with w | w | w | w
        · right; right; rw [E2]; simp [w]
        · right; left; rw [w]; simp [sides3]
        · right; left; rw [w]; simp [sides3]
        · right; right; rw [E2]; simp [w]
    · simp only [sides3, List.mem_cons, List.not_mem_nil, or_false] at q
      rcases q with rfl | rfl | rfl
      · exact (I.i7 _ ed1).imp_right fun w => .inl (List.mem_append_left _ w)
      · exact (I.i7 _ ed2).imp_right fun w => .inl (List.mem_append_left _ w)
      · exact .inr (.inr ed3)
  · rcases List.mem_append.mp hs with q | q
    · rcases I.fw s q with ⟨w1, w2⟩ | ⟨w1, w2, w3⟩
      · exact .inl ⟨w1, w2.imp (fun v u => v (subF _ u)) (fun v u => v (subF _ u))⟩
      · refine .inr ⟨w1, w2, fun u1 u2 => ?_⟩
        have w := w3 (subF _ u1) (subF _ u2)
        rw [E1] at w
        rw [E2]
        simp only [List.mem_append, List.mem_cons] at w ⊢
        rcases w with w | w | w | w
        · exact .inl w
        · exfalso
          cases w
          exact xn u1
        · exfalso
          cases w
          exact xn u2
        · exact .inr (.inr w)
    · simp only [sides3, List.mem_cons, List.not_mem_nil, or_false] at q
      rcases q with rfl | rfl | rfl
      · exact .inl ⟨by show 0 < crs y x; omega, .inr xn⟩
      · exact .inl ⟨by show 0 < crs x z; omega, .inl xn⟩
      · refine .inr ⟨by show 0 < crs y z; omega, fun w => ?_, fun _ _ => ed3⟩
        have xm0 : x ∈ full m0 := full_sub I.sub x mx
        rcases edges_gap h0.full_pw w xm0 with q | q | q | q
        · exact nyx q.symm
        · exact nxz q
        · exact lt2_no q c1
        · exact lt2_no q c2
  · rcases List.mem_append.mp hs with q | q
    · exact I.side s q
    · have s1 := I.row.edge_side ed1
      have s2 := I.row.edge_side ed2
      dsimp only at s1 s2
      have x0 : x.1 ≠ 0 := fun w => by
        have xm : x ∈ A ++ x :: B := by simp
        have hx2 := I.row.pos x xm
        have c1' : x.1 * y.2 - y.1 * x.2 = 1 := c1
        rw [w] at c1'
        have : -y.1 * x.2 = 1 := by rw [Int.neg_mul]; omega
        have hx21 : x.2 = 1 := Int.eq_one_of_dvd_one (by omega) ⟨-y.1, by rw [Int.mul_comm]; exact this.symm⟩
        exact hx (Prod.ext w hx21)
      simp only [sides3, List.mem_cons, List.not_mem_nil, or_false] at q
      unfold OnSide
      rcases q with rfl | rfl | rfl
      · dsimp only; omega
      · dsimp only; omega
      · dsimp only; omega
  · rcases List.mem_append.mp hs with q | q
    · exact I.mem s q
    · have fs := full_sub I.sub
      simp only [sides3, List.mem_cons, List.not_mem_nil, or_false] at q
      rcases q with rfl | rfl | rfl
      · exact ⟨fs _ my, fs _ mx⟩
      · exact ⟨fs _ mx, fs _ mz⟩
      · exact ⟨fs _ mz, fs _ my⟩
def prj (x : P2) : P2 := if x = (-1, 0) then (1, 0) else x
def prjS (s : Sd) : Sd := (prj s.1, prj s.2)
abbrev sA : Sd := ((-1, 0), (0, 1))
abbrev sB : Sd := ((0, 1), (1, 0))
theorem prj_eq {x y : P2} (h : prj x = prj y) : x = y ∨ (x = (-1, 0) ∧ y = (1, 0)) ∨ (x = (1, 0) ∧ y = (-1, 0)) := by
  unfold prj at h
  split at h
  · split at h
    · left; rw [‹x = _›, ‹y = _›]
    · exact .inr (.inl ⟨‹_›, h.symm⟩)
  · split at h
    · exact .inr (.inr ⟨h, ‹_›⟩)
    · exact .inl h
/-- a side: on one side of 0/1, of determinant 1 or -1 -/
structure IsSd (s : Sd) : Prop where
  side : OnSide s
  det : crs s.1 s.2 = 1 ∨ crs s.1 s.2 = -1
theorem prjS_eq {s t : Sd} (hs : IsSd s) (ht : IsSd t) (h : prjS s = prjS t) (q1 : 0 ≤ s.1.2 ∧ 0 ≤ s.2.2 ∧ 0 ≤ t.1.2 ∧ 0 ≤ t.2.2) : s = t ∨ (s = sA ∧ t = rev sB) ∨ (s = rev sB ∧ t = sA) ∨ (s = sB ∧ t = rev sA) ∨ (s = rev sA ∧ t = sB) := by
  obtain ⟨s1, s2⟩ := s
  obtain ⟨t1, t2⟩ := t
  unfold prjS at h
  simp only [Prod.mk.injEq] at h
  obtain ⟨h1, h2⟩ := h
  obtain ⟨ha, hb⟩ := hs
  obtain ⟨hc, hd⟩ := ht
  unfold OnSide at ha hc
  dsimp only at *
  have z01 : ∀ {w : P2}, w.1 = 0 → 0 ≤ w.2 → (w.2 = 1 ∨ w.2 = -1) → w = (0, 1) := fun {w} a b c => Prod.ext a (by dsimp only; omega)
  rcases prj_eq h1 with rfl | ⟨rfl, rfl⟩ | ⟨rfl, rfl⟩
  · rcases prj_eq h2 with rfl | ⟨rfl, rfl⟩ | ⟨rfl, rfl⟩
    · exact .inl rfl
    · have e : s1 = (0, 1) := by
        refine z01 ?_ q1.1 ?_
        · dsimp only at ha hc; omega
        · unfold crs at hb; dsimp only at hb; omega
      subst e
      right; right; right; right
      exact ⟨rfl, rfl⟩
    · have e : s1 = (0, 1) := by
        refine z01 ?_ q1.1 ?_
        · dsimp only at ha hc; omega
        · unfold crs at hb; dsimp only at hb; omega
      subst e
      right; right; right; left
      exact ⟨rfl, rfl⟩
  · rcases prj_eq h2 with rfl | ⟨rfl, rfl⟩ | ⟨rfl, rfl⟩
    · have e : s2 = (0, 1) := by
        refine z01 ?_ q1.2.1 ?_
        · dsimp only at ha hc; omega
        · unfold crs at hb; dsimp only at hb; omega
      subst e
      right; left
      exact ⟨rfl, rfl⟩
    · exfalso
      unfold crs at hb
      simp at hb
    · exfalso
      unfold crs at hb
      simp at hb
  · rcases prj_eq h2 with rfl | ⟨rfl, rfl⟩ | ⟨rfl, rfl⟩
    · have e : s2 = (0, 1) := by
        refine z01 ?_ q1.2.1 ?_
        · dsimp only at ha hc; omega
        · unfold crs at hb; dsimp only at hb; omega
      subst e
      right; right; left
      exact ⟨rfl, rfl⟩
    · exfalso
      unfold crs at hb
      simp at hb
    · exfalso
      unfold crs at hb
      simp at hb
/-- the sides of the tiles, and the gaps among them -/
structure Sides (PE PS : List Sd) : Prop where
  nd : PS.Nodup
  pe : PE.Nodup
  sub : ∀ e ∈ PE, e ∈ PS
  inv : ∀ s ∈ PS, s ∈ PE ∨ (rev s ∈ PS ∧ rev s ∉ PE)
theorem nodup_mapP {α β : Type} {f : α → β} : ∀ {l : List α}, l.Nodup → (∀ a ∈ l, ∀ b ∈ l, f a = f b → a = b) → (l.map f).Nodup
  | [], _, _ => by simp
  | a :: l, hn, h => by
    obtain ⟨h1, h2⟩ := List.nodup_cons.mp hn
    rw [List.map_cons, List.nodup_cons]
    refine ⟨fun z => ?_, nodup_mapP h2 fun x hx y hy => h x (List.mem_cons_of_mem _ hx) y (List.mem_cons_of_mem _ hy)⟩
    obtain ⟨b, hb, e⟩ := List.mem_map.mp z
    have := h b (List.mem_cons_of_mem _ hb) a List.mem_cons_self e
    exact h1 (this ▸ hb)
theorem edge01 {m0 : List P2} (h0 : RowG m0) (hl : 2 ≤ m0.length) : ¬ (sA ∈ edges (full m0) ∧ sB ∈ edges (full m0)) := by
  rintro ⟨a, b⟩
  -- another one than 0/1 lies on one of the sides
  have nd := h0.full_nd
  obtain ⟨w, hw, hw0⟩ : ∃ w ∈ m0, w ≠ (0, 1) := by
    have nd' : m0.Nodup := h0.srt.imp fun q w => by
      subst w
      unfold crs at q
      omega
    match m0, hl, nd' with
    | a :: b :: m, _, nd' =>
      by_cases ha : a = (0, 1)
      · refine ⟨b, by simp, fun hb => ?_⟩
        rw [ha, hb] at nd'
        simp at nd'
      · exact ⟨a, by simp, ha⟩
  have hwf : w ∈ full m0 := by
    unfold full
    rw [List.cons_append]
    exact List.mem_cons_of_mem _ (List.mem_append_left _ hw)
  have hq := h0.pos w hw
  have g1 := edges_gap h0.full_pw a hwf
  have g2 := edges_gap h0.full_pw b hwf
  dsimp only at g1 g2
  rcases g1 with q | q | q | q
  · rw [q] at hq; simp at hq
  · exact hw0 q
  · rcases q with q | ⟨q, _⟩
    · unfold crs at q; simp at q; omega
    · rw [q] at hq; simp at hq
  · rcases g2 with p | p | p | p
    · exact hw0 p
    · rw [p] at hq; simp at hq
    · rcases q with q | ⟨q, _⟩
      · rcases p with p | ⟨p, _⟩
        · unfold crs at p q; simp at p q; omega
        · rw [p] at hq; simp at hq
      · simp at q
    · rcases p with p | ⟨_, p⟩
      · unfold crs at p; simp at p; omega
      · rw [p] at hq; simp at hq
theorem TI.done {m0 : List P2} {S : List Sd} (h0 : RowG m0) (hl : 2 ≤ m0.length) (I : TI m0 [(0, 1)] S) (hdet : ∀ s ∈ S, crs s.1 s.2 = 1 ∨ crs s.1 s.2 = -1) : Sides ((edges (full m0)).map prjS) (S.map prjS) := by
  have Lend : full [((0, 1) : P2)] = [(-1, 0), (0, 1), (1, 0)] := rfl
  have Eend : edges (full [((0, 1) : P2)]) = [sA, sB] := rfl
  have sdS : ∀ s ∈ S, IsSd s := fun s hs => ⟨I.side s hs, hdet s hs⟩
  have sdE : ∀ e ∈ edges (full m0), IsSd e := fun e he => ⟨by
    have := h0.edge_side he
    unfold OnSide
    omega, .inl (edges_far h0.far he)⟩
  have qS : ∀ s ∈ S, 0 ≤ s.1.2 ∧ 0 ≤ s.2.2 := fun s hs => ⟨h0.q0 (I.mem s hs).1, h0.q0 (I.mem s hs).2⟩
  have qE : ∀ e ∈ edges (full m0), 0 ≤ e.1.2 ∧ 0 ≤ e.2.2 := fun e he => ⟨h0.q0 (edges_mem he).1, h0.q0 (edges_mem he).2⟩
  have inL : ∀ x : P2, x = (-1, 0) ∨ x = (0, 1) ∨ x = (1, 0) → x ∈ full [((0, 1) : P2)] := fun x hx => by rw [Lend]; simpa using hx
  have An : sA ∉ S := fun w => by
    rcases I.fw _ w with ⟨_, q | q⟩ | ⟨q, _⟩
    · exact q (inL _ (.inl rfl))
    · exact q (inL _ (.inr (.inl rfl)))
    · revert q; decide
  have Bn : sB ∉ S := fun w => by
    rcases I.fw _ w with ⟨_, q | q⟩ | ⟨q, _⟩
    · exact q (inL _ (.inr (.inl rfl)))
    · exact q (inL _ (.inr (.inr rfl)))
    · revert q; decide
  have backE : ∀ s : Sd, crs s.1 s.2 = -1 → s ∉ edges (full m0) := fun s hs w => by
    have := edges_far h0.far w
    omega
  have rA : rev sA ∉ edges (full m0) := backE _ (by decide)
  have rB : rev sB ∉ edges (full m0) := backE _ (by decide)
  have A7 : sA ∈ edges (full m0) ∨ rev sA ∈ S := I.i7 _ (by rw [Eend]; simp)
  have B7 : sB ∈ edges (full m0) ∨ rev sB ∈ S := I.i7 _ (by rw [Eend]; simp)
  have no2 := edge01 h0 hl
  have pA : prjS (rev sB) = prjS sA := by decide
  have pB : prjS (rev sA) = prjS sB := by decide
  have prev : ∀ s, rev (prjS s) = prjS (rev s) := fun s => rfl
  refine ⟨nodup_mapP I.nd fun a ha b hb e => ?_, nodup_mapP (edges_nodup h0.full_nd) fun a ha b hb e => ?_, fun e he => ?_, fun s hs => ?_⟩
  · rcases prjS_eq (sdS a ha) (sdS b hb) e ⟨(qS a ha).1, (qS a ha).2, (qS b hb).1, (qS b hb).2⟩ with q | ⟨q, _⟩ | ⟨_, q⟩ | ⟨q, _⟩ | ⟨_, q⟩
    · exact q
    · exact absurd (q ▸ ha) An
    · exact absurd (q ▸ hb) An
    · exact absurd (q ▸ ha) Bn
    · exact absurd (q ▸ hb) Bn
  · rcases prjS_eq (sdE a ha) (sdE b hb) e ⟨(qE a ha).1, (qE a ha).2, (qE b hb).1, (qE b hb).2⟩ with q | ⟨_, q⟩ | ⟨q, _⟩ | ⟨_, q⟩ | ⟨q, _⟩
    · exact q
    · exact absurd (q ▸ hb) rB
    · exact absurd (q ▸ ha) rB
    · exact absurd (q ▸ hb) rA
    · exact absurd (q ▸ ha) rA
  · obtain ⟨e0, h1, rfl⟩ := List.mem_map.mp he
    rcases I.i1 e0 h1 with q | q
    · exact List.mem_map.mpr ⟨e0, q, rfl⟩
    · rw [Eend] at q
      simp only [List.mem_cons, List.not_mem_nil, or_false] at q
      rcases q with rfl | rfl
      · rcases B7 with w | w
        · exact absurd ⟨h1, w⟩ no2
        · exact List.mem_map.mpr ⟨_, w, pA⟩
      · rcases A7 with w | w
        · exact absurd ⟨w, h1⟩ no2
        · exact List.mem_map.mpr ⟨_, w, pB⟩
  · obtain ⟨t, ht, rfl⟩ := List.mem_map.mp hs
    by_cases hE : prjS t ∈ (edges (full m0)).map prjS
    · exact .inl hE
    · right
      have tE : t ∉ edges (full m0) := fun w => hE (List.mem_map.mpr ⟨t, w, rfl⟩)
      -- no gap is t the other way about
      have noE : ∀ u : Sd, prjS u = prjS (rev t) → u ∉ edges (full m0) → IsSd u → 0 ≤ u.1.2 ∧ 0 ≤ u.2.2 → (u = rev sB → sA ∉ edges (full m0)) → (u = rev sA → sB ∉ edges (full m0)) → prjS (rev t) ∉ (edges (full m0)).map prjS := fun u hu hn hs hq hA hB w => by
        obtain ⟨e, he, ee⟩ := List.mem_map.mp w
        rcases prjS_eq hs (sdE e he) (hu.trans ee.symm) ⟨hq.1, hq.2, (qE e he).1, (qE e he).2⟩ with q | ⟨_, q⟩ | ⟨q, q'⟩ | ⟨_, q⟩ | ⟨q, q'⟩
        · exact hn (q ▸ he)
        · exact rB (q ▸ he)
        · exact hA q (q' ▸ he)
        · exact rA (q ▸ he)
        · exact hB q (q' ▸ he)
      have noEt : rev t ∉ edges (full m0) := fun w => by
        rcases I.fw t ht with ⟨q, _⟩ | ⟨_, q, _⟩
        · have c := edges_far h0.far w
          have : crs t.2 t.1 = - crs t.1 t.2 := by unfold crs; omega
          have c' : crs t.2 t.1 = 1 := c
          omega
        · exact q w
      rcases I.i2 t ht with q | q | q
      · exact absurd q tE
      · refine ⟨List.mem_map.mpr ⟨rev t, q, rfl⟩, noE (rev t) rfl noEt (sdS _ q) (qS _ q) (fun w => ?_) fun w => ?_⟩
        · exact absurd (show sB ∈ S by have : t = sB := by rw [← show rev (rev t) = t from rfl, w]; rfl
                                       rw [← this]; exact ht) Bn
        · exact absurd (show sA ∈ S by have : t = sA := by rw [← show rev (rev t) = t from rfl, w]; rfl
                                       rw [← this]; exact ht) An
      · rw [Eend] at q
        simp only [List.mem_cons, List.not_mem_nil, or_false] at q
        rcases q with q | q
        · -- t is A the other way about
          have tA : t = rev sA := by rw [← show rev (rev t) = t from rfl, q]
          rcases B7 with w | w
          · exact absurd (List.mem_map.mpr ⟨sB, w, by rw [tA, pB]⟩) hE
          · refine ⟨List.mem_map.mpr ⟨rev sB, w, by rw [prev, q]; exact pA⟩, noE (rev sB) (by rw [q]; exact pA) rB (sdS _ w) (qS _ w) (fun _ z => ?_) fun z => absurd z (by decide)⟩
            exact noEt (by rw [q]; exact z)
        · have tB : t = rev sB := by rw [← show rev (rev t) = t from rfl, q]
          rcases A7 with w | w
          · exact absurd (List.mem_map.mpr ⟨sA, w, by rw [tB, pA]⟩) hE
          · refine ⟨List.mem_map.mpr ⟨rev sA, w, by rw [prev, q]; exact pB⟩, noE (rev sA) (by rw [q]; exact pB) rA (sdS _ w) (qS _ w) (fun z => absurd z (by decide)) fun _ z => ?_⟩
            exact noEt (by rw [q]; exact z)
end DL
set_option Elab.async false
set_option maxRecDepth 100000
set_option maxHeartbeats 4000000
namespace DL
open PySem L2
noncomputable def wl_tiles : M Fl := seqM (setS 1 (callB fListU (argC (getM 0) (argN))))
  (seqM (setS 2 (lstM (argN)))
  (seqM (whileC (tcmp fGt (callB fLen (argC (getM 1) (argN))) (cst (.int 2))) (forS (asgR 3) (itR2 (argC (cst (.int 1)) (argC (callB fLen (argC (getM 1) (argN))) (argN)))) (seqM (setS 4 (DL.bin fIx (getM 1) (DL.bin fSub (getM 3) (cst (.int 1)))))
  (seqM (setS 5 (DL.bin fIx (getM 1) (DL.bin fMod (DL.bin fAdd (getM 3) (cst (.int 1))) (callB fLen (argC (getM 1) (argN))))))
  (ifS (DL.andM (tcmp fNe (DL.bin fIx (getM 1) (getM 3)) (tupM (argC (cst (.int 0)) (argC (cst (.int 1)) (argN))))) (tcmp fEq (callB fAbs (argC (DL.bin fSub (DL.bin fMulI (DL.bin fIx (getM 4) (cst (.int 0))) (DL.bin fIx (getM 5) (cst (.int 1)))) (DL.bin fMulI (DL.bin fIx (getM 4) (cst (.int 1))) (DL.bin fIx (getM 5) (cst (.int 0))))) (argN))) (cst (.int 1)))) (seqM (exS (apE (getM 2) (tupM (argC (getM 4) (argC (DL.bin fIx (getM 1) (getM 3)) (argC (getM 5) (argN)))))))
  (seqM (exS (muE fPopAt (getM 1) (argC (getM 3) (argN))))
  (M.ret .bk))) (nilS))))))
  (retS (getM 2))))
noncomputable def fl_tiles : List D → FO := runF 5 wl_tiles
def tlB : M Fl := (seqM (setS 4 (DL.bin fIx (getM 1) (DL.bin fSub (getM 3) (cst (.int 1)))))
  (seqM (setS 5 (DL.bin fIx (getM 1) (DL.bin fMod (DL.bin fAdd (getM 3) (cst (.int 1))) (callB fLen (argC (getM 1) (argN))))))
  (ifS (DL.andM (tcmp fNe (DL.bin fIx (getM 1) (getM 3)) (tupM (argC (cst (.int 0)) (argC (cst (.int 1)) (argN))))) (tcmp fEq (callB fAbs (argC (DL.bin fSub (DL.bin fMulI (DL.bin fIx (getM 4) (cst (.int 0))) (DL.bin fIx (getM 5) (cst (.int 1)))) (DL.bin fMulI (DL.bin fIx (getM 4) (cst (.int 1))) (DL.bin fIx (getM 5) (cst (.int 0))))) (argN))) (cst (.int 1)))) (seqM (exS (apE (getM 2) (tupM (argC (getM 4) (argC (DL.bin fIx (getM 1) (getM 3)) (argC (getM 5) (argN)))))))
  (seqM (exS (muE fPopAt (getM 1) (argC (getM 3) (argN))))
  (M.ret .bk))) (nilS))))
def tlC : M Bool := tcmp fGt (callB fLen (argC (getM 1) (argN))) (cst (.int 2))
theorem wl_tiles_eq : wl_tiles = seqM (setS 1 (callB fListU (argC (getM 0) (argN)))) (seqM (setS 2 (lstM (argN))) (seqM (whileC tlC (forS (asgR 3) (itR2 (argC (cst (.int 1)) (argC (callB fLen (argC (getM 1) (argN))) (argN)))) tlB)) (retS (getM 2)))) := rfl
def tlD (t : P2 × P2 × P2) : D := .tuple [fD t.1, fD t.2.1, fD t.2.2]
abbrev tlS (x0 : Option T) (mid : List P2) (ts : List (P2 × P2 × P2)) (x3 x4 x5 : Option T) : Rho := [x0, some (.lst none ((Fs mid).map fD)), some (.lst none (ts.map tlD)), x3, x4, x5]
/-- whether the i-th of a row may go -/
def earB (a x b : P2) : Bool := !decide (x.1 = 0 ∧ x.2 = 1) && decide ((a.1 * b.2 - a.2 * b.1).natAbs = 1)
theorem tl_one {mid : List P2} {ts : List (P2 × P2 × P2)} {i j : Nat} {a x b : P2} {N : Nat} (hj : j = (i + 1) % (mid.length + 1)) (hN : N ≤ 1000) (h1 : 1 ≤ i) (hi : i ≤ mid.length) (hl : mid.length ≤ 1000) (ht : ts.length ≤ 1000) (ea : (Fs mid)[i - 1]? = some a) (ex : (Fs mid)[i]? = some x) (eb : (Fs mid)[j]? = some b)
    (ba : a.1.natAbs < 2 ^ N ∧ a.2.natAbs < 2 ^ N) (bb : b.1.natAbs < 2 ^ N ∧ b.2.natAbs < 2 ^ N) (x0 x4 x5 : Option T) :
    tlB (tlS x0 mid ts (some (.val (.int i))) x4 x5) = if earB a x b then .ok .bk [x0, some (.lst none (((Fs mid).eraseIdx i).map fD)), some (.lst none ((ts ++ [(a, x, b)]).map tlD)), some (.val (.int i)), some (.val (fD a)), some (.val (fD b))]
      else .ok .nx (tlS x0 mid ts (some (.val (.int i))) (some (.val (fD a))) (some (.val (fD b)))) := by
  have hfl : ((Fs mid).map fD).length = mid.length + 1 := by simp
  have e1 := fr_at ea
  have e2 := fr_at ex
  have e3 := fr_at eb
  rw [show ((i - 1 : Nat) : Int) = (i : Int) - 1 by omega] at e1
  have hm : ((i : Int) + 1).fmod ((mid.length : Int) + 1) = (j : Int) := by
    rw [Int.fmod_eq_emod_of_nonneg _ (by omega), hj]
    simp
  have n1 : (mid.length : Int) + 1 ≠ 0 := by omega
  have m1 := bMul_of N N ba.1 bb.2 (by omega)
  have m2 := bMul_of N N ba.2 bb.1 (by omega)
  have pp : fPopAt ((Fs mid).map fD) [.int (i : Int)] = some (((Fs mid).eraseIdx i).map fD, fD x) := by
    rw [fPopAt_nat (k := i) (d := fD x) (by rw [List.getElem?_map, ex]; rfl) (by rw [hfl]; omega)]
    congr 2
    rw [List.eraseIdx_eq_take_drop_succ, List.eraseIdx_eq_take_drop_succ, List.map_append, List.map_take, List.map_drop]
  have tl : (ts.map tlD).length < 16777216 := by simp; omega
  have et : (ts ++ [(a, x, b)]).map tlD = ts.map tlD ++ [.tuple [.tuple [.int a.1, .int a.2], .tuple [.int x.1, .int x.2], .tuple [.int b.1, .int b.2]]] := by simp [tlD, fD]
  have fa : fD a = .tuple [.int a.1, .int a.2] := rfl
  have fb : fD b = .tuple [.int b.1, .int b.2] := rfl
  have fx : fD x = .tuple [.int x.1, .int x.2] := rfl
  rw [et, fa, fb]
  rw [fx] at pp
  unfold earB tlB tlS
  generalize ((Fs mid).eraseIdx i).map fD = row' at *
  generalize (Fs mid).map fD = row at *
  generalize ts.map tlD = tss at *
  by_cases c1 : x.1 = 0 ∧ x.2 = 1
  · obtain ⟨c1a, c1b⟩ := c1
    rw [c1a, c1b] at e2
    simp [hfl, e1, e2, e3, hm, n1, c1a, c1b]
  · by_cases c2 : (a.1 * b.2 - a.2 * b.1).natAbs = 1
    · have c3 : (((a.1 * b.2 - a.2 * b.1).natAbs : Nat) : Int) = 1 := by omega
      simp [hfl, e1, e2, e3, hm, n1, c1, c2, c3, m1, m2, pp, tl]
    · have c3 : ¬ (((a.1 * b.2 - a.2 * b.1).natAbs : Nat) : Int) = 1 := by omega
      simp [hfl, e1, e2, e3, hm, n1, c1, c2, c3, m1, m2]
theorem prj_mid {x : P2} (h : 1 ≤ x.2) : prj x = x := by
  unfold prj
  rw [if_neg]
  intro z
  rw [z] at h
  simp at h
/-- the neighbours, as the row tells them -/
theorem nbr_at {A B P Q : List P2} {x y z : P2} (h : RowG (A ++ x :: B)) (e1 : ((-1, 0) : P2) :: A = P ++ [y]) (e2 : B ++ [((1, 0) : P2)] = z :: Q) :
    (Fs (A ++ x :: B))[A.length]? = some (prj y) ∧ (Fs (A ++ x :: B))[A.length + 1]? = some x ∧ (Fs (A ++ x :: B))[(A.length + 1 + 1) % ((A ++ x :: B).length + 1)]? = some (prj z) ∧ (Fs (A ++ x :: B)).eraseIdx (A.length + 1) = Fs (A ++ B) := by
  have la : (A ++ x :: B).length = A.length + 1 + B.length := by simp; omega
  refine ⟨?_, ?_, ?_, ?_⟩
  · cases A with
    | nil =>
      have : P = [] ∧ y = (-1, 0) := by
        cases P with
        | nil => simp at e1; exact ⟨rfl, e1.symm⟩
        | cons a P => simp at e1
      rw [this.2]
      rfl
    | cons a A =>
      have hy : (((-1, 0) : P2) :: a :: A).getLast? = some y := by rw [e1]; simp
      have hy2 : (a :: A).getLast? = some y := by
        rw [List.getLast?_cons_cons] at hy
        exact hy
      have hm : y ∈ a :: A := List.mem_of_getLast? hy2
      rw [prj_mid (h.pos y (List.mem_append_left _ hm)), List.length_cons, List.getElem?_cons_succ, List.getElem?_append_left (by simp)]
      rw [List.getLast?_eq_getElem?] at hy2
      simpa using hy2
  · rw [List.getElem?_cons_succ, List.getElem?_append_right (Nat.le_refl _)]
    simp
  · cases B with
    | nil =>
      simp at e2
      rw [la]
      simp only [List.length_nil, Nat.add_zero]
      rw [Nat.mod_self, ← e2.1]
      rfl
    | cons b B =>
      simp at e2
      rw [la, Nat.mod_eq_of_lt (by simp), List.getElem?_cons_succ, List.getElem?_append_right (by omega), ← e2.1, prj_mid (h.pos b (by simp))]
      simp
  · show ((1, 0) :: (A ++ x :: B)).eraseIdx (A.length + 1) = (1, 0) :: (A ++ B)
    rw [List.eraseIdx_cons_succ, List.eraseIdx_append_of_length_le (Nat.le_refl _)]
    simp
theorem ear_iff {A B P Q : List P2} {x y z : P2} (h : RowG (A ++ x :: B)) (e1 : ((-1, 0) : P2) :: A = P ++ [y]) (e2 : B ++ [((1, 0) : P2)] = z :: Q) (hl : 2 ≤ (A ++ x :: B).length) :
    earB (prj y) x (prj z) = true ↔ x ≠ (0, 1) ∧ crs y z = 1 := by
  have f1 : full (A ++ x :: B) = (((-1, 0) : P2) :: A) ++ x :: (B ++ [(1, 0)]) := by simp [full]
  have my : y ∈ ((-1, 0) : P2) :: A := by rw [e1]; simp
  have mz : z ∈ B ++ [((1, 0) : P2)] := by rw [e2]; simp
  have pw := h.full_pw
  rw [f1] at pw
  have hyz : lt2 y z := (List.pairwise_append.mp pw).2.2 y my z (List.mem_cons_of_mem _ mz)
  have hx : (x.1 = 0 ∧ x.2 = 1) ↔ x = (0, 1) := ⟨fun q => Prod.ext q.1 q.2, fun q => by rw [q]; exact ⟨rfl, rfl⟩⟩
  have hc : ((prj y).1 * (prj z).2 - (prj y).2 * (prj z).1).natAbs = 1 ↔ crs y z = 1 := by
    have key : ((prj y).1 * (prj z).2 - (prj y).2 * (prj z).1).natAbs = (crs y z).natAbs := by
      rcases List.mem_cons.mp my with rfl | my
      · rcases List.mem_append.mp mz with mz | mz
        · rw [prj_mid (h.pos z (by simp [mz]))]
          simp [prj, crs]
        · rw [List.mem_singleton.mp mz]
          simp [prj, crs]
      · have py := prj_mid (h.pos y (by simp [my]))
        rw [py]
        rcases List.mem_append.mp mz with mz | mz
        · rw [prj_mid (h.pos z (by simp [mz]))]
          unfold crs
          have : y.1 * z.2 - y.2 * z.1 = -(z.1 * y.2 - y.1 * z.2) := by rw [Int.mul_comm y.2 z.1]; omega
          rw [this, Int.natAbs_neg]
        · rw [List.mem_singleton.mp mz]
          simp [prj, crs]
    rw [key]
    rcases hyz with q | ⟨rfl, rfl⟩
    · omega
    · simp [crs]
  unfold earB
  rw [Bool.and_eq_true, decide_eq_true_eq, hc, Bool.not_eq_true', decide_eq_false_iff_not, hx]
/-- one tile is drawn -/
theorem tl_turn {mid : List P2} {ts : List (P2 × P2 × P2)} {N : Nat} (h : RowG mid) (hl : 2 ≤ mid.length) (hl2 : mid.length ≤ 1000) (ht : ts.length ≤ 1000) (hN : 1 ≤ N ∧ N ≤ 1000) (hb : ∀ w ∈ mid, w.1.natAbs < 2 ^ N ∧ w.2.natAbs < 2 ^ N) (x0 x3 x4 x5 : Option T) :
    ∃ (A : List P2) (x : P2) (B P : List P2) (y z : P2) (Q : List P2) (y3 y4 y5 : Option T), mid = A ++ x :: B ∧ x ≠ (0, 1) ∧ ((-1, 0) : P2) :: A = P ++ [y] ∧ B ++ [((1, 0) : P2)] = z :: Q ∧ crs y z = 1 ∧
      forM (asgR 3) tlB (irange (1 : Int) mid.length) (tlS x0 mid ts x3 x4 x5) = .ok .nx (tlS x0 (A ++ B) (ts ++ [(prj y, x, prj z)]) y3 y4 y5) := by
  have two : 1 < 2 ^ N := Nat.one_lt_two_pow (by omega)
  have hbF : ∀ w ∈ Fs mid, w.1.natAbs < 2 ^ N ∧ w.2.natAbs < 2 ^ N := fun w hw => by
    rcases List.mem_cons.mp hw with rfl | hw
    · simp; omega
    · exact hb w hw
  -- at each place
  have split : ∀ k, 1 ≤ k → k ≤ mid.length → ∃ (A : List P2) (x : P2) (B P : List P2) (y z : P2) (Q : List P2), mid = A ++ x :: B ∧ A.length + 1 = k ∧ ((-1, 0) : P2) :: A = P ++ [y] ∧ B ++ [((1, 0) : P2)] = z :: Q := fun k h1 h2 => by
    have e : mid = mid.take (k - 1) ++ mid[k - 1]'(by omega) :: mid.drop k := by
      have := List.drop_eq_getElem_cons (l := mid) (i := k - 1) (by omega)
      rw [show k - 1 + 1 = k by omega] at this
      rw [← this, List.take_append_drop]
    obtain ⟨P, y, z, Q, e1, e2, _⟩ := nbrs (mid.take (k - 1)) (mid.drop k) (mid[k - 1]'(by omega))
    exact ⟨_, _, _, P, y, z, Q, e, by rw [List.length_take]; omega, e1, e2⟩
  have step : ∀ k, 1 ≤ k → k ≤ mid.length → ∀ (x3 x4 x5 : Option T), (∃ (A : List P2) (x : P2) (B P : List P2) (y z : P2) (Q : List P2) (y3 y4 y5 : Option T), mid = A ++ x :: B ∧ x ≠ (0, 1) ∧ ((-1, 0) : P2) :: A = P ++ [y] ∧ B ++ [((1, 0) : P2)] = z :: Q ∧ crs y z = 1 ∧
      tlB (tlS x0 mid ts (some (.val (.int k))) x4 x5) = .ok .bk (tlS x0 (A ++ B) (ts ++ [(prj y, x, prj z)]) y3 y4 y5)) ∨
      ((∃ y4 y5, tlB (tlS x0 mid ts (some (.val (.int k))) x4 x5) = .ok .nx (tlS x0 mid ts (some (.val (.int k))) y4 y5)) ∧ ∀ (A : List P2) (x : P2) (B P : List P2) (y z : P2) (Q : List P2), mid = A ++ x :: B → A.length + 1 = k → ((-1, 0) : P2) :: A = P ++ [y] → B ++ [((1, 0) : P2)] = z :: Q → ¬ (x ≠ (0, 1) ∧ crs y z = 1)) := by
    intro k h1 h2 x3 x4 x5
    obtain ⟨A, x, B, P, y, z, Q, em, hk, e1, e2⟩ := split k h1 h2
    subst em
    obtain ⟨a1, a2, a3, a4⟩ := nbr_at h e1 e2
    have i1 := ear_iff h e1 e2 hl
    have r := tl_one (x0 := x0) (x4 := x4) (x5 := x5) (mid := A ++ x :: B) (ts := ts) (i := k) (j := (k + 1) % ((A ++ x :: B).length + 1)) rfl hN.2 h1 h2 hl2 ht (by rw [← hk]; exact a1) (by rw [← hk]; exact a2) (by rw [← hk]; exact a3) (hbF _ (List.mem_of_getElem? a1)) (hbF _ (List.mem_of_getElem? a3))
    by_cases c : earB (prj y) x (prj z) = true
    · left
      rw [if_pos c] at r
      obtain ⟨q1, q2⟩ := i1.mp c
      refine ⟨A, x, B, P, y, z, Q, some (.val (.int (k : Nat))), some (.val (fD (prj y))), some (.val (fD (prj z))), rfl, q1, e1, e2, q2, ?_⟩
      rw [r]
      have e4 : (Fs (A ++ x :: B)).eraseIdx k = Fs (A ++ B) := by rw [← hk]; exact a4
      rw [e4]
    · right
      rw [if_neg c] at r
      refine ⟨⟨_, _, r⟩, fun A' x' B' P' y' z' Q' em' hk' e1' e2' => ?_⟩
      have hA : A = A' := by
        have l : A.length = A'.length := by omega
        exact (List.append_inj em' l).1
      have hB : x = x' ∧ B = B' := by
        have l : A.length = A'.length := by omega
        have := (List.append_inj em' l).2
        exact ⟨(List.cons.inj this).1, (List.cons.inj this).2⟩
      subst hA
      obtain ⟨rfl, rfl⟩ := hB
      have hy : y' = y := by
        rw [e1] at e1'
        have := List.append_inj_right' e1' rfl
        exact (List.cons.inj this).1.symm
      have hz : z' = z := by
        rw [e2] at e2'
        exact (List.cons.inj e2').1.symm
      rw [hy, hz]
      exact fun w => c (i1.mpr w)
  obtain ⟨A0, x0', B0, P0, y0, z0, Q0, em0, hx0, e10, e20, hc0⟩ := h.ear hl
  have loop : ∀ (m k : Nat) (x3 x4 x5 : Option T), 1 ≤ k → k + m = mid.length + 1 → k ≤ A0.length + 1 → ∃ (A : List P2) (x : P2) (B P : List P2) (y z : P2) (Q : List P2) (y3 y4 y5 : Option T), mid = A ++ x :: B ∧ x ≠ (0, 1) ∧ ((-1, 0) : P2) :: A = P ++ [y] ∧ B ++ [((1, 0) : P2)] = z :: Q ∧ crs y z = 1 ∧
      forM (asgR 3) tlB (irange (k : Int) m) (tlS x0 mid ts x3 x4 x5) = .ok .nx (tlS x0 (A ++ B) (ts ++ [(prj y, x, prj z)]) y3 y4 y5) := by
    intro m
    induction m with
    | zero =>
      intro k x3 x4 x5 h1 h2 h3
      exfalso
      have : mid.length = A0.length + 1 + B0.length := by rw [em0]; simp; omega
      omega
    | succ m ih =>
      intro k x3 x4 x5 h1 h2 h3
      have ep : asgR 3 (.tmp (.val (.int k))) (tlS x0 mid ts x3 x4 x5) = .ok () (tlS x0 mid ts (some (.val (.int k))) x4 x5) := by
        unfold tlS
        simp
      rcases step k h1 (by omega) x3 x4 x5 with ⟨A, x, B, P, y, z, Q, y3, y4, y5, q1, q2, q3, q4, q5, r⟩ | ⟨⟨y4, y5, r⟩, no⟩
      · refine ⟨A, x, B, P, y, z, Q, y3, y4, y5, q1, q2, q3, q4, q5, ?_⟩
        rw [irange_cons, forM_cons, bind_ap, ep, bnd_ok, r, bnd_ok, loop_bk]
      · have hk : k ≠ A0.length + 1 := fun w => no A0 x0' B0 P0 y0 z0 Q0 em0 w.symm e10 e20 ⟨hx0, hc0⟩
        obtain ⟨A, x, B, P, y, z, Q, z3, z4, z5, q1, q2, q3, q4, q5, r2⟩ := ih (k + 1) (some (.val (.int k))) y4 y5 (by omega) (by omega) (by omega)
        refine ⟨A, x, B, P, y, z, Q, z3, z4, z5, q1, q2, q3, q4, q5, ?_⟩
        rw [irange_cons, forM_cons, bind_ap, ep, bnd_ok, r, bnd_ok, loop_nx]
        exact r2
  exact loop mid.length 1 x3 x4 x5 (Nat.le_refl _) (by omega) (by omega)
end DL
set_option Elab.async false
set_option maxRecDepth 100000
set_option maxHeartbeats 4000000
namespace DL
open PySem L2
theorem edges_full_at {A B P Q : List P2} {x y z : P2} (e1 : ((-1, 0) : P2) :: A = P ++ [y]) (e2 : B ++ [((1, 0) : P2)] = z :: Q) : (y, x) ∈ edges (full (A ++ x :: B)) ∧ (x, z) ∈ edges (full (A ++ x :: B)) := by
  have f : full (A ++ x :: B) = P ++ y :: x :: z :: Q := by
    have : full (A ++ x :: B) = (((-1, 0) : P2) :: A) ++ x :: (B ++ [(1, 0)]) := by simp [full]
    rw [this, e1, e2]
    simp
  rw [f]
  exact edges_two
structure TilesOk (mid : List P2) (ts : List (P2 × P2 × P2)) : Prop where
  len : ts.length + 1 = mid.length
  sides : 2 ≤ mid.length → Sides ((edges (full mid)).map prjS) (ts.flatMap sides3)
theorem tiles_loop {m0 : List P2} {N : Nat} (h0 : RowG m0) (hN : 1 ≤ N ∧ N ≤ 1000) (hl : m0.length ≤ 1000) (hb : ∀ w ∈ m0, w.1.natAbs < 2 ^ N ∧ w.2.natAbs < 2 ^ N) (x0 : Option T) : ∀ (n : Nat) (mid : List P2) (ts : List (P2 × P2 × P2)) (S : List Sd) (x3 x4 x5 : Option T), mid.length = n + 1 → TI m0 mid S → S.map prjS = ts.flatMap sides3 → (∀ s ∈ S, crs s.1 s.2 = 1 ∨ crs s.1 s.2 = -1) → ts.length + mid.length = m0.length →
    ∃ (ts' : List (P2 × P2 × P2)) (S' : List Sd) (y3 y4 y5 : Option T), TI m0 [(0, 1)] S' ∧ S'.map prjS = ts'.flatMap sides3 ∧ (∀ s ∈ S', crs s.1 s.2 = 1 ∨ crs s.1 s.2 = -1) ∧ ts'.length + 1 = m0.length ∧
    whileC tlC (forS (asgR 3) (itR2 (argC (cst (.int 1)) (argC (callB fLen (argC (getM 1) (argN))) (argN)))) tlB) (tlS x0 mid ts x3 x4 x5) = .ok .nx (tlS x0 [(0, 1)] ts' y3 y4 y5) := by
  have cond : ∀ (mid : List P2) (ts : List (P2 × P2 × P2)) (x3 x4 x5 : Option T), tlC (tlS x0 mid ts x3 x4 x5) = .ok (decide (2 ≤ mid.length)) (tlS x0 mid ts x3 x4 x5) := fun mid ts x3 x4 x5 => by
    have hfl : ((Fs mid).map fD).length = mid.length + 1 := by simp
    unfold tlC tlS
    generalize (Fs mid).map fD = row at *
    generalize ts.map tlD = tss at *
    simp [hfl]
    omega
  intro n
  induction n with
  | zero =>
    intro mid ts S x3 x4 x5 hm I e1 e2 e3
    have hz := I.row.zero
    have em : mid = [(0, 1)] := by
      match mid, hm, hz with
      | [a], _, hz => rw [List.mem_singleton.mp hz]
    subst em
    refine ⟨ts, S, x3, x4, x5, I, e1, e2, e3, ?_⟩
    rw [while_ap, cond, bnd_ok]
    rfl
  | succ n ih =>
    intro mid ts S x3 x4 x5 hm I e1 e2 e3
    have hm2 : 2 ≤ mid.length := by omega
    obtain ⟨A, x, B, P, y, z, Q, y3, y4, y5, q1, q2, q3, q4, q5, r⟩ := tl_turn (mid := mid) (ts := ts) I.row hm2 (by omega) (by omega) hN (fun w hw => hb w (I.sub w hw)) x0 x3 x4 x5
    subst q1
    have ef := edges_full_at (x := x) q3 q4
    have far : Far (full (A ++ x :: B)) := I.row.far
    have d1 : crs y x = 1 := edges_far far ef.1
    have d2 : crs x z = 1 := edges_far far ef.2
    have d3 : crs z y = -1 := by
      unfold crs at q5 ⊢
      grind
    have hx1 : 1 ≤ x.2 := I.row.pos x (by simp)
    have st := TI.step h0 I q2 q3 q4 q5
    obtain ⟨ts', S', z3, z4, z5, w1, w2, w3, w4, w5⟩ := ih (A ++ B) (ts ++ [(prj y, x, prj z)]) (S ++ sides3 (y, x, z)) y3 y4 y5 (by simp at hm ⊢; omega) st (by
      rw [List.map_append, e1, List.flatMap_append]
      simp [sides3, prjS, prj_mid hx1]) (fun s hs => by
      rcases List.mem_append.mp hs with hs | hs
      · exact e2 s hs
      · simp only [sides3, List.mem_cons, List.not_mem_nil, or_false] at hs
        rcases hs with rfl | rfl | rfl
        · exact .inl d1
        · exact .inl d2
        · exact .inr d3) (by simp at e3 ⊢; omega)
    refine ⟨ts', S', z3, z4, z5, w1, w2, w3, w4, ?_⟩
    have hfl : ((Fs (A ++ x :: B)).map fD).length = (A ++ x :: B).length + 1 := by simp
    have ef : forS (asgR 3) (itR2 (argC (cst (.int 1)) (argC (callB fLen (argC (getM 1) (argN))) (argN)))) tlB (tlS x0 (A ++ x :: B) ts x3 x4 x5) = forM (asgR 3) tlB (irange (1 : Int) (A ++ x :: B).length) (tlS x0 (A ++ x :: B) ts x3 x4 x5) := by
      unfold tlS
      generalize (Fs (A ++ x :: B)).map fD = row at *
      generalize ts.map tlD = tss at *
      have r2 := fun ρ => rngO2_int ρ (i := 1) (j := ((A ++ x :: B).length : Int) + 1) (by omega) (by omega) (by omega) (by omega)
      rw [show (((A ++ x :: B).length : Int) + 1 - 1).toNat = (A ++ x :: B).length by omega] at r2
      generalize (A ++ x :: B).length = L at *
      simp [hfl, r2]
    rw [while_ap, cond, bnd_ok, if_pos (by simpa using hm2), bind_ap, ef, r, bnd_ok, loop_nx]
    exact w5
theorem tiles_ok {mid : List P2} {N : Nat} (h : RowG mid) (hN : 1 ≤ N ∧ N ≤ 1000) (hl : mid.length ≤ 1000) (hb : ∀ w ∈ mid, w.1.natAbs < 2 ^ N ∧ w.2.natAbs < 2 ^ N) : ∃ ts : List (P2 × P2 × P2), TilesOk mid ts ∧ fl_tiles [.tuple ((Fs mid).map fD)] = .ok (.lst none (ts.map tlD)) := by
  have h1 : 1 ≤ mid.length := by
    have := h.zero
    cases mid with
    | nil => cases this
    | cons _ _ => simp
  obtain ⟨ts, S, y3, y4, y5, w1, w2, w3, w4, w5⟩ := tiles_loop h hN hl hb (some (.val (.tuple ((Fs mid).map fD)))) (mid.length - 1) mid [] [] none none none (by omega) (TI.start h) rfl (by simp) (by simp)
  refine ⟨ts, ⟨w4, fun h2 => ?_⟩, ?_⟩
  · rw [← w2]
    exact TI.done h h2 w1 w3
  · have hfl : ((Fs mid).map fD).length = mid.length + 1 := by simp
    unfold fl_tiles
    rw [wl_tiles_eq, run_eq]
    generalize whileC tlC (forS (asgR 3) (itR2 (argC (cst (.int 1)) (argC (callB fLen (argC (getM 1) (argN))) (argN)))) tlB) = LP at *
    unfold tlS at w5
    generalize (Fs mid).map fD = row at *
    generalize (Fs [(0, 1)]).map fD = row1 at *
    generalize ts.map tlD = tss at *
    simp only [List.map_nil] at w5
    simp [w5]
end DL
set_option Elab.async false
set_option maxRecDepth 100000
set_option maxHeartbeats 4000000
namespace DL
open PySem L2
inductive Ky where
  | sd (s : Sd) | gp (g : Nat)
deriving DecidableEq
def sdD (s : Sd) : D := .tuple [fD s.1, fD s.2]
def kyD : Ky → D
  | .sd s => sdD s
  | .gp g => .int g
abbrev KyL := List (Ky × Ky)
def dD (l : KyL) : List (D × D) := l.map fun p => (kyD p.1, kyD p.2)
def getK : KyL → Ky → Option Ky
  | [], _ => none
  | (k, v) :: r, d => if k = d then some v else getK r d
def putK : KyL → Ky → Ky → KyL
  | [], d, v => [(d, v)]
  | (k, u) :: r, d, v => if k = d then (k, v) :: r else (k, u) :: putK r d v
theorem kyD_inj {a b : Ky} (h : kyD a = kyD b) : a = b := by
  cases a with
  | gp i => cases b with
    | gp j =>
      simp [kyD] at h
      have h : i = j := by omega
      rw [h]
    | sd s => simp [kyD, sdD] at h
  | sd s => cases b with
    | gp j => simp [kyD, sdD] at h
    | sd t =>
      simp [kyD, sdD, fD] at h
      obtain ⟨⟨a, b⟩, ⟨c, d⟩⟩ := s
      obtain ⟨⟨a', b'⟩, ⟨c', d'⟩⟩ := t
      simp at h
      rw [h.1.1, h.1.2, h.2.1, h.2.2]
theorem nkD_ky (k : Ky) : ∃ n, nkD (kyD k) = some n ∧ n.depth ≤ 8 := by
  cases k with
  | gp g => exact ⟨_, rfl, by simp [PySem.NestedKey.depth]⟩
  | sd s => exact ⟨_, rfl, by simp [PySem.NestedKey.depth, PySem.NestedKey.depthAll]⟩
theorem nkOf_ky (k : Ky) : (nkOf (kyD k)).isSome = true := by
  obtain ⟨n, h1, h2⟩ := nkD_ky k
  unfold nkOf
  rw [h1]
  simp [h2]
theorem keyEq_ky (a b : Ky) : keyEq (kyD a) (kyD b) = decide (a = b) := by
  obtain ⟨m, h1, _⟩ := nkD_ky a
  obtain ⟨n, h2, _⟩ := nkD_ky b
  rw [keyEq_some h1 h2]
  congr 1
  exact propext ⟨fun z => by
    subst z
    exact kyD_inj (nkD_inj h1 h2), fun z => by
    subst z
    exact Option.some.inj (h1.symm.trans h2)⟩
theorem kget_ky : ∀ (l : KyL) (k : Ky), kget (dD l) (kyD k) = (getK l k).map kyD
  | [], _ => rfl
  | (a, v) :: r, k => by
    have ih := kget_ky r k
    unfold dD at ih ⊢
    rw [List.map_cons]
    unfold kget getK
    dsimp only
    rw [keyEq_ky]
    by_cases h : a = k
    · simp [h]
    · simp [h, ih]
theorem kput_ky : ∀ (l : KyL) (k v : Ky), kput (dD l) (kyD k) (kyD v) = dD (putK l k v)
  | [], _, _ => rfl
  | (a, u) :: r, k, v => by
    have ih := kput_ky r k v
    unfold dD at ih ⊢
    rw [List.map_cons]
    unfold kput putK
    dsimp only
    rw [keyEq_ky]
    by_cases h : a = k
    · simp [h]
    · simp [h, ih]
theorem putK_get (k v k' : Ky) : ∀ l : KyL, getK (putK l k v) k' = if k = k' then some v else getK l k'
  | [] => by
    unfold putK getK
    rfl
  | (a, u) :: r => by
    have ih := putK_get k v k' r
    unfold putK
    by_cases h : a = k
    · rw [if_pos h]
      subst h
      unfold getK
      by_cases h2 : a = k'
      · simp [h2]
      · simp [h2]
    · rw [if_neg h]
      unfold getK
      by_cases h2 : a = k'
      · subst h2
        rw [if_pos rfl, if_neg (fun z => h z.symm), if_pos rfl]
      · rw [if_neg h2, if_neg h2, ih]
theorem putK_len (k v : Ky) : ∀ l : KyL, (putK l k v).length ≤ l.length + 1
  | [] => by simp [putK]
  | (a, u) :: r => by
    have ih := putK_len k v r
    unfold putK
    split <;> simp <;> omega
theorem putK_keys (k v : Ky) : ∀ l : KyL, ∀ x, x ∈ (putK l k v).map (·.1) ↔ x = k ∨ x ∈ l.map (·.1)
  | [], x => by simp [putK]
  | (a, u) :: r, x => by
    have ih := putK_keys k v r x
    unfold putK
    by_cases h : a = k
    · subst h
      simp
    · rw [if_neg h, List.map_cons, List.mem_cons, ih, List.map_cons, List.mem_cons]
      constructor
      · rintro (h | h | h)
        · exact .inr (.inl h)
        · exact .inl h
        · exact .inr (.inr h)
      · rintro (h | h | h)
        · exact .inr (.inl h)
        · exact .inl h
        · exact .inr (.inr h)
theorem dD_len (l : KyL) : (dD l).length = l.length := by simp [dD]
/-- the tiles' sides, each with the next one round its tile -/
def ptT (l : KyL) (t : P2 × P2 × P2) : KyL := putK (putK (putK l (.sd (t.1, t.2.1)) (.sd (t.2.1, t.2.2))) (.sd (t.2.1, t.2.2)) (.sd (t.2.2, t.1))) (.sd (t.2.2, t.1)) (.sd (t.1, t.2.1))
theorem ptT_get_out {l : KyL} {t : P2 × P2 × P2} {k : Ky} (h : ∀ s ∈ sides3 t, k ≠ .sd s) : getK (ptT l t) k = getK l k := by
  unfold ptT
  simp only [sides3, List.mem_cons, List.not_mem_nil, or_false, forall_eq_or_imp, forall_eq] at h
  rw [putK_get, putK_get, putK_get, if_neg (fun z => h.2.2 z.symm), if_neg (fun z => h.2.1 z.symm), if_neg (fun z => h.1 z.symm)]
theorem ptT_fold_out {k : Ky} : ∀ (ts : List (P2 × P2 × P2)) (l : KyL), (∀ s ∈ ts.flatMap sides3, k ≠ .sd s) → getK (ts.foldl ptT l) k = getK l k
  | [], _, _ => rfl
  | t :: ts, l, h => by
    rw [List.foldl_cons, ptT_fold_out ts _ (fun s hs => h s (by simp [List.flatMap_cons]; exact .inr (by simpa using hs)))]
    exact ptT_get_out fun s hs => h s (by rw [List.flatMap_cons]; exact List.mem_append_left _ hs)
/-- a turn round a tile -/
def TurnP (T : KyL) (t : P2 × P2 × P2) : Prop := getK T (.sd (t.1, t.2.1)) = some (.sd (t.2.1, t.2.2)) ∧ getK T (.sd (t.2.1, t.2.2)) = some (.sd (t.2.2, t.1)) ∧ getK T (.sd (t.2.2, t.1)) = some (.sd (t.1, t.2.1))
theorem ptT_turn : ∀ (ts : List (P2 × P2 × P2)) (l : KyL), (ts.flatMap sides3).Nodup → ∀ t ∈ ts, TurnP (ts.foldl ptT l) t
  | [], _, _, t, ht => by cases ht
  | u :: ts, l, h, t, ht => by
    rw [List.flatMap_cons] at h
    obtain ⟨h1, h2, h3⟩ := List.nodup_append.mp h
    rw [List.foldl_cons]
    rcases List.mem_cons.mp ht with rfl | ht
    · have o : ∀ s ∈ sides3 t, getK (ts.foldl ptT (ptT l t)) (.sd s) = getK (ptT l t) (.sd s) := fun s hs => ptT_fold_out ts _ fun s' hs' z => h3 s hs s' hs' (by cases z; rfl)
      have m1 : (t.1, t.2.1) ∈ sides3 t := by simp [sides3]
      have m2 : (t.2.1, t.2.2) ∈ sides3 t := by simp [sides3]
      have m3 : (t.2.2, t.1) ∈ sides3 t := by simp [sides3]
      simp only [sides3, List.nodup_cons, List.mem_cons, List.not_mem_nil, or_false, not_or] at h1
      obtain ⟨⟨n1, n2⟩, n3, _⟩ := h1
      refine ⟨?_, ?_, ?_⟩
      · rw [o _ m1]
        unfold ptT
        rw [putK_get, putK_get, putK_get, if_neg (fun z => n2 (Ky.sd.inj z).symm), if_neg (fun z => n1 (Ky.sd.inj z).symm), if_pos rfl]
      · rw [o _ m2]
        unfold ptT
        rw [putK_get, putK_get, if_neg (fun z => n3 (Ky.sd.inj z).symm), if_pos rfl]
      · rw [o _ m3]
        unfold ptT
        rw [putK_get, if_pos rfl]
    · exact ptT_turn ts _ h2 t ht
theorem ptT_keys : ∀ (ts : List (P2 × P2 × P2)) (l : KyL) (x : Ky), x ∈ (ts.foldl ptT l).map (·.1) ↔ (∃ s ∈ ts.flatMap sides3, x = .sd s) ∨ x ∈ l.map (·.1)
  | [], _, _ => by simp
  | t :: ts, l, x => by
    rw [List.foldl_cons, ptT_keys ts]
    have e : x ∈ (ptT l t).map (·.1) ↔ (∃ s ∈ sides3 t, x = .sd s) ∨ x ∈ l.map (·.1) := by
      unfold ptT
      rw [putK_keys, putK_keys, putK_keys]
      simp only [sides3, List.mem_cons, List.not_mem_nil, or_false, exists_eq_or_imp, exists_eq_left]
      constructor
      · rintro (h | h | h | h)
        · exact .inl (.inr (.inr h))
        · exact .inl (.inr (.inl h))
        · exact .inl (.inl h)
        · exact .inr h
      · rintro ((h | h | h) | h)
        · exact .inr (.inr (.inl h))
        · exact .inr (.inl h)
        · exact .inl h
        · exact .inr (.inr (.inr h))
    rw [e, List.flatMap_cons]
    constructor
    · rintro (⟨s, h, rfl⟩ | ⟨s, h, rfl⟩ | h)
      · exact .inl ⟨s, List.mem_append_right _ h, rfl⟩
      · exact .inl ⟨s, List.mem_append_left _ h, rfl⟩
      · exact .inr h
    · rintro (⟨s, h, rfl⟩ | h)
      · rcases List.mem_append.mp h with h | h
        · exact .inr (.inl ⟨s, h, rfl⟩)
        · exact .inl ⟨s, h, rfl⟩
      · exact .inr (.inr h)
theorem ptT_len : ∀ (ts : List (P2 × P2 × P2)) (l : KyL), (ts.foldl ptT l).length ≤ l.length + 3 * ts.length
  | [], l => by simp
  | t :: ts, l => by
    rw [List.foldl_cons, List.length_cons]
    have h1 := ptT_len ts (ptT l t)
    have h2 : (ptT l t).length ≤ l.length + 3 := by
      unfold ptT
      have a := putK_len (.sd (t.1, t.2.1)) (.sd (t.2.1, t.2.2)) l
      have b := putK_len (.sd (t.2.1, t.2.2)) (.sd (t.2.2, t.1)) (putK l (.sd (t.1, t.2.1)) (.sd (t.2.1, t.2.2)))
      have c := putK_len (.sd (t.2.2, t.1)) (.sd (t.1, t.2.1)) (putK (putK l (.sd (t.1, t.2.1)) (.sd (t.2.1, t.2.2))) (.sd (t.2.1, t.2.2)) (.sd (t.2.2, t.1)))
      omega
    omega
/-- each side's other bank -/
def ptR (l : KyL) (s : Sd) : KyL := putK l (.sd s) (.sd (rev s))
theorem ptR_get : ∀ (ss : List Sd) (l : KyL) (k : Ky), getK (ss.foldl ptR l) k = match k with
    | .sd s => if s ∈ ss then some (.sd (rev s)) else getK l (.sd s)
    | .gp g => getK l (.gp g)
  | [], l, k => by cases k <;> simp
  | s :: ss, l, k => by
    rw [List.foldl_cons, ptR_get ss]
    cases k with
    | gp g =>
      show getK (putK l _ _) _ = _
      rw [putK_get, if_neg (by simp)]
    | sd u =>
      show (if u ∈ ss then _ else getK (putK l _ _) _) = if u ∈ s :: ss then _ else _
      rw [putK_get]
      by_cases h : u ∈ ss
      · rw [if_pos h, if_pos (List.mem_cons_of_mem _ h)]
      · rw [if_neg h]
        by_cases h2 : s = u
        · subst h2
          rw [if_pos rfl, if_pos List.mem_cons_self]
        · rw [if_neg (fun z => h2 (by cases z; rfl)), if_neg]
          intro z
          rcases List.mem_cons.mp z with z | z
          · exact h2 z.symm
          · exact h z
theorem ptR_len : ∀ (ss : List Sd) (l : KyL), (ss.foldl ptR l).length ≤ l.length + ss.length
  | [], l => by simp
  | s :: ss, l => by
    rw [List.foldl_cons, List.length_cons]
    have h1 := ptR_len ss (ptR l s)
    have h2 : (ptR l s).length ≤ l.length + 1 := putK_len _ _ _
    omega
/-- the marks: what a gap's own mark puts -/
def ptM (gaps : List Sd) (TH : KyL × KyL) (g : Nat) : Mk → KyL × KyL
  | .third => (putK TH.1 (.gp g) (.gp g), putK (putK TH.2 (.gp g) (.sd (gaps.getD g default))) (.sd (gaps.getD g default)) (.gp g))
  | .half => (TH.1, putK TH.2 (.sd (gaps.getD g default)) (.sd (gaps.getD g default)))
  | .pair j => (TH.1, putK TH.2 (.sd (gaps.getD g default)) (.sd (gaps.getD j default)))
end DL
set_option Elab.async false
set_option maxRecDepth 100000
set_option maxHeartbeats 4000000
namespace DL
open PySem L2
def thd (ms : List Mk) (g : Nat) : Bool := (ms[g]?).any isThird
def mv (gaps : List Sd) (g : Nat) (e : Sd) : Mk → Ky
  | .third => .gp g
  | .half => .sd e
  | .pair j => .sd (gaps.getD j default)
structure LkI (gaps : List Sd) (ms : List Mk) (T0 H0 : KyL) (g : Nat) (T H : KyL) : Prop where
  t_sd : ∀ s, getK T (.sd s) = getK T0 (.sd s)
  t_gp : ∀ g', getK T (.gp g') = if g' < g ∧ thd ms g' = true then some (.gp g') else getK T0 (.gp g')
  h_gp : ∀ g', getK H (.gp g') = if g' < g ∧ thd ms g' = true then some (.sd (gaps.getD g' default)) else getK H0 (.gp g')
  h_gap : ∀ g' m, g' < g → ms[g']? = some m → getK H (.sd (gaps.getD g' default)) = some (mv gaps g' (gaps.getD g' default) m)
  h_in : ∀ s, (∀ g', g' < g → gaps.getD g' default ≠ s) → getK H (.sd s) = getK H0 (.sd s)
theorem LkI.start (gaps : List Sd) (ms : List Mk) (T0 H0 : KyL) : LkI gaps ms T0 H0 0 T0 H0 :=
  ⟨fun _ => rfl, fun g' => by rw [if_neg (by omega)], fun g' => by rw [if_neg (by omega)], fun g' m h => by omega, fun _ _ => rfl⟩
theorem getD_inj {gaps : List Sd} (hn : gaps.Nodup) {i j : Nat} (hi : i < gaps.length) (hj : j < gaps.length) (h : gaps.getD i default = gaps.getD j default) : i = j := by
  rw [List.getD_eq_getElem?_getD, List.getD_eq_getElem?_getD, List.getElem?_eq_getElem hi, List.getElem?_eq_getElem hj] at h
  simp only [Option.getD_some] at h
  exact (List.getElem?_inj hi hn).mp (by rw [List.getElem?_eq_getElem hi, List.getElem?_eq_getElem hj, h])
theorem LkI.step {gaps : List Sd} {ms : List Mk} {T0 H0 T H : KyL} {g : Nat} {m : Mk} (hn : gaps.Nodup) (hl : ms.length = gaps.length) (I : LkI gaps ms T0 H0 g T H) (hm : ms[g]? = some m) : LkI gaps ms T0 H0 (g + 1) (ptM gaps (T, H) g m).1 (ptM gaps (T, H) g m).2 := by
  have hg : g < ms.length := (List.getElem?_eq_some_iff.mp hm).1
  have ne : ∀ g', g' < g → gaps.getD g' default ≠ gaps.getD g default := fun g' h z => by
    have := getD_inj hn (by omega) (by omega) z
    omega
  have tg : thd ms g = isThird m := by
    unfold thd
    rw [hm]
    rfl
  -- keys that are not touched
  have lt1 : ∀ g', g' < g + 1 ↔ g' < g ∨ g' = g := fun g' => by omega
  cases m with
  | third =>
    refine ⟨fun s => ?_, fun g' => ?_, fun g' => ?_, fun g' m' h1 h2 => ?_, fun s hs => ?_⟩
    · show getK (putK T _ _) _ = _
      rw [putK_get, if_neg (by simp), I.t_sd]
    · show getK (putK T _ _) _ = _
      rw [putK_get]
      by_cases e : g = g'
      · subst e
        rw [if_pos rfl, if_pos ⟨by omega, tg⟩]
      · rw [if_neg (fun z => e (by cases z; rfl)), I.t_gp]
        congr 1
        rw [lt1]
        exact propext ⟨fun z => ⟨.inl z.1, z.2⟩, fun z => ⟨z.1.resolve_right (fun y => e y.symm), z.2⟩⟩
    · show getK (putK (putK H _ _) _ _) _ = _
      rw [putK_get, putK_get, if_neg (by simp)]
      by_cases e : g = g'
      · subst e
        rw [if_pos rfl, if_pos ⟨by omega, tg⟩]
      · rw [if_neg (fun z => e (by cases z; rfl)), I.h_gp]
        congr 1
        rw [lt1]
        exact propext ⟨fun z => ⟨.inl z.1, z.2⟩, fun z => ⟨z.1.resolve_right (fun y => e y.symm), z.2⟩⟩
    · show getK (putK (putK H _ _) _ _) _ = _
      rw [putK_get, putK_get]
      rcases (lt1 g').mp h1 with h1 | rfl
      · rw [if_neg (fun z => ne g' h1 (Ky.sd.inj z).symm), if_neg (by simp), I.h_gap g' m' h1 h2]
      · rw [hm] at h2
        cases h2
        rw [if_pos rfl]
        rfl
    · show getK (putK (putK H _ _) _ _) _ = _
      rw [putK_get, putK_get, if_neg (fun z => hs g (by omega) (Ky.sd.inj z)), if_neg (by simp), I.h_in s fun g' h => hs g' (by omega)]
  | half =>
    refine ⟨I.t_sd, fun g' => ?_, fun g' => ?_, fun g' m' h1 h2 => ?_, fun s hs => ?_⟩
    · show getK T _ = _
      rw [I.t_gp]
      congr 1
      rw [lt1]
      exact propext ⟨fun z => ⟨.inl z.1, z.2⟩, fun z => ⟨z.1.resolve_right (fun y => by rw [y, tg] at z; exact absurd z.2 (by decide)), z.2⟩⟩
    · show getK (putK H _ _) _ = _
      rw [putK_get, if_neg (by simp), I.h_gp]
      congr 1
      rw [lt1]
      exact propext ⟨fun z => ⟨.inl z.1, z.2⟩, fun z => ⟨z.1.resolve_right (fun y => by rw [y, tg] at z; exact absurd z.2 (by decide)), z.2⟩⟩
    · show getK (putK H _ _) _ = _
      rw [putK_get]
      rcases (lt1 g').mp h1 with h1 | rfl
      · rw [if_neg (fun z => ne g' h1 (Ky.sd.inj z).symm), I.h_gap g' m' h1 h2]
      · rw [hm] at h2
        cases h2
        rw [if_pos rfl]
        rfl
    · show getK (putK H _ _) _ = _
      rw [putK_get, if_neg (fun z => hs g (by omega) (Ky.sd.inj z)), I.h_in s fun g' h => hs g' (by omega)]
  | pair j =>
    refine ⟨I.t_sd, fun g' => ?_, fun g' => ?_, fun g' m' h1 h2 => ?_, fun s hs => ?_⟩
    · show getK T _ = _
      rw [I.t_gp]
      congr 1
      rw [lt1]
      exact propext ⟨fun z => ⟨.inl z.1, z.2⟩, fun z => ⟨z.1.resolve_right (fun y => by rw [y, tg] at z; exact absurd z.2 (by simp [isThird])), z.2⟩⟩
    · show getK (putK H _ _) _ = _
      rw [putK_get, if_neg (by simp), I.h_gp]
      congr 1
      rw [lt1]
      exact propext ⟨fun z => ⟨.inl z.1, z.2⟩, fun z => ⟨z.1.resolve_right (fun y => by rw [y, tg] at z; exact absurd z.2 (by simp [isThird])), z.2⟩⟩
    · show getK (putK H _ _) _ = _
      rw [putK_get]
      rcases (lt1 g').mp h1 with h1 | rfl
      · rw [if_neg (fun z => ne g' h1 (Ky.sd.inj z).symm), I.h_gap g' m' h1 h2]
      · rw [hm] at h2
        cases h2
        rw [if_pos rfl]
        rfl
    · show getK (putK H _ _) _ = _
      rw [putK_get, if_neg (fun z => hs g (by omega) (Ky.sd.inj z)), I.h_in s fun g' h => hs g' (by omega)]
def KOk (K : List Ky) (T H : KyL) : Prop := ∀ k ∈ K, ∃ h t u, getK H k = some h ∧ getK T k = some t ∧ h ∈ K ∧ t ∈ K ∧ u ∈ K ∧ getK H h = some k ∧ getK T t = some u ∧ getK T u = some k
def keysOf (PS : List Sd) (ms : List Mk) : List Ky := PS.map .sd ++ ((List.range ms.length).filter (thd ms)).map .gp
theorem keys_sd {PS : List Sd} {ms : List Mk} {s : Sd} : Ky.sd s ∈ keysOf PS ms ↔ s ∈ PS := by
  unfold keysOf
  simp
theorem keys_gp {PS : List Sd} {ms : List Mk} {g : Nat} : Ky.gp g ∈ keysOf PS ms ↔ g < ms.length ∧ thd ms g = true := by
  unfold keysOf
  simp
theorem gap_mem {gaps : List Sd} {g : Nat} (h : g < gaps.length) : gaps.getD g default ∈ gaps := by
  rw [List.getD_eq_getElem?_getD, List.getElem?_eq_getElem h]
  exact List.getElem_mem h
theorem gap_of {gaps : List Sd} {s : Sd} (h : s ∈ gaps) : ∃ g, g < gaps.length ∧ gaps.getD g default = s := by
  obtain ⟨g, hg, e⟩ := List.mem_iff_getElem.mp h
  exact ⟨g, hg, by rw [List.getD_eq_getElem?_getD, List.getElem?_eq_getElem hg]; exact e⟩
theorem tri_all {ts : List (P2 × P2 × P2)} {T0 : KyL} (nd : (ts.flatMap sides3).Nodup) (hT : T0 = ts.foldl ptT []) : ∀ s ∈ ts.flatMap sides3, ∃ a b, a ∈ ts.flatMap sides3 ∧ b ∈ ts.flatMap sides3 ∧ getK T0 (.sd s) = some (.sd a) ∧ getK T0 (.sd a) = some (.sd b) ∧ getK T0 (.sd b) = some (.sd s) := by
  subst hT
  intro s hs
  obtain ⟨t, ht, h⟩ := List.mem_flatMap.mp hs
  obtain ⟨q1, q2, q3⟩ := ptT_turn ts [] nd t ht
  have m : ∀ s', s' ∈ sides3 t → s' ∈ ts.flatMap sides3 := fun s' h' => List.mem_flatMap.mpr ⟨t, ht, h'⟩
  simp only [sides3, List.mem_cons, List.not_mem_nil, or_false] at h
  rcases h with rfl | rfl | rfl
  · exact ⟨_, _, m _ (by simp [sides3]), m _ (by simp [sides3]), q1, q2, q3⟩
  · exact ⟨_, _, m _ (by simp [sides3]), m _ (by simp [sides3]), q2, q3, q1⟩
  · exact ⟨_, _, m _ (by simp [sides3]), m _ (by simp [sides3]), q3, q1, q2⟩
theorem links_ok {PE : List Sd} {ts : List (P2 × P2 × P2)} {ms : List Mk} {T0 H0 T H : KyL} (S : Sides PE (ts.flatMap sides3)) (hl : ms.length = PE.length) (M : MkOk ms []) (hT : T0 = ts.foldl ptT []) (hH : ∀ s, getK H0 (.sd s) = if s ∈ ts.flatMap sides3 then some (.sd (rev s)) else none)
    (I : LkI PE ms T0 H0 ms.length T H) : KOk (keysOf (ts.flatMap sides3) ms) T H := by
  have tri := tri_all S.nd hT
  have third_of : ∀ g, thd ms g = true → g < ms.length ∧ ms[g]? = some .third := fun g h => by
    unfold thd at h
    cases e : ms[g]? with
    | none => rw [e] at h; cases h
    | some m =>
      rw [e] at h
      refine ⟨(List.getElem?_eq_some_iff.mp e).1, ?_⟩
      cases m with
      | third => rfl
      | half => simp [isThird] at h
      | pair j => simp [isThird] at h
  intro k hk
  cases k with
  | gp g =>
    obtain ⟨h1, h2⟩ := keys_gp.mp hk
    have h3 := (third_of g h2).2
    have e1 : getK T (.gp g) = some (.gp g) := by rw [I.t_gp, if_pos ⟨h1, h2⟩]
    have e2 : getK H (.gp g) = some (.sd (PE.getD g default)) := by rw [I.h_gp, if_pos ⟨h1, h2⟩]
    exact ⟨_, _, .gp g, e2, e1, keys_sd.mpr (S.sub _ (gap_mem (by omega))), hk, hk, I.h_gap g _ h1 h3, e1, e1⟩
  | sd s =>
    have hs := keys_sd.mp hk
    obtain ⟨a, b, ha, hb, q1, q2, q3⟩ := tri s hs
    have third : ∃ t u, getK T (.sd s) = some t ∧ t ∈ keysOf (ts.flatMap sides3) ms ∧ u ∈ keysOf (ts.flatMap sides3) ms ∧ getK T t = some u ∧ getK T u = some (.sd s) :=
      ⟨.sd a, .sd b, by rw [I.t_sd]; exact q1, keys_sd.mpr ha, keys_sd.mpr hb, by rw [I.t_sd]; exact q2, by rw [I.t_sd]; exact q3⟩
    obtain ⟨t, u, w1, w2, w3, w4, w5⟩ := third
    have half : ∃ h, getK H (.sd s) = some h ∧ h ∈ keysOf (ts.flatMap sides3) ms ∧ getK H h = some (.sd s) := by
      by_cases hp : s ∈ PE
      · obtain ⟨g, hg, rfl⟩ := gap_of hp
        have em : ms[g]? = some (ms[g]'(by omega)) := List.getElem?_eq_getElem (by omega)
        generalize ms[g]'(by omega) = m at em
        have e := I.h_gap g m (by omega) em
        refine ⟨_, e, ?_, ?_⟩
        · cases m with
          | third => exact keys_gp.mpr ⟨by omega, by unfold thd; rw [em]; rfl⟩
          | half => exact hk
          | pair j =>
            have := M.fit g j em
            exact keys_sd.mpr (S.sub _ (gap_mem (by
              have := (List.getElem?_eq_some_iff.mp this.2.1).1
              omega)))
        · cases m with
          | third =>
            show getK H (.gp g) = _
            rw [I.h_gp, if_pos ⟨by omega, by unfold thd; rw [em]; rfl⟩]
          | half => exact e
          | pair j =>
            have := M.fit g j em
            have hj := (List.getElem?_eq_some_iff.mp this.2.1).1
            exact I.h_gap j (.pair g) hj this.2.1
      · rcases S.inv s hs with z | ⟨z1, z2⟩
        · exact absurd z hp
        · have out : ∀ s', s' ∉ PE → ∀ g', g' < ms.length → PE.getD g' default ≠ s' := fun s' hs' g' hg' z => hs' (by rw [← z]; exact gap_mem (by omega))
          refine ⟨.sd (rev s), ?_, keys_sd.mpr z1, ?_⟩
          · rw [I.h_in s (out s hp), hH, if_pos hs]
          · rw [I.h_in _ (out _ z2), hH, if_pos z1]
            rfl
    obtain ⟨h, v1, v2, v3⟩ := half
    exact ⟨h, t, u, v1, w1, v2, w2, w3, v3, w4, w5⟩
end DL
set_option Elab.async false
set_option maxRecDepth 100000
set_option maxHeartbeats 4000000
namespace DL
open PySem L2
def gapsF (mid : List P2) : List Sd := (edges (full mid)).map prjS
theorem edges_get : ∀ {l : List P2} {i : Nat} {x y : P2}, l[i]? = some x → l[i + 1]? = some y → (edges l)[i]? = some (x, y)
  | [], _, _, _, h, _ => by simp at h
  | [a], 0, _, _, _, h => by simp at h
  | [a], i + 1, _, _, h, _ => by simp at h
  | a :: b :: t, 0, x, y, h1, h2 => by
    simp at h1 h2
    rw [h1, h2]
    rfl
  | a :: b :: t, i + 1, x, y, h1, h2 => by
    rw [List.getElem?_cons_succ] at h1 h2
    show ((a, b) :: edges (b :: t))[i + 1]? = _
    rw [List.getElem?_cons_succ]
    exact edges_get h1 h2
theorem edges_length : ∀ (l : List P2), (edges l).length = l.length - 1
  | [] => rfl
  | [_] => rfl
  | a :: b :: t => by
    have := edges_length (b :: t)
    show (edges (b :: t)).length + 1 = _
    rw [this]
    simp
theorem gapsF_len (mid : List P2) : (gapsF mid).length = mid.length + 1 := by
  unfold gapsF
  rw [List.length_map, edges_length, full_len]
  omega
theorem full_prj {mid : List P2} (hp : ∀ x ∈ mid, 1 ≤ x.2) {i : Nat} (hi : i ≤ mid.length + 1) : ∃ x, (full mid)[i]? = some x ∧ (Fs mid)[i % (mid.length + 1)]? = some (prj x) := by
  by_cases h0 : i = 0
  · subst h0
    exact ⟨(-1, 0), rfl, rfl⟩
  · by_cases h1 : i = mid.length + 1
    · subst h1
      rw [Nat.mod_self]
      exact ⟨(1, 0), full_end mid, rfl⟩
    · obtain ⟨k, rfl⟩ : ∃ k, i = k + 1 := ⟨i - 1, by omega⟩
      have hk : k < mid.length := by omega
      rw [Nat.mod_eq_of_lt (by omega)]
      refine ⟨mid[k], full_at (List.getElem?_eq_getElem hk), ?_⟩
      rw [prj_mid (hp _ (List.getElem_mem hk)), List.getElem?_cons_succ, List.getElem?_eq_getElem hk]
theorem gaps_at {mid : List P2} (hp : ∀ x ∈ mid, 1 ≤ x.2) {i : Nat} (hi : i ≤ mid.length) : ∃ a b, (gapsF mid)[i]? = some (a, b) ∧ (Fs mid)[i]? = some a ∧ (Fs mid)[(i + 1) % (mid.length + 1)]? = some b := by
  obtain ⟨x, h1, h2⟩ := full_prj hp (i := i) (by omega)
  obtain ⟨y, h3, h4⟩ := full_prj hp (i := i + 1) (by omega)
  rw [Nat.mod_eq_of_lt (by omega)] at h2
  refine ⟨prj x, prj y, ?_, h2, h4⟩
  unfold gapsF
  rw [List.getElem?_map, edges_get h1 h3]
  rfl
theorem subO_ky {i : Nat} {l : KyL} (k v : Ky) (hl : l.length < 1000000) (ρ : Rho) (tag : Option Nat) : subO i (kyD v) ρ (some (kyD k)) (some (some (.dct tag (dD l)))) = .ok () (ρ.set i (some (.dct tag (dD (putK l k v))))) := by
  show (if (nkOf (kyD k)).isSome ∧ (dD l).length < 1000000 then _ else _) = _
  rw [if_pos ⟨nkOf_ky k, by rw [dD_len]; exact hl⟩, kput_ky]
theorem fIx_ky (l : KyL) (k : Ky) : fIx (.dict (dD l)) (kyD k) = (getK l k).map fun v => .val (kyD v) := by
  rw [fIx_d, if_pos (nkOf_ky k), kget_ky]
  cases getK l k <;> rfl
theorem notin_ky (l : KyL) (k : Ky) : fNotIn (kyD k) (.dict (dD l)) = some (.val (.bool (!(getK l k).isSome))) := by
  have e : inD (kyD k) (.dict (dD l)) = if (nkOf (kyD k)).isSome then some (kget (dD l) (kyD k)).isSome else none := by
    cases k <;> rfl
  unfold fNotIn
  rw [e, if_pos (nkOf_ky k), kget_ky]
  cases getK l k <;> rfl
def lkT : M Fl := (seqM (asgS (asgSub (getM 2) (tupM (argC (getM 7) (argC (getM 8) (argN))))) (tupM (argC (getM 8) (argC (getM 9) (argN)))))
  (seqM (asgS (asgSub (getM 2) (tupM (argC (getM 8) (argC (getM 9) (argN))))) (tupM (argC (getM 9) (argC (getM 7) (argN)))))
  (asgS (asgSub (getM 2) (tupM (argC (getM 9) (argC (getM 7) (argN))))) (tupM (argC (getM 7) (argC (getM 8) (argN)))))))
theorem lk_tile {l : KyL} {t : P2 × P2 × P2} (hl : l.length + 3 < 1000000) (x0 x1 x3 x4 x5 x6 x10 x11 : Option T) :
    lkT [x0, x1, some (.dct none (dD l)), x3, x4, x5, x6, some (.val (fD t.1)), some (.val (fD t.2.1)), some (.val (fD t.2.2)), x10, x11] = .ok .nx [x0, x1, some (.dct none (dD (ptT l t))), x3, x4, x5, x6, some (.val (fD t.1)), some (.val (fD t.2.1)), some (.val (fD t.2.2)), x10, x11] := by
  have l1 := putK_len (.sd (t.1, t.2.1)) (.sd (t.2.1, t.2.2)) l
  have l2 := putK_len (.sd (t.2.1, t.2.2)) (.sd (t.2.2, t.1)) (putK l (.sd (t.1, t.2.1)) (.sd (t.2.1, t.2.2)))
  have s1 : ∀ ρ tag, subO 2 (.tuple [fD t.2.1, fD t.2.2]) ρ (some (.tuple [fD t.1, fD t.2.1])) (some (some (.dct tag (dD l)))) = _ := fun ρ tag => subO_ky (i := 2) (l := l) (.sd (t.1, t.2.1)) (.sd (t.2.1, t.2.2)) (by omega) ρ tag
  have s2 : ∀ ρ tag, subO 2 (.tuple [fD t.2.2, fD t.1]) ρ (some (.tuple [fD t.2.1, fD t.2.2])) (some (some (.dct tag (dD (putK l (.sd (t.1, t.2.1)) (.sd (t.2.1, t.2.2))))))) = _ := fun ρ tag => subO_ky (i := 2) (.sd (t.2.1, t.2.2)) (.sd (t.2.2, t.1)) (by omega) ρ tag
  have s3 : ∀ ρ tag, subO 2 (.tuple [fD t.1, fD t.2.1]) ρ (some (.tuple [fD t.2.2, fD t.1])) (some (some (.dct tag (dD (putK (putK l (.sd (t.1, t.2.1)) (.sd (t.2.1, t.2.2))) (.sd (t.2.1, t.2.2)) (.sd (t.2.2, t.1))))))) = _ := fun ρ tag => subO_ky (i := 2) (.sd (t.2.2, t.1)) (.sd (t.1, t.2.1)) (by omega) ρ tag
  unfold ptT lkT
  generalize dD l = L0 at *
  generalize dD (putK (putK (putK l (.sd (t.1, t.2.1)) (.sd (t.2.1, t.2.2))) (.sd (t.2.1, t.2.2)) (.sd (t.2.2, t.1))) (.sd (t.2.2, t.1)) (.sd (t.1, t.2.1))) = L3 at *
  generalize dD (putK (putK l (.sd (t.1, t.2.1)) (.sd (t.2.1, t.2.2))) (.sd (t.2.1, t.2.2)) (.sd (t.2.2, t.1))) = L2 at *
  generalize dD (putK l (.sd (t.1, t.2.1)) (.sd (t.2.1, t.2.2))) = L1 at *
  generalize fD t.1 = a at *
  generalize fD t.2.1 = b at *
  generalize fD t.2.2 = c at *
  simp [s1, s2, s3]
def NoShr (x : Option T) : Prop := unshr x = x
theorem ns_val (d : D) : NoShr (some (.val d)) := rfl
theorem lk_tiles (x0 x1 x3 x4 x5 x6 x10 x11 : Option T) : ∀ (ts : List (P2 × P2 × P2)) (l : KyL) (x7 x8 x9 : Option T), NoShr x7 → NoShr x8 → NoShr x9 → l.length + 3 * ts.length < 1000000 → ∃ y7 y8 y9, NoShr y7 ∧ NoShr y8 ∧ NoShr y9 ∧
    forM (asgSeq 3 (asgCons (asgR 7) (asgCons (asgR 8) (asgCons (asgR 9) (asgNil))))) lkT (ts.map tlD) [x0, x1, some (.dct none (dD l)), x3, x4, x5, x6, x7, x8, x9, x10, x11] = .ok .nx [x0, x1, some (.dct none (dD (ts.foldl ptT l))), x3, x4, x5, x6, y7, y8, y9, x10, x11] := by
  intro ts
  induction ts with
  | nil => exact fun l x7 x8 x9 h7 h8 h9 _ => ⟨x7, x8, x9, h7, h8, h9, rfl⟩
  | cons t ts ih =>
    intro l x7 x8 x9 h7 h8 h9 hl
    rw [List.length_cons] at hl
    have pl := ptT_len [t] l
    simp only [List.foldl_cons, List.foldl_nil, List.length_singleton] at pl
    obtain ⟨y7, y8, y9, q7, q8, q9, e⟩ := ih (ptT l t) (some (.val (fD t.1))) (some (.val (fD t.2.1))) (some (.val (fD t.2.2))) (ns_val _) (ns_val _) (ns_val _) (by omega)
    refine ⟨y7, y8, y9, q7, q8, q9, ?_⟩
    have st := lk_tile (l := l) (t := t) (by omega) x0 x1 x3 x4 x5 x6 x10 x11
    have ep : asgSeq 3 (asgCons (asgR 7) (asgCons (asgR 8) (asgCons (asgR 9) (asgNil)))) (.tmp (.val (tlD t))) [x0, x1, some (.dct none (dD l)), x3, x4, x5, x6, x7, x8, x9, x10, x11] = .ok () [x0, x1, some (.dct none (dD l)), x3, x4, x5, x6, some (.val (fD t.1)), some (.val (fD t.2.1)), some (.val (fD t.2.2)), x10, x11] := by
      unfold tlD
      generalize fD t.1 = a
      generalize fD t.2.1 = b
      generalize fD t.2.2 = c
      simp
    rw [List.map_cons, forM_cons, bind_ap, ep, bnd_ok, st, bnd_ok, loop_nx, List.foldl_cons]
    exact e
def lkR : M Fl := (asgS (asgSub (getM 3) (tupM (argC (getM 7) (argC (getM 9) (argN))))) (tupM (argC (getM 9) (argC (getM 7) (argN)))))
theorem lk_banks (x0 x1 x2 x4 x5 x6 x8 x10 x11 : Option T) : ∀ (ss : List Sd) (l : KyL) (x7 x9 : Option T), NoShr x7 → NoShr x9 → l.length + ss.length < 1000000 → ∃ y7 y9, NoShr y7 ∧ NoShr y9 ∧
    forM (asgSeq 2 (asgCons (asgR 7) (asgCons (asgR 9) (asgNil)))) lkR (ss.map sdD) [x0, x1, x2, some (.dct none (dD l)), x4, x5, x6, x7, x8, x9, x10, x11] = .ok .nx [x0, x1, x2, some (.dct none (dD (ss.foldl ptR l))), x4, x5, x6, y7, x8, y9, x10, x11] := by
  intro ss
  induction ss with
  | nil => exact fun l x7 x9 h7 h9 _ => ⟨x7, x9, h7, h9, rfl⟩
  | cons s ss ih =>
    intro l x7 x9 h7 h9 hl
    rw [List.length_cons] at hl
    have pl : (ptR l s).length ≤ l.length + 1 := putK_len _ _ _
    obtain ⟨y7, y9, q7, q9, e⟩ := ih (ptR l s) (some (.val (fD s.1))) (some (.val (fD s.2))) (ns_val _) (ns_val _) (by omega)
    refine ⟨y7, y9, q7, q9, ?_⟩
    have s1 : ∀ ρ tag, subO 3 (.tuple [fD s.2, fD s.1]) ρ (some (.tuple [fD s.1, fD s.2])) (some (some (.dct tag (dD l)))) = .ok () (ρ.set 3 (some (.dct tag (dD (ptR l s))))) := fun ρ tag => subO_ky (i := 3) (l := l) (.sd s) (.sd (rev s)) (by omega) ρ tag
    have ep : asgSeq 2 (asgCons (asgR 7) (asgCons (asgR 9) (asgNil))) (.tmp (.val (sdD s))) [x0, x1, x2, some (.dct none (dD l)), x4, x5, x6, x7, x8, x9, x10, x11] = .ok () [x0, x1, x2, some (.dct none (dD l)), x4, x5, x6, some (.val (fD s.1)), x8, some (.val (fD s.2)), x10, x11] := by
      unfold sdD
      generalize fD s.1 = a
      generalize fD s.2 = b
      simp
    have st : lkR [x0, x1, x2, some (.dct none (dD l)), x4, x5, x6, some (.val (fD s.1)), x8, some (.val (fD s.2)), x10, x11] = .ok .nx [x0, x1, x2, some (.dct none (dD (ptR l s))), x4, x5, x6, some (.val (fD s.1)), x8, some (.val (fD s.2)), x10, x11] := by
      unfold lkR
      generalize dD l = L0 at *
      generalize dD (ptR l s) = L1 at *
      generalize fD s.1 = a at *
      generalize fD s.2 = b at *
      simp [s1]
    rw [List.map_cons, forM_cons, bind_ap, ep, bnd_ok, st, bnd_ok, loop_nx, List.foldl_cons]
    exact e
theorem forD_ap {i : Nat} {f : R → M Unit} {m : M Fl} {ρ ρ' ρ'' : Rho} {kvs : List (D × D)} (h : ρ[i]? = some (some (.dct none kvs))) (e : forM f m (kvs.map (·.1)) (ρ.set i (some (.shr (100 + i) kvs))) = .ok .nx ρ') (h' : ρ'[i]? = some (some (.shr (100 + i) kvs))) (h'' : (ρ'.map unshr).set i (some (.dct none kvs)) = ρ'') : forD i f m ρ = .ok .nx ρ'' := by
  unfold forD
  rw [h]
  show thawO i (forM f m _ _) = _
  rw [e]
  show thawN i ρ' ρ'[i]? = _
  rw [h']
  show (if 100 + i = 100 + i then _ else _) = _
  rw [if_pos rfl, h'']
theorem keys_sds {l : KyL} (h : ∀ x ∈ l.map (·.1), ∃ s, x = Ky.sd s) : ∃ ss : List Sd, l.map (·.1) = ss.map .sd := by
  induction l with
  | nil => exact ⟨[], rfl⟩
  | cons p l ih =>
    obtain ⟨ss, e⟩ := ih fun x hx => h x (List.mem_cons_of_mem _ hx)
    obtain ⟨s, es⟩ := h p.1 List.mem_cons_self
    exact ⟨s :: ss, by rw [List.map_cons, List.map_cons, e, es]⟩
end DL
set_option Elab.async false
set_option maxRecDepth 100000
set_option maxHeartbeats 4000000
namespace DL
open PySem L2
def lkMk : M Fl := (ifS (tcmp fEq (getM 11) (cst (.str "third"))) (seqM (asgS (asgSub (getM 2) (getM 10)) (getM 10))
  (seqM (asgS (asgSub (getM 3) (getM 10)) (DL.bin fIx (getM 1) (getM 10)))
  (asgS (asgSub (getM 3) (DL.bin fIx (getM 1) (getM 10))) (getM 10)))) (ifS (tcmp fEq (getM 11) (cst (.str "half"))) (asgS (asgSub (getM 3) (DL.bin fIx (getM 1) (getM 10))) (DL.bin fIx (getM 1) (getM 10))) (asgS (asgSub (getM 3) (DL.bin fIx (getM 1) (getM 10))) (DL.bin fIx (getM 1) (getM 11)))))
theorem gap_atI {gaps : List Sd} {g : Nat} (h : g < gaps.length) : atI (gaps.map sdD) (g : Int) = some (sdD (gaps.getD g default)) := atI_n (by
  rw [List.getElem?_map, List.getElem?_eq_getElem h, List.getD_eq_getElem?_getD, List.getElem?_eq_getElem h]
  rfl)
theorem lk_mark {gaps : List Sd} {T H : KyL} {g : Nat} {m : Mk} (hg : g < gaps.length) (hm : ∀ j, m = .pair j → j < gaps.length) (hT : T.length < 1000000) (hH : H.length + 1 < 1000000) (x0 x4 x5 x6 x7 x8 x9 : Option DL.T) :
    lkMk [x0, some (.lst none (gaps.map sdD)), some (.dct none (dD T)), some (.dct none (dD H)), x4, x5, x6, x7, x8, x9, some (.val (.int g)), some (.val (mkD m))] =
      .ok .nx [x0, some (.lst none (gaps.map sdD)), some (.dct none (dD (ptM gaps (T, H) g m).1)), some (.dct none (dD (ptM gaps (T, H) g m).2)), x4, x5, x6, x7, x8, x9, some (.val (.int g)), some (.val (mkD m))] := by
  have a1 := gap_atI hg
  have pl := putK_len (.gp g) (.sd (gaps.getD g default)) H
  have s1 : ∀ ρ tag, subO 2 (.int (g : Int)) ρ (some (.int (g : Int))) (some (some (.dct tag (dD T)))) = _ := fun ρ tag => subO_ky (i := 2) (l := T) (.gp g) (.gp g) hT ρ tag
  have s2 : ∀ ρ tag, subO 3 (sdD (gaps.getD g default)) ρ (some (.int (g : Int))) (some (some (.dct tag (dD H)))) = _ := fun ρ tag => subO_ky (i := 3) (l := H) (.gp g) (.sd (gaps.getD g default)) (by omega) ρ tag
  have s3 : ∀ ρ tag, subO 3 (.int (g : Int)) ρ (some (sdD (gaps.getD g default))) (some (some (.dct tag (dD (putK H (.gp g) (.sd (gaps.getD g default))))))) = _ := fun ρ tag => subO_ky (i := 3) (.sd (gaps.getD g default)) (.gp g) (by omega) ρ tag
  have s4 : ∀ ρ tag, subO 3 (sdD (gaps.getD g default)) ρ (some (sdD (gaps.getD g default))) (some (some (.dct tag (dD H)))) = _ := fun ρ tag => subO_ky (i := 3) (l := H) (.sd (gaps.getD g default)) (.sd (gaps.getD g default)) (by omega) ρ tag
  unfold lkMk
  cases m with
  | third =>
    unfold ptM mkD
    dsimp only
    generalize dD (putK (putK H (.gp g) (.sd (gaps.getD g default))) (.sd (gaps.getD g default)) (.gp g)) = H2 at *
    generalize dD (putK H (.gp g) (.sd (gaps.getD g default))) = H1 at *
    generalize dD (putK T (.gp g) (.gp g)) = T1 at *
    generalize dD T = T0 at *
    generalize dD H = H0 at *
    generalize gaps.map sdD = G at *
    generalize sdD (gaps.getD g default) = e at *
    simp [a1, s1, s2, s3]
  | half =>
    unfold ptM mkD
    dsimp only
    generalize dD (putK H (.sd (gaps.getD g default)) (.sd (gaps.getD g default))) = H1 at *
    generalize dD T = T0 at *
    generalize dD H = H0 at *
    generalize gaps.map sdD = G at *
    generalize sdD (gaps.getD g default) = e at *
    have sh : ¬ (PySem.Str.ofString "half" = PySem.Str.ofString "third") := by decide
    simp [a1, s4, sh]
  | pair j =>
    have a2 := gap_atI (hm j rfl)
    have s5 : ∀ ρ tag, subO 3 (sdD (gaps.getD j default)) ρ (some (sdD (gaps.getD g default))) (some (some (.dct tag (dD H)))) = _ := fun ρ tag => subO_ky (i := 3) (l := H) (.sd (gaps.getD g default)) (.sd (gaps.getD j default)) (by omega) ρ tag
    unfold ptM mkD
    dsimp only
    generalize dD (putK H (.sd (gaps.getD g default)) (.sd (gaps.getD j default))) = H1 at *
    generalize dD T = T0 at *
    generalize dD H = H0 at *
    generalize gaps.map sdD = G at *
    generalize sdD (gaps.getD g default) = e at *
    generalize sdD (gaps.getD j default) = e' at *
    have f1 : fEq (.int (j : Int)) (.str "third") = some (.val (.bool false)) := rfl
    have f2 : fEq (.int (j : Int)) (.str "half") = some (.val (.bool false)) := rfl
    simp [a1, a2, s5, f1, f2]
theorem ptM_len (gaps : List Sd) (T H : KyL) (g : Nat) (m : Mk) : (ptM gaps (T, H) g m).1.length ≤ T.length + 1 ∧ (ptM gaps (T, H) g m).2.length ≤ H.length + 2 := by
  cases m with
  | third =>
    have a := putK_len (.gp g) (.gp g) T
    have b := putK_len (.gp g) (.sd (gaps.getD g default)) H
    have c := putK_len (.sd (gaps.getD g default)) (.gp g) (putK H (.gp g) (.sd (gaps.getD g default)))
    exact ⟨a, by show (putK (putK H _ _) _ _).length ≤ _; omega⟩
  | half =>
    have b := putK_len (.sd (gaps.getD g default)) (.sd (gaps.getD g default)) H
    exact ⟨by show T.length ≤ _; omega, by show (putK H _ _).length ≤ _; omega⟩
  | pair j =>
    have b := putK_len (.sd (gaps.getD g default)) (.sd (gaps.getD j default)) H
    exact ⟨by show T.length ≤ _; omega, by show (putK H _ _).length ≤ _; omega⟩
theorem lk_marks {gaps : List Sd} {ms : List Mk} {T0 H0 : KyL} (hn : gaps.Nodup) (hl : ms.length = gaps.length) (M : MkOk ms []) (x0 x4 x5 x6 x7 x8 x9 : Option DL.T) : ∀ (l : List Mk) (k : Nat) (T H : KyL) (x10 x11 : Option DL.T), k ≤ ms.length → ms.drop k = l → LkI gaps ms T0 H0 k T H → T.length + H.length + 3 * l.length < 1000000 → ∃ (T' H' : KyL) (y10 y11 : Option DL.T), LkI gaps ms T0 H0 ms.length T' H' ∧ T'.length + H'.length ≤ T.length + H.length + 3 * l.length ∧
    forM (asgSeq 2 (asgCons (asgR 10) (asgCons (asgR 11) (asgNil)))) lkMk (enumL k (l.map mkD)) [x0, some (.lst none (gaps.map sdD)), some (.dct none (dD T)), some (.dct none (dD H)), x4, x5, x6, x7, x8, x9, x10, x11] = .ok .nx [x0, some (.lst none (gaps.map sdD)), some (.dct none (dD T')), some (.dct none (dD H')), x4, x5, x6, x7, x8, x9, y10, y11] := by
  intro l
  induction l with
  | nil =>
    intro k T H x10 x11 hkk hk I hb
    refine ⟨T, H, x10, x11, ?_, by simp, rfl⟩
    have hk2 : ms.length ≤ k := List.drop_eq_nil_iff.mp hk
    refine ⟨I.t_sd, fun g' => ?_, fun g' => ?_, fun g' m h1 h2 => I.h_gap g' m (by omega) h2, fun s hs => ?_⟩
    · rw [I.t_gp]
      congr 1
      exact propext ⟨fun z => ⟨by
        have := z.2
        unfold thd at this
        cases e : ms[g']? with
        | none => rw [e] at this; cases this
        | some m => exact (List.getElem?_eq_some_iff.mp e).1, z.2⟩, fun z => ⟨by omega, z.2⟩⟩
    · rw [I.h_gp]
      congr 1
      exact propext ⟨fun z => ⟨by
        have := z.2
        unfold thd at this
        cases e : ms[g']? with
        | none => rw [e] at this; cases this
        | some m => exact (List.getElem?_eq_some_iff.mp e).1, z.2⟩, fun z => ⟨by omega, z.2⟩⟩
    · exact I.h_in s fun g' h => hs g' (by omega)
  | cons m l ih =>
    intro k T H x10 x11 hkk hk I hb
    have hm : ms[k]? = some m := by
      have : (ms.drop k)[0]? = some m := by rw [hk]; rfl
      rwa [List.getElem?_drop, Nat.add_zero] at this
    have hkl := (List.getElem?_eq_some_iff.mp hm).1
    rw [List.length_cons] at hb
    have pl := ptM_len gaps T H k m
    have st := lk_mark (gaps := gaps) (T := T) (H := H) (g := k) (m := m) (by omega) (fun j e => by
      subst e
      have := (List.getElem?_eq_some_iff.mp (M.fit k j hm).2.1).1
      omega) (by omega) (by omega) x0 x4 x5 x6 x7 x8 x9
    obtain ⟨T', H', y10, y11, q1, q2, e⟩ := ih (k + 1) _ _ (some (.val (.int k))) (some (.val (mkD m))) (by omega) (by rw [List.drop_add_one_eq_tail_drop, hk]; rfl) (I.step hn hl hm) (by omega)
    refine ⟨T', H', y10, y11, q1, by rw [List.length_cons]; omega, ?_⟩
    rw [List.map_cons]
    unfold enumL
    have ep : asgSeq 2 (asgCons (asgR 10) (asgCons (asgR 11) (asgNil))) (.tmp (.val (.tuple [.int (k : Nat), mkD m]))) [x0, some (.lst none (gaps.map sdD)), some (.dct none (dD T)), some (.dct none (dD H)), x4, x5, x6, x7, x8, x9, x10, x11] = .ok () [x0, some (.lst none (gaps.map sdD)), some (.dct none (dD T)), some (.dct none (dD H)), x4, x5, x6, x7, x8, x9, some (.val (.int k)), some (.val (mkD m))] := by
      generalize mkD m = dm
      simp
    rw [forM_cons, bind_ap, ep, bnd_ok, st, bnd_ok, loop_nx]
    exact e
end DL
set_option Elab.async false
set_option maxRecDepth 100000
set_option maxHeartbeats 4000000
namespace DL
open PySem L2
noncomputable def wl_links : M Fl := seqM (asgS (asgSeq 2 (asgCons (asgR 5) (asgCons (asgR 6) (asgNil)))) (getM 0))
  (seqM (setS 1 (lcM (put1 10) (M.ret true) (tupM (argC (DL.bin fIx (getM 5) (getM 10)) (argC (DL.bin fIx (getM 5) (DL.bin fMod (DL.bin fAdd (getM 10) (cst (.int 1))) (callB fLen (argC (getM 5) (argN))))) (argN)))) [10] (itR1 (argC (callB fLen (argC (getM 5) (argN))) (argN)))))
  (seqM (setS 2 (M.ret (.tmp (.dct none []))))
  (seqM (forS (asgSeq 3 (asgCons (asgR 7) (asgCons (asgR 8) (asgCons (asgR 9) (asgNil))))) (itA (callF fl_tiles (argC (getM 5) (argN)))) (seqM (asgS (asgSub (getM 2) (tupM (argC (getM 7) (argC (getM 8) (argN))))) (tupM (argC (getM 8) (argC (getM 9) (argN)))))
  (seqM (asgS (asgSub (getM 2) (tupM (argC (getM 8) (argC (getM 9) (argN))))) (tupM (argC (getM 9) (argC (getM 7) (argN)))))
  (asgS (asgSub (getM 2) (tupM (argC (getM 9) (argC (getM 7) (argN))))) (tupM (argC (getM 7) (argC (getM 8) (argN))))))))
  (seqM (setS 3 (M.ret (.tmp (.dct none []))))
  (seqM (forD 2 (asgSeq 2 (asgCons (asgR 7) (asgCons (asgR 9) (asgNil)))) (asgS (asgSub (getM 3) (tupM (argC (getM 7) (argC (getM 9) (argN))))) (tupM (argC (getM 9) (argC (getM 7) (argN))))))
  (seqM (forS (asgSeq 2 (asgCons (asgR 10) (asgCons (asgR 11) (asgNil)))) (itE (argC (getM 6) (argN))) (ifS (tcmp fEq (getM 11) (cst (.str "third"))) (seqM (asgS (asgSub (getM 2) (getM 10)) (getM 10))
  (seqM (asgS (asgSub (getM 3) (getM 10)) (DL.bin fIx (getM 1) (getM 10)))
  (asgS (asgSub (getM 3) (DL.bin fIx (getM 1) (getM 10))) (getM 10)))) (ifS (tcmp fEq (getM 11) (cst (.str "half"))) (asgS (asgSub (getM 3) (DL.bin fIx (getM 1) (getM 10))) (DL.bin fIx (getM 1) (getM 10))) (asgS (asgSub (getM 3) (DL.bin fIx (getM 1) (getM 10))) (DL.bin fIx (getM 1) (getM 11))))))
  (seqM (setS 4 (tupM (argC (tupM (argC (cst (.int 1)) (argC (cst (.int 0)) (argN)))) (argC (tupM (argC (cst (.int 0)) (argC (cst (.int 1)) (argN)))) (argN)))))
  (seqM (ifS (tcmp fEq (callB fLen (argC (getM 5) (argN))) (cst (.int 2))) (seqM (setS 4 (DL.bin fIx (lstM (argC (cst (.int 1)) (argC (cst (.int 0)) (argN)))) (callB fInt1 (argC (DL.bin fNe (DL.bin fIx (getM 6) (cst (.int 1))) (cst (.str "third"))) (argN)))))
  (forS (asgR 10) (itA (lstM (argC (cst (.int 0)) (argC (cst (.int 1)) (argN))))) (ifS (tcmp fEq (DL.bin fIx (getM 6) (getM 10)) (cst (.str "third"))) (asgS (asgSub (getM 3) (getM 10)) (DL.bin fIx (lstM (argC (getM 10) (argC (DL.bin fSub (cst (.int 1)) (getM 10)) (argN)))) (callB fInt1 (argC (DL.bin fEq (DL.bin fIx (getM 6) (DL.bin fSub (cst (.int 1)) (getM 10))) (cst (.str "third"))) (argN))))) (nilS)))) (ifS (tcmp fNotIn (getM 4) (getM 2)) (setS 4 (DL.bin fIx (getM 3) (DL.bin fIx (getM 1) (un fNeg (cst (.int 1)))))) (nilS)))
  (retS (tupM (argC (getM 3) (argC (getM 2) (argC (getM 4) (argN))))))))))))))
noncomputable def fl_links : List D → FO := runF 11 wl_links
def lkG : M R := (lcM (put1 10) (M.ret true) (tupM (argC (DL.bin fIx (getM 5) (getM 10)) (argC (DL.bin fIx (getM 5) (DL.bin fMod (DL.bin fAdd (getM 10) (cst (.int 1))) (callB fLen (argC (getM 5) (argN))))) (argN)))) [10] (itR1 (argC (callB fLen (argC (getM 5) (argN))) (argN))))
def lkW : M Fl := (ifS (tcmp fEq (DL.bin fIx (getM 6) (getM 10)) (cst (.str "third"))) (asgS (asgSub (getM 3) (getM 10)) (DL.bin fIx (lstM (argC (getM 10) (argC (DL.bin fSub (cst (.int 1)) (getM 10)) (argN)))) (callB fInt1 (argC (DL.bin fEq (DL.bin fIx (getM 6) (DL.bin fSub (cst (.int 1)) (getM 10))) (cst (.str "third"))) (argN))))) (nilS))
noncomputable def lkE : M Fl := (ifS (tcmp fEq (callB fLen (argC (getM 5) (argN))) (cst (.int 2))) (seqM (setS 4 (DL.bin fIx (lstM (argC (cst (.int 1)) (argC (cst (.int 0)) (argN)))) (callB fInt1 (argC (DL.bin fNe (DL.bin fIx (getM 6) (cst (.int 1))) (cst (.str "third"))) (argN)))))
  (forS (asgR 10) (itA (lstM (argC (cst (.int 0)) (argC (cst (.int 1)) (argN))))) lkW)) (ifS (tcmp fNotIn (getM 4) (getM 2)) (setS 4 (DL.bin fIx (getM 3) (DL.bin fIx (getM 1) (un fNeg (cst (.int 1)))))) (nilS)))
theorem wl_links_eq : wl_links = seqM (asgS (asgSeq 2 (asgCons (asgR 5) (asgCons (asgR 6) (asgNil)))) (getM 0)) (seqM (setS 1 lkG) (seqM (setS 2 (M.ret (.tmp (.dct none []))))
  (seqM (forS (asgSeq 3 (asgCons (asgR 7) (asgCons (asgR 8) (asgCons (asgR 9) (asgNil))))) (itA (callF fl_tiles (argC (getM 5) (argN)))) lkT)
  (seqM (setS 3 (M.ret (.tmp (.dct none []))))
  (seqM (forD 2 (asgSeq 2 (asgCons (asgR 7) (asgCons (asgR 9) (asgNil)))) lkR)
  (seqM (forS (asgSeq 2 (asgCons (asgR 10) (asgCons (asgR 11) (asgNil)))) (itE (argC (getM 6) (argN))) lkMk)
  (seqM (setS 4 (tupM (argC (tupM (argC (cst (.int 1)) (argC (cst (.int 0)) (argN)))) (argC (tupM (argC (cst (.int 0)) (argC (cst (.int 1)) (argN)))) (argN)))))
  (seqM lkE (retS (tupM (argC (getM 3) (argC (getM 2) (argC (getM 4) (argN)))))))))))))) := rfl
theorem seq_go {ma mb : M Fl} {ρ ρ' : Rho} (h : ma ρ = .ok .nx ρ') : seqM ma mb ρ = mb ρ' := by
  rw [seq_ap, h]
  rfl
def gD' (mid : List P2) : D → D
  | .int i => sdD ((gapsF mid).getD i.toNat default)
  | d => d
theorem lkG_ok {mid : List P2} (hp : ∀ x ∈ mid, 1 ≤ x.2) (hm : mid.length ≤ 1000) (x0 x1 x2 x3 x4 x6 x7 x8 x9 x11 : Option T) : lkG [x0, x1, x2, x3, x4, some (.val (.tuple ((Fs mid).map fD))), x6, x7, x8, x9, none, x11] = .ok (.tmp (.lst none ((gapsF mid).map sdD))) [x0, x1, x2, x3, x4, some (.val (.tuple ((Fs mid).map fD))), x6, x7, x8, x9, none, x11] := by
  have hfl : ((Fs mid).map fD).length = mid.length + 1 := by simp
  have hlc := lcLoop_map (ρ := [x0, x1, x2, x3, x4, some (.val (.tuple ((Fs mid).map fD))), x6, x7, x8, x9, none, x11]) (f := put1 10) (me := tupM (argC (DL.bin fIx (getM 5) (getM 10)) (argC (DL.bin fIx (getM 5) (DL.bin fMod (DL.bin fAdd (getM 10) (cst (.int 1))) (callB fLen (argC (getM 5) (argN))))) (argN)))) (own := [10]) (gD' mid) (ds := irange 0 (mid.length + 1)) (fun d hd => by
    unfold irange at hd
    obtain ⟨i, hi, rfl⟩ := List.mem_map.mp hd
    have hi := List.mem_range.mp hi
    obtain ⟨a, b, q1, q2, q3⟩ := gaps_at hp (i := i) (by omega)
    have e1 := fr_at q2
    have e2 := fr_at q3
    have hm' : ((i : Int) + 1).fmod ((mid.length : Int) + 1) = (((i + 1) % (mid.length + 1) : Nat) : Int) := by
      rw [Int.fmod_eq_emod_of_nonneg _ (by omega)]
      simp
    have hm2 : ((i : Int) + 1) % ((mid.length : Int) + 1) = (((i + 1) % (mid.length + 1) : Nat) : Int) := by simp
    generalize (i + 1) % (mid.length + 1) = j at *
    have n1 : (mid.length : Int) + 1 ≠ 0 := by omega
    have eg : gD' mid (.int ((0 : Int) + (i : Int))) = .tuple [.tuple [.int a.1, .int a.2], .tuple [.int b.1, .int b.2]] := by
      show sdD _ = _
      rw [show ((0 : Int) + (i : Int)).toNat = i by omega, List.getD_eq_getElem?_getD, q1]
      rfl
    rw [eg]
    rw [Int.zero_add]
    generalize (Fs mid).map fD = row at *
    refine ⟨[x0, x1, x2, x3, x4, some (.val (.tuple row)), x6, x7, x8, x9, some (.val (.int i)), x11], .tmp (.val (.tuple [.tuple [.int a.1, .int a.2], .tuple [.int b.1, .int b.2]])), [x0, x1, x2, x3, x4, some (.val (.tuple row)), x6, x7, x8, x9, some (.val (.int i)), x11], [x0, x1, x2, x3, x4, some (.val (.tuple row)), x6, x7, x8, x9, some (.val (.int i)), x11], by simp, ?_, ?_, ?_⟩
    · simp [hfl, e1, e2, hm', hm2, n1]
    · simp
    · simp) (by simp; omega)
  have er : (irange 0 (mid.length + 1)).map (gD' mid) = (gapsF mid).map sdD := by
    apply List.ext_getElem?
    intro i
    unfold irange
    rw [List.map_map, List.getElem?_map, List.getElem?_map]
    by_cases hi : i < mid.length + 1
    · rw [List.getElem?_range hi]
      have hg : i < (gapsF mid).length := by rw [gapsF_len]; exact hi
      rw [List.getElem?_eq_getElem hg]
      show some (sdD ((gapsF mid).getD ((0 : Int) + (i : Int)).toNat default)) = _
      rw [show ((0 : Int) + (i : Int)).toNat = i by omega, List.getD_eq_getElem?_getD, List.getElem?_eq_getElem hg]
      rfl
    · rw [List.getElem?_eq_none_iff.mpr (by simp; omega), List.getElem?_eq_none_iff.mpr (by rw [gapsF_len]; omega)]
      rfl
  rw [er] at hlc
  have hrn := fun ρ => rng_nat ρ (n := mid.length + 1) (by omega)
  have hgl : ((gapsF mid).map sdD).length ≤ 16777216 := by rw [List.length_map, gapsF_len]; omega
  unfold lkG
  generalize (gapsF mid).map sdD = G at *
  generalize (Fs mid).map fD = row at *
  rw [Int.natCast_add] at hrn
  simp only [Int.natCast_one] at hrn
  simp [hfl, hrn, hlc, hgl]
end DL
set_option Elab.async false
set_option maxRecDepth 100000
set_option maxHeartbeats 4000000
namespace DL
open PySem L2
def s01 : Sd := ((1, 0), (0, 1))
abbrev lkEnd (mid : List P2) (ms : List Mk) (Td Hd : KyL) (x4 x7 x8 x9 x10 x11 : Option T) : Rho := [some (.val (fanD mid ms)), some (.lst none ((gapsF mid).map sdD)), some (.dct none (dD Td)), some (.dct none (dD Hd)), x4, some (.val (.tuple ((Fs mid).map fD))), some (.val (.tuple (ms.map mkD))), x7, x8, x9, x10, x11]
def wlR : M Fl := (retS (tupM (argC (getM 3) (argC (getM 2) (argC (getM 4) (argN))))))
theorem one_mid {mid : List P2} (h : (0, 1) ∈ mid) (h1 : mid.length = 1) : mid = [(0, 1)] := by
  match mid, h1, h with
  | [a], _, hz => rw [List.mem_singleton.mp hz]
theorem gaps_nd {mid : List P2} {ms : List Mk} (F : Fan mid ms) {ts : List (P2 × P2 × P2)} (hts : TilesOk mid ts) : (gapsF mid).Nodup := by
  by_cases h2 : 2 ≤ mid.length
  · exact (hts.sides h2).pe
  · have e := one_mid F.row.zero (by have := hts.len; omega)
    subst e
    decide
theorem lk_front {mid : List P2} {ms : List Mk} (F : Fan mid ms) : ∃ (ts : List (P2 × P2 × P2)) (H0 Td Hd : KyL) (y7 y8 y9 y10 y11 : Option T), TilesOk mid ts ∧ LkI (gapsF mid) ms (ts.foldl ptT []) H0 ms.length Td Hd ∧
    (∀ s, getK H0 (.sd s) = if s ∈ ts.flatMap sides3 then some (.sd (rev s)) else none) ∧ Td.length + Hd.length < 10000 ∧
    fl_links [fanD mid ms] = (seqM lkE wlR (lkEnd mid ms Td Hd (some (.val (sdD s01))) y7 y8 y9 y10 y11)).fin := by
  have hle := F.le
  have hml := F.len
  obtain ⟨ts, hts, et⟩ := tiles_ok (N := mid.length + 1) F.row.g (by omega) (by omega) (fun w hw => by
    have b := F.row.bd w hw
    have : 2 ^ mid.length < 2 ^ (mid.length + 1) := Nat.pow_lt_pow_right (by decide) (by omega)
    omega)
  have nd := gaps_nd F hts
  have hgl := gapsF_len mid
  have htl := hts.len
  have kT := ptT_keys ts []
  obtain ⟨ss, ess⟩ := keys_sds (l := ts.foldl ptT []) (fun x hx => by
    rcases (kT x).mp hx with ⟨s, _, e⟩ | z
    · exact ⟨s, e⟩
    · cases z)
  have lT := ptT_len ts []
  simp only [List.length_nil, Nat.zero_add] at lT
  have lss : ss.length = (ts.foldl ptT []).length := by
    have := congrArg List.length ess
    simp at this
    omega
  have lR := ptR_len ss []
  simp only [List.length_nil, Nat.zero_add] at lR
  generalize hT0 : ts.foldl ptT [] = T0 at *
  generalize hfan : fanD mid ms = fan
  obtain ⟨y7, y8, y9, n7, n8, n9, e1⟩ := lk_tiles (some (.val fan)) (some (.lst none ((gapsF mid).map sdD))) none none (some (.val (.tuple ((Fs mid).map fD)))) (some (.val (.tuple (ms.map mkD)))) none none ts [] none none none rfl rfl rfl (by simp; omega)
  rw [hT0] at e1
  obtain ⟨z7, z9, n7', n9', e2⟩ := lk_banks (some (.val fan)) (some (.lst none ((gapsF mid).map sdD))) (some (.shr 102 (dD T0))) none (some (.val (.tuple ((Fs mid).map fD)))) (some (.val (.tuple (ms.map mkD)))) y8 none none ss [] y7 y9 n7 n9 (by simp; omega)
  obtain ⟨Td, Hd, y10, y11, q1, q2, e3⟩ := lk_marks (T0 := T0) (H0 := ss.foldl ptR []) nd (by omega) F.marks (some (.val fan)) none (some (.val (.tuple ((Fs mid).map fD)))) (some (.val (.tuple (ms.map mkD)))) z7 y8 z9 ms 0 T0 (ss.foldl ptR []) none none (Nat.zero_le _) rfl (LkI.start _ _ _ _) (by omega)
  refine ⟨ts, ss.foldl ptR [], Td, Hd, z7, y8, z9, y10, y11, hts, by rw [hT0]; exact q1, fun s => ?_, by omega, ?_⟩
  · rw [ptR_get]
    show (if s ∈ ss then _ else none) = _
    have : s ∈ ss ↔ s ∈ ts.flatMap sides3 := by
      have h1 := kT (.sd s)
      rw [ess] at h1
      constructor
      · intro h
        rcases h1.mp (List.mem_map.mpr ⟨s, h, rfl⟩) with ⟨s', h', e⟩ | z
        · cases e
          exact h'
        · cases z
      · intro h
        obtain ⟨s', h', e⟩ := List.mem_map.mp (h1.mpr (.inl ⟨s, h, rfl⟩))
        cases e
        exact h'
    by_cases c : s ∈ ss
    · rw [if_pos c, if_pos (this.mp c)]
    · rw [if_neg c, if_neg (fun z => c (this.mpr z))]
  · unfold fl_links
    rw [wl_links_eq, run_eq]
    have g1 : asgS (asgSeq 2 (asgCons (asgR 5) (asgCons (asgR 6) (asgNil)))) (getM 0) [some (.val fan), none, none, none, none, none, none, none, none, none, none, none] = .ok .nx [some (.val fan), none, none, none, none, some (.val (.tuple ((Fs mid).map fD))), some (.val (.tuple (ms.map mkD))), none, none, none, none, none] := by
      rw [← hfan]
      unfold fanD
      generalize (Fs mid).map fD = row
      generalize ms.map mkD = mk
      simp
    have g2 : setS 1 lkG [some (.val fan), none, none, none, none, some (.val (.tuple ((Fs mid).map fD))), some (.val (.tuple (ms.map mkD))), none, none, none, none, none] = .ok .nx [some (.val fan), some (.lst none ((gapsF mid).map sdD)), none, none, none, some (.val (.tuple ((Fs mid).map fD))), some (.val (.tuple (ms.map mkD))), none, none, none, none, none] := by
      have := lkG_ok (mid := mid) F.row.pos (by omega) (some (.val fan)) none none none none (some (.val (.tuple (ms.map mkD)))) none none none none
      generalize (gapsF mid).map sdD = G at *
      generalize (Fs mid).map fD = row at *
      generalize ms.map mkD = mk at *
      generalize lkG = LG at *
      simp [this]
    have g3 : setS 2 (M.ret (.tmp (.dct none []))) [some (.val fan), some (.lst none ((gapsF mid).map sdD)), none, none, none, some (.val (.tuple ((Fs mid).map fD))), some (.val (.tuple (ms.map mkD))), none, none, none, none, none] = .ok .nx [some (.val fan), some (.lst none ((gapsF mid).map sdD)), some (.dct none (dD [])), none, none, some (.val (.tuple ((Fs mid).map fD))), some (.val (.tuple (ms.map mkD))), none, none, none, none, none] := by
      generalize (gapsF mid).map sdD = G at *
      generalize (Fs mid).map fD = row at *
      generalize ms.map mkD = mk at *
      simp [dD]
    have g4 : forS (asgSeq 3 (asgCons (asgR 7) (asgCons (asgR 8) (asgCons (asgR 9) (asgNil))))) (itA (callF fl_tiles (argC (getM 5) (argN)))) lkT [some (.val fan), some (.lst none ((gapsF mid).map sdD)), some (.dct none (dD [])), none, none, some (.val (.tuple ((Fs mid).map fD))), some (.val (.tuple (ms.map mkD))), none, none, none, none, none] = .ok .nx [some (.val fan), some (.lst none ((gapsF mid).map sdD)), some (.dct none (dD T0)), none, none, some (.val (.tuple ((Fs mid).map fD))), some (.val (.tuple (ms.map mkD))), y7, y8, y9, none, none] := by
      generalize (gapsF mid).map sdD = G at *
      generalize (Fs mid).map fD = row at *
      generalize ms.map mkD = mk at *
      generalize ts.map tlD = tl at *
      generalize dD [] = d0 at *
      generalize dD T0 = d1 at *
      generalize lkT = LT at *
      generalize asgSeq 3 (asgCons (asgR 7) (asgCons (asgR 8) (asgCons (asgR 9) (asgNil)))) = AS at *
      simp [et, e1]
    have g5 : setS 3 (M.ret (.tmp (.dct none []))) [some (.val fan), some (.lst none ((gapsF mid).map sdD)), some (.dct none (dD T0)), none, none, some (.val (.tuple ((Fs mid).map fD))), some (.val (.tuple (ms.map mkD))), y7, y8, y9, none, none] = .ok .nx [some (.val fan), some (.lst none ((gapsF mid).map sdD)), some (.dct none (dD T0)), some (.dct none (dD [])), none, some (.val (.tuple ((Fs mid).map fD))), some (.val (.tuple (ms.map mkD))), y7, y8, y9, none, none] := by
      generalize (gapsF mid).map sdD = G at *
      generalize (Fs mid).map fD = row at *
      generalize ms.map mkD = mk at *
      generalize dD T0 = d1 at *
      simp [dD]
    have g6 : forD 2 (asgSeq 2 (asgCons (asgR 7) (asgCons (asgR 9) (asgNil)))) lkR [some (.val fan), some (.lst none ((gapsF mid).map sdD)), some (.dct none (dD T0)), some (.dct none (dD [])), none, some (.val (.tuple ((Fs mid).map fD))), some (.val (.tuple (ms.map mkD))), y7, y8, y9, none, none] = .ok .nx [some (.val fan), some (.lst none ((gapsF mid).map sdD)), some (.dct none (dD T0)), some (.dct none (dD (ss.foldl ptR []))), none, some (.val (.tuple ((Fs mid).map fD))), some (.val (.tuple (ms.map mkD))), z7, y8, z9, none, none] := by
      refine forD_ap (kvs := dD T0) rfl (ρ' := [some (.val fan), some (.lst none ((gapsF mid).map sdD)), some (.shr 102 (dD T0)), some (.dct none (dD (ss.foldl ptR []))), none, some (.val (.tuple ((Fs mid).map fD))), some (.val (.tuple (ms.map mkD))), z7, y8, z9, none, none]) ?_ rfl ?_
      · have : (dD T0).map (·.1) = ss.map sdD := by
          unfold dD
          rw [List.map_map]
          have := congrArg (List.map kyD) ess
          rw [List.map_map, List.map_map] at this
          exact this
        rw [this]
        exact e2
      · show [_, _, _, _, _, _, _, unshr z7, unshr y8, unshr z9, _, _] = _
        rw [show unshr z7 = z7 from n7', show unshr y8 = y8 from n8, show unshr z9 = z9 from n9']
        rfl
    have g7 : forS (asgSeq 2 (asgCons (asgR 10) (asgCons (asgR 11) (asgNil)))) (itE (argC (getM 6) (argN))) lkMk [some (.val fan), some (.lst none ((gapsF mid).map sdD)), some (.dct none (dD T0)), some (.dct none (dD (ss.foldl ptR []))), none, some (.val (.tuple ((Fs mid).map fD))), some (.val (.tuple (ms.map mkD))), z7, y8, z9, none, none] = .ok .nx [some (.val fan), some (.lst none ((gapsF mid).map sdD)), some (.dct none (dD Td)), some (.dct none (dD Hd)), none, some (.val (.tuple ((Fs mid).map fD))), some (.val (.tuple (ms.map mkD))), z7, y8, z9, y10, y11] := by
      generalize (gapsF mid).map sdD = G at *
      generalize (Fs mid).map fD = row at *
      generalize ms.map mkD = mk at *
      generalize dD T0 = d1 at *
      generalize dD (ss.foldl ptR []) = d2 at *
      generalize dD Td = d3 at *
      generalize dD Hd = d4 at *
      generalize lkMk = LM at *
      generalize asgSeq 2 (asgCons (asgR 10) (asgCons (asgR 11) (asgNil))) = AS at *
      simp [e3]
    have g8 : setS 4 (tupM (argC (tupM (argC (cst (.int 1)) (argC (cst (.int 0)) (argN)))) (argC (tupM (argC (cst (.int 0)) (argC (cst (.int 1)) (argN)))) (argN)))) [some (.val fan), some (.lst none ((gapsF mid).map sdD)), some (.dct none (dD Td)), some (.dct none (dD Hd)), none, some (.val (.tuple ((Fs mid).map fD))), some (.val (.tuple (ms.map mkD))), z7, y8, z9, y10, y11] = .ok .nx [some (.val fan), some (.lst none ((gapsF mid).map sdD)), some (.dct none (dD Td)), some (.dct none (dD Hd)), some (.val (sdD s01)), some (.val (.tuple ((Fs mid).map fD))), some (.val (.tuple (ms.map mkD))), z7, y8, z9, y10, y11] := by
      generalize (gapsF mid).map sdD = G at *
      generalize (Fs mid).map fD = row at *
      generalize ms.map mkD = mk at *
      generalize dD Td = d3 at *
      generalize dD Hd = d4 at *
      unfold sdD s01 fD
      simp
    refine Eq.trans (congrArg Out.fin (seq_go g1)) ?_
    rw [seq_go g2, seq_go g3, seq_go g4, seq_go g5, seq_go g6, seq_go g7, seq_go g8, ← hfan]
    rfl
end DL
set_option Elab.async false
set_option maxRecDepth 100000
set_option maxHeartbeats 4000000
namespace DL
open PySem L2
/-- what the law's links are good for -/
structure LinkP (L : Nat) (Td Hd : KyL) (f : Ky) : Prop where
  ex : ∃ K : List Ky, f ∈ K ∧ K.length + 2 ≤ L ∧ KOk K Td Hd
theorem sides_len : ∀ ts : List (P2 × P2 × P2), (ts.flatMap sides3).length = 3 * ts.length
  | [] => rfl
  | t :: ts => by
    rw [List.flatMap_cons, List.length_append, sides_len ts, List.length_cons]
    simp [sides3]
    omega
theorem keys_len (PS : List Sd) (ms : List Mk) : (keysOf PS ms).length ≤ PS.length + ms.length := by
  unfold keysOf
  rw [List.length_append, List.length_map, List.length_map]
  have := List.length_filter_le (thd ms) (List.range ms.length)
  rw [List.length_range] at this
  omega
theorem links_big {mid : List P2} {ms : List Mk} (F : Fan mid ms) (h2 : 2 ≤ mid.length) : ∃ (Td Hd : KyL) (f : Ky), LinkP (4 * mid.length) Td Hd f ∧ fl_links [fanD mid ms] = .ok (.val (.tuple [.dict (dD Hd), .dict (dD Td), kyD f])) := by
  obtain ⟨ts, H0, Td, Hd, y7, y8, y9, y10, y11, hts, I, hH, hb, e⟩ := lk_front F
  have S : Sides (gapsF mid) (ts.flatMap sides3) := hts.sides h2
  have hml := F.len
  have hle := F.le
  have hgl := gapsF_len mid
  have KO := links_ok S (by rw [hml]; exact hgl.symm) F.marks rfl hH I
  have kl := keys_len (ts.flatMap sides3) ms
  rw [sides_len] at kl
  have htl := hts.len
  have hfl : ((Fs mid).map fD).length = mid.length + 1 := by simp
  have hn2 : ¬ ((mid.length : Int) + 1 = 2) := by omega
  have ni := notin_ky Td (.sd s01)
  cases c : getK Td (.sd s01) with
  | some v =>
    have hs : s01 ∈ ts.flatMap sides3 := Decidable.by_contra fun z => by
      rw [I.t_sd, ptT_fold_out ts [] (fun s hs q => z (by cases q; exact hs))] at c
      cases c
    refine ⟨Td, Hd, .sd s01, ⟨_, keys_sd.mpr hs, by omega, KO⟩, ?_⟩
    rw [e]
    rw [c] at ni
    have ni' : fNotIn (sdD s01) (.dict (dD Td)) = some (.val (.bool false)) := ni
    unfold lkEnd lkE wlR
    generalize fanD mid ms = fan
    generalize (gapsF mid).map sdD = G at *
    generalize (Fs mid).map fD = row at *
    generalize ms.map mkD = mk at *
    generalize dD Td = d3 at *
    generalize dD Hd = d4 at *
    simp [hfl, hn2, ni']
    rfl
  | none =>
    have em : ms[mid.length]? = some (ms[mid.length]'(by omega)) := List.getElem?_eq_getElem (by omega)
    generalize ms[mid.length]'(by omega) = m at em
    have eg := I.h_gap mid.length m (by omega) em
    have hgm : (gapsF mid).getD mid.length default ∈ ts.flatMap sides3 := S.sub _ (gap_mem (by rw [hgl]; omega))
    obtain ⟨h, t, u, w1, w2, w3, w4, w5, w6, w7, w8⟩ := KO _ (keys_sd.mpr hgm)
    refine ⟨Td, Hd, h, ⟨_, w3, by omega, KO⟩, ?_⟩
    rw [e]
    rw [c] at ni
    have ni' : fNotIn (sdD s01) (.dict (dD Td)) = some (.val (.bool true)) := ni
    have fx := fIx_ky Hd (.sd ((gapsF mid).getD mid.length default))
    rw [w1] at fx
    have fx' : fIx (.dict (dD Hd)) (sdD ((gapsF mid).getD mid.length default)) = some (.val (kyD h)) := fx
    have al : atI ((gapsF mid).map sdD) (-1) = some (sdD ((gapsF mid).getD mid.length default)) := by
      have e1 : gapsF mid = (gapsF mid).take mid.length ++ [(gapsF mid).getD mid.length default] := by
        have := List.drop_eq_getElem_cons (l := gapsF mid) (i := mid.length) (by omega)
        have d0 : (gapsF mid).drop (mid.length + 1) = [] := List.drop_eq_nil_iff.mpr (by omega)
        rw [d0] at this
        rw [List.getD_eq_getElem?_getD, List.getElem?_eq_getElem (by omega), Option.getD_some, ← this, List.take_append_drop]
      generalize (gapsF mid).getD mid.length default = z at *
      rw [e1, List.map_append]
      exact atI_last _ _
    unfold lkEnd lkE wlR
    generalize fanD mid ms = fan
    generalize (gapsF mid).map sdD = G at *
    generalize (Fs mid).map fD = row at *
    generalize ms.map mkD = mk at *
    generalize dD Td = d3 at *
    generalize dD Hd = d4 at *
    generalize sdD ((gapsF mid).getD mid.length default) = lst at *
    generalize kyD h = kh at *
    have fx2 := fx'
    simp only [fIx_d] at fx2
    simp [-fIx_d, hfl, hn2, ni', al, fx']
theorem links_two {mid : List P2} {ms : List Mk} (F : Fan mid ms) (h1 : mid.length = 1) (ht : ms.any isThird = true) : ∃ (Td Hd : KyL) (f : Ky), LinkP (4 * mid.length) Td Hd f ∧ fl_links [fanD mid ms] = .ok (.val (.tuple [.dict (dD Hd), .dict (dD Td), kyD f])) := by
  obtain ⟨ts, H0, Td, Hd, y7, y8, y9, y10, y11, hts, I, hH, hb, e⟩ := lk_front F
  have hml := F.len
  have hfl : ((Fs mid).map fD).length = 2 := by simp [h1]
  obtain ⟨m0, m1, rfl⟩ : ∃ m0 m1, ms = [m0, m1] := by
    have l2 : ms.length = 2 := by omega
    clear e I F
    match ms, l2 with
    | [a, b], _ => exact ⟨a, b, rfl⟩
  have s0 : ∀ (a b : Nat) ρ tag, subO 3 (.int (b : Int)) ρ (some (.int (a : Int))) (some (some (.dct tag (dD Hd)))) = .ok () (ρ.set 3 (some (.dct tag (dD (putK Hd (.gp a) (.gp b)))))) := fun a b ρ tag => subO_ky (i := 3) (l := Hd) (.gp a) (.gp b) (by omega) ρ tag
  have pl := putK_len (.gp 0) (.gp 1) Hd
  have s1 : ∀ ρ tag, subO 3 (.int (0 : Int)) ρ (some (.int (1 : Int))) (some (some (.dct tag (dD (putK Hd (.gp 0) (.gp 1)))))) = .ok () (ρ.set 3 (some (.dct tag (dD (putK (putK Hd (.gp 0) (.gp 1)) (.gp 1) (.gp 0)))))) := fun ρ tag => subO_ky (i := 3) (.gp 1) (.gp 0) (by omega) ρ tag
  have s2 : ∀ ρ tag, subO 3 (.int (1 : Int)) ρ (some (.int (0 : Int))) (some (some (.dct tag (dD Hd)))) = .ok () (ρ.set 3 (some (.dct tag (dD (putK Hd (.gp 0) (.gp 1)))))) := s0 0 1
  have s3 : ∀ ρ tag, subO 3 (.int (0 : Int)) ρ (some (.int (0 : Int))) (some (some (.dct tag (dD Hd)))) = .ok () (ρ.set 3 (some (.dct tag (dD (putK Hd (.gp 0) (.gp 0)))))) := s0 0 0
  have s4 : ∀ ρ tag, subO 3 (.int (1 : Int)) ρ (some (.int (1 : Int))) (some (some (.dct tag (dD Hd)))) = .ok () (ρ.set 3 (some (.dct tag (dD (putK Hd (.gp 1) (.gp 1)))))) := s0 1 1
  have sh : ¬ (PySem.Str.ofString "half" = PySem.Str.ofString "third") := by decide
  have tg : ∀ g, g < 2 → thd [m0, m1] g = true → getK Td (.gp g) = some (.gp g) := fun g h1 h2 => by rw [I.t_gp, if_pos ⟨h1, h2⟩]
  rw [e]
  cases m0 with
  | pair j => exact (no_pair2 F.marks rfl ht (i := 0) (j := j) rfl).elim
  | third =>
    have t0 := tg 0 (by decide) rfl
    cases m1 with
    | pair j => exact (no_pair2 F.marks rfl ht (i := 1) (j := j) rfl).elim
    | third =>
      have t1 := tg 1 (by decide) rfl
      have h0 : getK (putK (putK Hd (.gp 0) (.gp 1)) (.gp 1) (.gp 0)) (.gp 0) = some (.gp 1) := by rw [putK_get, if_neg (by decide), putK_get, if_pos rfl]
      have h1 : getK (putK (putK Hd (.gp 0) (.gp 1)) (.gp 1) (.gp 0)) (.gp 1) = some (.gp 0) := by rw [putK_get, if_pos rfl]
      refine ⟨Td, putK (putK Hd (.gp 0) (.gp 1)) (.gp 1) (.gp 0), .gp 1, ⟨[.gp 0, .gp 1], by simp, by simp; omega, fun k hk => ?_⟩, ?_⟩
      · simp only [List.mem_cons, List.not_mem_nil, or_false] at hk
        rcases hk with rfl | rfl
        · exact ⟨.gp 1, .gp 0, .gp 0, h0, t0, by simp, by simp, by simp, h1, t0, t0⟩
        · exact ⟨.gp 0, .gp 1, .gp 1, h1, t1, by simp, by simp, by simp, h0, t1, t1⟩
      · unfold lkEnd lkE wlR lkW
        generalize fanD mid [Mk.third, Mk.third] = fan
        generalize (gapsF mid).map sdD = G at *
        generalize (Fs mid).map fD = row at *
        generalize dD (putK (putK Hd (.gp 0) (.gp 1)) (.gp 1) (.gp 0)) = d6 at *
        generalize dD (putK Hd (.gp 0) (.gp 1)) = d5 at *
        generalize dD Td = d3 at *
        generalize dD Hd = d4 at *
        simp [hfl, forM_cons, s1, s2, mkD, kyD]
    | half =>
      have h0 : getK (putK Hd (.gp 0) (.gp 0)) (.gp 0) = some (.gp 0) := by rw [putK_get, if_pos rfl]
      refine ⟨Td, putK Hd (.gp 0) (.gp 0), .gp 0, ⟨[.gp 0], by simp, by simp; omega, fun k hk => ?_⟩, ?_⟩
      · rw [List.mem_singleton.mp hk]
        exact ⟨.gp 0, .gp 0, .gp 0, h0, t0, by simp, by simp, by simp, h0, t0, t0⟩
      · unfold lkEnd lkE wlR lkW
        generalize fanD mid [Mk.third, Mk.half] = fan
        generalize (gapsF mid).map sdD = G at *
        generalize (Fs mid).map fD = row at *
        generalize dD (putK Hd (.gp 0) (.gp 0)) = d5 at *
        generalize dD Td = d3 at *
        generalize dD Hd = d4 at *
        simp [hfl, forM_cons, s3, mkD, kyD, sh]
  | half =>
    cases m1 with
    | pair j => exact (no_pair2 F.marks rfl ht (i := 1) (j := j) rfl).elim
    | half => simp [isThird] at ht
    | third =>
      have t1 := tg 1 (by decide) rfl
      have h0 : getK (putK Hd (.gp 1) (.gp 1)) (.gp 1) = some (.gp 1) := by rw [putK_get, if_pos rfl]
      refine ⟨Td, putK Hd (.gp 1) (.gp 1), .gp 1, ⟨[.gp 1], by simp, by simp; omega, fun k hk => ?_⟩, ?_⟩
      · rw [List.mem_singleton.mp hk]
        exact ⟨.gp 1, .gp 1, .gp 1, h0, t1, by simp, by simp, by simp, h0, t1, t1⟩
      · unfold lkEnd lkE wlR lkW
        generalize fanD mid [Mk.half, Mk.third] = fan
        generalize (gapsF mid).map sdD = G at *
        generalize (Fs mid).map fD = row at *
        generalize dD (putK Hd (.gp 1) (.gp 1)) = d5 at *
        generalize dD Td = d3 at *
        generalize dD Hd = d4 at *
        simp [hfl, forM_cons, s4, mkD, kyD, sh]
theorem links_run {mid : List P2} {ms : List Mk} (F : Fan mid ms) (ht : mid.length = 1 → ms.any isThird = true) : ∃ (Td Hd : KyL) (f : Ky), LinkP (4 * mid.length) Td Hd f ∧ fl_links [fanD mid ms] = .ok (.val (.tuple [.dict (dD Hd), .dict (dD Td), kyD f])) := by
  by_cases h1 : mid.length = 1
  · exact links_two F h1 (ht h1)
  · have : mid.length ≠ 0 := fun z => mid_ne F.row (List.eq_nil_of_length_eq_zero z)
    exact links_big F (by omega)
end DL
set_option Elab.async false
set_option maxRecDepth 100000
set_option maxHeartbeats 4000000
namespace DL
open PySem L2
theorem eqvs_fD (a b : P2) : PyData.eqv (fD a) (fD b) = decide (a = b) := by
  obtain ⟨a1, a2⟩ := a
  obtain ⟨b1, b2⟩ := b
  simp only [fD, PyData.eqv, PyData.eqvAll, Bool.and_true, Prod.mk.injEq]
  by_cases h1 : a1 = b1 <;> by_cases h2 : a2 = b2 <;> simp [h1, h2]
theorem eqv_ky (a b : Ky) : PyData.eqv (kyD a) (kyD b) = decide (a = b) := by
  cases a with
  | gp i => cases b with
    | gp j =>
      simp only [kyD, PyData.eqv, Ky.gp.injEq]
      by_cases h : i = j
      · simp [h]
      · have : ¬ (i : Int) = (j : Int) := by omega
        simp [h, this]
    | sd s => simp [kyD, sdD, PyData.eqv]
  | sd s => cases b with
    | gp j => simp [kyD, sdD, PyData.eqv]
    | sd t =>
      obtain ⟨a, b⟩ := s
      obtain ⟨c, d⟩ := t
      simp only [kyD, sdD, PyData.eqv, PyData.eqvAll, Bool.and_true, Ky.sd.injEq, Prod.mk.injEq, eqvs_fD]
      by_cases h1 : a = c <;> by_cases h2 : b = d <;> simp [h1, h2]
theorem lay_ky (k : Ky) : PyData.canLay0 (kyD k) = true ∧ PyData.depth (kyD k) ≤ 4 := by
  cases k with
  | gp i => exact ⟨rfl, by simp [kyD, PyData.depth]⟩
  | sd s => exact ⟨rfl, by simp [kyD, sdD, fD, PyData.depth, PyData.depthAll]⟩
theorem lay_kys : ∀ l : List Ky, PyData.canLayAll0 (l.map kyD) = true ∧ PyData.depthAll (l.map kyD) ≤ 4
  | [] => ⟨by simp [PyData.canLayAll0], by simp [PyData.depthAll]⟩
  | c :: l => by
    obtain ⟨h1, h2⟩ := lay_kys l
    obtain ⟨h3, h4⟩ := lay_ky c
    simp only [List.map_cons, PyData.canLayAll0, PyData.depthAll, h3, h1, Bool.true_and]
    exact ⟨trivial, by omega⟩
theorem shaped_ky (k : Ky) : SeqAt.shaped (kyD k) = true := by
  obtain ⟨h1, h2⟩ := lay_ky k
  unfold SeqAt.shaped
  rw [h1]
  simp
  omega
theorem shaped_kys (l : List Ky) : SeqAt.shaped (.list (l.map kyD)) = true := by
  obtain ⟨h1, h2⟩ := lay_kys l
  unfold SeqAt.shaped
  simp only [PyData.canLay0, PyData.depth, h1]
  simp
  omega
theorem notin_kys (l : List Ky) (k : Ky) : fNotIn (kyD k) (.list (l.map kyD)) = some (.val (.bool (!decide (k ∈ l)))) := by
  have e : inD (kyD k) (.list (l.map kyD)) = some (decide (k ∈ l)) := by
    have ea : ((l.map kyD).any fun z => PyData.eqv z (kyD k)) = decide (k ∈ l) := by
      rw [List.any_map]
      induction l with
      | nil => simp
      | cons a l ih =>
        rw [List.any_cons, ih]
        show (PyData.eqv (kyD a) (kyD k) || _) = _
        rw [eqv_ky]
        by_cases h : a = k
        · simp [h]
        · have h' : ¬ k = a := fun z => h z.symm
          simp [h, h']
    show inL _ _ = _
    unfold inL
    rw [ea]
    split
    · rfl
    · rw [if_pos (by rw [shaped_ky, shaped_kys]; rfl)]
  unfold fNotIn
  rw [e]
  rfl
theorem findIdx_ky (k : Ky) : ∀ l : List Ky, (l.map kyD).findIdx (fun z => PyData.eqv z (kyD k)) = l.idxOf k
  | [] => rfl
  | a :: l => by
    have ih := findIdx_ky k l
    rw [List.map_cons, List.findIdx_cons, ih, eqv_ky, List.idxOf_cons]
    by_cases h : a = k
    · simp [h]
    · have hb : (a == k) = false := by simpa using h
      simp [h, hb]
theorem index_kys {l : List Ky} {k : Ky} (h : k ∈ l) : fIndex (.list (l.map kyD)) [kyD k] = some (.val (.int (l.idxOf k : Nat))) := by
  unfold fIndex
  dsimp only
  rw [findIdx_ky, if_pos (by rw [shaped_ky, shaped_kys]; simp), if_pos (by rw [List.length_map]; exact List.idxOf_lt_length_iff.mpr h)]
def hK (Hd : KyL) (k : Ky) : Ky := (getK Hd k).getD k
theorem KOk.h {K : List Ky} {Td Hd : KyL} (o : KOk K Td Hd) {k : Ky} (hk : k ∈ K) : getK Hd k = some (hK Hd k) ∧ getK Td k = some (hK Td k) ∧ hK Hd k ∈ K ∧ hK Td k ∈ K ∧ hK Hd (hK Hd k) = k ∧ hK Td (hK Td (hK Td k)) = k := by
  obtain ⟨h, t, u, w1, w2, w3, w4, w5, w6, w7, w8⟩ := o k hk
  unfold hK
  rw [w1, w2]
  simp only [Option.getD_some]
  rw [w6, w7]
  simp only [Option.getD_some]
  rw [w8]
  simp only [Option.getD_some]
  exact ⟨trivial, trivial, w3, w4, trivial, trivial⟩
end DL
set_option Elab.async false
set_option maxRecDepth 100000
set_option maxHeartbeats 4000000
namespace DL
open PySem L2
@[simp] theorem chtO_list (ρ : Rho) (z : List D) : chtO "list" ρ (some (.list z)) = .ok () ρ := (rfl)
def iNat (i : Nat) : D := .int (i : Int)
def tabD (hs ts : List Nat) : D := .tuple [.tuple (hs.map iNat), .tuple (ts.map iNat)]
end DL
set_option Elab.async false
set_option maxRecDepth 100000
set_option maxHeartbeats 4000000
namespace DL
open PySem L2
end DL
set_option Elab.async false
set_option maxRecDepth 100000
set_option maxHeartbeats 4000000
namespace DL
def itN (σ : Nat → Nat) : Nat → Nat → Nat
  | 0, x => x
  | j + 1, x => σ (itN σ j x)
structure PermN (σ : Nat → Nat) (n : Nat) : Prop where
  lt : ∀ i, i < n → σ i < n
  inj : ∀ i j, i < n → j < n → σ i = σ j → i = j
theorem itN_lt {σ : Nat → Nat} {n : Nat} (P : PermN σ n) {x : Nat} (hx : x < n) : ∀ j, itN σ j x < n
  | 0 => hx
  | j + 1 => P.lt _ (itN_lt P hx j)
theorem itN_inj {σ : Nat → Nat} {n : Nat} (P : PermN σ n) {x y : Nat} (hx : x < n) (hy : y < n) : ∀ j, itN σ j x = itN σ j y → x = y
  | 0, h => h
  | j + 1, h => itN_inj P hx hy j (P.inj _ _ (itN_lt P hx j) (itN_lt P hy j) h)
theorem itN_add (σ : Nat → Nat) (x : Nat) : ∀ i j, itN σ (i + j) x = itN σ i (itN σ j x)
  | 0, j => by rw [Nat.zero_add]; rfl
  | i + 1, j => by
    rw [show i + 1 + j = (i + j) + 1 by omega]
    show σ (itN σ (i + j) x) = σ _
    rw [itN_add σ x i j]
theorem least_of {P : Nat → Prop} : ∀ n, P n → ∃ m, P m ∧ m ≤ n ∧ ∀ j, j < m → ¬ P j := by
  intro n
  induction n using Nat.strongRecOn with
  | ind n ih =>
    intro h
    by_cases c : ∃ j, j < n ∧ P j
    · obtain ⟨j, h1, h2⟩ := c
      obtain ⟨m, q1, q2, q3⟩ := ih j h1 h2
      exact ⟨m, q1, by omega, q3⟩
    · exact ⟨n, h, Nat.le_refl _, fun j h1 h2 => c ⟨j, h1, h2⟩⟩
structure Per (σ : Nat → Nat) (k p : Nat) : Prop where
  pos : 1 ≤ p
  back : itN σ p k = k
  min : ∀ j, 1 ≤ j → j < p → itN σ j k ≠ k
theorem Per.inj {σ : Nat → Nat} {n k p : Nat} (P : PermN σ n) (hk : k < n) (h : Per σ k p) {i j : Nat} (hi : i < p) (hj : j < p) (e : itN σ i k = itN σ j k) : i = j := by
  have key : ∀ i j, i < p → j < p → i < j → itN σ i k ≠ itN σ j k := fun i j hi hj hij e => by
    have e2 : itN σ i k = itN σ i (itN σ (j - i) k) := by rw [← itN_add, show i + (j - i) = j by omega]; exact e
    exact h.min (j - i) (by omega) (by omega) (itN_inj P hk (itN_lt P hk _) i e2).symm
  rcases Nat.lt_trichotomy i j with c | c | c
  · exact absurd e (key i j hi hj c)
  · exact c
  · exact absurd e.symm (key j i hj hi c)
def cycP (σ : Nat → Nat) (k p : Nat) : List Nat := (List.range p).map fun j => itN σ j k
theorem nodup_map_on {α β : Type} {f : α → β} : ∀ {l : List α}, l.Nodup → (∀ a ∈ l, ∀ b ∈ l, f a = f b → a = b) → (l.map f).Nodup := fun h q => nodup_mapP h q
theorem cycP_nd {σ : Nat → Nat} {n k p : Nat} (P : PermN σ n) (hk : k < n) (h : Per σ k p) : (cycP σ k p).Nodup :=
  nodup_map_on List.nodup_range fun a ha b hb e => h.inj P hk (List.mem_range.mp ha) (List.mem_range.mp hb) e
theorem cycP_lt {σ : Nat → Nat} {n k p : Nat} (P : PermN σ n) (hk : k < n) : ∀ x ∈ cycP σ k p, x < n := fun x hx => by
  obtain ⟨j, _, rfl⟩ := List.mem_map.mp hx
  exact itN_lt P hk j
theorem per_ex {σ : Nat → Nat} {n k : Nat} (P : PermN σ n) (hk : k < n) : ∃ p, Per σ k p ∧ p ≤ n := by
  have ex : ∃ p, 1 ≤ p ∧ itN σ p k = k := by
    apply Classical.byContradiction
    intro no
    have nd : ((List.range (n + 1)).map fun j => itN σ j k).Nodup := nodup_map_on List.nodup_range fun a ha b hb e => by
      have key : ∀ i j, i < j → itN σ i k ≠ itN σ j k := fun i j hij e => by
        have e2 : itN σ i k = itN σ i (itN σ (j - i) k) := by rw [← itN_add, show i + (j - i) = j by omega]; exact e
        exact no ⟨j - i, by omega, (itN_inj P hk (itN_lt P hk _) i e2).symm⟩
      rcases Nat.lt_trichotomy a b with c | c | c
      · exact absurd e (key a b c)
      · exact c
      · exact absurd e.symm (key b a c)
    have := nodup_le (K := List.range n) nd fun x hx => by
      obtain ⟨j, _, rfl⟩ := List.mem_map.mp hx
      exact List.mem_range.mpr (itN_lt P hk j)
    simp at this
    omega
  obtain ⟨p0, h0⟩ := ex
  obtain ⟨p, ⟨h1, h2⟩, _, h3⟩ := least_of (P := fun p => 1 ≤ p ∧ itN σ p k = k) p0 h0
  have per : Per σ k p := ⟨h1, h2, fun j q1 q2 e => h3 j q2 ⟨q1, e⟩⟩
  refine ⟨p, per, ?_⟩
  have := nodup_le (K := List.range n) (cycP_nd P hk per) fun x hx => List.mem_range.mpr (cycP_lt P hk x hx)
  simpa [cycP] using this
open Classical in
noncomputable def perN (σ : Nat → Nat) (k : Nat) : Nat := if h : ∃ p, Per σ k p then h.choose else 0
theorem perN_ok {σ : Nat → Nat} {n k : Nat} (P : PermN σ n) (hk : k < n) : Per σ k (perN σ k) := by
  obtain ⟨p, h, _⟩ := per_ex P hk
  unfold perN
  rw [dif_pos ⟨p, h⟩]
  exact Exists.choose_spec (⟨p, h⟩ : ∃ p, Per σ k p)
noncomputable def cycN (σ : Nat → Nat) (k : Nat) : List Nat := cycP σ k (perN σ k)
theorem cycN_mem {σ : Nat → Nat} {k x : Nat} : x ∈ cycN σ k ↔ ∃ j, j < perN σ k ∧ itN σ j k = x := by
  unfold cycN cycP
  rw [List.mem_map]
  exact ⟨fun ⟨j, h1, h2⟩ => ⟨j, List.mem_range.mp h1, h2⟩, fun ⟨j, h1, h2⟩ => ⟨j, List.mem_range.mpr h1, h2⟩⟩
/-- what has been met is whole rounds, and all below k -/
structure SeenN (σ : Nat → Nat) (n k : Nat) (s : List Nat) : Prop where
  nd : s.Nodup
  lt : ∀ i ∈ s, i < n
  cl : ∀ i ∈ s, σ i ∈ s
  low : ∀ i, i < k → i ∈ s
theorem SeenN.it {σ : Nat → Nat} {n k : Nat} {s : List Nat} (S : SeenN σ n k s) {x : Nat} (hx : x ∈ s) : ∀ j, itN σ j x ∈ s
  | 0 => hx
  | j + 1 => S.cl _ (S.it hx j)
theorem SeenN.out {σ : Nat → Nat} {n k : Nat} {s : List Nat} (P : PermN σ n) (S : SeenN σ n k s) (hk : k < n) (h : k ∉ s) : ∀ j, j < perN σ k → itN σ j k ∉ s := fun j hj z => by
  have p := perN_ok P hk
  have := S.it z (perN σ k - j)
  rw [← itN_add, show perN σ k - j + j = perN σ k by omega, p.back] at this
  exact h this
theorem SeenN.add {σ : Nat → Nat} {n k : Nat} {s : List Nat} (P : PermN σ n) (S : SeenN σ n k s) (hk : k < n) (h : k ∉ s) : SeenN σ n (k + 1) (s ++ cycN σ k) := by
  have p := perN_ok P hk
  refine ⟨List.nodup_append.mpr ⟨S.nd, cycP_nd P hk p, fun a ha b hb e => ?_⟩, fun i hi => ?_, fun i hi => ?_, fun i hi => ?_⟩
  · subst e
    obtain ⟨j, hj, rfl⟩ := cycN_mem.mp hb
    exact S.out P hk h j hj ha
  · rcases List.mem_append.mp hi with hi | hi
    · exact S.lt i hi
    · exact cycP_lt P hk i hi
  · rcases List.mem_append.mp hi with hi | hi
    · exact List.mem_append_left _ (S.cl i hi)
    · obtain ⟨j, hj, rfl⟩ := cycN_mem.mp hi
      apply List.mem_append_right
      by_cases c : j + 1 < perN σ k
      · exact cycN_mem.mpr ⟨j + 1, c, rfl⟩
      · refine cycN_mem.mpr ⟨0, p.pos, ?_⟩
        show k = σ (itN σ j k)
        have := p.back
        rw [show perN σ k = j + 1 by omega] at this
        exact this.symm
  · by_cases c : i = k
    · subst c
      exact List.mem_append_right _ (cycN_mem.mpr ⟨0, p.pos, rfl⟩)
    · exact List.mem_append_left _ (S.low i (by omega))
theorem SeenN.zero (σ : Nat → Nat) (n : Nat) : SeenN σ n 0 [] := ⟨List.nodup_nil, by simp, by simp, by simp⟩
/-- round a vertex of a table -/
def sgN (hs ts : List Nat) (i : Nat) : Nat := ts.getD (hs.getD i 0) 0
theorem TabP.hl {hs ts : List Nat} (h : TabP hs ts) {i : Nat} (hi : i < hs.length) : hs.getD i 0 < hs.length := by
  rw [List.getD_eq_getElem?_getD, List.getElem?_eq_getElem hi]
  exact h.hlt _ (List.getElem_mem hi)
theorem TabP.tl {hs ts : List Nat} (h : TabP hs ts) {i : Nat} (hi : i < hs.length) : ts.getD i 0 < hs.length := by
  rw [List.getD_eq_getElem?_getD, List.getElem?_eq_getElem (by rw [← h.len]; exact hi)]
  exact h.tlt _ (List.getElem_mem _)
theorem TabP.perm {hs ts : List Nat} (h : TabP hs ts) : PermN (sgN hs ts) hs.length :=
  ⟨fun i hi => h.tl (h.hl hi), fun i j hi hj e => by
    unfold sgN at e
    have e2 : hs.getD i 0 = hs.getD j 0 := by
      rw [← h.t3 _ (h.hl hi), e, h.t3 _ (h.hl hj)]
    rw [← h.h2 i hi, e2, h.h2 j hj]⟩
end DL
set_option Elab.async false
set_option maxRecDepth 100000
set_option maxHeartbeats 4000000
namespace DL
open PySem L2
theorem at_iN {l : List Nat} {i : Nat} (h : i < l.length) : atI (l.map iNat) (i : Int) = some (.int ((l.getD i 0 : Nat) : Int)) := atI_n (by
  rw [List.getElem?_map, List.getElem?_eq_getElem h, List.getD_eq_getElem?_getD, List.getElem?_eq_getElem h]
  rfl)
def bD (s : List Nat) : List (D × D) := s.map fun i => (iNat i, .bool true)
theorem nkOf_nat (i : Nat) : (nkOf (iNat i)).isSome = true := nkOf_ky (.gp i)
end DL
set_option Elab.async false
set_option maxRecDepth 100000
set_option maxHeartbeats 4000000
namespace DL
open PySem L2
theorem flat_nat (l : List Nat) : (l.map iNat).all flatD = true := by
  rw [List.all_map, List.all_eq_true]
  intro m _
  rfl
theorem in_nat (l : List Nat) (x : Nat) : fIn (.int (x : Nat)) (.list (l.map iNat)) = some (.val (.bool (decide (x ∈ l)))) := by
  have e : inD (.int (x : Nat)) (.list (l.map iNat)) = some (decide (x ∈ l)) := by
    show inL _ _ = _
    unfold inL
    rw [flat_nat, if_pos (by rfl)]
    congr 1
    induction l with
    | nil => simp
    | cons a l ih =>
      rw [List.map_cons, List.any_cons, ih]
      have : PyData.eqv (iNat a) (.int (x : Nat)) = decide (a = x) := by
        show ((a : Int) == (x : Int)) = _
        by_cases h : a = x
        · simp [h]
        · have : ¬ (a : Int) = (x : Int) := by omega
          simp [h, this]
      rw [this]
      by_cases h : a = x
      · simp [h]
      · have h' : ¬ x = a := fun z => h z.symm
        simp [h, h']
  unfold fIn
  rw [e]
  rfl
end DL
set_option Elab.async false
set_option maxRecDepth 100000
set_option maxHeartbeats 4000000
namespace DL
open PySem L2
end DL
set_option Elab.async false
set_option maxRecDepth 100000
set_option maxHeartbeats 4000000
namespace DL
open PySem L2
def gD0 (xs : List Nat) (i : Nat) : Nat := xs.getD i 0
end DL
set_option Elab.async false
set_option maxRecDepth 100000
set_option maxHeartbeats 4000000
namespace DL
open PySem L2
def mD (f : Nat) (r : List Nat) : List (D × D) := (iNat f, .bool true) :: (.none, .bool true) :: bD r
end DL
set_option Elab.async false
set_option maxRecDepth 100000
set_option maxHeartbeats 4000000
namespace DL
open PySem L2
end DL
set_option Elab.async false
set_option maxRecDepth 100000
set_option maxHeartbeats 4000000
namespace DL
open PySem L2
theorem TabP.gh {hs ts : List Nat} (P : TabP hs ts) : ∀ x ∈ List.range hs.length, gD0 hs x ∈ List.range hs.length ∧ gD0 ts x ∈ List.range hs.length := fun x hx => by
  have := List.mem_range.mp hx
  exact ⟨List.mem_range.mpr (P.hl this), List.mem_range.mpr (P.tl this)⟩
theorem charsW (l : List Nat) : chars (mkS l) = l.map Lt := by simp [chars]
theorem one_eqW (c d : Nat) : decide ((⟨#[c]⟩ : Str) = ⟨#[d]⟩) = decide (c = d) := by
  congr 1
  simp
theorem eqs_W (x : Nat) : fEq (Lt x) (.str "s") = some (.val (.bool (decide (x = 115)))) := by
  rw [fEq_ss, show ("s" : Str) = ⟨#[115]⟩ by decide, one_eqW]
theorem eqr_W (x : Nat) : fEq (Lt x) (.str "r") = some (.val (.bool (decide (x = 114)))) := by
  rw [fEq_ss, show ("r" : Str) = ⟨#[114]⟩ by decide, one_eqW]
def ledL (hs ts : List Nat) (p c : Nat) : Nat := if c = 115 then gD0 hs p else if c = 114 then gD0 ts p else gD0 ts (gD0 ts p)
def ledT (hs ts : List Nat) (w : List Nat) (p : Nat) : Nat := w.foldl (ledL hs ts) p
theorem ledL_lt {hs ts : List Nat} (P : TabP hs ts) {p : Nat} (hp : p < hs.length) (c : Nat) : ledL hs ts p c < hs.length := by
  unfold ledL
  split
  · exact P.hl hp
  · split
    · exact P.tl hp
    · exact P.tl (P.tl hp)
end DL
set_option Elab.async false
set_option maxRecDepth 100000
set_option maxHeartbeats 4000000
namespace DL
open PySem L2
end DL
set_option Elab.async false
set_option maxRecDepth 100000
set_option maxHeartbeats 4000000
set_option exponentiation.threshold 5000
namespace DL
open PySem L2
def NB (n : Int) (m : M4) : Prop := ∃ e : Int, (e = 1 ∨ e = -1) ∧ n ∣ m.b ∧ n ∣ m.c ∧ n ∣ m.a - e ∧ n ∣ m.d - e
theorem NB.one (n : Int) : NB n M4.one := ⟨1, .inl rfl, Int.dvd_zero n, Int.dvd_zero n, Int.dvd_zero n, Int.dvd_zero n⟩
theorem NB.mul {n : Int} {x y : M4} (hx : NB n x) (hy : NB n y) : NB n (x.mul y) := by
  obtain ⟨e, he, ⟨b, hb⟩, ⟨c, hc⟩, ⟨a, ha⟩, ⟨d, hd⟩⟩ := hx
  obtain ⟨f, hf, ⟨b', hb'⟩, ⟨c', hc'⟩, ⟨a', ha'⟩, ⟨d', hd'⟩⟩ := hy
  refine ⟨e * f, by rcases he with rfl | rfl <;> rcases hf with rfl | rfl <;> simp, ?_, ?_, ?_, ?_⟩
  · exact ⟨x.a * b' + b * y.d, by show x.a * y.b + x.b * y.d = _; rw [hb, hb']; grind⟩
  · exact ⟨c * y.a + x.d * c', by show x.c * y.a + x.d * y.c = _; rw [hc, hc']; grind⟩
  · exact ⟨a * y.a + e * a' + b * y.c, by
      show x.a * y.a + x.b * y.c - e * f = _
      have h1 : x.a = n * a + e := by omega
      have h2 : y.a = n * a' + f := by omega
      rw [hb, h1, h2]; grind⟩
  · exact ⟨c * y.b + d * y.d + e * d', by
      show x.c * y.b + x.d * y.d - e * f = _
      have h1 : x.d = n * d + e := by omega
      have h2 : y.d = n * d' + f := by omega
      rw [hc, h1, h2]; grind⟩
theorem NB.neg {n : Int} {x : M4} (hx : NB n x) : NB n x.neg := by
  obtain ⟨e, he, ⟨b, hb⟩, ⟨c, hc⟩, ⟨a, ha⟩, ⟨d, hd⟩⟩ := hx
  refine ⟨-e, by rcases he with rfl | rfl <;> simp, ⟨-b, ?_⟩, ⟨-c, ?_⟩, ⟨-a, ?_⟩, ⟨-d, ?_⟩⟩
  · show -x.b = _; rw [hb]; grind
  · show -x.c = _; rw [hc]; grind
  · show -x.a - -e = _; have : x.a = n * a + e := by omega
    rw [this]; grind
  · show -x.d - -e = _; have : x.d = n * d + e := by omega
    rw [this]; grind
theorem NB.nrm {n : Int} {x : M4} (hx : NB n x) : NB n x.nrm := by
  unfold M4.nrm
  split
  · exact hx.neg
  · exact hx
theorem NB.tm {n : Int} {x y : M4} (hx : NB n x) (hy : NB n y) : NB n (x.tm y) := by
  unfold M4.tm M4.nrm
  split
  · exact (hx.mul hy).neg
  · exact hx.mul hy
end DL
set_option Elab.async false
set_option maxRecDepth 100000
set_option maxHeartbeats 4000000
namespace DL
open PySem L2
structure SeqOf (X : D) (xs : List Nat) : Prop where
  len : fLen [X] = some (.val (.int xs.length))
  ix : ∀ i : Int, fIx X (.int i) = (atI (xs.map iNat) i).map .val
theorem seq_tup (xs : List Nat) : SeqOf (.tuple (xs.map iNat)) xs := ⟨by rw [fLen_t]; simp, fun i => fIx_t _ i⟩
end DL
set_option Elab.async false
set_option maxRecDepth 100000
set_option maxHeartbeats 4000000
namespace DL
open PySem L2
theorem all_met {hs ts : List Nat} (P : TabP hs ts) {p : Nat} {met : List Nat} (I : MetI (gD0 hs) (gD0 ts) (List.range hs.length) met met.length) (hp : p ∈ met) : ∀ x, x < hs.length → x ∈ met := by
  have cl : ∀ x ∈ met, gD0 hs x ∈ met ∧ gD0 ts x ∈ met := fun y hy => by
    obtain ⟨i, hi⟩ := List.mem_iff_getElem?.mp hy
    exact I.cl i y (List.getElem?_eq_some_iff.mp hi).1 hi
  have lt : ∀ x ∈ met, x < hs.length := fun x hx => List.mem_range.mp (I.sub x hx)
  by_cases h0 : 0 ∈ met
  · obtain ⟨m, e, J⟩ := bfs_end (K := met) cl (hs.length + met.length) [0] 0 (bfs_start h0) (by omega)
    have e2 : bfs (gD0 hs) (gD0 ts) (hs.length + met.length) [0] 0 = List.range hs.length := P.met _ (by omega)
    rw [e2] at e
    subst e
    exact fun x hx => J.sub x (List.mem_range.mpr hx)
  · have c2 : ∀ x ∈ (List.range hs.length).filter (fun i => !decide (i ∈ met)), gD0 hs x ∈ (List.range hs.length).filter (fun i => !decide (i ∈ met)) ∧ gD0 ts x ∈ (List.range hs.length).filter (fun i => !decide (i ∈ met)) := fun x hx => by
      obtain ⟨h1, h2⟩ := List.mem_filter.mp hx
      have h1 := List.mem_range.mp h1
      have h2 : x ∉ met := by simpa using h2
      constructor
      · refine List.mem_filter.mpr ⟨List.mem_range.mpr (P.hl h1), ?_⟩
        have : gD0 hs x ∉ met := fun z => h2 (by
          have := (cl _ z).1
          rwa [show gD0 hs (gD0 hs x) = x from P.h2 x h1] at this)
        simpa using this
      · refine List.mem_filter.mpr ⟨List.mem_range.mpr (P.tl h1), ?_⟩
        have : gD0 ts x ∉ met := fun z => h2 (by
          have := (cl _ (cl _ z).2).2
          rwa [show gD0 ts (gD0 ts (gD0 ts x)) = x from P.t3 x h1] at this)
        simpa using this
    have m0 : 0 ∈ (List.range hs.length).filter (fun i => !decide (i ∈ met)) := List.mem_filter.mpr ⟨List.mem_range.mpr P.pos, by simpa using h0⟩
    obtain ⟨m, e, J⟩ := bfs_end c2 (hs.length + ((List.range hs.length).filter (fun i => !decide (i ∈ met))).length) [0] 0 (bfs_start m0) (by omega)
    have e2 : bfs (gD0 hs) (gD0 ts) (hs.length + ((List.range hs.length).filter (fun i => !decide (i ∈ met))).length) [0] 0 = List.range hs.length := P.met _ (by omega)
    rw [e2] at e
    subst e
    have := J.sub p (List.mem_range.mpr (lt p hp))
    have h2 := (List.mem_filter.mp this).2
    have h3 : p ∉ met := by simpa using h2
    exact absurd hp h3
def metT (hs ts : List Nat) (p : Nat) : List Nat := bfs (gD0 hs) (gD0 ts) hs.length [p] 0
def hsT (hs ts : List Nat) (p : Nat) : List Nat := numT (gD0 hs) (metT hs ts p)
def tsT (hs ts : List Nat) (p : Nat) : List Nat := numT (gD0 ts) (metT hs ts p)
structure MetAll (hs ts met : List Nat) : Prop where
  nd : met.Nodup
  all : ∀ x, x ∈ met ↔ x < hs.length
  len : met.length = hs.length
theorem anew_tab {hs ts : List Nat} (P : TabP hs ts) {p : Nat} (hp : p < hs.length) : TabP (hsT hs ts p) (tsT hs ts p) ∧ MetAll hs ts (metT hs ts p) := by
  obtain ⟨met, em, I, m0, TP⟩ := tab_of (h := gD0 hs) (t := gD0 ts) (K := List.range hs.length) (x := p) (List.mem_range.mpr hp) P.gh (fun x hx => P.h2 x (List.mem_range.mp hx)) (fun x hx => P.t3 x (List.mem_range.mp hx)) (N := hs.length) (by simp)
  have hm : metT hs ts p = met := em
  unfold hsT tsT
  rw [hm]
  refine ⟨TP, I.nd, fun x => ⟨fun h => List.mem_range.mp (I.sub x h), all_met P I (List.mem_of_getElem? m0) x⟩, ?_⟩
  have a := nodup_le (K := List.range hs.length) I.nd I.sub
  have b := nodup_le (K := met) (l := List.range hs.length) List.nodup_range fun x hx => all_met P I (List.mem_of_getElem? m0) x (List.mem_range.mp hx)
  simp at a b
  omega
end DL
set_option Elab.async false
set_option maxRecDepth 100000
set_option maxHeartbeats 4000000
namespace DL
open PySem L2
end DL
set_option Elab.async false
set_option maxRecDepth 100000
set_option maxHeartbeats 4000000
namespace DL
open PySem L2
noncomputable def wl_anew : M Fl := seqM (setS 3 (lstM (argC (getM 2) (argN))))
  (seqM (setS 4 (cst (.int 0)))
  (seqM (whileC (tcmp fLt (getM 4) (callB fLen (argC (getM 3) (argN)))) (seqM (forS (asgR 5) (itA (lstM (argC (DL.bin fIx (getM 0) (DL.bin fIx (getM 3) (getM 4))) (argC (DL.bin fIx (getM 1) (DL.bin fIx (getM 3) (getM 4))) (argN))))) (ifS (tcmp fNotIn (getM 5) (getM 3)) (exS (apE (getM 3) (getM 5))) (nilS)))
  (setS 4 (DL.bin fAdd (getM 4) (cst (.int 1))))))
  (retS (tupM (argC (callB fTuple (argC (lcM (put1 6) (M.ret true) (mthE "list" fIndex (getM 3) (argC (DL.bin fIx (getM 0) (getM 6)) (argN))) [6] (itA (getM 3))) (argN))) (argC (callB fTuple (argC (lcM (put1 6) (M.ret true) (mthE "list" fIndex (getM 3) (argC (DL.bin fIx (getM 1) (getM 6)) (argN))) [6] (itA (getM 3))) (argN))) (argN)))))))
noncomputable def fl_anew : List D → FO := runF 4 wl_anew
structure EncOk {α : Type} [DecidableEq α] (enc : α → D) : Prop where
  ni : ∀ (l : List α) (k : α), fNotIn (enc k) (.list (l.map enc)) = some (.val (.bool (!decide (k ∈ l))))
  ix : ∀ (l : List α) (k : α), k ∈ l → fIndex (.list (l.map enc)) [enc k] = some (.val (.int (l.idxOf k : Nat)))
  inj : ∀ a b, enc a = enc b → a = b
theorem enc_ky : EncOk kyD := ⟨notin_kys, fun l k h => index_kys h, fun a b h => kyD_inj h⟩
theorem notin_nat (l : List Nat) (x : Nat) : fNotIn (iNat x) (.list (l.map iNat)) = some (.val (.bool (!decide (x ∈ l)))) := by
  have e : (inD (iNat x) (.list (l.map iNat))).map (fun b => T.val (.bool b)) = some (.val (.bool (decide (x ∈ l)))) := in_nat l x
  unfold fNotIn
  cases q : inD (iNat x) (.list (l.map iNat)) with
  | none => rw [q] at e; cases e
  | some b =>
    rw [q] at e
    have : b = decide (x ∈ l) := by
      have := Option.some.inj e
      cases this
      rfl
    rw [this]
    rfl
theorem findIdx_iN (k : Nat) : ∀ l : List Nat, (l.map iNat).findIdx (fun z => PyData.eqv z (iNat k)) = l.idxOf k
  | [] => rfl
  | a :: l => by
    have ih := findIdx_iN k l
    have ev : PyData.eqv (iNat a) (iNat k) = decide (a = k) := by
      show ((a : Int) == (k : Int)) = _
      by_cases h : a = k
      · simp [h]
      · have : ¬ (a : Int) = (k : Int) := by omega
        simp [h, this]
    rw [List.map_cons, List.findIdx_cons, ih, ev, List.idxOf_cons]
    by_cases h : a = k
    · simp [h]
    · have hb : (a == k) = false := by simpa using h
      simp [h, hb]
theorem enc_nat : EncOk iNat := ⟨notin_nat, fun l k h => by
  unfold fIndex
  dsimp only
  rw [findIdx_iN, flat_nat, if_pos (by rfl), if_pos (by rw [List.length_map]; exact List.idxOf_lt_length_iff.mpr h)], fun a b h => by
  have : (a : Int) = (b : Int) := by
    unfold iNat at h
    cases h
    rfl
  omega⟩
section
variable {α : Type} [DecidableEq α] {enc : α → D} {X Y : D} {h t : α → α} {K : List α}
def anC : M Bool := (tcmp fLt (getM 4) (callB fLen (argC (getM 3) (argN))))
def anT : M Fl := (ifS (tcmp fNotIn (getM 5) (getM 3)) (exS (apE (getM 3) (getM 5))) (nilS))
noncomputable def anB : M Fl := (seqM (forS (asgR 5) (itA (lstM (argC (DL.bin fIx (getM 0) (DL.bin fIx (getM 3) (getM 4))) (argC (DL.bin fIx (getM 1) (DL.bin fIx (getM 3) (getM 4))) (argN))))) anT)
  (setS 4 (DL.bin fAdd (getM 4) (cst (.int 1)))))
def anN (i : Nat) : M R := (lcM (put1 6) (M.ret true) (mthE "list" fIndex (getM 3) (argC (DL.bin fIx (getM i) (getM 6)) (argN))) [6] (itA (getM 3)))
theorem wl_anew_eq : wl_anew = seqM (setS 3 (lstM (argC (getM 2) (argN)))) (seqM (setS 4 (cst (.int 0))) (seqM (whileC anC anB) (retS (tupM (argC (callB fTuple (argC (anN 0) (argN))) (argC (callB fTuple (argC (anN 1) (argN))) (argN))))))) := rfl
abbrev anS (enc : α → D) (X Y : D) (x2 : Option T) (met : List α) (k : Nat) (x5 x6 : Option T) : Rho := [some (.val X), some (.val Y), x2, some (.lst none (met.map enc)), some (.val (.int k)), x5, x6]
theorem an_one (E : EncOk enc) {met : List α} {k : Nat} {y : α} (hl : met.length ≤ 1000) (x2 x6 : Option T) : anT (anS enc X Y x2 met k (some (.val (enc y))) x6) = .ok .nx (anS enc X Y x2 (addM met y) k (some (.val (enc y))) x6) := by
  have ni := E.ni met y
  have hml : (met.map enc).length < 16777216 := by simp; omega
  have ea : (met ++ [y]).map enc = met.map enc ++ [enc y] := by simp
  unfold anT anS addM
  by_cases c : y ∈ met
  · rw [if_pos c]
    have ni' : fNotIn (enc y) (.list (met.map enc)) = some (.val (.bool false)) := by rw [ni]; simp [c]
    generalize met.map enc = M at *
    generalize enc y = d at *
    simp [ni']
  · rw [if_neg c, ea]
    have ni' : fNotIn (enc y) (.list (met.map enc)) = some (.val (.bool true)) := by rw [ni]; simp [c]
    generalize met.map enc = M at *
    generalize enc y = d at *
    simp [ni', hml]
structure StepOk (enc : α → D) (X Y : D) (h t : α → α) (K : List α) : Prop where
  fx : ∀ x ∈ K, fIx X (enc x) = some (.val (enc (h x)))
  fy : ∀ x ∈ K, fIx Y (enc x) = some (.val (enc (t x)))
  cl : ∀ x ∈ K, h x ∈ K ∧ t x ∈ K
theorem an_step (E : EncOk enc) (S : StepOk enc X Y h t K) {met : List α} {k : Nat} {x : α} (hx : met[k]? = some x) (hK' : x ∈ K) (hl : met.length + 2 ≤ 1000) (x2 x5 x6 : Option T) : ∃ y5, anB (anS enc X Y x2 met k x5 x6) = .ok .nx (anS enc X Y x2 (stepM h t met x) (k + 1) y5 x6) := by
  have f1 := S.fx x hK'
  have f2 := S.fy x hK'
  have a1 : atI (met.map enc) (k : Int) = some (enc x) := atI_n (by rw [List.getElem?_map, hx]; rfl)
  refine ⟨some (.val (enc (t x))), ?_⟩
  have t1 := an_one (X := X) (Y := Y) E (met := met) (k := k) (y := h x) (by omega) x2 x6
  have l1 : (addM met (h x)).length ≤ met.length + 1 := by
    unfold addM
    split <;> simp
  have t2 := an_one (X := X) (Y := Y) E (met := addM met (h x)) (k := k) (y := t x) (by omega) x2 x6
  have kc : ((k : Int) + 1) = ((k + 1 : Nat) : Int) := by omega
  unfold anB stepM
  unfold anS at *
  generalize (addM (addM met (h x)) (t x)).map enc = M2 at *
  generalize (addM met (h x)).map enc = M1 at *
  generalize met.map enc = M at *
  generalize enc x = d at *
  generalize enc (h x) = dh at *
  generalize enc (t x) = dt at *
  generalize anT = TT at *
  simp [forM_cons, a1, f1, f2, t1, t2]
theorem an_loop (E : EncOk enc) (S : StepOk enc X Y h t K) (hKl : K.length ≤ 900) (x2 x6 : Option T) : ∀ (n : Nat) (met : List α) (k : Nat) (x5 : Option T), MetI h t K met k → K.length ≤ n + k → ∃ (k' : Nat) (y5 : Option T), whileC anC anB (anS enc X Y x2 met k x5 x6) = .ok .nx (anS enc X Y x2 (bfs h t n met k) k' y5 x6) := by
  have cond : ∀ (met : List α) (k : Nat) (x5 : Option T), anC (anS enc X Y x2 met k x5 x6) = .ok (decide (k < met.length)) (anS enc X Y x2 met k x5 x6) := fun met k x5 => by
    have hml : (met.map enc).length = met.length := by simp
    unfold anC anS
    generalize met.map enc = M at *
    simp [hml]
  intro n
  induction n with
  | zero =>
    intro met k x5 I hn
    have hl := I.len
    refine ⟨k, x5, ?_⟩
    rw [while_ap, cond, bnd_ok, if_neg (by simp; omega)]
    rfl
  | succ n ih =>
    intro met k x5 I hn
    by_cases c : k < met.length
    · have hx : met[k]? = some met[k] := List.getElem?_eq_getElem c
      have hl := I.len
      obtain ⟨y5, e⟩ := an_step E S hx (I.sub _ (List.getElem_mem c)) (by omega) x2 x5 x6
      obtain ⟨k', z5, e2⟩ := ih _ (k + 1) y5 (I.step S.cl hx) (by omega)
      refine ⟨k', z5, ?_⟩
      rw [while_ap, cond, bnd_ok, if_pos (by simpa using c), bind_ap, e, bnd_ok, loop_nx]
      have eb : bfs h t (n + 1) met k = bfs h t n (stepM h t met met[k]) (k + 1) := by
        simp only [bfs, hx]
      rw [eb]
      exact e2
    · refine ⟨k, x5, ?_⟩
      rw [while_ap, cond, bnd_ok, if_neg (by simpa using c)]
      have eb : bfs h t (n + 1) met k = met := by
        simp only [bfs, List.getElem?_eq_none_iff.mpr (show met.length ≤ k by omega)]
      rw [eb]
      rfl
open Classical in
noncomputable def gE (enc : α → D) (g : α → α) (met : List α) (d : D) : D := if q : ∃ y, enc y = d then .int (met.idxOf (g q.choose) : Nat) else d
theorem gE_ok (E : EncOk enc) (g : α → α) (met : List α) (y : α) : gE enc g met (enc y) = .int (met.idxOf (g y) : Nat) := by
  unfold gE
  have q : ∃ z, enc z = enc y := ⟨y, rfl⟩
  rw [dif_pos q, E.inj _ _ q.choose_spec]
theorem an_nums (E : EncOk enc) {g : α → α} {Z : D} {met : List α} (hg : ∀ y ∈ met, fIx Z (enc y) = some (.val (enc (g y))) ∧ g y ∈ met) (hl : met.length ≤ 1000) {i : Nat} {ρ : Rho} (h3 : ρ[3]? = some (some (.val (.list (met.map enc))))) (hi : ρ[i]? = some (some (.val Z))) (h6 : ρ[6]? = some none) (hi6 : i ≠ 6) :
    lcLoop (put1 6) (M.ret true) (mthE "list" fIndex (getM 3) (argC (DL.bin fIx (getM i) (getM 6)) (argN))) [6] (met.map enc) [] ρ = .ok ((numT g met).map iNat) ρ := by
  have hlt : 6 < ρ.length := (List.getElem?_eq_some_iff.mp h6).1
  rw [lcLoop_map (gE enc g met) (fun d hd => by
    obtain ⟨y, hy, rfl⟩ := List.mem_map.mp hd
    obtain ⟨f1', g2⟩ := hg y hy
    have fx := E.ix met (g y) g2
    have k1 : (ρ.set 6 (some (.val (enc y))))[3]? = some (some (.val (.list (met.map enc)))) := by rw [List.getElem?_set_ne (by decide)]; exact h3
    have ki : (ρ.set 6 (some (.val (enc y))))[i]? = some (some (.val Z)) := by rw [List.getElem?_set_ne (fun z => hi6 z.symm)]; exact hi
    have k7 : (ρ.set 6 (some (.val (enc y))))[6]? = some (some (.val (enc y))) := List.getElem?_set_self hlt
    refine ⟨ρ.set 6 (some (.val (enc y))), .tmp (.val (.int (met.idxOf (g y) : Nat))), ρ.set 6 (some (.val (enc y))), ρ.set 6 (some (.val (enc y))), ?_, ?_, ?_, ?_⟩
    · simp [h6]
    · generalize hρ : ρ.set 6 (some (.val (enc y))) = ρ1 at *
      generalize met.map enc = M at *
      generalize enc (g y) = dh at *
      generalize enc y = dy at *
      simp [k1, ki, k7, f1', fx]
    · rw [gE_ok E]
      rfl
    · simp [set_back h6]) (by simp; omega)]
  congr 1
  unfold numT
  rw [List.map_map, List.map_map]
  apply List.map_congr_left
  intro y hy
  exact gE_ok E g met y
theorem anew_ok (E : EncOk enc) (S : StepOk enc X Y h t K) {f : α} (hf : f ∈ K) (hKl : K.length ≤ 900) {n : Nat} (hn : K.length ≤ n) : fl_anew [X, Y, enc f] = .ok (.val (tabD (numT h (bfs h t n [f] 0)) (numT t (bfs h t n [f] 0)))) := by
  obtain ⟨met, em, I⟩ := bfs_end S.cl n [f] 0 (bfs_start hf) (by omega)
  obtain ⟨k', y5, ew⟩ := an_loop E S hKl (some (.val (enc f))) none n [f] 0 none (bfs_start hf) (by omega)
  rw [em] at ew ⊢
  have hml := I.len
  have mcl : ∀ y ∈ met, h y ∈ met ∧ t y ∈ met := fun y hy => by
    obtain ⟨i, hi⟩ := List.mem_iff_getElem?.mp hy
    exact I.cl i y (List.getElem?_eq_some_iff.mp hi).1 hi
  have n1 := an_nums E (g := h) (Z := X) (met := met) (fun y hy => ⟨S.fx y (I.sub y hy), (mcl y hy).1⟩) (by omega) (i := 0) (ρ := [some (.val X), some (.val Y), some (.val (enc f)), some (.val (.list (met.map enc))), some (.val (.int k')), y5, none]) rfl rfl rfl (by decide)
  have n2 := an_nums E (g := t) (Z := Y) (met := met) (fun y hy => ⟨S.fy y (I.sub y hy), (mcl y hy).2⟩) (by omega) (i := 1) (ρ := [some (.val X), some (.val Y), some (.val (enc f)), some (.val (.list (met.map enc))), some (.val (.int k')), y5, none]) rfl rfl rfl (by decide)
  have l1 : ((numT h met).map iNat).length ≤ 16777216 := by simp [numT]; omega
  have l2 : ((numT t met).map iNat).length ≤ 16777216 := by simp [numT]; omega
  unfold fl_anew tabD
  rw [wl_anew_eq, run_eq]
  unfold anN
  unfold anS at ew
  generalize (numT h met).map iNat = B1 at *
  generalize (numT t met).map iNat = B2 at *
  generalize met.map enc = M at *
  simp only [List.map_cons, List.map_nil, Int.natCast_zero] at ew
  generalize enc f = kf at *
  generalize whileC anC anB = WL at *
  generalize mthE "list" fIndex (getM 3) (argC (DL.bin fIx (getM 0) (getM 6)) (argN)) = E3 at *
  generalize mthE "list" fIndex (getM 3) (argC (DL.bin fIx (getM 1) (getM 6)) (argN)) = E4 at *
  simp [ew, n1, n2, l1, l2]
end
theorem step_nat {X Y : D} {hs ts : List Nat} (sx : SeqOf X hs) (sy : SeqOf Y ts) (P : TabP hs ts) : StepOk iNat X Y (gD0 hs) (gD0 ts) (List.range hs.length) := ⟨fun x hx => by
  have hx := List.mem_range.mp hx
  have ax := sx.ix (x : Int)
  rw [at_iN (l := hs) hx] at ax
  exact ax, fun x hx => by
  have hx := List.mem_range.mp hx
  have ax := sy.ix (x : Int)
  rw [at_iN (l := ts) (by rw [← P.len]; exact hx)] at ax
  exact ax, P.gh⟩
theorem anew_num {X Y : D} {hs ts : List Nat} (sx : SeqOf X hs) (sy : SeqOf Y ts) (P : TabP hs ts) (hl : hs.length ≤ 900) {p : Nat} (hp : p < hs.length) : fl_anew [X, Y, .int (p : Nat)] = .ok (.val (tabD (hsT hs ts p) (tsT hs ts p))) :=
  anew_ok enc_nat (step_nat sx sy P) (List.mem_range.mpr hp) (by simp; omega) (n := hs.length) (by simp)
end DL
set_option Elab.async false
set_option maxRecDepth 100000
set_option maxHeartbeats 4000000
namespace DL
open PySem L2
theorem tab_i0 (a b : List Nat) : fIx (tabD a b) (.int 0) = some (.val (.tuple (a.map iNat))) := by
  unfold tabD
  rw [fIx_t, atI0]
  rfl
theorem tab_i1 (a b : List Nat) : fIx (tabD a b) (.int 1) = some (.val (.tuple (b.map iNat))) := by
  unfold tabD
  rw [fIx_t, atI1]
  rfl
end DL
set_option Elab.async false
set_option maxRecDepth 100000
set_option maxHeartbeats 4000000
namespace DL
open PySem L2
theorem closed_all {hs ts : List Nat} (P : TabP hs ts) {met : List Nat} (cl : ∀ x ∈ met, gD0 hs x ∈ met ∧ gD0 ts x ∈ met) (lt : ∀ x ∈ met, x < hs.length) {p : Nat} (hp : p ∈ met) : ∀ x, x < hs.length → x ∈ met := by
  by_cases h0 : 0 ∈ met
  · obtain ⟨m, e, J⟩ := bfs_end (K := met) cl (hs.length + met.length) [0] 0 (bfs_start h0) (by omega)
    have e2 : bfs (gD0 hs) (gD0 ts) (hs.length + met.length) [0] 0 = List.range hs.length := P.met _ (by omega)
    rw [e2] at e
    subst e
    exact fun x hx => J.sub x (List.mem_range.mpr hx)
  · have c2 : ∀ x ∈ (List.range hs.length).filter (fun i => !decide (i ∈ met)), gD0 hs x ∈ (List.range hs.length).filter (fun i => !decide (i ∈ met)) ∧ gD0 ts x ∈ (List.range hs.length).filter (fun i => !decide (i ∈ met)) := fun x hx => by
      obtain ⟨h1, h2⟩ := List.mem_filter.mp hx
      have h1 := List.mem_range.mp h1
      have h2 : x ∉ met := by simpa using h2
      constructor
      · refine List.mem_filter.mpr ⟨List.mem_range.mpr (P.hl h1), ?_⟩
        have : gD0 hs x ∉ met := fun z => h2 (by
          have := (cl _ z).1
          rwa [show gD0 hs (gD0 hs x) = x from P.h2 x h1] at this)
        simpa using this
      · refine List.mem_filter.mpr ⟨List.mem_range.mpr (P.tl h1), ?_⟩
        have : gD0 ts x ∉ met := fun z => h2 (by
          have := (cl _ (cl _ z).2).2
          rwa [show gD0 ts (gD0 ts (gD0 ts x)) = x from P.t3 x h1] at this)
        simpa using this
    have m0 : 0 ∈ (List.range hs.length).filter (fun i => !decide (i ∈ met)) := List.mem_filter.mpr ⟨List.mem_range.mpr P.pos, by simpa using h0⟩
    obtain ⟨m, e, J⟩ := bfs_end c2 (hs.length + ((List.range hs.length).filter (fun i => !decide (i ∈ met))).length) [0] 0 (bfs_start m0) (by omega)
    have e2 : bfs (gD0 hs) (gD0 ts) (hs.length + ((List.range hs.length).filter (fun i => !decide (i ∈ met))).length) [0] 0 = List.range hs.length := P.met _ (by omega)
    rw [e2] at e
    subst e
    have := J.sub p (List.mem_range.mpr (lt p hp))
    have h2 := (List.mem_filter.mp this).2
    have h3 : p ∉ met := by simpa using h2
    exact absurd hp h3
end DL
set_option Elab.async false
set_option maxRecDepth 100000
set_option maxHeartbeats 4000000
namespace DL
open PySem L2
noncomputable def wl_dig : M Fl := seqM (setS 2 (DL.bin fMod (DL.bin fIx (getM 0) (cst (.int 0))) (getM 1)))
  (seqM (asgS (asgSub (getM 0) (cst (.int 0))) (DL.bin fDiv (DL.bin fIx (getM 0) (cst (.int 0))) (getM 1)))
  (retS (getM 2)))
noncomputable def fl_dig : List D → List D → Option (List D × D) := runM 1 wl_dig
noncomputable def wl_fracsR : M Fl := seqM (setS 2 (lstM (argC (tupM (argC (un fNeg (cst (.int 1))) (argC (cst (.int 0)) (argN)))) (argC (tupM (argC (cst (.int 0)) (argC (cst (.int 1)) (argN)))) (argC (tupM (argC (cst (.int 1)) (argC (cst (.int 0)) (argN)))) (argN))))))
  (seqM (forS (asgR 3) (itR1 (argC (DL.bin fSub (getM 1) (cst (.int 2))) (argN))) (seqM (setS 4 (lenF fl_dig (argC (getM 0) (argC (DL.bin fSub (callB fLen (argC (getM 2) (argN))) (cst (.int 1))) (argN)))))
  (exS (muE fIns (getM 2) (argC (DL.bin fAdd (getM 4) (cst (.int 1))) (argC (tupM (argC (DL.bin fAdd (DL.bin fIx (DL.bin fIx (getM 2) (getM 4)) (cst (.int 0))) (DL.bin fIx (DL.bin fIx (getM 2) (DL.bin fAdd (getM 4) (cst (.int 1)))) (cst (.int 0)))) (argC (DL.bin fAdd (DL.bin fIx (DL.bin fIx (getM 2) (getM 4)) (cst (.int 1))) (DL.bin fIx (DL.bin fIx (getM 2) (DL.bin fAdd (getM 4) (cst (.int 1)))) (cst (.int 1)))) (argN)))) (argN)))))))
  (retS (callB fTuple (argC (DL.bin fAdd (lstM (argC (tupM (argC (cst (.int 1)) (argC (cst (.int 0)) (argN)))) (argN))) (slM (getM 2) (M.bind (cst (.int 1)) asInt) (M.bind (DL.bin fSub (callB fLen (argC (getM 2) (argN))) (cst (.int 1))) asInt))) (argN)))))
noncomputable def fl_fracsR : List D → List D → Option (List D × D) := runM 3 wl_fracsR
noncomputable def wl_marksR : M Fl := seqM (setS 2 (lcM (put1 4) (M.ret true) (cst (.str "half")) [4] (itR1 (argC (getM 1) (argN)))))
  (seqM (setS 3 (M.bind (argC (getM 1) (argN)) lrM))
  (seqM (whileC (tcmp fNe (getM 3) (lstM (argN))) (seqM (setS 4 (muE fPopAt (getM 3) (argC (cst (.int 0)) (argN))))
  (seqM (setS 5 (lenF fl_dig (argC (getM 0) (argC (cst (.int 4)) (argN)))))
  (seqM (ifS (tcmp fEq (getM 5) (cst (.int 1))) (asgS (asgSub (getM 2) (getM 4)) (cst (.str "third"))) (nilS))
  (ifS (DL.andM (tcmp fGt (getM 5) (cst (.int 1))) (tcmp fNe (getM 3) (lstM (argN)))) (seqM (setS 6 (muE fPopAt (getM 3) (argC (lenF fl_dig (argC (getM 0) (argC (callB fLen (argC (getM 3) (argN))) (argN)))) (argN))))
  (seqM (asgS (asgSub (getM 2) (getM 4)) (getM 6))
  (asgS (asgSub (getM 2) (getM 6)) (getM 4)))) (nilS))))))
  (seqM (ifS (DL.andM (tcmp fEq (getM 1) (cst (.int 2))) (tcmp fNotIn (cst (.str "third")) (getM 2))) (setS 2 (lstM (argC (cst (.str "third")) (argC (cst (.str "half")) (argN))))) (nilS))
  (retS (callB fTuple (argC (getM 2) (argN)))))))
noncomputable def fl_marksR : List D → List D → Option (List D × D) := runM 5 wl_marksR
noncomputable def wl_fanR : M Fl := seqM (setS 3 (DL.bin fAdd (cst (.int 2)) (lenF fl_dig (argC (getM 0) (argC (DL.bin fSub (getM 1) (cst (.int 1))) (argN))))))
  (seqM (ifS (tcmp fEq (lenF fl_dig (argC (getM 0) (argC (cst (.int 8)) (argN)))) (cst (.int 1))) (setS 3 (DL.bin fAdd (cst (.int 2)) (lenF fl_dig (argC (getM 0) (argC (DL.bin fSub (getM 2) (cst (.int 1))) (argN)))))) (nilS))
  (retS (tupM (argC (lenF fl_fracsR (argC (getM 0) (argC (getM 3) (argN)))) (argC (lenF fl_marksR (argC (getM 0) (argC (getM 3) (argN)))) (argN))))))
noncomputable def fl_fanR : List D → List D → Option (List D × D) := runM 1 wl_fanR
theorem dig_ok {c : Int} {m : Nat} (h1 : 1 ≤ m) (h2 : m ≤ 1000) : fl_dig [.int c] [.int (m : Nat)] = some ([.int (c.fdiv (m : Int))], .int (c.fmod (m : Int))) := by
  have m0 : ¬ (m : Int) = 0 := by omega
  have m0' : ¬ m = 0 := by omega
  have two : (2 : Nat) ^ 10 = 1024 := by decide
  have d1 : bDivZ c (m : Int) = true := bDivZ_of 10 m0 (by rw [two]; omega) (by decide)
  have fm : fMod (.int c) (.int (m : Nat)) = some (.val (.int (c.fmod (m : Int)))) := by rw [fMod_ii, if_pos m0]
  have fd : fDiv (.int c) (.int (m : Nat)) = some (.val (.int (c.fdiv (m : Int)))) := by rw [fDiv_ii, if_pos d1]
  have st : ∀ (ρ : Rho) (tag : Option Nat) (v : D), subO 0 v ρ (some (.int 0)) (some (some (.lst tag [.int c]))) = .ok () (ρ.set 0 (some (.lst tag [v]))) := fun ρ tag v => subO_ok (by simp [fSetL, ixN])
  unfold fl_dig wl_dig
  rw [runM_eq]
  generalize c.fmod (m : Int) = r at *
  generalize c.fdiv (m : Int) = q at *
  generalize fMod = FM at *
  generalize fDiv = FV at *
  simp [fm, fd, st]
noncomputable def frRB : M Fl := (seqM (setS 4 (lenF fl_dig (argC (getM 0) (argC (DL.bin fSub (callB fLen (argC (getM 2) (argN))) (cst (.int 1))) (argN)))))
  (exS (muE fIns (getM 2) (argC (DL.bin fAdd (getM 4) (cst (.int 1))) (argC (tupM (argC (DL.bin fAdd (DL.bin fIx (DL.bin fIx (getM 2) (getM 4)) (cst (.int 0))) (DL.bin fIx (DL.bin fIx (getM 2) (DL.bin fAdd (getM 4) (cst (.int 1)))) (cst (.int 0)))) (argC (DL.bin fAdd (DL.bin fIx (DL.bin fIx (getM 2) (getM 4)) (cst (.int 1))) (DL.bin fIx (DL.bin fIx (getM 2) (DL.bin fAdd (getM 4) (cst (.int 1)))) (cst (.int 1)))) (argN)))) (argN))))))
theorem frR_step {c : Int} {mid : List P2} (h : RowF mid) (hm : mid.length ≤ 100) (x1 x3 x4 : Option T) : ∃ (c' : Int) (mid' : List P2) (y4 : Option T), mid'.length = mid.length + 1 ∧ RowF mid' ∧
    frRB [some (.lst (some 0) [.int c]), x1, some (.lst none ((full mid).map fD)), x3, x4] = .ok .nx [some (.lst (some 0) [.int c']), x1, some (.lst none ((full mid').map fD)), x3, y4] := by
  have dg := dig_ok (c := c) (m := mid.length + 1) (by omega) (by omega)
  have hl := full_len mid
  have g := fmod_pos (a := c) (b := ((mid.length + 1 : Nat) : Int)) (by omega)
  generalize hat : c.fmod ((mid.length + 1 : Nat) : Int) = a at *
  generalize c.fdiv ((mid.length + 1 : Nat) : Int) = c' at *
  obtain ⟨x, y, mid', e1, e2, b1, b2, b3, b4, e3, e4, e5⟩ := row_ins h (k := a.toNat) (by omega)
  have i1 := at_fD (l := full mid) (k := a) g.1 e1
  have i2 := at_fD (l := full mid) (k := a + 1) (by omega) (by rw [show (a + 1).toNat = a.toNat + 1 by omega]; exact e2)
  have hfl : ((full mid).map fD).length = mid.length + 2 := by rw [List.length_map, hl]
  have ins : fIns ((full mid).map fD) [.int (a + 1), .tuple [.int (x.1 + y.1), .int (x.2 + y.2)]] = some ((full mid').map fD, .none) := by
    have := fIns_nat (es := (full mid).map fD) (k := a.toNat + 1) (d := .tuple [.int (x.1 + y.1), .int (x.2 + y.2)]) (by rw [hfl]; omega) (by rw [hfl]; omega)
    rw [show ((a.toNat + 1 : Nat) : Int) = a + 1 by omega] at this
    rw [this, ← e3, List.map_append, List.map_append, List.map_take, List.map_drop]
    rfl
  refine ⟨c', mid', some (.val (.int a)), e4, e5, ?_⟩
  have hsub : (mid.length : Int) + 2 - 1 = (mid.length : Int) + 1 := by omega
  rw [Int.natCast_add, Int.natCast_one] at dg
  unfold frRB
  generalize (full mid).map fD = row at *
  generalize (full mid').map fD = row' at *
  generalize fl_dig = FD at *
  simp [hfl, hsub, dg, i1, i2, ins]
theorem fracsR_ok {c : Int} {n : Nat} (hn : 2 ≤ n) (hn2 : n ≤ 40) : ∃ (c' : Int) (mid : List P2), RowF mid ∧ mid.length + 1 = n ∧ fl_fracsR [.int c] [.int (n : Nat)] = some ([.int c'], .tuple (((1, 0) :: mid).map fD)) := by
  have loop : ∀ (m k : Nat) (c : Int) (mid : List P2) (x3 x4 : Option T), RowF mid → mid.length + m ≤ 60 → ∃ (c' : Int) (mid' : List P2) (y3 y4 : Option T), RowF mid' ∧ mid'.length = mid.length + m ∧
      forM (asgR 3) frRB (irange (k : Int) m) [some (.lst (some 0) [.int c]), some (.val (.int n)), some (.lst none ((full mid).map fD)), x3, x4] = .ok .nx [some (.lst (some 0) [.int c']), some (.val (.int n)), some (.lst none ((full mid').map fD)), y3, y4] := by
    intro m
    induction m with
    | zero => exact fun k c mid x3 x4 h _ => ⟨c, mid, x3, x4, h, rfl, rfl⟩
    | succ m ih =>
      intro k c mid x3 x4 h hm
      obtain ⟨c1, mid1, y4, l1, r1, e⟩ := frR_step (c := c) h (by omega) (some (.val (.int n))) (some (.val (.int k))) x4
      obtain ⟨c2, mid2, z3, z4, r2, l2, e2⟩ := ih (k + 1) c1 mid1 (some (.val (.int k))) y4 r1 (by omega)
      refine ⟨c2, mid2, z3, z4, r2, by omega, ?_⟩
      have ep : asgR 3 (.tmp (.val (.int k))) [some (.lst (some 0) [.int c]), some (.val (.int n)), some (.lst none ((full mid).map fD)), x3, x4] = .ok () [some (.lst (some 0) [.int c]), some (.val (.int n)), some (.lst none ((full mid).map fD)), some (.val (.int k)), x4] := by
        generalize (full mid).map fD = row
        simp
      rw [irange_cons, forM_cons, bind_ap, ep, bnd_ok, e, bnd_ok, loop_nx]
      exact e2
  obtain ⟨c', mid, y3, y4, R, hl, e⟩ := loop (n - 2) 0 c [(0, 1)] none none row0 (by simp; omega)
  simp only [List.length_cons, List.length_nil] at hl
  refine ⟨c', mid, R, by omega, ?_⟩
  have hrn := fun ρ => rng_nat ρ (n := n - 2) (by omega)
  rw [show ((n - 2 : Nat) : Int) = (n : Int) - 2 by omega] at hrn
  have hfl : ((full mid).map fD).length = mid.length + 2 := by rw [List.length_map, full_len]
  have hsl : fSl (.list ((full mid).map fD)) (some 1) (some ((mid.length : Int) + 2 - 1)) = some (.lst none (mid.map fD)) := by
    rw [fSl_l, hfl]
    have e1 : HT.sIx (mid.length + 2) 0 (some 1) = 1 := by
      show (if (1 : Int) < 0 then ((1 : Int) + ((mid.length + 2 : Nat) : Int)).toNat else min (1 : Int).toNat (mid.length + 2)) = _
      rw [if_neg (by decide)]
      have : (1 : Int).toNat = 1 := rfl
      omega
    have e2 : HT.sIx (mid.length + 2) (mid.length + 2) (some ((mid.length : Int) + 2 - 1)) = mid.length + 1 := by
      show (if (mid.length : Int) + 2 - 1 < 0 then ((mid.length : Int) + 2 - 1 + ((mid.length + 2 : Nat) : Int)).toNat else min ((mid.length : Int) + 2 - 1).toNat (mid.length + 2)) = _
      rw [if_neg (by omega)]
      omega
    rw [e1, e2]
    unfold full
    simp
  have em : wl_fracsR = seqM (setS 2 (lstM (argC (tupM (argC (un fNeg (cst (.int 1))) (argC (cst (.int 0)) (argN)))) (argC (tupM (argC (cst (.int 0)) (argC (cst (.int 1)) (argN)))) (argC (tupM (argC (cst (.int 1)) (argC (cst (.int 0)) (argN)))) (argN)))))) (seqM (forS (asgR 3) (itR1 (argC (DL.bin fSub (getM 1) (cst (.int 2))) (argN))) frRB)
    (retS (callB fTuple (argC (DL.bin fAdd (lstM (argC (tupM (argC (cst (.int 1)) (argC (cst (.int 0)) (argN)))) (argN))) (slM (getM 2) (M.bind (cst (.int 1)) asInt) (M.bind (DL.bin fSub (callB fLen (argC (getM 2) (argN))) (cst (.int 1))) asInt))) (argN))))) := rfl
  have hadd : fAdd (.list [.tuple [.int 1, .int 0]]) (.list (mid.map fD)) = some (.lst none (.tuple [.int 1, .int 0] :: mid.map fD)) := fAdd_ll [.tuple [.int 1, .int 0]] _ (by simp; omega)
  have f0 : (full [(0, 1)]).map fD = [.tuple [.int (-1), .int 0], .tuple [.int 0, .int 1], .tuple [.int 1, .int 0]] := rfl
  rw [f0] at e
  have c1 : ((1, 0) :: mid).map fD = .tuple [.int 1, .int 0] :: mid.map fD := rfl
  rw [c1]
  unfold fl_fracsR
  rw [em, runM_eq]
  simp only [Int.natCast_zero] at e
  generalize (full mid).map fD = row at *
  generalize mid.map fD = row' at *
  generalize frRB = FB at *
  simp [-fSl_l, -fAdd_ll, hrn, e, hfl, hsl, hadd]
end DL
set_option Elab.async false
set_option maxRecDepth 100000
set_option maxHeartbeats 4000000
namespace DL
open PySem L2
noncomputable def mRB : M Fl := (seqM (setS 4 (muE fPopAt (getM 3) (argC (cst (.int 0)) (argN))))
  (seqM (setS 5 (lenF fl_dig (argC (getM 0) (argC (cst (.int 4)) (argN)))))
  (seqM (ifS (tcmp fEq (getM 5) (cst (.int 1))) (asgS (asgSub (getM 2) (getM 4)) (cst (.str "third"))) (nilS))
  (ifS (DL.andM (tcmp fGt (getM 5) (cst (.int 1))) (tcmp fNe (getM 3) (lstM (argN)))) (seqM (setS 6 (muE fPopAt (getM 3) (argC (lenF fl_dig (argC (getM 0) (argC (callB fLen (argC (getM 3) (argN))) (argN)))) (argN))))
  (seqM (asgS (asgSub (getM 2) (getM 4)) (getM 6))
  (asgS (asgSub (getM 2) (getM 6)) (getM 4)))) (nilS)))))
def mRC : M Bool := (tcmp fNe (getM 3) (lstM (argN)))
abbrev mRS (c : Int) (x1 : Option T) (ms : List Mk) (left : List Nat) (x4 x5 x6 : Option T) : Rho := [some (.lst (some 0) [.int c]), x1, some (.lst none (ms.map mkD)), some (.lst none (left.map iD')), x4, x5, x6]
theorem mR_step {c : Int} {ms : List Mk} {g : Nat} {left : List Nat} (h : MkOk ms (g :: left)) (hl : left.length ≤ 900) (x1 x4 x5 x6 : Option T) : ∃ (c' : Int) (ms' : List Mk) (left' : List Nat) (y4 y5 y6 : Option T), MkOk ms' left' ∧ ms'.length = ms.length ∧ left'.length ≤ left.length ∧
    mRB (mRS c x1 ms (g :: left) x4 x5 x6) = .ok .nx (mRS c' x1 ms' left' y4 y5 y6) := by
  have dg := dig_ok (c := c) (m := 4) (by decide) (by decide)
  have hg := h.sub g List.mem_cons_self
  have p0 : fPopAt ((g :: left).map iD') [.int 0] = some (left.map iD', .int (g : Int)) := by
    have := fPopAt_nat (es := (g :: left).map iD') (k := 0) (d := iD' g) rfl (by simp; omega)
    exact this
  have g4 := fmod_pos (a := c) (b := 4) (by decide)
  have nl := fne_nil (l := left)
  have st := set_mk hg .third 2
  have c4 : ((4 : Nat) : Int) = 4 := rfl
  rw [c4] at dg
  generalize hd1 : c.fmod 4 = d1 at *
  generalize c.fdiv 4 = c1 at *
  unfold mRB mRS
  by_cases w1 : d1 = 1
  · refine ⟨c1, ms.set g .third, left, some (.val (.int g)), some (.val (.int 1)), x6, mk_third h, by simp, Nat.le_refl _, ?_⟩
    have st' : ∀ (ρ : Rho) (tag : Option Nat), subO 2 (.str "third") ρ (some (.int (g : Int))) (some (some (.lst tag (ms.map mkD)))) = .ok () (ρ.set 2 (some (.lst tag ((ms.set g .third).map mkD)))) := st
    subst w1
    generalize ms.map mkD = M0 at *
    generalize (ms.set g .third).map mkD = M1 at *
    simp only [List.map_cons] at p0 ⊢
    generalize fl_dig = FD at *
    simp [p0, dg, st']
  · by_cases w2 : 1 < d1 ∧ left ≠ []
    · obtain ⟨w3, w4⟩ := w2
      have hll : 0 < left.length := by
        cases left with
        | nil => exact absurd rfl w4
        | cons _ _ => simp
      have dg2 := dig_ok (c := c1) (m := left.length) (by omega) (by omega)
      have gp := fmod_pos (a := c1) (b := (left.length : Int)) (by omega)
      generalize hp : c1.fmod (left.length : Int) = p at gp dg2
      generalize c1.fdiv (left.length : Int) = c2 at *
      have ho : left[p.toNat]? = some (left[p.toNat]'(by omega)) := List.getElem?_eq_getElem (by omega)
      generalize left[p.toNat]'(by omega) = o at ho
      have p1 : fPopAt (left.map iD') [.int p] = some ((left.eraseIdx p.toNat).map iD', .int (o : Int)) := by
        have := fPopAt_nat (es := left.map iD') (k := p.toNat) (d := iD' o) (by rw [List.getElem?_map, ho]; rfl) (by simp; omega)
        rw [show ((p.toNat : Nat) : Int) = p by omega] at this
        rw [this]
        congr 2
        rw [List.eraseIdx_eq_take_drop_succ, List.eraseIdx_eq_take_drop_succ, List.map_append, List.map_take, List.map_drop]
      have hol := h.sub o (List.mem_cons_of_mem _ (List.mem_of_getElem? ho))
      have s1 : ∀ (ρ : Rho) (tag : Option Nat), subO 2 (.int (o : Int)) ρ (some (.int (g : Int))) (some (some (.lst tag (ms.map mkD)))) = .ok () (ρ.set 2 (some (.lst tag ((ms.set g (.pair o)).map mkD)))) := set_mk hg (.pair o) 2
      have s2 : ∀ (ρ : Rho) (tag : Option Nat), subO 2 (.int (g : Int)) ρ (some (.int (o : Int))) (some (some (.lst tag ((ms.set g (.pair o)).map mkD)))) = .ok () (ρ.set 2 (some (.lst tag (((ms.set g (.pair o)).set o (.pair g)).map mkD)))) := set_mk (by rw [List.length_set]; exact hol) (.pair g) 2
      refine ⟨c2, (ms.set g (.pair o)).set o (.pair g), left.eraseIdx p.toNat, some (.val (.int g)), some (.val (.int d1)), some (.val (.int o)), mk_pair h ho, by simp, by rw [List.length_eraseIdx]; split <;> omega, ?_⟩
      have nl' : fNe (.list (left.map iD')) (.list []) = some (.val (.bool true)) := by rw [nl]; simp [w4]
      have hml : (left.map iD').length = left.length := by simp
      generalize ms.map mkD = M0 at *
      generalize (ms.set g (.pair o)).map mkD = M1 at *
      generalize ((ms.set g (.pair o)).set o (.pair g)).map mkD = M2 at *
      simp only [List.map_cons] at p0 ⊢
      generalize (left.eraseIdx p.toNat).map iD' = L2 at *
      generalize left.map iD' = L0 at *
      generalize fl_dig = FD at *
      simp [p0, dg, dg2, w1, w3, nl', hml, p1, s1, s2]
    · refine ⟨c1, ms, left, some (.val (.int g)), some (.val (.int d1)), x6, mk_half h, rfl, Nat.le_refl _, ?_⟩
      simp only [List.map_cons] at p0 ⊢
      by_cases w3 : 1 < d1
      · have w4 : left = [] := Decidable.by_contra fun z => w2 ⟨w3, z⟩
        have nl' : fNe (.list (left.map iD')) (.list []) = some (.val (.bool false)) := by rw [nl]; simp [w4]
        generalize ms.map mkD = M0 at *
        generalize left.map iD' = L0 at *
        generalize fl_dig = FD at *
        simp [p0, dg, w1, w3, nl']
      · generalize ms.map mkD = M0 at *
        generalize left.map iD' = L0 at *
        generalize fl_dig = FD at *
        simp [p0, dg, w1, w3]
theorem mR_loop (x1 : Option T) : ∀ (N : Nat) (c : Int) (ms : List Mk) (left : List Nat) (x4 x5 x6 : Option T), left.length ≤ N → MkOk ms left → N ≤ 900 → ∃ (c' : Int) (ms' : List Mk) (y4 y5 y6 : Option T), MkOk ms' [] ∧ ms'.length = ms.length ∧
    whileC mRC mRB (mRS c x1 ms left x4 x5 x6) = .ok .nx (mRS c' x1 ms' [] y4 y5 y6) := by
  intro N
  induction N with
  | zero =>
    intro c ms left x5 x6 x7 hN h h1
    have hl : left = [] := List.eq_nil_of_length_eq_zero (by omega)
    subst hl
    refine ⟨c, ms, x5, x6, x7, h, rfl, ?_⟩
    have nl := fne_nil (l := [])
    have e : mRC (mRS c x1 ms [] x5 x6 x7) = .ok false (mRS c x1 ms [] x5 x6 x7) := by
      unfold mRC mRS
      simp only [List.map_nil] at nl ⊢
      simp [nl]
    rw [while_ap, e, bnd_ok, if_neg (by decide)]
    rfl
  | succ N ih =>
    intro c ms left x5 x6 x7 hN h h1
    cases left with
    | nil => exact ih c ms [] x5 x6 x7 (Nat.zero_le _) h (by omega)
    | cons g left =>
      simp only [List.length_cons] at hN
      obtain ⟨c1, ms1, left1, y5, y6, y7, q1, q2, q3, e⟩ := mR_step (c := c) h (by omega) x1 x5 x6 x7
      obtain ⟨c2, ms2, z5, z6, z7, q4, q5, e2⟩ := ih c1 ms1 left1 y5 y6 y7 (by omega) q1 (by omega)
      refine ⟨c2, ms2, z5, z6, z7, q4, by omega, ?_⟩
      have nl := fne_nil (l := g :: left)
      have ec : mRC (mRS c x1 ms (g :: left) x5 x6 x7) = .ok true (mRS c x1 ms (g :: left) x5 x6 x7) := by
        unfold mRC mRS
        simp only [List.map_cons] at nl ⊢
        simp [nl]
      rw [while_ap, ec, bnd_ok, if_pos rfl, bind_ap, e, bnd_ok, loop_nx]
      exact e2
theorem lc_halfR {x0 x1 x3 x5 x6 : Option T} (n : Nat) (hn : n ≤ 1000) : lcLoop (put1 4) (M.ret true) (cst (.str "half")) [4] (irange 0 n) [] [x0, x1, none, x3, none, x5, x6] = .ok ((List.replicate n Mk.half).map mkD) [x0, x1, none, x3, none, x5, x6] := by
  have := lcLoop_map (ρ := [x0, x1, none, x3, none, x5, x6]) (f := put1 4) (me := cst (.str "half")) (own := [4]) (fun _ => .str "half") (ds := irange 0 n) (fun d hd => by
    refine ⟨[x0, x1, none, x3, some (.val d), x5, x6], .tmp (.val (.str "half")), [x0, x1, none, x3, some (.val d), x5, x6], [x0, x1, none, x3, some (.val d), x5, x6], ?_, ?_, ?_, ?_⟩
    · simp
    · simp
    · simp
    · simp) (by simp; omega)
  rw [this]
  congr 1
  unfold irange
  rw [List.map_map, List.map_replicate]
  show (List.range n).map (fun _ => (PyData.str "half")) = _
  rw [List.map_const']
  simp [mkD]
theorem marksR_ok {c : Int} {n : Nat} (hn : 2 ≤ n) (hn2 : n ≤ 40) : ∃ (c' : Int) (ms : List Mk), MkOk ms [] ∧ ms.length = n ∧ (n = 2 → ms.any isThird = true) ∧ fl_marksR [.int c] [.int (n : Nat)] = some ([.int c'], .tuple (ms.map mkD)) := by
  obtain ⟨c', ms, y4, y5, y6, h1, h2, e⟩ := mR_loop (some (.val (.int n))) n c (List.replicate n .half) (List.range n) none none none (by simp) (mk0 n) (by omega)
  rw [List.length_replicate] at h2
  have hrn := fun ρ => rng_nat ρ (n := n) (by omega)
  have lh := fun x3 x5 x6 => lc_halfR (x0 := some (.lst (some 0) [.int c])) (x1 := some (.val (.int n))) (x3 := x3) (x5 := x5) (x6 := x6) n (by omega)
  have lr : irange 0 n = (List.range n).map iD' := by
    unfold irange
    apply List.map_congr_left
    intro i _
    show PyData.int (0 + (i : Int)) = .int (i : Int)
    rw [Int.zero_add]
  have hlr := fun ρ => lrO_nat ρ (n := n) (by omega)
  unfold mRS at e
  rw [← lr] at e
  have ni := notin_third ms
  have em : wl_marksR = seqM (setS 2 (lcM (put1 4) (M.ret true) (cst (.str "half")) [4] (itR1 (argC (getM 1) (argN))))) (seqM (setS 3 (M.bind (argC (getM 1) (argN)) lrM)) (seqM (whileC mRC mRB) (seqM (ifS (DL.andM (tcmp fEq (getM 1) (cst (.int 2))) (tcmp fNotIn (cst (.str "third")) (getM 2))) (setS 2 (lstM (argC (cst (.str "third")) (argC (cst (.str "half")) (argN))))) (nilS)) (retS (callB fTuple (argC (getM 2) (argN))))))) := rfl
  simp only [List.map_nil] at e
  by_cases h2' : n = 2 ∧ ms.any isThird = false
  · obtain ⟨rfl, h3⟩ := h2'
    refine ⟨c', [.third, .half], ⟨fun i hi => (by cases hi), List.nodup_nil, fun i hi => (by cases hi), fun i j hj => ?_⟩, rfl, fun _ => rfl, ?_⟩
    · match i with
      | 0 => simp at hj
      | 1 => simp at hj
      | i + 2 => simp at hj
    · rw [h3] at ni
      unfold fl_marksR
      rw [em, runM_eq]
      generalize (List.replicate 2 Mk.half).map mkD = M0 at *
      generalize ms.map mkD = M1 at *
      generalize whileC mRC mRB = WL at *
      simp only [show ((2 : Nat) : Int) = 2 from rfl] at *
      simp [hrn, lh, hlr, e, ni, mkD]
  · refine ⟨c', ms, h1, h2, fun z => ?_, ?_⟩
    · cases h : ms.any isThird with
      | true => rfl
      | false => exact absurd ⟨z, h⟩ h2'
    · unfold fl_marksR
      rw [em, runM_eq]
      generalize (List.replicate n Mk.half).map mkD = M0 at *
      generalize whileC mRC mRB = WL at *
      by_cases h3 : n = 2
      · have h4 : ms.any isThird = true := by
          cases h : ms.any isThird with
          | true => rfl
          | false => exact absurd ⟨h3, h⟩ h2'
        rw [h4] at ni
        generalize ms.map mkD = M1 at *
        subst h3
        simp only [show ((2 : Nat) : Int) = 2 from rfl] at *
        simp [hrn, lh, hlr, e, ni]
      · have h5 : ¬ (n : Int) = 2 := by omega
        generalize ms.map mkD = M1 at *
        simp [hrn, lh, hlr, e, h5, h3]
theorem fanR_ok {c : Int} {a b : Nat} (ha : 2 ≤ a) (hb : 2 ≤ b) (ha2 : a ≤ 22) (hb2 : b ≤ 22) : ∃ (c' : Int) (mid : List P2) (ms : List Mk), Fan mid ms ∧ (mid.length + 1 ≤ a ∨ mid.length + 1 ≤ b) ∧ (mid.length = 1 → ms.any isThird = true) ∧ fl_fanR [.int c] [.int (a : Nat), .int (b : Nat)] = some ([.int c'], fanD mid ms) := by
  have d1 := dig_ok (c := c) (m := a - 1) (by omega) (by omega)
  have g1 := fmod_pos (a := c) (b := ((a - 1 : Nat) : Int)) (by omega)
  generalize c.fmod ((a - 1 : Nat) : Int) = r1 at *
  generalize c.fdiv ((a - 1 : Nat) : Int) = c1 at *
  have d2 := dig_ok (c := c1) (m := 8) (by decide) (by decide)
  generalize c1.fmod ((8 : Nat) : Int) = r2 at *
  generalize c1.fdiv ((8 : Nat) : Int) = c2 at *
  have d3 := dig_ok (c := c2) (m := b - 1) (by omega) (by omega)
  have g3 := fmod_pos (a := c2) (b := ((b - 1 : Nat) : Int)) (by omega)
  generalize c2.fmod ((b - 1 : Nat) : Int) = r3 at *
  generalize c2.fdiv ((b - 1 : Nat) : Int) = c3 at *
  have ea : ((a - 1 : Nat) : Int) = (a : Int) - 1 := by omega
  have eb : ((b - 1 : Nat) : Int) = (b : Int) - 1 := by omega
  rw [ea] at d1
  rw [eb] at d3
  have e8 : ((8 : Nat) : Int) = 8 := rfl
  rw [e8] at d2
  by_cases w : r2 = 1
  · obtain ⟨n, hn, n2, n3⟩ : ∃ n : Nat, (n : Int) = 2 + r3 ∧ 2 ≤ n ∧ n ≤ b := ⟨(2 + r3).toNat, by omega, by omega, by omega⟩
    obtain ⟨c4, mid, R, hl, ef⟩ := fracsR_ok (c := c3) (n := n) n2 (by omega)
    obtain ⟨c5, ms, Mk', ml, ht, em⟩ := marksR_ok (c := c4) (n := n) n2 (by omega)
    refine ⟨c5, mid, ms, ⟨R, by omega, by omega, Mk'⟩, .inr (by omega), fun z => ht (by omega), ?_⟩
    rw [hn] at ef em
    unfold fl_fanR wl_fanR fanD
    rw [runM_eq]
    subst w
    generalize ms.map mkD = row2 at *
    generalize (Fs mid).map fD = row at *
    generalize fl_dig = FD at *
    generalize fl_fracsR = FF at *
    generalize fl_marksR = FM at *
    simp [d1, d2, d3, ef, em]
  · obtain ⟨n, hn, n2, n3⟩ : ∃ n : Nat, (n : Int) = 2 + r1 ∧ 2 ≤ n ∧ n ≤ a := ⟨(2 + r1).toNat, by omega, by omega, by omega⟩
    obtain ⟨c4, mid, R, hl, ef⟩ := fracsR_ok (c := c2) (n := n) n2 (by omega)
    obtain ⟨c5, ms, Mk', ml, ht, em⟩ := marksR_ok (c := c4) (n := n) n2 (by omega)
    refine ⟨c5, mid, ms, ⟨R, by omega, by omega, Mk'⟩, .inl (by omega), fun z => ht (by omega), ?_⟩
    rw [hn] at ef em
    unfold fl_fanR wl_fanR fanD
    rw [runM_eq]
    generalize ms.map mkD = row2 at *
    generalize (Fs mid).map fD = row at *
    generalize fl_dig = FD at *
    generalize fl_fracsR = FF at *
    generalize fl_marksR = FM at *
    simp [d1, d2, w, ef, em]
end DL
set_option Elab.async false
set_option maxRecDepth 100000
set_option maxHeartbeats 4000000
namespace DL
open PySem L2
noncomputable def wl_gaps : M Fl := retS (lcM (put1 1) (M.ret true) (tupM (argC (DL.bin fIx (getM 0) (getM 1)) (argC (DL.bin fIx (getM 0) (DL.bin fMod (DL.bin fAdd (getM 1) (cst (.int 1))) (callB fLen (argC (getM 0) (argN))))) (argN)))) [1] (itR1 (argC (callB fLen (argC (getM 0) (argN))) (argN))))
noncomputable def fl_gaps : List D → FO := runF 1 wl_gaps
noncomputable def wl_links1 : M Fl := seqM (asgS (asgSeq 2 (asgCons (asgR 5) (asgCons (asgR 6) (asgNil)))) (getM 0))
  (seqM (setS 1 (callF fl_gaps (argC (getM 5) (argN))))
  (seqM (setS 2 (M.ret (.tmp (.dct none []))))
  (seqM (forS (asgSeq 3 (asgCons (asgR 7) (asgCons (asgR 8) (asgCons (asgR 9) (asgNil))))) (itA (callF fl_tiles (argC (getM 5) (argN)))) (seqM (asgS (asgSub (getM 2) (tupM (argC (getM 7) (argC (getM 8) (argN))))) (tupM (argC (getM 8) (argC (getM 9) (argN)))))
  (seqM (asgS (asgSub (getM 2) (tupM (argC (getM 8) (argC (getM 9) (argN))))) (tupM (argC (getM 9) (argC (getM 7) (argN)))))
  (asgS (asgSub (getM 2) (tupM (argC (getM 9) (argC (getM 7) (argN))))) (tupM (argC (getM 7) (argC (getM 8) (argN))))))))
  (seqM (setS 3 (M.ret (.tmp (.dct none []))))
  (seqM (forD 2 (asgSeq 2 (asgCons (asgR 7) (asgCons (asgR 9) (asgNil)))) (asgS (asgSub (getM 3) (tupM (argC (getM 7) (argC (getM 9) (argN))))) (tupM (argC (getM 9) (argC (getM 7) (argN))))))
  (seqM (forS (asgSeq 2 (asgCons (asgR 10) (asgCons (asgR 11) (asgNil)))) (itE (argC (getM 6) (argN))) (ifS (tcmp fEq (getM 11) (cst (.str "third"))) (seqM (asgS (asgSub (getM 2) (getM 10)) (getM 10))
  (seqM (asgS (asgSub (getM 3) (getM 10)) (DL.bin fIx (getM 1) (getM 10)))
  (asgS (asgSub (getM 3) (DL.bin fIx (getM 1) (getM 10))) (getM 10)))) (ifS (tcmp fEq (getM 11) (cst (.str "half"))) (asgS (asgSub (getM 3) (DL.bin fIx (getM 1) (getM 10))) (DL.bin fIx (getM 1) (getM 10))) (asgS (asgSub (getM 3) (DL.bin fIx (getM 1) (getM 10))) (DL.bin fIx (getM 1) (getM 11))))))
  (seqM (setS 4 (tupM (argC (tupM (argC (cst (.int 1)) (argC (cst (.int 0)) (argN)))) (argC (tupM (argC (cst (.int 0)) (argC (cst (.int 1)) (argN)))) (argN)))))
  (seqM (ifS (tcmp fEq (callB fLen (argC (getM 5) (argN))) (cst (.int 2))) (seqM (setS 4 (DL.bin fIx (lstM (argC (cst (.int 1)) (argC (cst (.int 0)) (argN)))) (callB fInt1 (argC (DL.bin fNe (DL.bin fIx (getM 6) (cst (.int 1))) (cst (.str "third"))) (argN)))))
  (forS (asgR 10) (itA (lstM (argC (cst (.int 0)) (argC (cst (.int 1)) (argN))))) (ifS (tcmp fEq (DL.bin fIx (getM 6) (getM 10)) (cst (.str "third"))) (asgS (asgSub (getM 3) (getM 10)) (DL.bin fIx (lstM (argC (getM 10) (argC (DL.bin fSub (cst (.int 1)) (getM 10)) (argN)))) (callB fInt1 (argC (DL.bin fEq (DL.bin fIx (getM 6) (DL.bin fSub (cst (.int 1)) (getM 10))) (cst (.str "third"))) (argN))))) (nilS)))) (ifS (tcmp fNotIn (getM 4) (getM 2)) (setS 4 (DL.bin fIx (getM 3) (DL.bin fIx (getM 1) (un fNeg (cst (.int 1)))))) (nilS)))
  (retS (tupM (argC (getM 3) (argC (getM 2) (argC (getM 4) (argN))))))))))))))
noncomputable def fl_links1 : List D → FO := runF 11 wl_links1
noncomputable def wl_table1 : M Fl := seqM (asgS (asgSeq 3 (asgCons (asgR 1) (asgCons (asgR 2) (asgCons (asgR 3) (asgNil))))) (callF fl_links1 (argC (getM 0) (argN))))
  (retS (callF fl_anew (argC (getM 1) (argC (getM 2) (argC (getM 3) (argN))))))
noncomputable def fl_table1 : List D → FO := runF 3 wl_table1
theorem gaps_ok {mid : List P2} (hp : ∀ x ∈ mid, 1 ≤ x.2) (hm : mid.length ≤ 1000) : fl_gaps [.tuple ((Fs mid).map fD)] = .ok (.lst none ((gapsF mid).map sdD)) := by
  have hfl : ((Fs mid).map fD).length = mid.length + 1 := by simp
  have hlc := lcLoop_map (ρ := [some (.val (.tuple ((Fs mid).map fD))), none]) (f := put1 1) (me := tupM (argC (DL.bin fIx (getM 0) (getM 1)) (argC (DL.bin fIx (getM 0) (DL.bin fMod (DL.bin fAdd (getM 1) (cst (.int 1))) (callB fLen (argC (getM 0) (argN))))) (argN)))) (own := [1]) (gD' mid) (ds := irange 0 (mid.length + 1)) (fun d hd => by
    unfold irange at hd
    obtain ⟨i, hi, rfl⟩ := List.mem_map.mp hd
    have hi := List.mem_range.mp hi
    obtain ⟨a, b, q1, q2, q3⟩ := gaps_at hp (i := i) (by omega)
    have e1 := fr_at q2
    have e2 := fr_at q3
    have hm' : ((i : Int) + 1).fmod ((mid.length : Int) + 1) = (((i + 1) % (mid.length + 1) : Nat) : Int) := by
      rw [Int.fmod_eq_emod_of_nonneg _ (by omega)]
      simp
    have hm2 : ((i : Int) + 1) % ((mid.length : Int) + 1) = (((i + 1) % (mid.length + 1) : Nat) : Int) := by simp
    generalize (i + 1) % (mid.length + 1) = j at *
    have n1 : (mid.length : Int) + 1 ≠ 0 := by omega
    have eg : gD' mid (.int ((0 : Int) + (i : Int))) = .tuple [.tuple [.int a.1, .int a.2], .tuple [.int b.1, .int b.2]] := by
      show sdD _ = _
      rw [show ((0 : Int) + (i : Int)).toNat = i by omega, List.getD_eq_getElem?_getD, q1]
      rfl
    rw [eg]
    rw [Int.zero_add]
    generalize (Fs mid).map fD = row at *
    refine ⟨[some (.val (.tuple row)), some (.val (.int i))], .tmp (.val (.tuple [.tuple [.int a.1, .int a.2], .tuple [.int b.1, .int b.2]])), [some (.val (.tuple row)), some (.val (.int i))], [some (.val (.tuple row)), some (.val (.int i))], by simp, ?_, ?_, ?_⟩
    · simp [hfl, e1, e2, hm', hm2, n1]
    · simp
    · simp) (by simp; omega)
  have er : (irange 0 (mid.length + 1)).map (gD' mid) = (gapsF mid).map sdD := by
    apply List.ext_getElem?
    intro i
    unfold irange
    rw [List.map_map, List.getElem?_map, List.getElem?_map]
    by_cases hi : i < mid.length + 1
    · rw [List.getElem?_range hi]
      have hg : i < (gapsF mid).length := by rw [gapsF_len]; exact hi
      rw [List.getElem?_eq_getElem hg]
      show some (sdD ((gapsF mid).getD ((0 : Int) + (i : Int)).toNat default)) = _
      rw [show ((0 : Int) + (i : Int)).toNat = i by omega, List.getD_eq_getElem?_getD, List.getElem?_eq_getElem hg]
      rfl
    · rw [List.getElem?_eq_none_iff.mpr (by simp; omega), List.getElem?_eq_none_iff.mpr (by rw [gapsF_len]; omega)]
      rfl
  rw [er] at hlc
  have hrn := fun ρ => rng_nat ρ (n := mid.length + 1) (by omega)
  have hgl : ((gapsF mid).map sdD).length ≤ 16777216 := by rw [List.length_map, gapsF_len]; omega
  unfold fl_gaps wl_gaps
  rw [run_eq]
  generalize (gapsF mid).map sdD = G at *
  generalize (Fs mid).map fD = row at *
  rw [Int.natCast_add] at hrn
  simp only [Int.natCast_one] at hrn
  generalize tupM (argC (DL.bin fIx (getM 0) (getM 1)) (argC (DL.bin fIx (getM 0) (DL.bin fMod (DL.bin fAdd (getM 1) (cst (.int 1))) (callB fLen (argC (getM 0) (argN))))) (argN))) = ME at *
  simp [hfl, hrn, hlc, hgl]
noncomputable def lkRest : M Fl := (seqM (setS 2 (M.ret (.tmp (.dct none []))))
  (seqM (forS (asgSeq 3 (asgCons (asgR 7) (asgCons (asgR 8) (asgCons (asgR 9) (asgNil))))) (itA (callF fl_tiles (argC (getM 5) (argN)))) lkT)
  (seqM (setS 3 (M.ret (.tmp (.dct none []))))
  (seqM (forD 2 (asgSeq 2 (asgCons (asgR 7) (asgCons (asgR 9) (asgNil)))) lkR)
  (seqM (forS (asgSeq 2 (asgCons (asgR 10) (asgCons (asgR 11) (asgNil)))) (itE (argC (getM 6) (argN))) lkMk)
  (seqM (setS 4 (tupM (argC (tupM (argC (cst (.int 1)) (argC (cst (.int 0)) (argN)))) (argC (tupM (argC (cst (.int 0)) (argC (cst (.int 1)) (argN)))) (argN)))))
  (seqM lkE (retS (tupM (argC (getM 3) (argC (getM 2) (argC (getM 4) (argN))))))))))))) 
theorem links_rest : wl_links = seqM (asgS (asgSeq 2 (asgCons (asgR 5) (asgCons (asgR 6) (asgNil)))) (getM 0)) (seqM (setS 1 lkG) lkRest) := rfl
theorem links1_rest : wl_links1 = seqM (asgS (asgSeq 2 (asgCons (asgR 5) (asgCons (asgR 6) (asgNil)))) (getM 0)) (seqM (setS 1 (callF fl_gaps (argC (getM 5) (argN)))) lkRest) := rfl
theorem links1_eq {mid : List P2} {ms : List Mk} (F : Fan mid ms) : fl_links1 [fanD mid ms] = fl_links [fanD mid ms] := by
  have hle := F.le
  have g1 : asgS (asgSeq 2 (asgCons (asgR 5) (asgCons (asgR 6) (asgNil)))) (getM 0) [some (.val (fanD mid ms)), none, none, none, none, none, none, none, none, none, none, none] = .ok .nx [some (.val (fanD mid ms)), none, none, none, none, some (.val (.tuple ((Fs mid).map fD))), some (.val (.tuple (ms.map mkD))), none, none, none, none, none] := by
    unfold fanD
    generalize (Fs mid).map fD = row
    generalize ms.map mkD = mk
    simp
  have g2 : setS 1 lkG [some (.val (fanD mid ms)), none, none, none, none, some (.val (.tuple ((Fs mid).map fD))), some (.val (.tuple (ms.map mkD))), none, none, none, none, none] = .ok .nx [some (.val (fanD mid ms)), some (.lst none ((gapsF mid).map sdD)), none, none, none, some (.val (.tuple ((Fs mid).map fD))), some (.val (.tuple (ms.map mkD))), none, none, none, none, none] := by
    have := lkG_ok (mid := mid) F.row.pos (by omega) (some (.val (fanD mid ms))) none none none none (some (.val (.tuple (ms.map mkD)))) none none none none
    generalize fanD mid ms = fan at *
    generalize (gapsF mid).map sdD = G at *
    generalize (Fs mid).map fD = row at *
    generalize ms.map mkD = mk at *
    generalize lkG = LG at *
    simp [this]
  have g3 : setS 1 (callF fl_gaps (argC (getM 5) (argN))) [some (.val (fanD mid ms)), none, none, none, none, some (.val (.tuple ((Fs mid).map fD))), some (.val (.tuple (ms.map mkD))), none, none, none, none, none] = .ok .nx [some (.val (fanD mid ms)), some (.lst none ((gapsF mid).map sdD)), none, none, none, some (.val (.tuple ((Fs mid).map fD))), some (.val (.tuple (ms.map mkD))), none, none, none, none, none] := by
    have := gaps_ok (mid := mid) F.row.pos (by omega)
    generalize fanD mid ms = fan at *
    generalize (gapsF mid).map sdD = G at *
    generalize (Fs mid).map fD = row at *
    generalize ms.map mkD = mk at *
    simp [this]
  unfold fl_links1 fl_links
  rw [links_rest, links1_rest, run_eq, run_eq]
  have e : ∀ A : M Fl, (seqM (asgS (asgSeq 2 (asgCons (asgR 5) (asgCons (asgR 6) (asgNil)))) (getM 0)) (seqM A lkRest)) (([fanD mid ms].map fun d => some (T.val d)) ++ List.replicate 11 none) = (seqM A lkRest) [some (.val (fanD mid ms)), none, none, none, none, some (.val (.tuple ((Fs mid).map fD))), some (.val (.tuple (ms.map mkD))), none, none, none, none, none] := fun A => seq_go g1
  rw [e, e, seq_go g2, seq_go g3]
theorem table1_len {mid : List P2} {ms : List Mk} (F : Fan mid ms) (ht : mid.length = 1 → ms.any isThird = true) : ∃ hs ts : List Nat, TabP hs ts ∧ hs.length + 2 ≤ 4 * mid.length ∧ fl_table1 [fanD mid ms] = .ok (.val (tabD hs ts)) := by
  obtain ⟨Td, Hd, f, ⟨K, hf, hKl, O⟩, e⟩ := links_run F ht
  rw [← links1_eq F] at e
  have hle := F.le
  have hcl : ∀ x ∈ K, hK Hd x ∈ K ∧ hK Td x ∈ K := fun x hx => ⟨(O.h hx).2.2.1, (O.h hx).2.2.2.1⟩
  obtain ⟨met, em, I, m0, TP⟩ := tab_of (h := hK Hd) (t := hK Td) hf hcl (fun x hx => (O.h hx).2.2.2.2.1) (fun x hx => (O.h hx).2.2.2.2.2) (N := K.length) (Nat.le_refl _)
  have hml := I.len
  have S : StepOk kyD (.dict (dD Hd)) (.dict (dD Td)) (hK Hd) (hK Td) K := ⟨fun x hx => by
    rw [fIx_ky, (O.h hx).1]
    rfl, fun x hx => by
    rw [fIx_ky, (O.h hx).2.1]
    rfl, hcl⟩
  have an := anew_ok enc_ky S hf (by omega) (n := K.length) (Nat.le_refl _)
  rw [em] at an
  refine ⟨_, _, TP, by rw [show (numT (hK Hd) met).length = met.length by simp [numT]]; omega, ?_⟩
  have sF : scalD (fanD mid ms) = false := rfl
  have sT : scalD (tabD (numT (hK Hd) met) (numT (hK Td) met)) = false := rfl
  unfold fl_table1 wl_table1
  rw [run_eq]
  generalize fanD mid ms = fan at *
  generalize tabD (numT (hK Hd) met) (numT (hK Td) met) = R at *
  generalize dD Hd = d3 at *
  generalize dD Td = d4 at *
  generalize kyD f = kf at *
  simp [e, an, sF, sT]
end DL
set_option Elab.async false
set_option maxRecDepth 100000
set_option maxHeartbeats 4000000
namespace DL
open PySem L2
section
variable {hs ts : List Nat} {p : Nat}
theorem anew_len (P : TabP hs ts) (hp : p < hs.length) : (hsT hs ts p).length = hs.length := by
  have M := (anew_tab P hp).2
  simp [hsT, numT, M.len]
end
def Hom (hs ts A B : List Nat) : Prop := ∃ f : Nat → Nat, f 0 = 0 ∧ ∀ x, x < hs.length → f x < A.length ∧ f (gD0 hs x) = gD0 A (f x) ∧ f (gD0 ts x) = gD0 B (f x)
theorem Hom.trans {hs ts A B C D : List Nat} (h : Hom hs ts A B) (k : Hom A B C D) : Hom hs ts C D := by
  obtain ⟨f, f0, hf⟩ := h
  obtain ⟨g, g0, hg⟩ := k
  refine ⟨fun x => g (f x), by simp [f0, g0], fun x hx => ?_⟩
  obtain ⟨a, b, c⟩ := hf x hx
  obtain ⟨a', b', c'⟩ := hg _ a
  refine ⟨a', ?_, ?_⟩
  · show g (f _) = _
    rw [b, b']
  · show g (f _) = _
    rw [c, c']
section
variable {hs ts A B : List Nat}
end
section
variable {α : Type} [DecidableEq α] {h t : α → α}
def LedB (h t : α → α) (met : List α) : Prop := ∀ (i : Nat) (y : α), 0 < i → met[i]? = some y → ∃ (k : Nat) (x : α), k < i ∧ met[k]? = some x ∧ (h x = y ∨ t x = y)
theorem LedB.add {met : List α} {x y : α} {k : Nat} (L : LedB h t met) (hk : met[k]? = some x) (e : h x = y ∨ t x = y) : LedB h t (addM met y) := by
  unfold addM
  split
  · exact L
  · intro i z hi hz
    have hkl := (List.getElem?_eq_some_iff.mp hk).1
    by_cases h1 : i < met.length
    · rw [List.getElem?_append_left h1] at hz
      obtain ⟨j, x', a, b, c⟩ := L i z hi hz
      exact ⟨j, x', a, by rw [List.getElem?_append_left (by omega)]; exact b, c⟩
    · rw [List.getElem?_append_right (by omega)] at hz
      have e1 : i - met.length = 0 := by
        have := (List.getElem?_eq_some_iff.mp hz).1
        simp at this
        omega
      rw [e1] at hz
      cases hz
      exact ⟨k, x, by omega, by rw [List.getElem?_append_left hkl]; exact hk, e⟩
theorem addM_at {met : List α} {y x : α} {k : Nat} (hk : met[k]? = some x) : (addM met y)[k]? = some x := by
  obtain ⟨r, e⟩ := addM_pre met y
  rw [e, List.getElem?_append_left (List.getElem?_eq_some_iff.mp hk).1]
  exact hk
theorem bfs_led : ∀ (n : Nat) (met : List α) (k : Nat), LedB h t met → LedB h t (bfs h t n met k)
  | 0, _, _, L => L
  | n + 1, met, k, L => by
    unfold bfs
    cases e : met[k]? with
    | none => exact L
    | some x => exact bfs_led n _ _ ((L.add e (.inl rfl)).add (addM_at e) (.inr rfl))
end
theorem TabP.led {hs ts : List Nat} (P : TabP hs ts) {j : Nat} (hj : j < hs.length) (h0 : 0 < j) : ∃ x, x < j ∧ (gD0 hs x = j ∨ gD0 ts x = j) := by
  have L := bfs_led (h := gD0 hs) (t := gD0 ts) hs.length [0] 0 (fun i y hi hy => by
    cases i with
    | zero => omega
    | succ i => simp at hy)
  have e : bfs (gD0 hs) (gD0 ts) hs.length [0] 0 = List.range hs.length := P.met _ (Nat.le_refl _)
  rw [e] at L
  obtain ⟨k, x, h1, h2, h3⟩ := L j j h0 (List.getElem?_range hj)
  rw [List.getElem?_range (by omega)] at h2
  cases h2
  exact ⟨k, h1, h3⟩
end DL
set_option Elab.async false
set_option maxRecDepth 100000
set_option maxHeartbeats 4000000
namespace DL
open PySem L2
def sdO (i : Nat) (dk dv : D) (ρ : Rho) : Option (Option T) → Out R
  | some (some (.dct tag kvs)) => if (nkOf dk).isSome ∧ kvs.length < 1000000 then (match kget kvs dk with
      | some d => .ok (.tmp (.val d)) ρ
      | none => .ok (.tmp (.val dv)) (ρ.set i (some (.dct tag (kput kvs dk dv))))) else .bad
  | _ => .bad
@[simp] theorem sdF_slot (i : Nat) (dk dv : D) (ρ : Rho) : sdF (.slot i) [dk, dv] ρ = sdO i dk dv ρ ρ[i]? := by
  unfold sdF sdO
  first
  | (dsimp only; done)
  | (dsimp only
     generalize ρ[i]? = o
     rcases o with _ | (_ | (_ | _ | _ | _ | _)) <;> rfl)
def ckdO (ρ : Rho) : Option D → Out Unit
  | some (.dict _) => .ok () ρ
  | _ => .bad
@[simp] theorem chkDct_ap (r : R) (ρ : Rho) : chkDct r ρ = ckdO ρ (look r ρ) := by
  unfold chkDct ckdO
  rfl
@[simp] theorem ckdO_d (ρ : Rho) (kvs : List (D × D)) : ckdO ρ (some (.dict kvs)) = .ok () ρ := (rfl)
section
variable {X Y : D} {U V : List Nat} {k : Int} {l : KyL} {j a : Nat}
end
section
variable {d e : D} {M M' M'' : List (D × D)} {j : D} {x4 x5 y5 z5 : Option T} {r : R} {ρ' : Rho}
end
end DL
set_option Elab.async false
set_option maxRecDepth 100000
set_option maxHeartbeats 4000000
namespace DL
open PySem L2
section
variable {β : Type} {g : β → D}
def naD (g : β → D) (l : List (Nat × β)) : List (D × D) := l.map fun p => (iNat p.1, g p.2)
def getA : List (Nat × β) → Nat → Option β
  | [], _ => none
  | (a, v) :: r, k => if a = k then some v else getA r k
theorem keyEq_na (a b : Nat) : keyEq (iNat a) (iNat b) = decide (a = b) := by
  have := keyEq_ky (.gp a) (.gp b)
  rw [show kyD (.gp a) = iNat a from rfl, show kyD (.gp b) = iNat b from rfl] at this
  rw [this]
  congr 1
  simp
theorem kget_na : ∀ (l : List (Nat × β)) (k : Nat), kget (naD g l) (iNat k) = (getA l k).map g
  | [], _ => rfl
  | (a, v) :: r, k => by
    have ih := kget_na r k
    unfold naD at ih ⊢
    rw [List.map_cons]
    unfold kget getA
    dsimp only
    rw [keyEq_na]
    by_cases h : a = k
    · simp [h]
    · simp [h, ih]
theorem getA_none {l : List (Nat × β)} {k : Nat} : getA l k = none ↔ k ∉ l.map (·.1) := by
  induction l with
  | nil => simp [getA]
  | cons p r ih =>
    obtain ⟨a, v⟩ := p
    unfold getA
    by_cases h : a = k
    · simp [h]
    · have h' : ¬ k = a := fun z => h z.symm
      simp [h, h', ih]
theorem getA_isSome (l : List (Nat × β)) (k : Nat) : (getA l k).isSome = decide (k ∈ l.map (·.1)) := by
  by_cases h : k ∈ l.map (·.1)
  · rw [decide_eq_true h]
    cases e : getA l k with
    | none => exact absurd h (getA_none.mp e)
    | some v => rfl
  · rw [decide_eq_false h, getA_none.mpr h]
    rfl
theorem getA_app : ∀ (l m : List (Nat × β)) (k : Nat), getA (l ++ m) k = match getA l k with
    | some v => some v
    | none => getA m k
  | [], _, _ => rfl
  | (a, v) :: r, m, k => by
    have ih := getA_app r m k
    rw [List.cons_append]
    show (if a = k then some v else getA (r ++ m) k) = match (if a = k then some v else getA r k) with | some v => some v | none => getA m k
    by_cases h : a = k
    · rw [if_pos h, if_pos h]
    · rw [if_neg h, if_neg h, ih]
theorem getA_mem {l : List (Nat × β)} {k : Nat} {v : β} (h : getA l k = some v) : (k, v) ∈ l := by
  induction l with
  | nil => cases h
  | cons p r ih =>
    obtain ⟨a, w⟩ := p
    unfold getA at h
    by_cases e : a = k
    · rw [if_pos e] at h
      cases h
      subst e
      exact List.mem_cons_self
    · rw [if_neg e] at h
      exact List.mem_cons_of_mem _ (ih h)
theorem naD_len (l : List (Nat × β)) : (naD g l).length = l.length := by simp [naD]
theorem kput_na (v : β) : ∀ {l : List (Nat × β)} {k : Nat}, k ∉ l.map (·.1) → kput (naD g l) (iNat k) (g v) = naD g (l ++ [(k, v)])
  | [], _, _ => rfl
  | (a, u) :: r, k, h => by
    have ih := kput_na v (l := r) (k := k) fun z => h (by simp only [List.map_cons]; exact List.mem_cons_of_mem _ z)
    unfold naD at ih ⊢
    rw [List.cons_append, List.map_cons, List.map_cons]
    unfold kput
    dsimp only
    rw [keyEq_na]
    have hn : ¬ a = k := fun z => h (by simp [z])
    simp [hn, ih]
theorem notin_na (l : List (Nat × β)) (k : Nat) : fNotIn (.int (k : Nat)) (.dict (naD g l)) = some (.val (.bool (!decide (k ∈ l.map (·.1))))) := by
  have e : inD (.int (k : Nat)) (.dict (naD g l)) = if (nkOf (iNat k)).isSome then some (kget (naD g l) (iNat k)).isSome else none := rfl
  unfold fNotIn
  rw [e, if_pos (nkOf_nat k), kget_na, Option.isSome_map, getA_isSome]
  rfl
theorem fIx_na {l : List (Nat × β)} {k : Nat} {v : β} (h : getA l k = some v) : fIx (.dict (naD g l)) (.int (k : Nat)) = some (.val (g v)) := by
  rw [fIx_d, show (.int (k : Nat) : D) = iNat k from rfl, if_pos (nkOf_nat k), kget_na, h]
  rfl
theorem sub_na {l : List (Nat × β)} {k : Nat} {v : β} (hk : k ∉ l.map (·.1)) (hl : l.length < 1000000) (i : Nat) (ρ : Rho) (tag : Option Nat) : subO i (g v) ρ (some (.int (k : Nat))) (some (some (.dct tag (naD g l)))) = .ok () (ρ.set i (some (.dct tag (naD g (l ++ [(k, v)]))))) := by
  show (if (nkOf (iNat k)).isSome ∧ (naD g l).length < 1000000 then Out.ok () (ρ.set i (some (.dct tag (kput (naD g l) (iNat k) (g v))))) else _) = _
  rw [if_pos ⟨nkOf_nat k, by rw [naD_len]; exact hl⟩, kput_na v hk]
end
theorem fIs_i0 (i : Int) : fIs (.int i) .none = some (.val (.bool false)) := (rfl)
noncomputable def w_ledby : M Fl := seqM (asgS (asgSeq 2 (asgCons (asgR 3) (asgCons (asgR 4) (asgNil)))) (getM 0))
  (seqM (ifS (tcmp fEq (getM 2) (cst (.str "s"))) (retS (DL.bin fIx (getM 3) (getM 1))) (nilS))
  (seqM (ifS (DL.orM (tcmp fEq (getM 2) (cst (.str "r"))) (tcmp fIs (DL.bin fIx (getM 4) (getM 1)) (cst .none))) (retS (DL.bin fIx (getM 4) (getM 1))) (nilS))
  (retS (DL.bin fIx (getM 4) (DL.bin fIx (getM 4) (getM 1))))))
noncomputable def ft_ledby : List D → FO := runF 2 w_ledby
theorem ledby_ok {hs ts : List Nat} (P : TabP hs ts) {p : Nat} (hp : p < hs.length) (c : Nat) : ft_ledby [tabD hs ts, .int (p : Nat), Lt c] = .ok (.val (.int (ledL hs ts p c : Nat))) := by
  have a1 : atI (hs.map iNat) (p : Int) = some (.int (gD0 hs p : Nat)) := at_iN hp
  have a2 : atI (ts.map iNat) (p : Int) = some (.int (gD0 ts p : Nat)) := at_iN (by rw [← P.len]; exact hp)
  have a3 : atI (ts.map iNat) (gD0 ts p : Int) = some (.int (gD0 ts (gD0 ts p) : Nat)) := at_iN (by rw [← P.len]; exact P.tl hp)
  have q1 := eqs_W c
  have q2 := eqr_W c
  unfold ft_ledby w_ledby ledL tabD
  rw [run_eq]
  generalize hs.map iNat = H at *
  generalize ts.map iNat = G at *
  generalize gD0 ts (gD0 ts p) = b2 at *
  generalize gD0 ts p = b at *
  generalize gD0 hs p = a at *
  generalize Lt c = l at *
  by_cases c1 : c = 115
  · simp [c1] at q1
    simp [q1, a1, c1]
  · by_cases c2 : c = 114
    · simp [c2] at q1 q2
      simp [q1, q2, a2, c2]
    · simp [c1] at q1
      simp [c2] at q2
      simp [q1, q2, a2, a3, c1, c2, fIs_i0]
noncomputable def wl_led1 : M Fl := seqM (forS (asgR 3) (itA (getM 2)) (ifS (tcmp fEq (getM 3) (cst (.str "s"))) (setS 1 (DL.bin fIx (DL.bin fIx (getM 0) (cst (.int 0))) (getM 1))) (ifS (tcmp fEq (getM 3) (cst (.str "r"))) (setS 1 (DL.bin fIx (DL.bin fIx (getM 0) (cst (.int 1))) (getM 1))) (setS 1 (DL.bin fIx (DL.bin fIx (getM 0) (cst (.int 1))) (DL.bin fIx (DL.bin fIx (getM 0) (cst (.int 1))) (getM 1)))))))
  (retS (getM 1))
noncomputable def fl_led1 : List D → FO := runF 1 wl_led1
def l1B : M Fl := (ifS (tcmp fEq (getM 3) (cst (.str "s"))) (setS 1 (DL.bin fIx (DL.bin fIx (getM 0) (cst (.int 0))) (getM 1))) (ifS (tcmp fEq (getM 3) (cst (.str "r"))) (setS 1 (DL.bin fIx (DL.bin fIx (getM 0) (cst (.int 1))) (getM 1))) (setS 1 (DL.bin fIx (DL.bin fIx (getM 0) (cst (.int 1))) (DL.bin fIx (DL.bin fIx (getM 0) (cst (.int 1))) (getM 1))))))
theorem l1_loop {hs ts : List Nat} (P : TabP hs ts) (x2 : Option T) : ∀ (w : List Nat) (p : Nat) (x3 : Option T), p < hs.length → ∃ y3, forM (asgR 3) l1B (w.map Lt) [some (.val (tabD hs ts)), some (.val (.int (p : Nat))), x2, x3] = .ok .nx [some (.val (tabD hs ts)), some (.val (.int (ledT hs ts w p : Nat))), x2, y3]
  | [], p, x3, _ => ⟨x3, rfl⟩
  | c :: w, p, x3, hp => by
    obtain ⟨y3, e⟩ := l1_loop P x2 w (ledL hs ts p c) (some (.val (Lt c))) (ledL_lt P hp c)
    refine ⟨y3, ?_⟩
    have ep : asgR 3 (.tmp (.val (Lt c))) [some (.val (tabD hs ts)), some (.val (.int (p : Nat))), x2, x3] = .ok () [some (.val (tabD hs ts)), some (.val (.int (p : Nat))), x2, some (.val (Lt c))] := by
      generalize Lt c = l
      generalize tabD hs ts = d
      simp
    have a1 : atI (hs.map iNat) (p : Int) = some (.int (gD0 hs p : Nat)) := at_iN hp
    have a2 : atI (ts.map iNat) (p : Int) = some (.int (gD0 ts p : Nat)) := at_iN (by rw [← P.len]; exact hp)
    have a3 : atI (ts.map iNat) (gD0 ts p : Int) = some (.int (gD0 ts (gD0 ts p) : Nat)) := at_iN (by rw [← P.len]; exact P.tl hp)
    have q1 := eqs_W c
    have q2 := eqr_W c
    have eb : l1B [some (.val (tabD hs ts)), some (.val (.int (p : Nat))), x2, some (.val (Lt c))] = .ok .nx [some (.val (tabD hs ts)), some (.val (.int (ledL hs ts p c : Nat))), x2, some (.val (Lt c))] := by
      unfold l1B ledL tabD
      generalize hs.map iNat = H at *
      generalize ts.map iNat = G at *
      generalize gD0 ts (gD0 ts p) = b2 at *
      generalize gD0 ts p = b at *
      generalize gD0 hs p = a at *
      generalize Lt c = l at *
      by_cases c1 : c = 115
      · simp [c1] at q1
        simp [q1, a1, c1]
      · by_cases c2 : c = 114
        · simp [c2] at q1 q2
          simp [q1, q2, a2, c2]
        · simp [c1] at q1
          simp [c2] at q2
          simp [q1, q2, a2, a3, c1, c2]
    rw [List.map_cons, forM_cons, bind_ap, ep, bnd_ok, eb, bnd_ok, loop_nx]
    exact e
theorem led1_ok {hs ts : List Nat} (P : TabP hs ts) {w : List Nat} (hl : w.length ≤ 100000) {p : Nat} (hp : p < hs.length) : fl_led1 [tabD hs ts, .int (p : Nat), .str (mkS w)] = .ok (.val (.int (ledT hs ts w p : Nat))) := by
  have ec := charsW w
  obtain ⟨y3, e⟩ := l1_loop P (some (.val (.str (mkS w)))) w p none hp
  unfold fl_led1
  have em : wl_led1 = seqM (forS (asgR 3) (itA (getM 2)) l1B) (retS (getM 1)) := rfl
  rw [em, run_eq]
  generalize l1B = BB at *
  generalize tabD hs ts = d at *
  simp [ec, e]
end DL
set_option Elab.async false
set_option maxRecDepth 100000
set_option maxHeartbeats 4000000
set_option exponentiation.threshold 5000
namespace DL
open PySem L2
noncomputable def wl_big : M Fl := seqM (setS 2 (tupM (argC (cst (.int 48271)) (argC (cst (.int 69621)) (argC (cst (.int 16807)) (argC (cst (.int 39373)) (argC (cst (.int 21401)) (argC (cst (.int 60493)) (argC (cst (.int 87721)) (argC (cst (.int 31337)) (argN)))))))))))
  (seqM (setS 3 (tupM (argC (cst (.int 99991)) (argC (cst (.int 99989)) (argC (cst (.int 99971)) (argC (cst (.int 99961)) (argC (cst (.int 99929)) (argC (cst (.int 99923)) (argC (cst (.int 99907)) (argC (cst (.int 99901)) (argN)))))))))))
  (seqM (setS 4 (callF f_cell (argC (getM 0) (argC (getM 1) (argN)))))
  (seqM (ifS (tcmp fGe (getM 4) (DL.bin fPow (cst (.int 10)) (cst (.int 18)))) (retS (getM 4)) (nilS))
  (seqM (setS 5 (cst (.int 0)))
  (seqM (forS (asgR 6) (itR1 (argC (cst (.int 60)) (argN))) (seqM (setS 7 (DL.bin fAdd (DL.bin fAdd (DL.bin fMod (callF f_cell (argC (getM 0) (argC (DL.bin fAdd (getM 1) (DL.bin fMod (getM 6) (cst (.int 9)))) (argN)))) (DL.bin fPow (cst (.int 10)) (cst (.int 18)))) (cst (.int 1))) (DL.bin fMulI (getM 6) (getM 6))))
  (setS 5 (DL.bin fAdd (DL.bin fMulI (getM 5) (cst (.int 7919))) (DL.bin fMod (DL.bin fMod (DL.bin fMulI (getM 7) (DL.bin fIx (getM 2) (DL.bin fMod (getM 6) (cst (.int 8))))) (DL.bin fIx (getM 3) (DL.bin fMod (getM 6) (cst (.int 8))))) (cst (.int 7919)))))))
  (retS (getM 5)))))))
noncomputable def fl_big : List D → FO := runF 6 wl_big
def byI : List Int := [48271, 69621, 16807, 39373, 21401, 60493, 87721, 31337]
def prI : List Int := [99991, 99989, 99971, 99961, 99929, 99923, 99907, 99901]
noncomputable def bgB : M Fl := (seqM (setS 7 (DL.bin fAdd (DL.bin fAdd (DL.bin fMod (callF f_cell (argC (getM 0) (argC (DL.bin fAdd (getM 1) (DL.bin fMod (getM 6) (cst (.int 9)))) (argN)))) (DL.bin fPow (cst (.int 10)) (cst (.int 18)))) (cst (.int 1))) (DL.bin fMulI (getM 6) (getM 6))))
  (setS 5 (DL.bin fAdd (DL.bin fMulI (getM 5) (cst (.int 7919))) (DL.bin fMod (DL.bin fMod (DL.bin fMulI (getM 7) (DL.bin fIx (getM 2) (DL.bin fMod (getM 6) (cst (.int 8))))) (DL.bin fIx (getM 3) (DL.bin fMod (getM 6) (cst (.int 8))))) (cst (.int 7919))))))
theorem bg_step (ns : List Int) {k j : Nat} (hj : j < 60) {z : Int} (h0 : 0 ≤ z) (h1 : z.natAbs < 2 ^ (13 * j + 1)) (x4 x7 : Option T) : ∃ (z' : Int) (y7 : Option T), 0 ≤ z' ∧ z'.natAbs < 2 ^ (13 * (j + 1) + 1) ∧
    bgB [some (.val (.list (ns.map .int))), some (.val (.int k)), some (.val (.tuple (byI.map .int))), some (.val (.tuple (prI.map .int))), x4, some (.val (.int z)), some (.val (.int j)), x7] = .ok .nx [some (.val (.list (ns.map .int))), some (.val (.int k)), some (.val (.tuple (byI.map .int))), some (.val (.tuple (prI.map .int))), x4, some (.val (.int z')), some (.val (.int j)), y7] := by
  have g9 := fmod_pos (a := (j : Int)) (b := 9) (by decide)
  have g8 := fmod_pos (a := (j : Int)) (b := 8) (by decide)
  generalize h9 : (j : Int).fmod 9 = r9 at *
  generalize h8 : (j : Int).fmod 8 = r8 at *
  have hc := cell_ok ns (k + r9.toNat)
  rw [show ((k + r9.toNat : Nat) : Int) = (k : Int) + r9 by omega] at hc
  generalize ns.getD (k + r9.toNat) 0 = c at *
  obtain ⟨b, hb, ab⟩ := atI_int (l := byI) (i := r8) g8.1 (by show r8 < 8; omega)
  obtain ⟨q, hq, aq⟩ := atI_int (l := prI) (i := r8) g8.1 (by show r8 < 8; omega)
  have hb2 : 0 ≤ b ∧ b < 100000 := by
    unfold byI at hb
    simp only [List.mem_cons, List.not_mem_nil, or_false] at hb
    omega
  have hq2 : 99000 < q ∧ q < 100000 := by
    unfold prI at hq
    simp only [List.mem_cons, List.not_mem_nil, or_false] at hq
    omega
  have p18 : bPow 10 18 = true := by decide
  have e18 : (10 : Int) ^ 18 = 1000000000000000000 := by decide
  have gc := fmod_pos (a := c) (b := 1000000000000000000) (by decide)
  have pw : fPow (.int 10) (.int 18) = some (.val (.int 1000000000000000000)) := by
    rw [fPow_ii, if_pos p18]
    rfl
  generalize hcm : c.fmod 1000000000000000000 = cm at *
  have fm18 : fMod (.int c) (.int 1000000000000000000) = some (.val (.int cm)) := by rw [fMod_ii, if_pos (by decide), hcm]
  have two61 : (2 : Nat) ^ 61 = 2305843009213693952 := by decide
  have two17 : (2 : Nat) ^ 17 = 131072 := by decide
  have mjj : fMulI (.int (j : Int)) (.int (j : Int)) = some (.val (.int ((j : Int) * (j : Int)))) := by
    rw [fMul_ii, if_pos (bMul_of 6 6 (by omega) (by omega) (by decide))]
  have jj : 0 ≤ (j : Int) * (j : Int) ∧ (j : Int) * (j : Int) ≤ 3600 := by
    constructor
    · exact Int.mul_nonneg (by omega) (by omega)
    · have : (j : Int) * (j : Int) ≤ 60 * 60 := Int.mul_le_mul (by omega) (by omega) (by omega) (by omega)
      omega
  generalize (j : Int) * (j : Int) = j2 at *
  have mone : fMulI (.int (cm + 1 + j2)) (.int b) = some (.val (.int ((cm + 1 + j2) * b))) := by
    rw [fMul_ii, if_pos (bMul_of 61 17 (by omega) (by omega) (by decide))]
  generalize (cm + 1 + j2) * b = ob at *
  have gq := fmod_pos (a := ob) (b := q) (by omega)
  have fmq : fMod (.int ob) (.int q) = some (.val (.int (ob.fmod q))) := by rw [fMod_ii, if_pos (by omega)]
  generalize ob.fmod q = oq at *
  have g79 := fmod_pos (a := oq) (b := 7919) (by decide)
  have fm79 : fMod (.int oq) (.int 7919) = some (.val (.int (oq.fmod 7919))) := by rw [fMod_ii, if_pos (by decide)]
  generalize oq.fmod 7919 = r at *
  have two13 : (2 : Nat) ^ 13 = 8192 := by decide
  have mz : fMulI (.int z) (.int 7919) = some (.val (.int (z * 7919))) := by
    rw [fMul_ii, if_pos (bMul_of (13 * j + 1) 13 h1 (by decide) (by omega))]
  have bd : (z * 7919 + r).natAbs < 2 ^ (13 * (j + 1) + 1) := by
    have e : 2 ^ (13 * (j + 1) + 1) = 2 ^ (13 * j + 1) * 8192 := by
      rw [show 13 * (j + 1) + 1 = 13 * j + 1 + 13 by omega, Nat.pow_add, two13]
    rw [e]
    generalize 2 ^ (13 * j + 1) = W at *
    omega
  refine ⟨z * 7919 + r, some (.val (.int (cm + 1 + j2))), by omega, bd, ?_⟩
  have fm9 : fMod (.int (j : Int)) (.int 9) = some (.val (.int r9)) := by rw [fMod_ii, if_pos (by decide), h9]
  have fm8 : fMod (.int (j : Int)) (.int 8) = some (.val (.int r8)) := by rw [fMod_ii, if_pos (by decide), h8]
  unfold bgB
  generalize ns.map PyData.int = N at *
  generalize byI.map PyData.int = BY at *
  generalize prI.map PyData.int = PR at *
  generalize fMod = FM at *
  generalize fMulI = FX at *
  generalize fPow = FP at *
  simp [fm9, fm8, hc, pw, fm18, mjj, mone, ab, aq, fmq, fm79, mz]
theorem big_ok (ns : List Int) (k : Nat) : ∃ c : Int, fl_big [.list (ns.map .int), .int k] = .ok (.val (.int c)) := by
  have hc := cell_ok ns k
  generalize ns.getD k 0 = c at *
  have loop : ∀ (m j : Nat) (z : Int) (x4 x6 x7 : Option T), j + m = 60 → 0 ≤ z → z.natAbs < 2 ^ (13 * j + 1) → ∃ (z' : Int) (y6 y7 : Option T), forM (asgR 6) bgB (irange (j : Int) m) [some (.val (.list (ns.map .int))), some (.val (.int k)), some (.val (.tuple (byI.map .int))), some (.val (.tuple (prI.map .int))), x4, some (.val (.int z)), x6, x7] = .ok .nx [some (.val (.list (ns.map .int))), some (.val (.int k)), some (.val (.tuple (byI.map .int))), some (.val (.tuple (prI.map .int))), x4, some (.val (.int z')), y6, y7] := by
    intro m
    induction m with
    | zero => exact fun j z x4 x6 x7 _ _ _ => ⟨z, x6, x7, rfl⟩
    | succ m ih =>
      intro j z x4 x6 x7 hj h0 h1
      obtain ⟨z1, y7, q0, q1, e⟩ := bg_step ns (k := k) (j := j) (by omega) h0 h1 x4 x7
      obtain ⟨z2, w6, w7, e2⟩ := ih (j + 1) z1 x4 (some (.val (.int j))) y7 (by omega) q0 q1
      refine ⟨z2, w6, w7, ?_⟩
      have ep : asgR 6 (.tmp (.val (.int j))) [some (.val (.list (ns.map .int))), some (.val (.int k)), some (.val (.tuple (byI.map .int))), some (.val (.tuple (prI.map .int))), x4, some (.val (.int z)), x6, x7] = .ok () [some (.val (.list (ns.map .int))), some (.val (.int k)), some (.val (.tuple (byI.map .int))), some (.val (.tuple (prI.map .int))), x4, some (.val (.int z)), some (.val (.int j)), x7] := by
        generalize ns.map PyData.int = N
        generalize byI.map PyData.int = BY
        generalize prI.map PyData.int = PR
        simp
      rw [irange_cons, forM_cons, bind_ap, ep, bnd_ok, e, bnd_ok, loop_nx]
      exact e2
  obtain ⟨z, y6, y7, e⟩ := loop 60 0 0 (some (.val (.int c))) none none rfl (by decide) (by decide)
  have hrn := fun ρ => rng_nat ρ (n := 60) (by decide)
  have p18 : bPow 10 18 = true := by decide
  have pw : fPow (.int 10) (.int 18) = some (.val (.int 1000000000000000000)) := by
    rw [fPow_ii, if_pos p18]
    rfl
  have em : wl_big = seqM (setS 2 (tupM (argC (cst (.int 48271)) (argC (cst (.int 69621)) (argC (cst (.int 16807)) (argC (cst (.int 39373)) (argC (cst (.int 21401)) (argC (cst (.int 60493)) (argC (cst (.int 87721)) (argC (cst (.int 31337)) (argN)))))))))))
    (seqM (setS 3 (tupM (argC (cst (.int 99991)) (argC (cst (.int 99989)) (argC (cst (.int 99971)) (argC (cst (.int 99961)) (argC (cst (.int 99929)) (argC (cst (.int 99923)) (argC (cst (.int 99907)) (argC (cst (.int 99901)) (argN)))))))))))
    (seqM (setS 4 (callF f_cell (argC (getM 0) (argC (getM 1) (argN)))))
    (seqM (ifS (tcmp fGe (getM 4) (DL.bin fPow (cst (.int 10)) (cst (.int 18)))) (retS (getM 4)) (nilS))
    (seqM (setS 5 (cst (.int 0))) (seqM (forS (asgR 6) (itR1 (argC (cst (.int 60)) (argN))) bgB) (retS (getM 5))))))) := rfl
  have eb : byI.map PyData.int = [.int 48271, .int 69621, .int 16807, .int 39373, .int 21401, .int 60493, .int 87721, .int 31337] := rfl
  have ep : prI.map PyData.int = [.int 99991, .int 99989, .int 99971, .int 99961, .int 99929, .int 99923, .int 99907, .int 99901] := rfl
  rw [eb, ep] at e
  simp only [Int.natCast_zero] at e
  simp only [show ((60 : Nat) : Int) = 60 from rfl] at hrn
  by_cases w : 1000000000000000000 ≤ c
  · refine ⟨c, ?_⟩
    unfold fl_big
    rw [em, run_eq]
    generalize ns.map PyData.int = N at *
    generalize bgB = BG at *
    generalize fPow = FP at *
    simp [hc, pw, w]
  · refine ⟨z, ?_⟩
    unfold fl_big
    rw [em, run_eq]
    generalize ns.map PyData.int = N at *
    generalize bgB = BG at *
    generalize fPow = FP at *
    simp [hc, pw, w, hrn, e]
end DL
set_option Elab.async false
set_option maxRecDepth 100000
set_option maxHeartbeats 4000000
namespace DL
open PySem L2
abbrev WS := List (Nat × List Nat)
def strD (w : List Nat) : D := .str (mkS w)
def wtL (hs ts : List Nat) (here : Nat) (w : List Nat) (s : WS × List Nat) (c : Nat) : WS × List Nat :=
  if ledL hs ts here c ∈ s.1.map (·.1) then s else (s.1 ++ [(ledL hs ts here c, w ++ [c])], s.2 ++ [ledL hs ts here c])
def wtH (hs ts : List Nat) (s : WS × List Nat) (here : Nat) : WS × List Nat := [113, 114, 115].foldl (wtL hs ts here ((getA s.1 here).getD [])) s
def wtR (hs ts : List Nat) (l : WS) (wait : List Nat) : WS × List Nat := wait.foldl (wtH hs ts) (l, [])
def wtW (hs ts : List Nat) (place : Nat) : Nat → WS → List Nat → WS
  | 0, l, _ => l
  | n + 1, l, wait => if place ∈ l.map (·.1) then l else wtW hs ts place n (wtR hs ts l wait).1 (wtR hs ts l wait).2
def wordTo (hs ts : List Nat) (place : Nat) : List Nat := (getA (wtW hs ts place (hs.length + 1) [(0, [])] [0]) place).getD []
/-- words that lead where they are said to -/
structure Wd (hs ts : List Nat) (R : Nat) (l : WS) : Prop where
  nd : (l.map (·.1)).Nodup
  lt : ∀ k ∈ l.map (·.1), k < hs.length
  led : ∀ k w, (k, w) ∈ l → ledT hs ts w 0 = k ∧ (∀ c ∈ w, isLet c) ∧ w.length ≤ R
theorem Wd.len {hs ts : List Nat} {R : Nat} {l : WS} (W : Wd hs ts R l) : l.length ≤ hs.length := by
  have := nodup_le (K := List.range hs.length) W.nd fun x hx => List.mem_range.mpr (W.lt x hx)
  simpa using this
theorem Wd.more {hs ts : List Nat} {R R' : Nat} {l : WS} (W : Wd hs ts R l) (h : R ≤ R') : Wd hs ts R' l := ⟨W.nd, W.lt, fun k w z => let ⟨a, b, c⟩ := W.led k w z; ⟨a, b, by omega⟩⟩
theorem isLet3 {c : Nat} (h : c ∈ [113, 114, 115]) : isLet c := by
  simp only [List.mem_cons, List.not_mem_nil, or_false] at h
  unfold isLet
  omega
theorem wtL_ok {hs ts : List Nat} (P : TabP hs ts) {R here c : Nat} {w : List Nat} {l l0 r : WS} (W : Wd hs ts (R + 1) l) (hl : l = l0 ++ r) (g : getA l here = some w) (hw : w.length ≤ R) (hc : isLet c) :
    ∃ r', (wtL hs ts here w (l, r.map (·.1)) c) = (l0 ++ r', r'.map (·.1)) ∧ Wd hs ts (R + 1) (l0 ++ r') ∧ (∃ q, r' = r ++ q) ∧ ledL hs ts here c ∈ (l0 ++ r').map (·.1) := by
  have hm := getA_mem g
  obtain ⟨l1, l2, l3⟩ := W.led _ _ hm
  have hh := W.lt here (List.mem_map.mpr ⟨_, hm, rfl⟩)
  unfold wtL
  by_cases h : ledL hs ts here c ∈ l.map (·.1)
  · rw [if_pos h]
    refine ⟨r, by rw [hl], by rw [← hl]; exact W, ⟨[], by simp⟩, by rw [← hl]; exact h⟩
  · rw [if_neg h]
    refine ⟨r ++ [(ledL hs ts here c, w ++ [c])], by rw [hl]; simp, ?_, ⟨_, rfl⟩, by simp⟩
    rw [← List.append_assoc, ← hl]
    refine ⟨?_, fun k hk => ?_, fun k u hk => ?_⟩
    · rw [List.map_append]
      refine List.nodup_append.mpr ⟨W.nd, by simp, fun a ha b hb e => ?_⟩
      simp at hb
      rw [e, hb] at ha
      exact h ha
    · rw [List.map_append] at hk
      rcases List.mem_append.mp hk with z | z
      · exact W.lt k z
      · simp at z
        rw [z]
        exact ledL_lt P hh c
    · rcases List.mem_append.mp hk with z | z
      · exact W.led k u z
      · simp at z
        obtain ⟨rfl, rfl⟩ := z
        refine ⟨?_, fun x hx => ?_, by simp; omega⟩
        · unfold ledT at l1 ⊢
          rw [List.foldl_append, l1]
          rfl
        · rcases List.mem_append.mp hx with z | z
          · exact l2 x z
          · simp at z
            rw [z]
            exact hc
/-- the words of a place's three ways -/
theorem wtH_ok {hs ts : List Nat} (P : TabP hs ts) {R here : Nat} {w : List Nat} {l0 r : WS} (W : Wd hs ts (R + 1) (l0 ++ r)) (g : getA (l0 ++ r) here = some w) (hw : w.length ≤ R) :
    ∃ r', wtH hs ts (l0 ++ r, r.map (·.1)) here = (l0 ++ r', r'.map (·.1)) ∧ Wd hs ts (R + 1) (l0 ++ r') ∧ (∃ q, r' = r ++ q) ∧ ∀ c, isLet c → ledL hs ts here c ∈ (l0 ++ r').map (·.1) := by
  have ext : ∀ {r' q : WS}, r' = r ++ q → getA (l0 ++ r') here = some w := fun {r' q} e => by
    rw [e, ← List.append_assoc, getA_app, g]
  obtain ⟨r1, e1, W1, ⟨q1, x1⟩, m1⟩ := wtL_ok P W rfl g hw (isLet3 (c := 113) (by decide))
  obtain ⟨r2, e2, W2, ⟨q2, x2⟩, m2⟩ := wtL_ok P W1 rfl (ext x1) hw (isLet3 (c := 114) (by decide))
  obtain ⟨r3, e3, W3, ⟨q3, x3⟩, m3⟩ := wtL_ok P W2 rfl (ext (by rw [x2, x1, List.append_assoc])) hw (isLet3 (c := 115) (by decide))
  refine ⟨r3, ?_, W3, ⟨q1 ++ (q2 ++ q3), by rw [x3, x2, x1]; simp⟩, fun c hc => ?_⟩
  · unfold wtH
    rw [g]
    show List.foldl _ _ [113, 114, 115] = _
    rw [List.foldl_cons, Option.getD_some, e1, List.foldl_cons, e2, List.foldl_cons, e3]
    rfl
  · have up1 : ∀ {x : Nat}, x ∈ (l0 ++ r1).map (·.1) → x ∈ (l0 ++ r3).map (·.1) := fun {x} h => by
      rw [x3, x2]
      simp only [List.map_append, List.mem_append] at h ⊢
      rcases h with h | h
      · exact .inl h
      · exact .inr (.inl (.inl h))
    have up2 : ∀ {x : Nat}, x ∈ (l0 ++ r2).map (·.1) → x ∈ (l0 ++ r3).map (·.1) := fun {x} h => by
      rw [x3]
      simp only [List.map_append, List.mem_append] at h ⊢
      rcases h with h | h
      · exact .inl h
      · exact .inr (.inl h)
    rcases hc with rfl | rfl | rfl
    · exact m3
    · exact up2 m2
    · exact up1 m1
structure WtI (hs ts : List Nat) (R : Nat) (l : WS) (wait : List Nat) : Prop where
  wd : Wd hs ts R l
  wk : ∀ k ∈ wait, k ∈ l.map (·.1)
  zero : 0 ∈ l.map (·.1)
  cl : ∀ k ∈ l.map (·.1), k ∉ wait → ∀ c, isLet c → ledL hs ts k c ∈ l.map (·.1)
theorem WtI.start {hs ts : List Nat} (P : TabP hs ts) : WtI hs ts 0 [(0, [])] [0] := ⟨⟨by simp, fun k hk => by simp at hk; rw [hk]; exact P.pos, fun k w h => by
  simp at h
  obtain ⟨rfl, rfl⟩ := h
  exact ⟨rfl, ⟨(fun c hc => by cases hc), by simp⟩⟩⟩, fun k hk => by simpa using hk, by simp, fun k hk hn => absurd (by simpa using hk) hn⟩
theorem WtI.full {hs ts : List Nat} (P : TabP hs ts) {R : Nat} {l : WS} (I : WtI hs ts R l []) : ∀ x, x < hs.length → x ∈ l.map (·.1) :=
  closed_all P (met := l.map (·.1)) (fun x hx => ⟨I.cl x hx List.not_mem_nil 115 (.inl rfl), I.cl x hx List.not_mem_nil 114 (.inr (.inl rfl))⟩) I.wd.lt (p := 0) I.zero
theorem wtR_fold {hs ts : List Nat} (P : TabP hs ts) {R : Nat} {l0 : WS} (W0 : Wd hs ts R l0) : ∀ (wait : List Nat) (r : WS), (∀ k ∈ wait, k ∈ l0.map (·.1)) → Wd hs ts (R + 1) (l0 ++ r) →
    ∃ r', wait.foldl (wtH hs ts) (l0 ++ r, r.map (·.1)) = (l0 ++ r', r'.map (·.1)) ∧ Wd hs ts (R + 1) (l0 ++ r') ∧ (∃ q, r' = r ++ q) ∧ ∀ k ∈ wait, ∀ c, isLet c → ledL hs ts k c ∈ (l0 ++ r').map (·.1)
  | [], r, _, W => ⟨r, rfl, W, ⟨[], by simp⟩, fun k hk => by cases hk⟩
  | here :: wait, r, hk, W => by
    obtain ⟨w, hw⟩ : ∃ w, getA l0 here = some w := Option.isSome_iff_exists.mp (by rw [getA_isSome]; exact decide_eq_true (hk here List.mem_cons_self))
    have g : getA (l0 ++ r) here = some w := by rw [getA_app, hw]
    obtain ⟨r1, e1, W1, ⟨q1, x1⟩, m1⟩ := wtH_ok P W g (W0.led _ _ (getA_mem hw)).2.2
    obtain ⟨r2, e2, W2, ⟨q2, x2⟩, m2⟩ := wtR_fold P W0 wait r1 (fun k h => hk k (List.mem_cons_of_mem _ h)) W1
    refine ⟨r2, by rw [List.foldl_cons, e1, e2], W2, ⟨q1 ++ q2, by rw [x2, x1, List.append_assoc]⟩, fun k h c hc => ?_⟩
    rcases List.mem_cons.mp h with h | h
    · subst h
      have := m1 c hc
      rw [x2]
      simp only [List.map_append, List.mem_append] at this ⊢
      rcases this with h | h
      · exact .inl h
      · exact .inr (.inl h)
    · exact m2 k h c hc
theorem WtI.round {hs ts : List Nat} (P : TabP hs ts) {R : Nat} {l : WS} {wait : List Nat} (I : WtI hs ts R l wait) : ∃ r, wtR hs ts l wait = (l ++ r, r.map (·.1)) ∧ WtI hs ts (R + 1) (l ++ r) (r.map (·.1)) := by
  obtain ⟨r, e, W, _, m⟩ := wtR_fold P I.wd wait [] I.wk (by rw [List.append_nil]; exact I.wd.more (by omega))
  rw [List.append_nil] at e
  refine ⟨r, e, W, fun k hk => by rw [List.map_append]; exact List.mem_append_right _ hk, by rw [List.map_append]; exact List.mem_append_left _ I.zero, fun k hk hn c hc => ?_⟩
  rw [List.map_append] at hk
  rcases List.mem_append.mp hk with h | h
  · by_cases hw : k ∈ wait
    · exact m k hw c hc
    · rw [List.map_append]
      exact List.mem_append_left _ (I.cl k h hw c hc)
  · exact absurd h hn
noncomputable def wtC : M Fl := (seqM (setS 7 (callF ft_ledby (argC (getM 0) (argC (getM 5) (argC (getM 6) (argN))))))
  (ifS (tcmp fNotIn (getM 7) (getM 2)) (seqM (asgS (asgSub (getM 2) (getM 7)) (DL.bin fAdd (DL.bin fIx (getM 2) (getM 5)) (getM 6)))
  (exS (apE (getM 4) (getM 7)))) (nilS)))
noncomputable def wtD : M Fl := (forS (asgR 6) (itA (cst (.str "qrs"))) wtC)
noncomputable def wtB : M Fl := (seqM (setS 4 (lstM (argN))) (seqM (forS (asgR 5) (itA (getM 3)) wtD) (setS 3 (getM 4))))
def wtT : M Bool := (tcmp fNotIn (getM 1) (getM 2))
noncomputable def w_wordto : M Fl := seqM (setS 2 (dispM [(cst (.int 0), cst (.str ""))]))
  (seqM (setS 3 (lstM (argC (cst (.int 0)) (argN))))
  (seqM (whileC (tcmp fNotIn (getM 1) (getM 2)) (seqM (setS 4 (lstM (argN)))
  (seqM (forS (asgR 5) (itA (getM 3)) (forS (asgR 6) (itA (cst (.str "qrs"))) (seqM (setS 7 (callF ft_ledby (argC (getM 0) (argC (getM 5) (argC (getM 6) (argN))))))
  (ifS (tcmp fNotIn (getM 7) (getM 2)) (seqM (asgS (asgSub (getM 2) (getM 7)) (DL.bin fAdd (DL.bin fIx (getM 2) (getM 5)) (getM 6)))
  (exS (apE (getM 4) (getM 7)))) (nilS)))))
  (setS 3 (getM 4)))))
  (retS (DL.bin fIx (getM 2) (getM 1)))))
noncomputable def ft_wordto : List D → FO := runF 6 w_wordto
theorem wwordto_eq : w_wordto = seqM (setS 2 (dispM [(cst (.int 0), cst (.str ""))])) (seqM (setS 3 (lstM (argC (cst (.int 0)) (argN)))) (seqM (whileC wtT wtB) (retS (DL.bin fIx (getM 2) (getM 1))))) := rfl
theorem wtC_ok {hs ts : List Nat} (P : TabP hs ts) {here c : Nat} {w : List Nat} {l : WS} {later : List Nat} (hl : l.length ≤ 1000) (hr : later.length ≤ 1000) (hw : w.length ≤ 1000) (hh : here < hs.length) (g : getA l here = some w) (x1 x3 x7 : Option T) :
    ∃ y7, wtC [some (.val (tabD hs ts)), x1, some (.dct none (naD strD l)), x3, some (.lst none (later.map iNat)), some (.val (.int (here : Nat))), some (.val (Lt c)), x7] =
    .ok .nx [some (.val (tabD hs ts)), x1, some (.dct none (naD strD (wtL hs ts here w (l, later) c).1)), x3, some (.lst none ((wtL hs ts here w (l, later) c).2.map iNat)), some (.val (.int (here : Nat))), some (.val (Lt c)), y7] := by
  have lb := ledby_ok P hh c
  have ni := notin_na (g := strD) l (ledL hs ts here c)
  have d1 := fIx_na (g := strD) g
  have ad : fAdd (.str (mkS w)) (Lt c) = some (.val (.str (mkS (w ++ [c])))) := by
    rw [show Lt c = .str (mkS [c]) from rfl]
    simp [mkS_app, show w.length + 1 ≤ 16777216 by omega, show w.length + 1 < 16777216 by omega]
  refine ⟨some (.val (.int (ledL hs ts here c : Nat))), ?_⟩
  unfold wtC wtL
  by_cases h : ledL hs ts here c ∈ l.map (·.1)
  · rw [if_pos h]
    rw [decide_eq_true h] at ni
    clear h
    dsimp only
    generalize naD strD l = M at *
    generalize later.map iNat = L at *
    generalize ledL hs ts here c = y at *
    generalize tabD hs ts = d at *
    generalize Lt c = C at *
    simp [lb, ni]
  · rw [if_neg h]
    rw [decide_eq_false h] at ni
    have s1 : ∀ ρ tag, subO 2 (.str (mkS (w ++ [c]))) ρ (some (.int (ledL hs ts here c : Nat))) (some (some (.dct tag (naD strD l)))) = .ok () (ρ.set 2 (some (.dct tag (naD strD (l ++ [(ledL hs ts here c, w ++ [c])]))))) := fun ρ tag => sub_na (g := strD) (v := w ++ [c]) h (by omega) 2 ρ tag
    clear h
    dsimp only
    have e2 : (later ++ [ledL hs ts here c]).map iNat = later.map iNat ++ [.int (ledL hs ts here c : Nat)] := by simp [iNat]
    have hlm : (later.map iNat).length < 16777216 := by simp; omega
    rw [e2]
    have d1' : fIx (.dict (naD strD l)) (.int (here : Nat)) = some (.val (.str (mkS w))) := d1
    clear d1
    generalize naD strD (l ++ [(ledL hs ts here c, w ++ [c])]) = M1 at *
    generalize naD strD l = M at *
    generalize later.map iNat = L at *
    generalize ledL hs ts here c = y at *
    generalize tabD hs ts = d at *
    generalize mkS (w ++ [c]) = W1 at *
    generalize mkS w = W0 at *
    generalize Lt c = C at *
    simp [-fIx_d, lb, ni, d1', ad, s1, hlm]
theorem wtD_ok {hs ts : List Nat} (P : TabP hs ts) (hn : hs.length ≤ 900) {R here : Nat} {w : List Nat} {l0 r : WS} (hR : R ≤ 950) (W : Wd hs ts (R + 1) (l0 ++ r)) (g : getA (l0 ++ r) here = some w) (hw : w.length ≤ R) (x1 x3 x6 x7 : Option T) :
    ∃ y6 y7, wtD [some (.val (tabD hs ts)), x1, some (.dct none (naD strD (l0 ++ r))), x3, some (.lst none ((r.map (·.1)).map iNat)), some (.val (.int (here : Nat))), x6, x7] =
    .ok .nx [some (.val (tabD hs ts)), x1, some (.dct none (naD strD (wtH hs ts (l0 ++ r, r.map (·.1)) here).1)), x3, some (.lst none ((wtH hs ts (l0 ++ r, r.map (·.1)) here).2.map iNat)), some (.val (.int (here : Nat))), y6, y7] := by
  have hh := W.lt here (List.mem_map.mpr ⟨_, getA_mem g, rfl⟩)
  have ext : ∀ {r' q : WS}, r' = r ++ q → getA (l0 ++ r') here = some w := fun {r' q} e => by
    rw [e, ← List.append_assoc, getA_app, g]
  have lens : ∀ {r' : WS}, Wd hs ts (R + 1) (l0 ++ r') → (l0 ++ r').length ≤ 1000 ∧ (r'.map (·.1)).length ≤ 1000 := fun {r'} W' => by
    have := W'.len
    simp at this ⊢
    omega
  obtain ⟨r1, e1, W1, ⟨q1, x1'⟩, _⟩ := wtL_ok P W rfl g hw (isLet3 (c := 113) (by decide))
  obtain ⟨r2, e2, W2, ⟨q2, x2'⟩, _⟩ := wtL_ok P W1 rfl (ext x1') hw (isLet3 (c := 114) (by decide))
  obtain ⟨y1, f1⟩ := wtC_ok P (c := 113) (lens W).1 (lens W).2 (by omega) hh g x1 x3 x7
  obtain ⟨y2, f2⟩ := wtC_ok P (c := 114) (lens W1).1 (lens W1).2 (by omega) hh (ext x1') x1 x3 y1
  obtain ⟨y3, f3⟩ := wtC_ok P (c := 115) (lens W2).1 (lens W2).2 (by omega) hh (ext (by rw [x2', x1', List.append_assoc])) x1 x3 y2
  have et : wtH hs ts (l0 ++ r, r.map (·.1)) here = wtL hs ts here w (l0 ++ r2, r2.map (·.1)) 115 := by
    unfold wtH
    rw [g]
    show List.foldl _ _ [113, 114, 115] = _
    rw [List.foldl_cons, Option.getD_some, e1, List.foldl_cons, e2, List.foldl_cons]
    rfl
  rw [e1] at f1
  rw [e2] at f2
  rw [et]
  have ec : chars ("qrs" : Str) = [Lt 113, Lt 114, Lt 115] := by
    rw [show ("qrs" : Str) = mkS [113, 114, 115] by decide, charsW]
    rfl
  refine ⟨some (.val (Lt 115)), y3, ?_⟩
  unfold wtD
  dsimp only at f1 f2
  generalize wtL hs ts here w (l0 ++ r2, r2.map (·.1)) 115 = S at *
  generalize naD strD S.1 = M3 at *
  generalize S.2.map iNat = L3 at *
  generalize naD strD (l0 ++ r2) = M2 at *
  generalize (r2.map (·.1)).map iNat = L2 at *
  generalize naD strD (l0 ++ r1) = M1 at *
  generalize (r1.map (·.1)).map iNat = L1 at *
  generalize naD strD (l0 ++ r) = M0 at *
  generalize (r.map (·.1)).map iNat = L0 at *
  generalize tabD hs ts = d at *
  generalize wtC = C at *
  generalize Lt 113 = c1 at *
  generalize Lt 114 = c2 at *
  generalize Lt 115 = c3 at *
  simp [forM_cons, ec, f1, f2, f3]
theorem wtB_loop {hs ts : List Nat} (P : TabP hs ts) (hn : hs.length ≤ 900) {R : Nat} (hR : R ≤ 950) {l0 : WS} (W0 : Wd hs ts R l0) (x1 x3 : Option T) : ∀ (wait : List Nat) (r : WS) (x5 x6 x7 : Option T), (∀ k ∈ wait, k ∈ l0.map (·.1)) → Wd hs ts (R + 1) (l0 ++ r) →
    ∃ y5 y6 y7, forM (asgR 5) wtD (wait.map iNat) [some (.val (tabD hs ts)), x1, some (.dct none (naD strD (l0 ++ r))), x3, some (.lst none ((r.map (·.1)).map iNat)), x5, x6, x7] =
    .ok .nx [some (.val (tabD hs ts)), x1, some (.dct none (naD strD (wait.foldl (wtH hs ts) (l0 ++ r, r.map (·.1))).1)), x3, some (.lst none ((wait.foldl (wtH hs ts) (l0 ++ r, r.map (·.1))).2.map iNat)), y5, y6, y7]
  | [], r, x5, x6, x7, _, _ => ⟨x5, x6, x7, rfl⟩
  | here :: wait, r, x5, x6, x7, hk, W => by
    obtain ⟨w, hw⟩ : ∃ w, getA l0 here = some w := Option.isSome_iff_exists.mp (by rw [getA_isSome]; exact decide_eq_true (hk here List.mem_cons_self))
    have g : getA (l0 ++ r) here = some w := by rw [getA_app, hw]
    have hwl := (W0.led _ _ (getA_mem hw)).2.2
    obtain ⟨r1, e1, W1, ⟨q1, x1'⟩, m1⟩ := wtH_ok P W g hwl
    obtain ⟨y6, y7, f1⟩ := wtD_ok P hn hR W g hwl x1 x3 x6 x7
    rw [e1] at f1
    obtain ⟨z5, z6, z7, f2⟩ := wtB_loop P hn hR W0 x1 x3 wait r1 (some (.val (.int (here : Nat)))) y6 y7 (fun k h => hk k (List.mem_cons_of_mem _ h)) W1
    refine ⟨z5, z6, z7, ?_⟩
    have ep : asgR 5 (.tmp (.val (iNat here))) [some (.val (tabD hs ts)), x1, some (.dct none (naD strD (l0 ++ r))), x3, some (.lst none ((r.map (·.1)).map iNat)), x5, x6, x7] = .ok () [some (.val (tabD hs ts)), x1, some (.dct none (naD strD (l0 ++ r))), x3, some (.lst none ((r.map (·.1)).map iNat)), some (.val (.int (here : Nat))), x6, x7] := by
      unfold iNat
      generalize naD strD (l0 ++ r) = M
      generalize tabD hs ts = d
      generalize List.map _ (r.map (·.1)) = L
      simp
    rw [List.map_cons, forM_cons, bind_ap, ep, bnd_ok, f1, bnd_ok, loop_nx, List.foldl_cons, e1]
    exact f2
theorem wtB_ok {hs ts : List Nat} (P : TabP hs ts) (hn : hs.length ≤ 900) {R : Nat} (hR : R ≤ 950) {l : WS} {wait : List Nat} (I : WtI hs ts R l wait) (x1 x4 x5 x6 x7 : Option T) {t3 : T} (h3 : t3 = .val (.list (wait.map iNat)) ∨ t3 = .lst none (wait.map iNat)) : ∃ y4 y5 y6 y7,
    wtB [some (.val (tabD hs ts)), x1, some (.dct none (naD strD l)), some t3, x4, x5, x6, x7] =
    .ok .nx [some (.val (tabD hs ts)), x1, some (.dct none (naD strD (wtR hs ts l wait).1)), some (.val (.list ((wtR hs ts l wait).2.map iNat))), y4, y5, y6, y7] := by
  obtain ⟨y5, y6, y7, e⟩ := wtB_loop P hn hR I.wd x1 (some (.val (.list (wait.map iNat)))) wait [] x5 x6 x7 I.wk (by rw [List.append_nil]; exact I.wd.more (by omega))
  rw [List.append_nil] at e
  have e' : wait.foldl (wtH hs ts) (l, ([] : WS).map (·.1)) = wtR hs ts l wait := rfl
  rw [e'] at e
  have e0 : (([] : WS).map (·.1)).map iNat = [] := rfl
  rw [e0] at e
  refine ⟨some (.val (.list ((wtR hs ts l wait).2.map iNat))), y5, y6, y7, ?_⟩
  unfold wtB
  generalize naD strD (wtR hs ts l wait).1 = M1 at *
  generalize (wtR hs ts l wait).2.map iNat = L1 at *
  generalize naD strD l = M at *
  generalize wait.map iNat = L at *
  generalize tabD hs ts = d at *
  generalize wtD = C at *
  rcases h3 with rfl | rfl
  · simp [e]
  · simp [e]
theorem wt_while {hs ts : List Nat} (P : TabP hs ts) (hn : hs.length ≤ 900) {place : Nat} (hp : place < hs.length) : ∀ (n R : Nat) (l : WS) (wait : List Nat) (x4 x5 x6 x7 : Option T) (t3 : T), (t3 = .val (.list (wait.map iNat)) ∨ t3 = .lst none (wait.map iNat)) → WtI hs ts R l wait → hs.length < l.length + n → R + n ≤ 950 →
    ∃ y3 y4 y5 y6 y7, place ∈ (wtW hs ts place n l wait).map (·.1) ∧ Wd hs ts (R + n) (wtW hs ts place n l wait) ∧ whileC wtT wtB [some (.val (tabD hs ts)), some (.val (.int (place : Nat))), some (.dct none (naD strD l)), some t3, x4, x5, x6, x7] =
    .ok .nx [some (.val (tabD hs ts)), some (.val (.int (place : Nat))), some (.dct none (naD strD (wtW hs ts place n l wait))), y3, y4, y5, y6, y7]
  | 0, R, l, wait, x4, x5, x6, x7, t3, _, I, hl, _ => by
    have := I.wd.len
    omega
  | n + 1, R, l, wait, x4, x5, x6, x7, t3, h3, I, hl, hR => by
    have cond : wtT [some (.val (tabD hs ts)), some (.val (.int (place : Nat))), some (.dct none (naD strD l)), some t3, x4, x5, x6, x7] = .ok (!decide (place ∈ l.map (·.1))) [some (.val (tabD hs ts)), some (.val (.int (place : Nat))), some (.dct none (naD strD l)), some t3, x4, x5, x6, x7] := by
      have ni := notin_na (g := strD) l place
      unfold wtT
      generalize naD strD l = M at *
      generalize tabD hs ts = d at *
      simp [ni]
    by_cases c : place ∈ l.map (·.1)
    · refine ⟨some t3, x4, x5, x6, x7, ?_, ?_, ?_⟩
      · simp only [wtW, if_pos c]
        exact c
      · simp only [wtW, if_pos c]
        exact I.wd.more (by omega)
      · rw [while_ap, cond, bnd_ok, if_neg (by simpa using c)]
        simp only [wtW, if_pos c]
        rfl
    · obtain ⟨r, er, I2⟩ := I.round P
      have grow : r ≠ [] := fun z => by
        subst z
        exact c (by
          have := WtI.full P (R := R + 1) (l := l ++ []) I2 place hp
          rw [List.append_nil] at this
          exact this)
      have h1 : 1 ≤ r.length := List.length_pos_iff.mpr grow
      obtain ⟨z4, z5, z6, z7, eb⟩ := wtB_ok P hn (by omega) I (some (.val (.int (place : Nat)))) x4 x5 x6 x7 h3
      rw [er] at eb
      obtain ⟨y3, y4, y5, y6, y7, h2, h3, h4⟩ := wt_while P hn hp n (R + 1) (l ++ r) (r.map (·.1)) z4 z5 z6 z7 _ (.inl rfl) I2 (by simp; omega) (by omega)
      have ew : wtW hs ts place (n + 1) l wait = wtW hs ts place n (l ++ r) (r.map (·.1)) := by
        simp only [wtW, if_neg c, er]
      rw [ew]
      refine ⟨y3, y4, y5, y6, y7, h2, h3.more (by omega), ?_⟩
      rw [while_ap, cond, bnd_ok, if_pos (by simpa using c), bind_ap, eb, bnd_ok, loop_nx]
      exact h4
theorem wt_disp (x0 x1 x2 x3 x4 x5 x6 x7 : Option T) : dispM [(cst (.int 0), cst (.str ""))] [x0, x1, x2, x3, x4, x5, x6, x7] = .ok (.tmp (.dct none (naD strD [(0, [])]))) [x0, x1, x2, x3, x4, x5, x6, x7] := by
  have pu : pairUp [.int 0, .str ""] [] = some (naD strD [(0, [])]) := by
    have n1 : (nkOf (.int 0)).isSome = true := by decide
    unfold pairUp
    rw [if_pos ⟨n1, by decide⟩, str_e]
    rfl
  show (argP [(cst (.int 0), cst (.str ""))] [x0, x1, x2, x3, x4, x5, x6, x7]).bnd mkDct = _
  simp [argP, mkDct, pu]
/-- the word told leads there from 0 -/
theorem wordto_ok {hs ts : List Nat} (P : TabP hs ts) (hn : hs.length ≤ 900) {place : Nat} (hp : place < hs.length) : ft_wordto [tabD hs ts, .int (place : Nat)] = .ok (.val (.str (mkS (wordTo hs ts place)))) ∧ ledT hs ts (wordTo hs ts place) 0 = place ∧ (∀ c ∈ wordTo hs ts place, isLet c) ∧ (wordTo hs ts place).length ≤ hs.length + 1 := by
  obtain ⟨y3, y4, y5, y6, y7, h2, h3, e⟩ := wt_while P hn hp (hs.length + 1) 0 [(0, [])] [0] none none none none (.lst none [.int 0]) (.inr rfl) (WtI.start P) (by simp; omega) (by omega)
  obtain ⟨w, hw⟩ : ∃ w, getA (wtW hs ts place (hs.length + 1) [(0, [])] [0]) place = some w := Option.isSome_iff_exists.mp (by rw [getA_isSome]; exact decide_eq_true h2)
  have ew : wordTo hs ts place = w := by
    unfold wordTo
    rw [hw]
    rfl
  obtain ⟨l1, l2, l3⟩ := h3.led _ _ (getA_mem hw)
  rw [ew]
  refine ⟨?_, l1, l2, by omega⟩
  have d1 : fIx (.dict (naD strD (wtW hs ts place (hs.length + 1) [(0, [])] [0]))) (.int (place : Nat)) = some (.val (.str (mkS w))) := fIx_na (g := strD) hw
  have dp := wt_disp
  unfold ft_wordto
  rw [wwordto_eq, run_eq]
  clear h2 h3 hw
  generalize naD strD (wtW hs ts place (hs.length + 1) [(0, [])] [0]) = M1 at *
  generalize naD strD [(0, [])] = M0 at *
  generalize tabD hs ts = d at *
  generalize dispM [(cst (.int 0), cst (.str ""))] = DD at *
  generalize whileC wtT wtB = WL at *
  generalize mkS w = W at *
  simp [-fIx_d, dp, e, d1]
end DL
set_option Elab.async false
set_option maxRecDepth 100000
set_option maxHeartbeats 4000000
namespace DL
open PySem L2
end DL
set_option Elab.async false
set_option maxRecDepth 100000
set_option maxHeartbeats 4000000
namespace DL
open PySem L2
theorem law_for {N s : Nat} (hN : 1 ≤ N) (hN2 : N ≤ 100) {body : M Fl} (G : List (Option T) → Prop) (g0 : G (List.replicate s none)) (ns : List Int)
    (one : ∀ (k : Nat) (xs : List (Option T)), G xs → ∃ ys, G ys ∧ body (some (.val (.list (ns.map .int))) :: some (.val (.int k)) :: xs) = .ok .nx (some (.val (.list (ns.map .int))) :: some (.val (.int k)) :: ys)) :
    runF (s + 1) (seqM (forS (asgR 1) (itR1 (argC (callB fMax2 (argC (cst (.int 1)) (argC (callB fMin2 (argC (cst (.int (N : Nat))) (argC (callB fLen (argC (getM 0) (argN))) (argN)))) (argN)))) (argN))) body) (retS (cst (.bool true)))) [.list (ns.map .int)] = .ok (.val (.bool true)) := by
  have loop : ∀ (m k : Nat) (x1 : Option T) (xs : List (Option T)), G xs → ∃ y1 ys, forM (asgR 1) body (irange (k : Int) m) (some (.val (.list (ns.map .int))) :: x1 :: xs) = .ok .nx (some (.val (.list (ns.map .int))) :: y1 :: ys) := by
    intro m
    induction m with
    | zero => exact fun k x1 xs _ => ⟨x1, xs, rfl⟩
    | succ m ih =>
      intro k x1 xs g
      obtain ⟨ys, g', e⟩ := one k xs g
      obtain ⟨z1, zs, e2⟩ := ih (k + 1) (some (.val (.int k))) ys g'
      refine ⟨z1, zs, ?_⟩
      have ep : asgR 1 (.tmp (.val (.int k))) (some (.val (.list (ns.map .int))) :: x1 :: xs) = .ok () (some (.val (.list (ns.map .int))) :: some (.val (.int k)) :: xs) := by
        generalize ns.map PyData.int = N
        simp
      rw [irange_cons, forM_cons, bind_ap, ep, bnd_ok, e, bnd_ok, loop_nx]
      exact e2
  obtain ⟨n, hn6, hn7, hmin, hmax⟩ := min_max N (by omega) ns.length
  rw [← List.length_map (f := PyData.int)] at hmin hmax
  obtain ⟨y1, ys, e⟩ := loop n 0 none _ g0
  have hrn := fun ρ => rng_nat ρ (n := n) (by omega)
  rw [run_eq]
  simp only [Int.natCast_zero] at e
  generalize hv : (if ((ns.map PyData.int).length : Int) < (N : Int) then ((ns.map PyData.int).length : Int) else (N : Int)) = v at *
  clear hv
  generalize ns.map PyData.int = N' at *
  have er : List.replicate (s + 1) (none : Option T) = none :: List.replicate s none := rfl
  simp [hmin, hmax, hrn, e, er]
end DL
set_option Elab.async false
set_option maxRecDepth 100000
set_option maxHeartbeats 4000000
namespace DL
open PySem PySem.Spec PyProof.Rows L2
inductive Stp where
  | fld (f : Str)
  | ix (i : Nat)
def putA {α : Type} (f : Str) (v : α) : List (Str × α) → List (Str × α)
  | [] => [(f, v)]
  | (g, x) :: r => if g = f then (g, v) :: r else (g, x) :: putA f v r
def kidN : Nd → Stp → Option Nd
  | .lst xs, .ix i => xs[i]?
  | .obj _ fs, .fld f => fs.lookup f
  | _, _ => none
def atN : Nd → List Stp → Option Nd
  | n, [] => some n
  | n, p :: ps => match kidN n p with
    | some k => atN k ps
    | none => none
def setKid : Nd → Stp → Nd → Nd
  | .lst xs, .ix i, m => .lst (xs.set i m)
  | .obj c fs, .fld f, m => .obj c (putA f m fs)
  | n, _, _ => n
def setAt : Nd → List Stp → Nd → Nd
  | _, [], m => m
  | n, p :: ps, m => match kidN n p with
    | some k => setKid n p (setAt k ps m)
    | none => n
/-- the same way in the heap -/
def Fol (N : Hp) : V → List Stp → V → Prop
  | v, [], w => w = v
  | v, .fld f :: ps, w => ∃ a C dx vs u, v = .ref a ∧ N a = some (.ins C dx vs) ∧ vs.lookup f = some u ∧ Fol N u ps w
  | v, .ix i :: ps, w => ∃ a vs u, v = .ref a ∧ N a = some (.lst vs) ∧ vs[i]? = some u ∧ Fol N u ps w
theorem Fol.mono {N N' : Hp} (h : ∀ a o, N a = some o → N' a = some o) : ∀ {ps : List Stp} {v w : V}, Fol N v ps w → Fol N' v ps w
  | [], _, _, q => q
  | .fld f :: ps, _, _, q => by
    obtain ⟨a, C, dx, vs, u, e, h1, h2, h3⟩ := q
    exact ⟨a, C, dx, vs, u, e, h a _ h1, h2, Fol.mono h h3⟩
  | .ix i :: ps, _, _, q => by
    obtain ⟨a, vs, u, e, h1, h2, h3⟩ := q
    exact ⟨a, vs, u, e, h a _ h1, h2, Fol.mono h h3⟩
theorem Fol.eq {N : Hp} : ∀ {ps : List Stp} {v w w' : V}, Fol N v ps w → Fol N v ps w' → w = w'
  | [], _, _, _, q, q' => q.trans (Eq.symm q')
  | .fld f :: ps, _, _, _, q, q' => by
    obtain ⟨a, C, dx, vs, u, rfl, h1, h2, h3⟩ := q
    obtain ⟨a', C', dx', vs', u', e, h1', h2', h3'⟩ := q'
    cases e
    rw [h1] at h1'
    cases h1'
    rw [h2] at h2'
    cases h2'
    exact Fol.eq h3 h3'
  | .ix i :: ps, _, _, _, q, q' => by
    obtain ⟨a, vs, u, rfl, h1, h2, h3⟩ := q
    obtain ⟨a', vs', u', e, h1', h2', h3'⟩ := q'
    cases e
    rw [h1] at h1'
    cases h1'
    rw [h2] at h2'
    cases h2'
    exact Fol.eq h3 h3'
theorem jaSetSelf {α : Type} {l : List α} {i : Nat} {x : α} (h : l[i]? = some x) : l.set i x = l := by
  apply List.ext_getElem?
  intro j
  by_cases e : i = j
  · subst e
    rw [List.getElem?_set_self (List.getElem?_eq_some_iff.mp h).1, h]
  · rw [List.getElem?_set_ne e]
section
variable {K : PySem.W.Frag} {G N : Hp}
/-- one of the kids, and the tree with another one there -/
theorem RepNs.sub : ∀ {vs : List V} {ns : List Nd} {F : List Addr} {i : Nat} {m : Nd}, RepNs K G N vs ns F → ns[i]? = some m → ∃ v' F', vs[i]? = some v' ∧ RepN K G N v' m F' ∧ (∀ a ∈ F', a ∈ F) ∧
    ∀ (G' N' : Hp) (w : V) (m' : Nd) (E : List Addr), (∀ a o, G a = some o → G' a = some o) → (∀ a ∈ F, a ∉ F' → ∀ o, N a = some o → N' a = some o) → RepN K G' N' w m' E → (∀ a ∈ E, a ∈ F' ∨ a ∉ F) →
      ∃ F'', RepNs K G' N' (vs.set i w) (ns.set i m') F'' ∧ ∀ a ∈ F'', a ∈ F ∨ a ∈ E
  | _, _, _, _, _, .nil, h => by simp at h
  | _, _, _, 0, _, .cons (F := F1) (E := F2) a b c, h => by
    simp only [List.getElem?_cons_zero, Option.some.injEq] at h
    subst h
    refine ⟨_, F1, rfl, a, fun x hx => List.mem_append_left _ hx, fun G' N' w m' E hg hn r hE => ⟨E ++ F2, .cons r (b.keep hg fun x hx o q => ?_) fun x hx => ?_, fun x hx => ?_⟩⟩
    · exact hn x (List.mem_append_right _ hx) (fun z => c x z hx) o q
    · rcases hE x hx with z | z
      · exact c x z
      · exact fun y => z (List.mem_append_right _ y)
    · rcases List.mem_append.mp hx with z | z
      · exact .inr z
      · exact .inl (List.mem_append_right _ z)
  | _, _, _, i + 1, _, .cons (F := F1) (E := F2) a b c, h => by
    simp only [List.getElem?_cons_succ] at h
    obtain ⟨v', F', h1, h2, h3, h4⟩ := RepNs.sub b h
    refine ⟨v', F', by simpa using h1, h2, fun x hx => List.mem_append_right _ (h3 x hx), fun G' N' w m' E hg hn r hE => ?_⟩
    obtain ⟨F'', k1, k2⟩ := h4 G' N' w m' E hg (fun x hx hx' o q => hn x (List.mem_append_right _ hx) hx' o q) r (fun x hx => (hE x hx).imp_right fun z y => z (List.mem_append_right _ y))
    refine ⟨F1 ++ F'', .cons (a.keep hg fun x hx o q => hn x (List.mem_append_left _ hx) (fun z => c x hx (h3 x z)) o q) k1 fun x hx z => ?_, fun x hx => ?_⟩
    · rcases k2 x z with y | y
      · exact c x hx y
      · rcases hE x y with w | w
        · exact c x hx (h3 x w)
        · exact w (List.mem_append_left _ hx)
    · rcases List.mem_append.mp hx with z | z
      · exact .inl (List.mem_append_left _ z)
      · exact (k2 x z).imp_left fun y => List.mem_append_right _ y
theorem RepNs.length : ∀ {vs : List V} {ns : List Nd} {F : List Addr}, RepNs K G N vs ns F → vs.length = ns.length
  | _, _, _, .nil => rfl
  | _, _, _, .cons a b c => by simp [RepNs.length b]
theorem lookup_ix {α : Type} : ∀ {fs : List (Str × α)} {f : Str} {m : α}, fs.lookup f = some m → ∃ i, fs[i]? = some (f, m) ∧ ∀ {β : Type} (vs : List (Str × β)), vs.map (·.1) = fs.map (·.1) → vs.lookup f = (vs.map (·.2))[i]? ∧ ∀ w : β, putA f w vs = (vs.set i (f, w))
  | [], _, _, h => by cases h
  | (g, x) :: r, f, m, h => by
    by_cases e : f = g
    · subst e
      rw [List.lookup_cons_self] at h
      cases h
      refine ⟨0, rfl, fun vs hv => ?_⟩
      cases vs with
      | nil => cases hv
      | cons y ys =>
        obtain ⟨k, y⟩ := y
        simp only [List.map_cons, List.cons.injEq] at hv
        obtain ⟨rfl, _⟩ := hv
        refine ⟨by simp, fun w => ?_⟩
        unfold putA
        rw [if_pos rfl]
        rfl
    · have hb : (f == g) = false := beq_eq_false_iff_ne.mpr e
      simp only [List.lookup, hb] at h
      obtain ⟨i, h1, h2⟩ := lookup_ix h
      refine ⟨i + 1, by simpa using h1, fun vs hv => ?_⟩
      cases vs with
      | nil => cases hv
      | cons y ys =>
        obtain ⟨k, y⟩ := y
        simp only [List.map_cons, List.cons.injEq] at hv
        obtain ⟨rfl, hv⟩ := hv
        obtain ⟨k1, k2⟩ := h2 ys hv
        refine ⟨?_, fun w => ?_⟩
        · simp only [List.lookup, hb, List.map_cons, List.getElem?_cons_succ]
          exact k1
        · unfold putA
          rw [if_neg (fun z => e z.symm), k2 w]
          rfl
/-- the object at the end of a way, and the tree with another thing there (its place stays) -/
theorem RepN.sub : ∀ {ps : List Stp} {v : V} {n m : Nd} {F : List Addr}, RepN K G N v n F → atN n ps = some m → ∃ v' F', Fol N v ps v' ∧ RepN K G N v' m F' ∧ (∀ a ∈ F', a ∈ F) ∧
    ∀ (G' N' : Hp) (m' : Nd) (E : List Addr), (∀ a o, G a = some o → G' a = some o) → (∀ a ∈ F, a ∉ F' → ∀ o, N a = some o → N' a = some o) → RepN K G' N' v' m' E → (∀ a ∈ E, a ∈ F' ∨ a ∉ F) →
      ∃ F'', RepN K G' N' v (setAt n ps m') F'' ∧ ∀ a ∈ F'', a ∈ F ∨ a ∈ E
  | [], v, n, m, F, r, h => by
    cases h
    exact ⟨v, F, rfl, r, fun _ z => z, fun G' N' m' E hg hn r' hE => ⟨E, r', fun _ z => .inr z⟩⟩
  | p :: ps, v, n, m, F, r, h => by
    unfold atN at h
    cases e : kidN n p with
    | none => rw [e] at h; cases h
    | some k =>
      rw [e] at h
      simp only at h
      cases r with
      | d _ => cases p <;> cases e
      | dct _ _ _ => cases p <;> cases e
      | @lst a vs xs F1 h1 h2 h3 =>
        cases p with
        | fld f => cases e
        | ix i =>
          have e' : xs[i]? = some k := e
          obtain ⟨u, F2, k1, k2, k3, k4⟩ := h3.sub e'
          obtain ⟨v', F', q1, q2, q3, q4⟩ := RepN.sub k2 h
          refine ⟨v', F', ⟨a, vs, u, rfl, h1, k1, q1⟩, q2, fun x hx => List.mem_cons_of_mem _ (k3 x (q3 x hx)), fun G' N' m' E hg hn r' hE => ?_⟩
          have hE2 : ∀ x ∈ E, x ∈ F' ∨ x ∉ F2 := fun x hx => (hE x hx).imp_right fun z y => z (List.mem_cons_of_mem _ (k3 x y))
          obtain ⟨F3, w1, w2⟩ := q4 G' N' m' E hg (fun x hx hx' o q => hn x (List.mem_cons_of_mem _ (k3 x hx)) hx' o q) r' hE2
          have hF3 : ∀ x ∈ F3, x ∈ F2 ∨ x ∉ F1 := fun x hx => by
            rcases w2 x hx with z | z
            · exact .inl z
            · rcases hE x z with y | y
              · exact .inl (q3 x y)
              · exact .inr fun y' => y (List.mem_cons_of_mem _ y')
          obtain ⟨F4, z1, z2⟩ := k4 G' N' u _ F3 hg (fun x hx hx' o q => hn x (List.mem_cons_of_mem _ hx) (fun y => hx' (q3 x y)) o q) w1 hF3
          have na : a ∉ F' := fun z => h2 (k3 a (q3 a z))
          have same : vs.set i u = vs := jaSetSelf k1
          rw [same] at z1
          have e2 : setAt (.lst xs) (.ix i :: ps) m' = .lst (xs.set i (setAt k ps m')) := by
            simp only [setAt, e, setKid]
          have haE : a ∉ E := fun z => by
            rcases hE a z with y | y
            · exact na y
            · exact y List.mem_cons_self
          have haF4 : a ∉ F4 := fun z => by
            rcases z2 a z with y | y
            · exact h2 y
            · rcases w2 a y with y | y
              · exact h2 (k3 a y)
              · exact haE y
          refine ⟨a :: F4, by rw [e2]; exact .lst (hn a List.mem_cons_self na _ h1) haF4 z1, fun x hx => ?_⟩
          rcases List.mem_cons.mp hx with rfl | z
          · exact .inl List.mem_cons_self
          · rcases z2 x z with y | y
            · exact .inl (List.mem_cons_of_mem _ y)
            · rcases w2 x y with y | y
              · exact .inl (List.mem_cons_of_mem _ (k3 x y))
              · exact .inr y
      | @obj a C dx c vs fs F1 h1 hC h0 h2 h3 =>
        cases p with
        | ix i => cases e
        | fld f =>
          have e' : fs.lookup f = some k := e
          obtain ⟨i, i1, i2⟩ := lookup_ix e'
          obtain ⟨j1, j2⟩ := i2 vs h0
          obtain ⟨_, j3⟩ := i2 fs rfl
          have e'' : (fs.map (·.2))[i]? = some k := by rw [List.getElem?_map, i1]; rfl
          obtain ⟨u, F2, k1, k2, k3, k4⟩ := h3.sub e''
          obtain ⟨v', F', q1, q2, q3, q4⟩ := RepN.sub k2 h
          refine ⟨v', F', ⟨a, C, dx, vs, u, rfl, h1, by rw [j1]; exact k1, q1⟩, q2, fun x hx => List.mem_cons_of_mem _ (k3 x (q3 x hx)), fun G' N' m' E hg hn r' hE => ?_⟩
          have hE2 : ∀ x ∈ E, x ∈ F' ∨ x ∉ F2 := fun x hx => (hE x hx).imp_right fun z y => z (List.mem_cons_of_mem _ (k3 x y))
          obtain ⟨F3, w1, w2⟩ := q4 G' N' m' E hg (fun x hx hx' o q => hn x (List.mem_cons_of_mem _ (k3 x hx)) hx' o q) r' hE2
          have hF3 : ∀ x ∈ F3, x ∈ F2 ∨ x ∉ F1 := fun x hx => by
            rcases w2 x hx with z | z
            · exact .inl z
            · rcases hE x z with y | y
              · exact .inl (q3 x y)
              · exact .inr fun y' => y (List.mem_cons_of_mem _ y')
          obtain ⟨F4, z1, z2⟩ := k4 G' N' u _ F3 hg (fun x hx hx' o q => hn x (List.mem_cons_of_mem _ hx) (fun y => hx' (q3 x y)) o q) w1 hF3
          have na : a ∉ F' := fun z => h2 (k3 a (q3 a z))
          have same : (vs.map (·.2)).set i u = vs.map (·.2) := jaSetSelf k1
          rw [same] at z1
          have e2 : setAt (.obj c fs) (.fld f :: ps) m' = .obj c (fs.set i (f, setAt k ps m')) := by
            simp only [setAt, e, setKid, j3]
          have haE : a ∉ E := fun z => by
            rcases hE a z with y | y
            · exact na y
            · exact y List.mem_cons_self
          have haF4 : a ∉ F4 := fun z => by
            rcases z2 a z with y | y
            · exact h2 y
            · rcases w2 a y with y | y
              · exact h2 (k3 a y)
              · exact haE y
          have hm1 : (fs.set i (f, setAt k ps m')).map (·.1) = fs.map (·.1) := by
            rw [List.map_set]
            exact jaSetSelf (by rw [List.getElem?_map, i1]; rfl)
          have hm2 : (fs.set i (f, setAt k ps m')).map (·.2) = (fs.map (·.2)).set i (setAt k ps m') := by rw [List.map_set]
          refine ⟨a :: F4, by rw [e2]; exact .obj (hn a List.mem_cons_self na _ h1) hC (h0.trans hm1.symm) haF4 (by rw [hm2]; exact z1), fun x hx => ?_⟩
          rcases List.mem_cons.mp hx with rfl | z
          · exact .inl List.mem_cons_self
          · rcases z2 x z with y | y
            · exact .inl (List.mem_cons_of_mem _ y)
            · rcases w2 x y with y | y
              · exact .inl (List.mem_cons_of_mem _ (k3 x y))
              · exact .inr y
end
end DL
set_option Elab.async false
set_option maxRecDepth 100000
set_option maxHeartbeats 4000000
namespace DL
open PySem PySem.Spec PyProof.Rows L2
section
variable {K : PySem.W.Frag} {P O : List Addr} {A : List V} {H H' : Hp} {σ : L2.St} {ρ : Rho} {v : V}
end
end DL
set_option Elab.async false
set_option maxRecDepth 100000
set_option maxHeartbeats 4000000
namespace DL
open PySem PySem.Spec PyProof.Rows L2
def backT1 : Option T → Option T → Option T
  | some (.own g n), _ => some (.own g n)
  | _, y => y
def backT (ρ ρ1 : Rho) : Rho := List.zipWith backT1 ρ ρ1
section
variable {K : PySem.W.Frag} {P O : List Addr} {A : List V} {H : Hp} {σ : L2.St} {ρ : Rho}
end
end DL
set_option Elab.async false
set_option maxRecDepth 100000
set_option maxHeartbeats 4000000
namespace DL
open PySem PySem.Spec PyProof.Rows L2
/-- the trees stand as they stood -/
def Keeps (ρ : Rho) (σ : L2.St) (H : Hp) (ρ1 : Rho) (H1 : Hp) : Prop := ∀ (i : Nat) (g : Option Nat) (n : Nd), ρ[i]? = some (some (.own g n)) → ρ1[i]? = some (some (.own g n)) ∧
  ∀ (b v : V) (p : List Stp) (m : Nd), atN n p = some m → σ[i]? = some (some b) → Fol H b p v → Fol H1 b p v
theorem RR.back {K : PySem.W.Frag} {S P F O : List Addr} {H : Hp} {σ : L2.St} {v : V} {r : R} (h : RR K (S ++ P) F O H σ v r) : RR K P F (O ++ S) H σ v r := by
  cases r with
  | slot i => exact h
  | tmp t =>
    obtain ⟨h1, h2, h3⟩ := h
    refine ⟨h1.keep (fun a o z => ?_) fun a ha => ⟨List.mem_append_left _ ha, rfl⟩, fun a ha z => h2 a ha (List.mem_append_right _ z), h3⟩
    obtain ⟨z1, z2⟩ := wo_some.mp z
    refine wo_some.mpr ⟨fun y => z1 ?_, z2⟩
    simp only [List.mem_append] at y ⊢
    rcases y with y | (y | y) | y
    · exact .inl y
    · exact .inr (.inl y)
    · exact .inr (.inr (.inl y))
    · exact .inr (.inr (.inr y))
theorem RRs.back {K : PySem.W.Frag} {S O : List Addr} {H : Hp} {σ : L2.St} : ∀ {vs : List V} {rs : List R} {P F : List Addr}, RRs K (S ++ P) O H σ F vs rs → RRs K P (O ++ S) H σ F vs rs
  | _, _, _, _, .nil => .nil
  | _, _, P, _, .cons (F := F) a b e => .cons a.back (RRs.back (S := S) (b.perm fun x => by
      simp only [List.mem_append]
      constructor <;> (intro h; rcases h with h | h | h <;> simp [h]))) e
section
variable {α β γ : Type} {K : PySem.W.Frag} {mg : Str → Option Value} {W : WX} {P O : List Addr} {A : List V} {H : Hp} {σ : L2.St} {ρ : Rho}
end
abbrev PH := Nat × List Stp
def ndAt (w : PH) (ρ : Rho) : Option Nd := match ρ[w.1]? with
  | some (some (.own _ n)) => atN n w.2
  | _ => none
theorem ndAt_some {w : PH} {ρ : Rho} {m : Nd} (h : ndAt w ρ = some m) : ∃ g n, ρ[w.1]? = some (some (.own g n)) ∧ atN n w.2 = some m := by
  unfold ndAt at h
  split at h
  · rename_i g n q
    exact ⟨g, n, q, h⟩
  · cases h
section
variable {X : Cx} {W : WX} {pos : PySem.Pos} {e k : Expr} {g : M PH} {mk : M R}
theorem Keeps.way {ρ ρ1 : Rho} {σ : L2.St} {H H1 : Hp} {w : PH} {m : Nd} {b v : V} (k : Keeps ρ σ H ρ1 H1) (h : ndAt w ρ = some m) (hb : σ[w.1]? = some (some b)) (hf : Fol H b w.2 v) : ndAt w ρ1 = some m ∧ Fol H1 b w.2 v := by
  obtain ⟨g, n, q1, q2⟩ := ndAt_some h
  obtain ⟨k1, k2⟩ := k w.1 g n q1
  refine ⟨?_, k2 b v w.2 m q2 hb hf⟩
  unfold ndAt
  rw [k1]
  exact q2
end
end DL
set_option Elab.async false
set_option maxRecDepth 100000
set_option maxHeartbeats 4000000
namespace DL
open PySem PySem.Spec PyProof.Rows L2
section
variable {K : PySem.W.Frag} {P O : List Addr} {A : List V} {H : Hp} {σ : L2.St} {ρ : Rho}
end
section
variable {K : PySem.W.Frag} {mg : Str → Option Value} {W : WX} {P O : List Addr} {A : List V} {H : Hp} {σ : L2.St} {ρ : Rho}
end
end DL
set_option Elab.async false
set_option maxRecDepth 100000
set_option maxHeartbeats 4000000
namespace DL
open PySem PySem.Spec PyProof.Rows L2
section
variable {K : PySem.W.Frag} {mg : Str → Option Value} {W : WX} {P O : List Addr} {A : List V} {H : Hp} {σ : L2.St} {ρ : Rho}
end
section
variable {X : Cx} {W : WX} {a o : Expr} {g : M PH} {ma : M R}
end
end DL
set_option Elab.async false
set_option maxRecDepth 100000
set_option maxHeartbeats 4000000
namespace DL
open PySem PySem.Spec PyProof.Rows L2
section
variable {α β : Type} {K : PySem.W.Frag} {mg : Str → Option Value} {W : WX} {P O : List Addr} {A : List V} {H : Hp} {σ : L2.St} {ρ : Rho} {D : Ends}
/-- one of the list's things is another one -/
theorem RepNs.put {G N : Hp} {vs : List V} {xs : List Nd} {F : List Addr} {j : Nat} {v : V} {d : PyData} (r : RepNs K G N vs xs F) (hj : j < xs.length) (h : Rp K G v d) : ∃ F2, RepNs K G N (vs.set j v) (xs.set j (.d d)) F2 ∧ ∀ a ∈ F2, a ∈ F := by
  obtain ⟨v', F', h1, h2, h3, h4⟩ := r.sub (List.getElem?_eq_getElem hj)
  obtain ⟨F2, k1, k2⟩ := h4 G N v (.d d) [] (fun _ _ z => z) (fun _ _ _ _ z => z) (.d h) (fun _ z => absurd z List.not_mem_nil)
  exact ⟨F2, k1, fun a ha => (k2 a ha).resolve_right List.not_mem_nil⟩
end
section
variable {X : Cx} {W : WX} {a o : Expr} {g : M PH} {mk : M R}
end
end DL
set_option Elab.async false
set_option maxRecDepth 100000
set_option maxHeartbeats 4000000
namespace DL
open PySem PySem.Spec PyProof.Rows L2
section
variable {X : Cx} {W : WX} {e : Expr} {g : M PH}
end
theorem RepNs.len {K : PySem.W.Frag} {G N : Hp} {vs : List V} {ns : List Nd} {F : List Addr} (r : RepNs K G N vs ns F) : vs.length = ns.length := r.length
section
variable {X : Cx} {W : WX} {es : List Expr} {pos : PySem.Pos} {ms : M (List R)}
end
end DL
set_option Elab.async false
set_option maxRecDepth 100000
set_option maxHeartbeats 4000000
namespace DL
open PySem PySem.Spec PyProof.Rows L2
def Out.as {α : Type} (ρ : Rho) : Out α → Out α
  | .ok a ρ1 => .ok a (backT ρ ρ1)
  | .exc x ρ1 => .exc x (backT ρ ρ1)
  | .bad => .bad
@[simp] theorem as_ok {α : Type} (a : α) (ρ ρ1 : Rho) : (Out.ok a ρ1).as ρ = .ok a (backT ρ ρ1) := (rfl)
@[simp] theorem backT_nil : backT [] [] = [] := (rfl)
@[simp] theorem backT_cons (a b : Option T) (l m : Rho) : backT (a :: l) (b :: m) = backT1 a b :: backT l m := (rfl)
@[simp] theorem backT1_val (d : D) (y : Option T) : backT1 (some (.val d)) y = y := (rfl)
@[simp] theorem backT1_lst (g : Option Nat) (ds : List D) (y : Option T) : backT1 (some (.lst g ds)) y = y := (rfl)
@[simp] theorem backT1_dct (g : Option Nat) (ds : List (D × D)) (y : Option T) : backT1 (some (.dct g ds)) y = y := (rfl)
@[simp] theorem backT1_none (y : Option T) : backT1 none y = y := (rfl)
@[simp] theorem backT1_tree (g : Option Nat) (n : Nd) (y : Option T) : backT1 (some (.own g n)) y = some (.own g n) := (rfl)
def ndO (p : List Stp) : Option (Option T) → Option Nd
  | some (some (.own _ n)) => atN n p
  | _ => none
@[simp] theorem ndAt_ap (i : Nat) (p : List Stp) (ρ : Rho) : ndAt (i, p) ρ = ndO p ρ[i]? := (rfl)
@[simp] theorem ndO_own (p : List Stp) (g : Option Nat) (n : Nd) : ndO p (some (some (.own g n))) = atN n p := (rfl)
@[simp] theorem atN_nil (n : Nd) : atN n [] = some n := (rfl)
def atNk (ps : List Stp) : Option Nd → Option Nd
  | some k => atN k ps
  | none => none
@[simp] theorem atN_cons (n : Nd) (p : Stp) (ps : List Stp) : atN n (p :: ps) = atNk ps (kidN n p) := (rfl)
@[simp] theorem atNk_some (n : Nd) (ps : List Stp) : atNk ps (some n) = atN n ps := (rfl)
@[simp] theorem kidN_lst (xs : List Nd) (i : Nat) : kidN (.lst xs) (.ix i) = xs[i]? := (rfl)
@[simp] theorem setAt_nil (n m : Nd) : setAt n [] m = m := (rfl)
def setO (n : Nd) (p : Stp) (ps : List Stp) (m : Nd) : Option Nd → Nd
  | some k => setKid n p (setAt k ps m)
  | none => n
@[simp] theorem setAt_cons (n : Nd) (p : Stp) (ps : List Stp) (m : Nd) : setAt n (p :: ps) m = setO n p ps m (kidN n p) := by
  unfold setAt setO
  cases kidN n p <;> rfl
@[simp] theorem setO_some (n : Nd) (p : Stp) (ps : List Stp) (m k : Nd) : setO n p ps m (some k) = setKid n p (setAt k ps m) := (rfl)
@[simp] theorem setKid_lst (xs : List Nd) (i : Nat) (m : Nd) : setKid (.lst xs) (.ix i) m = .lst (xs.set i m) := (rfl)
end DL
set_option Elab.async false
set_option maxRecDepth 100000
set_option maxHeartbeats 4000000
namespace DL
open PySem PySem.Spec PyProof.Rows L2
def svT : Value → List Nat
  | .str x _ => x.cps.toList
  | _ => []
def ltSv (v u : Value) : Bool := decide (svT v < svT u)
theorem swo_txt : SrtO.Swo ltSv := by
  refine ⟨fun x y h => ?_, fun x y z h1 h2 => ?_⟩
  · have a := of_decide_eq_true (p := svT x < svT y) h
    exact decide_eq_false (p := svT y < svT x) (List.lt_asymm a)
  · have a := of_decide_eq_false (p := svT y < svT x) h1
    have b := of_decide_eq_false (p := svT z < svT y) h2
    exact decide_eq_false (p := svT z < svT x) (List.not_lt.mpr (List.le_trans (List.not_lt.mp a) (List.not_lt.mp b)))
theorem txt_cmp {prog : Program} {w : World} {A : Around} {s : Shared} {vs : List Value} {ss : List Str} (hI : StrsAre vs ss) : SrtO.Cmp prog w A s oneType' (fun p => p.1 ∈ vs) (SrtO.lt2 ltSv) := by
  intro p q hm hm'
  obtain ⟨a, t, e⟩ := hI.all _ hm
  obtain ⟨b, u, e'⟩ := hI.all _ hm'
  show wpAny (model prog w) A (keyLt' oneType' p.1 q.1) (fun r s' => s' = s ∧ r = ltSv p.1 q.1) (fun _ _ => False) s
  rw [e, e', keyLt'_oneType]
  exact oneLt_str ⟨rfl, rfl⟩
theorem txt_sortable {prog : Program} {w : World} {A : Around} {s : Shared} {a : Addr} {vs : List Value} {ss : List Str} (hI : StrsAre vs ss) (h2 : 2 ≤ vs.length) : SrtO.SortableO prog w A s a vs ltSv := by
  intro h' _
  refine ⟨oneType', fun Q E hq => ?_, txt_cmp hI⟩
  match vs, hI, h2 with
  | v1 :: v2 :: rest, hI, _ =>
    rw [keyKind_strs hI]
    exact wpAny_pure hq
  | [], _, h => exact absurd h (by decide)
  | [v], _, h => exact absurd h (by simp)
def InOrder (ss : List Str) : Prop := ss.Pairwise fun a b => ¬ b.cps.toList < a.cps.toList
def rSortedT (K : PySem.W.Frag) : List V → Hp → VK → Prop := fun vs H Q => ∃ (a : Addr) (ss : List Str), vs = [V.ref a] ∧ SqL K H a (ss.map V.str) ∧ InOrder ss ∧ ∀ p : Addr, H p = none → Q (.ref p) (upd H p (.lst (ss.map V.str)))
theorem inOrder_srtd : ∀ {vs : List Value} {ss : List Str}, StrsAre vs ss → InOrder ss → SrtO.Srtd ltSv vs := by
  intro vs ss hI h
  have e := hI.strs
  have hp : (vs.map strOf).Pairwise fun a b => ¬ b.cps.toList < a.cps.toList := by rw [e]; exact h
  rw [List.pairwise_map] at hp
  refine List.Pairwise.imp_of_mem ?_ hp
  intro x y hx hy h1
  obtain ⟨a, t, rfl⟩ := hI.all _ hx
  obtain ⟨b, u, rfl⟩ := hI.all _ hy
  exact decide_eq_false (p := svT _ < svT _) h1
theorem cr_sortedT {X : Cx} : CallR X (.builtin "sorted") (rSortedT X.K) := by
  intro pins s σ H vs us Q I r h
  obtain ⟨a, ss, rfl, hs, ho, q⟩ := h
  obtain ⟨its, rv, hl, hz⟩ := I.list hs
  rw [Vals.ref1 r]
  have hi := rv.strs
  refine SrtO.sorted_ord swo_txt hl.isList (by rw [← rv.length]; exact hz) (fun h2 h₁ a' _ _ => txt_sortable hi h2) fun out h1 h2 => ?_
  have eo : out = its := SrtO.stb_uniq swo_txt h1 (inOrder_srtd hi ho) h2
  subst eo
  obtain ⟨ep, he'⟩ := PyProof.Rows.sortedAll_at s.heap out out.toArray
  exact ⟨.ref _, upd H (s.heap.objs.size + 1) (.lst (ss.map V.str)), I.laid (t' := s.toks) (fun _ _ => PyProof.Rows.sortedAll_old) (Nat.le_succ _) ⟨hz, out, ep, rv, he'⟩, rfl, q _ (I.hok.fresh (Nat.le_succ _))⟩
open Classical in
noncomputable def fSortT : List D → Option T
  | [.list ds] => (match asStrs ds with
    | some ss => if InOrder ss then some (.lst none ds) else none
    | none => none)
  | _ => none
theorem sortT_ok {K : PySem.W.Frag} : CallOk K (rSortedT K) fSortT := by
  intro Z H vs ds t Q hz hv hf q
  unfold fSortT at hf
  split at hf
  · rename_i es
    cases c : asStrs es with
    | none => rw [c] at hf; cases hf
    | some ss =>
      rw [c] at hf
      simp only at hf
      split at hf
      · rename_i ho
        cases hf
        obtain ⟨v, rfl, a⟩ := paired1 hv
        obtain ⟨p, ws, rfl, h1, h2⟩ := a.list
        have e := asStrs_V h2 c
        subst e
        exact ⟨p, ss, rfl, h1, ho, fun l hl => q _ _ (NewT.lst hl h2)⟩
      · cases hf
  · cases hf
theorem asStrs_map (ss : List Str) : asStrs (ss.map .str) = some ss := by
  induction ss with
  | nil => rfl
  | cons a l ih =>
    simp only [List.map_cons, asStrs, ih, Option.map_some]
theorem fSortT_ok {ss : List Str} (h : InOrder ss) : fSortT [.list (ss.map .str)] = some (.lst none (ss.map .str)) := by
  unfold fSortT
  simp only [asStrs_map]
  rw [if_pos h]
end DL
set_option Elab.async false
set_option maxRecDepth 100000
set_option maxHeartbeats 4000000
namespace K31
open PySem PySem.Spec PyProof.Rows L2 DL
def top (i : Nat) : Stmt := PySem.Challenge.pw_fanglue_k31_first_words.main.body.getD i (.Pass ⟨0, 0, 0, 0⟩)
abbrev s__law_gaps : Stmt := top 12
theorem sc__law_gaps : FnScope ["_law_fractions_here", "_law_i"] ["_law_fractions_here"] (defScope s__law_gaps) := ⟨rfl, rfl, rfl, by decide +kernel, rfl, by decide +kernel, by decide +kernel⟩
abbrev s__law_tiles : Stmt := top 11
theorem sc__law_tiles : FnScope ["_law_fractions_here", "_law_row", "_law_tiles_here", "_law_i", "_law_near", "_law_far"] ["_law_fractions_here"] (defScope s__law_tiles) := ⟨rfl, rfl, rfl, by decide +kernel, rfl, by decide +kernel, by decide +kernel⟩
abbrev s__law_links : Stmt := top 13
theorem sc__law_links : FnScope ["_law_fan_here", "_law_gaps_here", "_law_thirds", "_law_halves", "_law_first", "_law_fractions_here", "_law_marks_here", "_law_one", "_law_mid", "_law_other", "_law_i", "_law_mark"] ["_law_fan_here"] (defScope s__law_links) := ⟨rfl, rfl, rfl, by decide +kernel, rfl, by decide +kernel, by decide +kernel⟩
abbrev s__law_anew : Stmt := top 14
theorem sc__law_anew : FnScope ["_law_halves", "_law_thirds", "_law_first", "_law_met", "_law_at", "_law_behind", "_law_one"] ["_law_halves", "_law_thirds", "_law_first"] (defScope s__law_anew) := ⟨rfl, rfl, rfl, by decide +kernel, rfl, by decide +kernel, by decide +kernel⟩
abbrev s__law_table : Stmt := top 15
theorem sc__law_table : FnScope ["_law_fan_here", "_law_halves", "_law_thirds", "_law_first"] ["_law_fan_here"] (defScope s__law_table) := ⟨rfl, rfl, rfl, by decide +kernel, rfl, by decide +kernel, by decide +kernel⟩
abbrev s__law_led : Stmt := top 16
theorem sc__law_led : FnScope ["_law_table_here", "_law_place", "_law_word", "_law_letter"] ["_law_table_here", "_law_place", "_law_word"] (defScope s__law_led) := ⟨rfl, rfl, rfl, by decide +kernel, rfl, by decide +kernel, by decide +kernel⟩
abbrev s__law_words : Stmt := top 17
theorem sc__law_words : FnScope ["_law_table_here", "_law_words_here", "_law_layer", "_law_later", "_law_some", "_law_here", "_law_word", "_law_place", "_law_letter"] ["_law_table_here"] (defScope s__law_words) := ⟨rfl, rfl, rfl, by decide +kernel, rfl, by decide +kernel, by decide +kernel⟩
abbrev s__law_cell_at : Stmt := top 5
theorem sc__law_cell_at : FnScope ["_law_script", "_law_k"] ["_law_script", "_law_k"] (defScope s__law_cell_at) := ⟨rfl, rfl, rfl, by decide +kernel, rfl, by decide +kernel, by decide +kernel⟩
abbrev s__law_big : Stmt := top 6
theorem sc__law_big : FnScope ["_law_script", "_law_at", "_law_by", "_law_prime", "_law_cell", "_law_big_here", "_law_k", "_law_one"] ["_law_script", "_law_at"] (defScope s__law_big) := ⟨rfl, rfl, rfl, by decide +kernel, rfl, by decide +kernel, by decide +kernel⟩
abbrev s__law_digit : Stmt := top 7
theorem sc__law_digit : FnScope ["_law_rest", "_law_many", "_law_digit_here"] ["_law_rest", "_law_many"] (defScope s__law_digit) := ⟨rfl, rfl, rfl, by decide +kernel, rfl, by decide +kernel, by decide +kernel⟩
abbrev s__law_fractions : Stmt := top 8
theorem sc__law_fractions : FnScope ["_law_rest", "_law_many", "_law_row", "_law_k", "_law_at"] ["_law_rest", "_law_many"] (defScope s__law_fractions) := ⟨rfl, rfl, rfl, by decide +kernel, rfl, by decide +kernel, by decide +kernel⟩
abbrev s__law_marks : Stmt := top 9
theorem sc__law_marks : FnScope ["_law_rest", "_law_many", "_law_marks_here", "_law_left", "_law_gap", "_law_way", "_law_other"] ["_law_rest", "_law_many"] (defScope s__law_marks) := ⟨rfl, rfl, rfl, by decide +kernel, rfl, by decide +kernel, by decide +kernel⟩
abbrev s__law_fan : Stmt := top 10
theorem sc__law_fan : FnScope ["_law_rest", "_law_most", "_law_great", "_law_many"] ["_law_rest", "_law_most", "_law_great"] (defScope s__law_fan) := ⟨rfl, rfl, rfl, by decide +kernel, rfl, by decide +kernel, by decide +kernel⟩
abbrev s_led_by : Stmt := top 2
theorem sc_led_by : FnScope ["table", "place", "letter", "halves", "thirds"] ["table", "place", "letter"] (defScope s_led_by) := ⟨rfl, rfl, rfl, by decide +kernel, rfl, by decide +kernel, by decide +kernel⟩
abbrev s_word_to : Stmt := top 3
theorem sc_word_to : FnScope ["table", "place", "words", "waiting", "later", "here", "letter", "there"] ["table", "place"] (defScope s_word_to) := ⟨rfl, rfl, rfl, by decide +kernel, rfl, by decide +kernel, by decide +kernel⟩
abbrev s_law : Stmt := top 18
theorem sc_law : FnScope ["_law_script", "_law_k", "_law_rest", "_law_table_here", "_law_words_here", "_law_place", "_law_found"] ["_law_script"] (defScope s_law) := ⟨rfl, rfl, rfl, by decide +kernel, rfl, by decide +kernel, by decide +kernel⟩
abbrev FnP (K : PySem.W.Frag) (x : Str) (st : Stmt) (f : Addr) (fd : FuncData) : Prop := FunD K x x (defArgs st) (defBody st) (defScope st) [] [] f fd
structure Facts (w : World) (K : PySem.W.Frag) (mg : Str → Option Value) where
  f__law_gaps : Addr
  fd__law_gaps : FuncData
  F__law_gaps : FnP K "_law_gaps" s__law_gaps f__law_gaps fd__law_gaps
  g__law_gaps : mg "_law_gaps" = some (.ref f__law_gaps)
  f__law_tiles : Addr
  fd__law_tiles : FuncData
  F__law_tiles : FnP K "_law_tiles" s__law_tiles f__law_tiles fd__law_tiles
  g__law_tiles : mg "_law_tiles" = some (.ref f__law_tiles)
  f__law_links : Addr
  fd__law_links : FuncData
  F__law_links : FnP K "_law_links" s__law_links f__law_links fd__law_links
  g__law_links : mg "_law_links" = some (.ref f__law_links)
  f__law_anew : Addr
  fd__law_anew : FuncData
  F__law_anew : FnP K "_law_anew" s__law_anew f__law_anew fd__law_anew
  g__law_anew : mg "_law_anew" = some (.ref f__law_anew)
  f__law_table : Addr
  fd__law_table : FuncData
  F__law_table : FnP K "_law_table" s__law_table f__law_table fd__law_table
  g__law_table : mg "_law_table" = some (.ref f__law_table)
  f__law_led : Addr
  fd__law_led : FuncData
  F__law_led : FnP K "_law_led" s__law_led f__law_led fd__law_led
  g__law_led : mg "_law_led" = some (.ref f__law_led)
  f__law_words : Addr
  fd__law_words : FuncData
  F__law_words : FnP K "_law_words" s__law_words f__law_words fd__law_words
  g__law_words : mg "_law_words" = some (.ref f__law_words)
  f__law_cell_at : Addr
  fd__law_cell_at : FuncData
  F__law_cell_at : FnP K "_law_cell_at" s__law_cell_at f__law_cell_at fd__law_cell_at
  g__law_cell_at : mg "_law_cell_at" = some (.ref f__law_cell_at)
  f__law_big : Addr
  fd__law_big : FuncData
  F__law_big : FnP K "_law_big" s__law_big f__law_big fd__law_big
  g__law_big : mg "_law_big" = some (.ref f__law_big)
  f__law_digit : Addr
  fd__law_digit : FuncData
  F__law_digit : FnP K "_law_digit" s__law_digit f__law_digit fd__law_digit
  g__law_digit : mg "_law_digit" = some (.ref f__law_digit)
  f__law_fractions : Addr
  fd__law_fractions : FuncData
  F__law_fractions : FnP K "_law_fractions" s__law_fractions f__law_fractions fd__law_fractions
  g__law_fractions : mg "_law_fractions" = some (.ref f__law_fractions)
  f__law_marks : Addr
  fd__law_marks : FuncData
  F__law_marks : FnP K "_law_marks" s__law_marks f__law_marks fd__law_marks
  g__law_marks : mg "_law_marks" = some (.ref f__law_marks)
  f__law_fan : Addr
  fd__law_fan : FuncData
  F__law_fan : FnP K "_law_fan" s__law_fan f__law_fan fd__law_fan
  g__law_fan : mg "_law_fan" = some (.ref f__law_fan)
  f_led_by : Addr
  fd_led_by : FuncData
  F_led_by : FnP K "led_by" s_led_by f_led_by fd_led_by
  g_led_by : mg "led_by" = some (.ref f_led_by)
  f_word_to : Addr
  fd_word_to : FuncData
  F_word_to : FnP K "word_to" s_word_to f_word_to fd_word_to
  g_word_to : mg "word_to" = some (.ref f_word_to)
  f_law : Addr
  fd_law : FuncData
  F_law : FnP K "law" s_law f_law fd_law
  g_law : mg "law" = some (.ref f_law)
  b_abs : mg "abs" = none
  b_enumerate : mg "enumerate" = none
  b_int : mg "int" = none
  b_isinstance : mg "isinstance" = none
  b_len : mg "len" = none
  b_list : mg "list" = none
  b_max : mg "max" = none
  b_min : mg "min" = none
  b_range : mg "range" = none
  b_sorted : mg "sorted" = none
  b_str : mg "str" = none
  b_tuple : mg "tuple" = none
  c_LETTERS : GlD K mg "LETTERS" (.str "qrs")
noncomputable def m__law_gaps : M Fl := retS (lcM (put1 1) (M.ret true) (tupM (argC (bin fIx (getM 0) (getM 1)) (argC (bin fIx (getM 0) (bin fMod (bin fAdd (getM 1) (cst (.int 1))) (callB fLen (argC (getM 0) (argN))))) (argN)))) [1] (itR1 (argC (callB fLen (argC (getM 0) (argN))) (argN))))
noncomputable def f__law_gaps : List D → FO := runF 1 m__law_gaps
noncomputable def m__law_tiles : M Fl := seqM (setS 1 (callB fListU (argC (getM 0) (argN))))
  (seqM (setS 2 (lstM (argN)))
  (seqM (whileC (tcmp fGt (callB fLen (argC (getM 1) (argN))) (cst (.int 2))) (forS (asgR 3) (itR2 (argC (cst (.int 1)) (argC (callB fLen (argC (getM 1) (argN))) (argN)))) (seqM (setS 4 (bin fIx (getM 1) (bin fSub (getM 3) (cst (.int 1)))))
  (seqM (setS 5 (bin fIx (getM 1) (bin fMod (bin fAdd (getM 3) (cst (.int 1))) (callB fLen (argC (getM 1) (argN))))))
  (ifS (andM (tcmp fNe (bin fIx (getM 1) (getM 3)) (tupM (argC (cst (.int 0)) (argC (cst (.int 1)) (argN))))) (tcmp fEq (callB fAbs (argC (bin fSub (bin fMulI (bin fIx (getM 4) (cst (.int 0))) (bin fIx (getM 5) (cst (.int 1)))) (bin fMulI (bin fIx (getM 4) (cst (.int 1))) (bin fIx (getM 5) (cst (.int 0))))) (argN))) (cst (.int 1)))) (seqM (exS (apE (getM 2) (tupM (argC (getM 4) (argC (bin fIx (getM 1) (getM 3)) (argC (getM 5) (argN)))))))
  (seqM (exS (muE fPopAt (getM 1) (argC (getM 3) (argN))))
  (M.ret .bk))) (nilS))))))
  (retS (getM 2))))
noncomputable def f__law_tiles : List D → FO := runF 5 m__law_tiles
noncomputable def m__law_links : M Fl := seqM (asgS (asgSeq 2 (asgCons (asgR 5) (asgCons (asgR 6) (asgNil)))) (getM 0))
  (seqM (setS 1 (callF f__law_gaps (argC (getM 5) (argN))))
  (seqM (setS 2 (M.ret (.tmp (.dct none []))))
  (seqM (forS (asgSeq 3 (asgCons (asgR 7) (asgCons (asgR 8) (asgCons (asgR 9) (asgNil))))) (itA (callF f__law_tiles (argC (getM 5) (argN)))) (seqM (asgS (asgSub (getM 2) (tupM (argC (getM 7) (argC (getM 8) (argN))))) (tupM (argC (getM 8) (argC (getM 9) (argN)))))
  (seqM (asgS (asgSub (getM 2) (tupM (argC (getM 8) (argC (getM 9) (argN))))) (tupM (argC (getM 9) (argC (getM 7) (argN)))))
  (asgS (asgSub (getM 2) (tupM (argC (getM 9) (argC (getM 7) (argN))))) (tupM (argC (getM 7) (argC (getM 8) (argN))))))))
  (seqM (setS 3 (M.ret (.tmp (.dct none []))))
  (seqM (forD 2 (asgSeq 2 (asgCons (asgR 7) (asgCons (asgR 9) (asgNil)))) (asgS (asgSub (getM 3) (tupM (argC (getM 7) (argC (getM 9) (argN))))) (tupM (argC (getM 9) (argC (getM 7) (argN))))))
  (seqM (forS (asgSeq 2 (asgCons (asgR 10) (asgCons (asgR 11) (asgNil)))) (itE (argC (getM 6) (argN))) (ifS (tcmp fEq (getM 11) (cst (.str "third"))) (seqM (asgS (asgSub (getM 2) (getM 10)) (getM 10))
  (seqM (asgS (asgSub (getM 3) (getM 10)) (bin fIx (getM 1) (getM 10)))
  (asgS (asgSub (getM 3) (bin fIx (getM 1) (getM 10))) (getM 10)))) (ifS (tcmp fEq (getM 11) (cst (.str "half"))) (asgS (asgSub (getM 3) (bin fIx (getM 1) (getM 10))) (bin fIx (getM 1) (getM 10))) (asgS (asgSub (getM 3) (bin fIx (getM 1) (getM 10))) (bin fIx (getM 1) (getM 11))))))
  (seqM (setS 4 (tupM (argC (tupM (argC (cst (.int 1)) (argC (cst (.int 0)) (argN)))) (argC (tupM (argC (cst (.int 0)) (argC (cst (.int 1)) (argN)))) (argN)))))
  (seqM (ifS (tcmp fEq (callB fLen (argC (getM 5) (argN))) (cst (.int 2))) (seqM (setS 4 (bin fIx (lstM (argC (cst (.int 1)) (argC (cst (.int 0)) (argN)))) (callB fInt1 (argC (bin fNe (bin fIx (getM 6) (cst (.int 1))) (cst (.str "third"))) (argN)))))
  (forS (asgR 10) (itA (lstM (argC (cst (.int 0)) (argC (cst (.int 1)) (argN))))) (ifS (tcmp fEq (bin fIx (getM 6) (getM 10)) (cst (.str "third"))) (asgS (asgSub (getM 3) (getM 10)) (bin fIx (lstM (argC (getM 10) (argC (bin fSub (cst (.int 1)) (getM 10)) (argN)))) (callB fInt1 (argC (bin fEq (bin fIx (getM 6) (bin fSub (cst (.int 1)) (getM 10))) (cst (.str "third"))) (argN))))) (nilS)))) (ifS (tcmp fNotIn (getM 4) (getM 2)) (setS 4 (bin fIx (getM 3) (bin fIx (getM 1) (un fNeg (cst (.int 1)))))) (nilS)))
  (retS (tupM (argC (getM 3) (argC (getM 2) (argC (getM 4) (argN))))))))))))))
noncomputable def f__law_links : List D → FO := runF 11 m__law_links
noncomputable def m__law_anew : M Fl := seqM (setS 3 (lstM (argC (getM 2) (argN))))
  (seqM (setS 4 (cst (.int 0)))
  (seqM (whileC (tcmp fLt (getM 4) (callB fLen (argC (getM 3) (argN)))) (seqM (forS (asgR 5) (itA (lstM (argC (bin fIx (getM 0) (bin fIx (getM 3) (getM 4))) (argC (bin fIx (getM 1) (bin fIx (getM 3) (getM 4))) (argN))))) (ifS (tcmp fNotIn (getM 5) (getM 3)) (exS (apE (getM 3) (getM 5))) (nilS)))
  (setS 4 (bin fAdd (getM 4) (cst (.int 1))))))
  (retS (tupM (argC (callB fTuple (argC (lcM (put1 6) (M.ret true) (mthE "list" fIndex (getM 3) (argC (bin fIx (getM 0) (getM 6)) (argN))) [6] (itA (getM 3))) (argN))) (argC (callB fTuple (argC (lcM (put1 6) (M.ret true) (mthE "list" fIndex (getM 3) (argC (bin fIx (getM 1) (getM 6)) (argN))) [6] (itA (getM 3))) (argN))) (argN)))))))
noncomputable def f__law_anew : List D → FO := runF 4 m__law_anew
noncomputable def m__law_table : M Fl := seqM (asgS (asgSeq 3 (asgCons (asgR 1) (asgCons (asgR 2) (asgCons (asgR 3) (asgNil))))) (callF f__law_links (argC (getM 0) (argN))))
  (retS (callF f__law_anew (argC (getM 1) (argC (getM 2) (argC (getM 3) (argN))))))
noncomputable def f__law_table : List D → FO := runF 3 m__law_table
noncomputable def m__law_led : M Fl := seqM (forS (asgR 3) (itA (getM 2)) (ifS (tcmp fEq (getM 3) (cst (.str "s"))) (setS 1 (bin fIx (bin fIx (getM 0) (cst (.int 0))) (getM 1))) (ifS (tcmp fEq (getM 3) (cst (.str "r"))) (setS 1 (bin fIx (bin fIx (getM 0) (cst (.int 1))) (getM 1))) (setS 1 (bin fIx (bin fIx (getM 0) (cst (.int 1))) (bin fIx (bin fIx (getM 0) (cst (.int 1))) (getM 1)))))))
  (retS (getM 1))
noncomputable def f__law_led : List D → FO := runF 1 m__law_led
noncomputable def m__law_words : M Fl := seqM (setS 1 (dispM [(cst (.int 0), cst (.str ""))]))
  (seqM (setS 2 (lstM (argC (cst (.str "")) (argN))))
  (seqM (whileC (tcmp fLt (callB fLenX (argC (getM 1) (argN))) (callB fLen (argC (bin fIx (getM 0) (cst (.int 0))) (argN)))) (seqM (setS 3 (lstM (argN)))
  (seqM (setS 4 (lstM (argN)))
  (seqM (forS (asgR 5) (itA (getM 2)) (setS 4 (bin fAdd (getM 4) (lcM (put1 8) (M.ret true) (bin fAdd (getM 5) (getM 8)) [8] (itA (cst (.str "qrs")))))))
  (seqM (forS (asgR 6) (itA (callB fSortT (argC (getM 4) (argN)))) (seqM (setS 7 (callF f__law_led (argC (getM 0) (argC (cst (.int 0)) (argC (getM 6) (argN))))))
  (ifS (tcmp fNotIn (getM 7) (getM 1)) (seqM (asgS (asgSub (getM 1) (getM 7)) (getM 6))
  (exS (apE (getM 3) (getM 6)))) (nilS))))
  (setS 2 (getM 3)))))))
  (retS (getM 1))))
noncomputable def f__law_words : List D → FO := runF 8 m__law_words
noncomputable def m__law_cell_at : M Fl := seqM (ifS (tcmp fLt (getM 1) (callB fLen (argC (getM 0) (argN)))) (retS (bin fIx (getM 0) (getM 1))) (nilS))
  (retS (cst (.int 0)))
noncomputable def f__law_cell_at : List D → FO := runF 0 m__law_cell_at
noncomputable def m__law_big : M Fl := seqM (setS 2 (tupM (argC (cst (.int 48271)) (argC (cst (.int 69621)) (argC (cst (.int 16807)) (argC (cst (.int 39373)) (argC (cst (.int 21401)) (argC (cst (.int 60493)) (argC (cst (.int 87721)) (argC (cst (.int 31337)) (argN)))))))))))
  (seqM (setS 3 (tupM (argC (cst (.int 99991)) (argC (cst (.int 99989)) (argC (cst (.int 99971)) (argC (cst (.int 99961)) (argC (cst (.int 99929)) (argC (cst (.int 99923)) (argC (cst (.int 99907)) (argC (cst (.int 99901)) (argN)))))))))))
  (seqM (setS 4 (callF f__law_cell_at (argC (getM 0) (argC (getM 1) (argN)))))
  (seqM (ifS (tcmp fGe (getM 4) (bin fPow (cst (.int 10)) (cst (.int 18)))) (retS (getM 4)) (nilS))
  (seqM (setS 5 (cst (.int 0)))
  (seqM (forS (asgR 6) (itR1 (argC (cst (.int 60)) (argN))) (seqM (setS 7 (bin fAdd (bin fAdd (bin fMod (callF f__law_cell_at (argC (getM 0) (argC (bin fAdd (getM 1) (bin fMod (getM 6) (cst (.int 9)))) (argN)))) (bin fPow (cst (.int 10)) (cst (.int 18)))) (cst (.int 1))) (bin fMulI (getM 6) (getM 6))))
  (setS 5 (bin fAdd (bin fMulI (getM 5) (cst (.int 7919))) (bin fMod (bin fMod (bin fMulI (getM 7) (bin fIx (getM 2) (bin fMod (getM 6) (cst (.int 8))))) (bin fIx (getM 3) (bin fMod (getM 6) (cst (.int 8))))) (cst (.int 7919)))))))
  (retS (getM 5)))))))
noncomputable def f__law_big : List D → FO := runF 6 m__law_big
noncomputable def m__law_digit : M Fl := seqM (setS 2 (bin fMod (bin fIx (getM 0) (cst (.int 0))) (getM 1)))
  (seqM (asgS (asgSub (getM 0) (cst (.int 0))) (bin fDiv (bin fIx (getM 0) (cst (.int 0))) (getM 1)))
  (retS (getM 2)))
noncomputable def f__law_digit : List D → List D → Option (List D × D) := runM 1 m__law_digit
noncomputable def m__law_fractions : M Fl := seqM (setS 2 (lstM (argC (tupM (argC (un fNeg (cst (.int 1))) (argC (cst (.int 0)) (argN)))) (argC (tupM (argC (cst (.int 0)) (argC (cst (.int 1)) (argN)))) (argC (tupM (argC (cst (.int 1)) (argC (cst (.int 0)) (argN)))) (argN))))))
  (seqM (forS (asgR 3) (itR1 (argC (bin fSub (getM 1) (cst (.int 2))) (argN))) (seqM (setS 4 (lenF f__law_digit (argC (getM 0) (argC (bin fSub (callB fLen (argC (getM 2) (argN))) (cst (.int 1))) (argN)))))
  (exS (muE fIns (getM 2) (argC (bin fAdd (getM 4) (cst (.int 1))) (argC (tupM (argC (bin fAdd (bin fIx (bin fIx (getM 2) (getM 4)) (cst (.int 0))) (bin fIx (bin fIx (getM 2) (bin fAdd (getM 4) (cst (.int 1)))) (cst (.int 0)))) (argC (bin fAdd (bin fIx (bin fIx (getM 2) (getM 4)) (cst (.int 1))) (bin fIx (bin fIx (getM 2) (bin fAdd (getM 4) (cst (.int 1)))) (cst (.int 1)))) (argN)))) (argN)))))))
  (retS (callB fTuple (argC (bin fAdd (lstM (argC (tupM (argC (cst (.int 1)) (argC (cst (.int 0)) (argN)))) (argN))) (slM (getM 2) (M.bind (cst (.int 1)) asInt) (M.bind (bin fSub (callB fLen (argC (getM 2) (argN))) (cst (.int 1))) asInt))) (argN)))))
noncomputable def f__law_fractions : List D → List D → Option (List D × D) := runM 3 m__law_fractions
noncomputable def m__law_marks : M Fl := seqM (setS 2 (lcM (put1 4) (M.ret true) (cst (.str "half")) [4] (itR1 (argC (getM 1) (argN)))))
  (seqM (setS 3 (M.bind (argC (getM 1) (argN)) lrM))
  (seqM (whileC (tcmp fNe (getM 3) (lstM (argN))) (seqM (setS 4 (muE fPopAt (getM 3) (argC (cst (.int 0)) (argN))))
  (seqM (setS 5 (lenF f__law_digit (argC (getM 0) (argC (cst (.int 4)) (argN)))))
  (seqM (ifS (tcmp fEq (getM 5) (cst (.int 1))) (asgS (asgSub (getM 2) (getM 4)) (cst (.str "third"))) (nilS))
  (ifS (andM (tcmp fGt (getM 5) (cst (.int 1))) (tcmp fNe (getM 3) (lstM (argN)))) (seqM (setS 6 (muE fPopAt (getM 3) (argC (lenF f__law_digit (argC (getM 0) (argC (callB fLen (argC (getM 3) (argN))) (argN)))) (argN))))
  (seqM (asgS (asgSub (getM 2) (getM 4)) (getM 6))
  (asgS (asgSub (getM 2) (getM 6)) (getM 4)))) (nilS))))))
  (seqM (ifS (andM (tcmp fEq (getM 1) (cst (.int 2))) (tcmp fNotIn (cst (.str "third")) (getM 2))) (setS 2 (lstM (argC (cst (.str "third")) (argC (cst (.str "half")) (argN))))) (nilS))
  (retS (callB fTuple (argC (getM 2) (argN)))))))
noncomputable def f__law_marks : List D → List D → Option (List D × D) := runM 5 m__law_marks
noncomputable def m__law_fan : M Fl := seqM (setS 3 (bin fAdd (cst (.int 2)) (lenF f__law_digit (argC (getM 0) (argC (bin fSub (getM 1) (cst (.int 1))) (argN))))))
  (seqM (ifS (tcmp fEq (lenF f__law_digit (argC (getM 0) (argC (cst (.int 8)) (argN)))) (cst (.int 1))) (setS 3 (bin fAdd (cst (.int 2)) (lenF f__law_digit (argC (getM 0) (argC (bin fSub (getM 2) (cst (.int 1))) (argN)))))) (nilS))
  (retS (tupM (argC (lenF f__law_fractions (argC (getM 0) (argC (getM 3) (argN)))) (argC (lenF f__law_marks (argC (getM 0) (argC (getM 3) (argN)))) (argN))))))
noncomputable def f__law_fan : List D → List D → Option (List D × D) := runM 1 m__law_fan
noncomputable def m_led_by : M Fl := seqM (asgS (asgSeq 2 (asgCons (asgR 3) (asgCons (asgR 4) (asgNil)))) (getM 0))
  (seqM (ifS (tcmp fEq (getM 2) (cst (.str "s"))) (retS (bin fIx (getM 3) (getM 1))) (nilS))
  (seqM (ifS (orM (tcmp fEq (getM 2) (cst (.str "r"))) (tcmp fIs (bin fIx (getM 4) (getM 1)) (cst .none))) (retS (bin fIx (getM 4) (getM 1))) (nilS))
  (retS (bin fIx (getM 4) (bin fIx (getM 4) (getM 1))))))
noncomputable def f_led_by : List D → FO := runF 2 m_led_by
noncomputable def m_word_to : M Fl := seqM (setS 2 (dispM [(cst (.int 0), cst (.str ""))]))
  (seqM (setS 3 (lstM (argC (cst (.int 0)) (argN))))
  (seqM (whileC (tcmp fNotIn (getM 1) (getM 2)) (seqM (setS 4 (lstM (argN)))
  (seqM (forS (asgR 5) (itA (getM 3)) (forS (asgR 6) (itA (cst (.str "qrs"))) (seqM (setS 7 (callF f_led_by (argC (getM 0) (argC (getM 5) (argC (getM 6) (argN))))))
  (ifS (tcmp fNotIn (getM 7) (getM 2)) (seqM (asgS (asgSub (getM 2) (getM 7)) (bin fAdd (bin fIx (getM 2) (getM 5)) (getM 6)))
  (exS (apE (getM 4) (getM 7)))) (nilS)))))
  (setS 3 (getM 4)))))
  (retS (bin fIx (getM 2) (getM 1)))))
noncomputable def f_word_to : List D → FO := runF 6 m_word_to
noncomputable def m_law : M Fl := seqM (forS (asgR 1) (itR1 (argC (callB fMax2 (argC (cst (.int 1)) (argC (callB fMin2 (argC (cst (.int 4)) (argC (callB fLen (argC (getM 0) (argN))) (argN)))) (argN)))) (argN))) (seqM (setS 2 (lstM (argC (callF f__law_big (argC (getM 0) (argC (getM 1) (argN)))) (argN))))
  (seqM (setS 3 (callF f__law_table (argC (lenF f__law_fan (argC (getM 2) (argC (cst (.int 7)) (argC (cst (.int 16)) (argN))))) (argN))))
  (seqM (setS 3 (callF f__law_anew (argC (bin fIx (getM 3) (cst (.int 0))) (argC (bin fIx (getM 3) (cst (.int 1))) (argC (lenF f__law_digit (argC (getM 2) (argC (callB fLen (argC (bin fIx (getM 3) (cst (.int 0))) (argN))) (argN)))) (argN))))))
  (seqM (setS 4 (callF f__law_words (argC (getM 3) (argN))))
  (forS (asgR 5) (itA (getM 4)) (seqM (setS 6 (callF f_word_to (argC (getM 3) (argC (getM 5) (argN)))))
  (ifS (orM (notT (tst (isi isStr (getM 6)))) (tcmp fNe (getM 6) (bin fIx (getM 4) (getM 5)))) (retS (cst (.bool false))) (nilS)))))))))
  (retS (cst (.bool true)))
noncomputable def f_law : List D → FO := runF 6 m_law
theorem bi__law_gaps {w : World} {K : PySem.W.Frag} {mg : Str → Option Value} (c : Facts w K mg) : Binds K c.fd__law_gaps ["_law_fractions_here"] [] := c.F__law_gaps.bindsN fun _ _ _ _ _ _ us hl => match us, hl with | [_], _ => rfl
theorem ok__law_gaps {P : Program} {w : World} {base : Heap} {K : PySem.W.Frag} {mg : Str → Option Value} (c : Facts w K mg) : FnOk P w K mg base (L2.CX P w) 1 c.f__law_gaps c.fd__law_gaps ["_law_fractions_here"] (spF K mg 1 f__law_gaps) :=
  fn_ok (N := ["_law_fractions_here", "_law_i"]) (n := 1) c.F__law_gaps sc__law_gaps rfl fun cdv A outer s H E hr =>
  (jss_one (js_ret (j_lc (own := [("_law_i", 1)]) rfl sc__law_gaps.nd (ji_range1 (by rfl) c.b_range (js_cons (j_callB call_len len_ok (by rfl) c.b_len (by decide +kernel) (js_cons (j_var (i := 0) rfl (.inr (.inl rfl)) rfl rfl) js_nil (by rfl)) (by decide) (by rfl) (by rfl) (by rfl)) js_nil (by rfl)) (by rfl)) (blkOk_by (N := ["_law_fractions_here", "_law_i"]) (sc := (defScope s__law_gaps)) (by decide +kernel)) (gp_name (by decide)) (fun _ _ _ _ _ => (pg_name (i := 1) sc__law_gaps.nd rfl (.inl rfl))) (fun _ _ _ _ _ => jts_nil) (fun _ _ _ _ _ => (j_tup (js_cons (j_ix (hu65 hr) (j_var (i := 0) rfl (by first | exact Or.inr (Or.inl rfl) | exact Or.inr (Or.inr rfl) | exact Or.inl rfl) rfl rfl) (j_var (i := 1) rfl (.inl rfl) rfl rfl) (fun _ _ => rfl)) (js_cons (j_ix (hu65 hr) (j_var (i := 0) rfl (by first | exact Or.inr (Or.inl rfl) | exact Or.inr (Or.inr rfl) | exact Or.inl rfl) rfl rfl) (j_op op_modN mod_ok (j_op op_addD add_ok (j_var (i := 1) rfl (.inl rfl) rfl rfl) j_int) (j_callB call_len len_ok (by rfl) c.b_len (by decide +kernel) (js_cons (j_var (i := 0) rfl (by first | exact Or.inr (Or.inl rfl) | exact Or.inr (Or.inr rfl) | exact Or.inl rfl) rfl rfl) js_nil (by rfl)) (by decide) (by rfl) (by rfl) (by rfl))) (fun _ _ => rfl)) js_nil (by rfl)) (by rfl)))) (fun _ => rfl))))
theorem bi__law_tiles {w : World} {K : PySem.W.Frag} {mg : Str → Option Value} (c : Facts w K mg) : Binds K c.fd__law_tiles ["_law_fractions_here"] [] := c.F__law_tiles.bindsN fun _ _ _ _ _ _ us hl => match us, hl with | [_], _ => rfl
theorem ok__law_tiles {P : Program} {w : World} {base : Heap} {K : PySem.W.Frag} {mg : Str → Option Value} (c : Facts w K mg) : FnOk P w K mg base (L2.CX P w) 1 c.f__law_tiles c.fd__law_tiles ["_law_fractions_here"] (spF K mg 1 f__law_tiles) :=
  fn_ok (N := ["_law_fractions_here", "_law_row", "_law_tiles_here", "_law_i", "_law_near", "_law_far"]) (n := 5) c.F__law_tiles sc__law_tiles rfl fun cdv A outer s H E hr =>
  (jss_cons (js_set (ps_set (i := 1) sc__law_tiles.nd rfl (.inl rfl) (j_callTy (call_listU rfl) listU_ok (by rfl) c.b_list (by decide +kernel) (js_cons (j_var (i := 0) rfl (.inl rfl) rfl rfl) js_nil (by rfl)) (by decide) (by rfl) (by rfl) (by rfl))) (fun _ _ _ h => h))
  (jss_cons (js_set (ps_set (i := 2) sc__law_tiles.nd rfl (.inl rfl) (j_lst js_nil)) (fun _ _ _ h => h))
  (jss_cons (js_whileC (passes_of rfl) (jb_cmp op_gt cmpI_ok (nomark _) (j_callB call_len len_ok (by rfl) c.b_len (by decide +kernel) (js_cons (j_var (i := 1) rfl (.inl rfl) rfl rfl) js_nil (by rfl)) (by decide) (by rfl) (by rfl) (by rfl)) j_int) (jss_one (js_for (passes_of rfl) rfl (ji_range2 (by rfl) c.b_range (js_cons j_int (js_cons (j_callB call_len len_ok (by rfl) c.b_len (by decide +kernel) (js_cons (j_var (i := 1) rfl (.inl rfl) rfl rfl) js_nil (by rfl)) (by decide) (by rfl) (by rfl) (by rfl)) js_nil (by rfl)) (by rfl)) (by rfl) (by rfl)) (pg_name (i := 3) sc__law_tiles.nd rfl (.inl rfl)) (g_name) (jss_cons (js_set (ps_set (i := 4) sc__law_tiles.nd rfl (.inl rfl) (j_ix (hu65 hr) (j_var (i := 1) rfl (.inl rfl) rfl rfl) (j_op op_sub sub_ok (j_var (i := 3) rfl (.inl rfl) rfl rfl) j_int) (fun _ _ => rfl))) (fun _ _ _ h => h))
  (jss_cons (js_set (ps_set (i := 5) sc__law_tiles.nd rfl (.inl rfl) (j_ix (hu65 hr) (j_var (i := 1) rfl (.inl rfl) rfl rfl) (j_op op_modN mod_ok (j_op op_addD add_ok (j_var (i := 3) rfl (.inl rfl) rfl rfl) j_int) (j_callB call_len len_ok (by rfl) c.b_len (by decide +kernel) (js_cons (j_var (i := 1) rfl (.inl rfl) rfl rfl) js_nil (by rfl)) (by decide) (by rfl) (by rfl) (by rfl))) (fun _ _ => rfl))) (fun _ _ _ h => h))
  (jss_one (js_if (jw_and (jb_cmp (op_neX (hu64 hr)) ne_ok (nomark _) (j_ix (hu65 hr) (j_var (i := 1) rfl (.inl rfl) rfl rfl) (j_var (i := 3) rfl (.inl rfl) rfl rfl) (fun _ _ => rfl)) (j_tup (js_cons j_int (js_cons j_int js_nil (by rfl)) (by rfl)))) (jw_and1 (jb_cmp (op_eqX (hu64 hr)) eq_ok (nomark _) (j_callB call_abs abs_ok (by rfl) c.b_abs (by decide +kernel) (js_cons (j_op op_sub sub_ok (j_op op_mulW mulI_ok (j_ix (hu65 hr) (j_var (i := 4) rfl (.inl rfl) rfl rfl) j_int (fun _ _ => rfl)) (j_ix (hu65 hr) (j_var (i := 5) rfl (.inl rfl) rfl rfl) j_int (fun _ _ => rfl))) (j_op op_mulW mulI_ok (j_ix (hu65 hr) (j_var (i := 4) rfl (.inl rfl) rfl rfl) j_int (fun _ _ => rfl)) (j_ix (hu65 hr) (j_var (i := 5) rfl (.inl rfl) rfl rfl) j_int (fun _ _ => rfl)))) js_nil (by rfl)) (by decide) (by rfl) (by rfl) (by rfl)) j_int))).pt (jss_cons (js_expr (j_append (j_var (i := 2) rfl (.inl rfl) rfl rfl) (j_tup (js_cons (j_var (i := 4) rfl (.inl rfl) rfl rfl) (js_cons (j_ix (hu65 hr) (j_var (i := 1) rfl (.inl rfl) rfl rfl) (j_var (i := 3) rfl (.inl rfl) rfl rfl) (fun _ _ => rfl)) (js_cons (j_var (i := 5) rfl (.inl rfl) rfl rfl) js_nil (by rfl)) (by rfl)) (by rfl))) (by rfl) (by rfl) (by rfl) (by rfl) (by rfl)) rfl)
  (jss_cons (js_expr (j_mut PySem.F.plainAttrs_list PySem.F.slot_list_pop PySem.F.type_list_pop mt_popAt popAt_ok (j_var (i := 1) rfl (.inl rfl) rfl rfl) (js_cons (j_var (i := 3) rfl (.inl rfl) rfl rfl) js_nil (by rfl)) (by rfl) (by rfl) (by rfl) (by rfl) (by rfl)) rfl)
  (jss_one js_break))) jss_nil)))) (fun _ => rfl))))
  (jss_one (js_ret (j_var (i := 2) rfl (.inl rfl) rfl rfl))))))
theorem bi__law_links {w : World} {K : PySem.W.Frag} {mg : Str → Option Value} (c : Facts w K mg) : Binds K c.fd__law_links ["_law_fan_here"] [] := c.F__law_links.bindsN fun _ _ _ _ _ _ us hl => match us, hl with | [_], _ => rfl
theorem ok__law_links {P : Program} {w : World} {base : Heap} {K : PySem.W.Frag} {mg : Str → Option Value} (c : Facts w K mg) : FnOk P w K mg base (L2.CX P w) 2 c.f__law_links c.fd__law_links ["_law_fan_here"] (spF K mg 1 f__law_links) :=
  fn_ok (N := ["_law_fan_here", "_law_gaps_here", "_law_thirds", "_law_halves", "_law_first", "_law_fractions_here", "_law_marks_here", "_law_one", "_law_mid", "_law_other", "_law_i", "_law_mark"]) (n := 11) c.F__law_links sc__law_links rfl fun cdv A outer s H E hr =>
  (jss_cons (js_asg (j_var (i := 0) rfl (.inl rfl) rfl rfl) (pg_seq rfl (pgs_cons (pg_name (i := 5) sc__law_links.nd rfl (.inl rfl)) (pgs_cons (pg_name (i := 6) sc__law_links.nd rfl (.inl rfl)) pgs_nil)) rfl rfl) (g_seq (gs_cons (g_name) (gs_cons (g_name) gs_nil))) rfl rfl rfl)
  (jss_cons (js_set (ps_set (i := 1) sc__law_links.nd rfl (.inl rfl) (j_call ((ok__law_gaps c).mono (by decide)) hr (takes_of (by rfl) (by rfl) (by rfl) (by rfl)) (by rfl) c.g__law_gaps c.F__law_gaps.kp (bi__law_gaps c) (js_cons (j_var (i := 5) rfl (.inl rfl) rfl rfl) js_nil (by rfl)) (lenC lenN) (by rfl) (by rfl) (by rfl))) (fun _ _ _ h => h))
  (jss_cons (js_set (ps_set (i := 2) sc__law_links.nd rfl (.inl rfl) j_disp0) (fun _ _ _ h => h))
  (jss_cons (js_for (passes_of rfl) rfl (ji_any (j_call ((ok__law_tiles c).mono (by decide)) hr (takes_of (by rfl) (by rfl) (by rfl) (by rfl)) (by rfl) c.g__law_tiles c.F__law_tiles.kp (bi__law_tiles c) (js_cons (j_var (i := 5) rfl (.inl rfl) rfl rfl) js_nil (by rfl)) (lenC lenN) (by rfl) (by rfl) (by rfl))) (pg_seq rfl (pgs_cons (pg_name (i := 7) sc__law_links.nd rfl (.inl rfl)) (pgs_cons (pg_name (i := 8) sc__law_links.nd rfl (.inl rfl)) (pgs_cons (pg_name (i := 9) sc__law_links.nd rfl (.inl rfl)) pgs_nil))) rfl rfl) (g_seq (gs_cons (g_name) (gs_cons (g_name) (gs_cons (g_name) gs_nil)))) (jss_cons (js_asg (j_tup (js_cons (j_var (i := 8) rfl (.inl rfl) rfl rfl) (js_cons (j_var (i := 9) rfl (.inl rfl) rfl rfl) js_nil (by rfl)) (by rfl))) (pg_sub (j_var (i := 2) rfl (.inl rfl) rfl rfl) (j_tup (js_cons (j_var (i := 7) rfl (.inl rfl) rfl rfl) (js_cons (j_var (i := 8) rfl (.inl rfl) rfl rfl) js_nil (by rfl)) (by rfl))) (set_any (hu65 hr))) g_sub rfl rfl rfl)
  (jss_cons (js_asg (j_tup (js_cons (j_var (i := 9) rfl (.inl rfl) rfl rfl) (js_cons (j_var (i := 7) rfl (.inl rfl) rfl rfl) js_nil (by rfl)) (by rfl))) (pg_sub (j_var (i := 2) rfl (.inl rfl) rfl rfl) (j_tup (js_cons (j_var (i := 8) rfl (.inl rfl) rfl rfl) (js_cons (j_var (i := 9) rfl (.inl rfl) rfl rfl) js_nil (by rfl)) (by rfl))) (set_any (hu65 hr))) g_sub rfl rfl rfl)
  (jss_one (js_asg (j_tup (js_cons (j_var (i := 7) rfl (.inl rfl) rfl rfl) (js_cons (j_var (i := 8) rfl (.inl rfl) rfl rfl) js_nil (by rfl)) (by rfl))) (pg_sub (j_var (i := 2) rfl (.inl rfl) rfl rfl) (j_tup (js_cons (j_var (i := 9) rfl (.inl rfl) rfl rfl) (js_cons (j_var (i := 7) rfl (.inl rfl) rfl rfl) js_nil (by rfl)) (by rfl))) (set_any (hu65 hr))) g_sub rfl rfl rfl)))) (fun _ => rfl))
  (jss_cons (js_set (ps_set (i := 3) sc__law_links.nd rfl (.inl rfl) j_disp0) (fun _ _ _ h => h))
  (jss_cons (js_forD (i := 2) rfl (.inl rfl) rfl rfl (passes_of rfl) rfl (pg_seq rfl (pgs_cons (pg_name (i := 7) sc__law_links.nd rfl (.inl rfl)) (pgs_cons (pg_name (i := 9) sc__law_links.nd rfl (.inl rfl)) pgs_nil)) rfl rfl) (g_seq (gs_cons (g_name) (gs_cons (g_name) gs_nil))) (jss_one (js_asg (j_tup (js_cons (j_var (i := 9) rfl (.inl rfl) rfl rfl) (js_cons (j_var (i := 7) rfl (.inl rfl) rfl rfl) js_nil (by rfl)) (by rfl))) (pg_sub (j_var (i := 3) rfl (.inl rfl) rfl rfl) (j_tup (js_cons (j_var (i := 7) rfl (.inl rfl) rfl rfl) (js_cons (j_var (i := 9) rfl (.inl rfl) rfl rfl) js_nil (by rfl)) (by rfl))) (set_any (hu65 hr))) g_sub rfl rfl rfl)) (fun _ => rfl))
  (jss_cons (js_for (passes_of rfl) rfl (ji_enum (by rfl) c.b_enumerate (js_cons (j_var (i := 6) rfl (.inl rfl) rfl rfl) js_nil (by rfl)) (by rfl)) (pg_seq rfl (pgs_cons (pg_name (i := 10) sc__law_links.nd rfl (.inl rfl)) (pgs_cons (pg_name (i := 11) sc__law_links.nd rfl (.inl rfl)) pgs_nil)) rfl rfl) (g_seq (gs_cons (g_name) (gs_cons (g_name) gs_nil))) (jss_one (js_if (jb_cmp (op_eqX (hu64 hr)) eq_ok (nomark _) (j_var (i := 11) rfl (.inl rfl) rfl rfl) j_str) (jss_cons (js_asg (j_var (i := 10) rfl (.inl rfl) rfl rfl) (pg_sub (j_var (i := 2) rfl (.inl rfl) rfl rfl) (j_var (i := 10) rfl (.inl rfl) rfl rfl) (set_any (hu65 hr))) g_sub rfl rfl rfl)
  (jss_cons (js_asg (j_ix (hu65 hr) (j_var (i := 1) rfl (.inl rfl) rfl rfl) (j_var (i := 10) rfl (.inl rfl) rfl rfl) (fun _ _ => rfl)) (pg_sub (j_var (i := 3) rfl (.inl rfl) rfl rfl) (j_var (i := 10) rfl (.inl rfl) rfl rfl) (set_any (hu65 hr))) g_sub rfl rfl rfl)
  (jss_one (js_asg (j_var (i := 10) rfl (.inl rfl) rfl rfl) (pg_sub (j_var (i := 3) rfl (.inl rfl) rfl rfl) (j_ix (hu65 hr) (j_var (i := 1) rfl (.inl rfl) rfl rfl) (j_var (i := 10) rfl (.inl rfl) rfl rfl) (fun _ _ => rfl)) (set_any (hu65 hr))) g_sub rfl rfl rfl)))) (jss_one (js_if (jb_cmp (op_eqX (hu64 hr)) eq_ok (nomark _) (j_var (i := 11) rfl (.inl rfl) rfl rfl) j_str) (jss_one (js_asg (j_ix (hu65 hr) (j_var (i := 1) rfl (.inl rfl) rfl rfl) (j_var (i := 10) rfl (.inl rfl) rfl rfl) (fun _ _ => rfl)) (pg_sub (j_var (i := 3) rfl (.inl rfl) rfl rfl) (j_ix (hu65 hr) (j_var (i := 1) rfl (.inl rfl) rfl rfl) (j_var (i := 10) rfl (.inl rfl) rfl rfl) (fun _ _ => rfl)) (set_any (hu65 hr))) g_sub rfl rfl rfl)) (jss_one (js_asg (j_ix (hu65 hr) (j_var (i := 1) rfl (.inl rfl) rfl rfl) (j_var (i := 11) rfl (.inl rfl) rfl rfl) (fun _ _ => rfl)) (pg_sub (j_var (i := 3) rfl (.inl rfl) rfl rfl) (j_ix (hu65 hr) (j_var (i := 1) rfl (.inl rfl) rfl rfl) (j_var (i := 10) rfl (.inl rfl) rfl rfl) (fun _ _ => rfl)) (set_any (hu65 hr))) g_sub rfl rfl rfl)))))) (fun _ => rfl))
  (jss_cons (js_set (ps_set (i := 4) sc__law_links.nd rfl (.inl rfl) (j_tup (js_cons (j_tup (js_cons j_int (js_cons j_int js_nil (by rfl)) (by rfl))) (js_cons (j_tup (js_cons j_int (js_cons j_int js_nil (by rfl)) (by rfl))) js_nil (by rfl)) (by rfl)))) (fun _ _ _ h => h))
  (jss_cons (js_if (jb_cmp (op_eqX (hu64 hr)) eq_ok (nomark _) (j_callB call_len len_ok (by rfl) c.b_len (by decide +kernel) (js_cons (j_var (i := 5) rfl (.inl rfl) rfl rfl) js_nil (by rfl)) (by decide) (by rfl) (by rfl) (by rfl)) j_int) (jss_cons (js_set (ps_set (i := 4) sc__law_links.nd rfl (.inl rfl) (j_ix (hu65 hr) (j_lst (js_cons j_int (js_cons j_int js_nil (by rfl)) (by rfl))) (j_callTy call_int1 int1_ok (by rfl) c.b_int (by decide +kernel) (js_cons (j_cmp (op_neX (hu64 hr)) ne_ok (nomark _) (j_ix (hu65 hr) (j_var (i := 6) rfl (.inl rfl) rfl rfl) j_int (fun _ _ => rfl)) j_str) js_nil (by rfl)) (by decide) (by rfl) (by rfl) (by rfl)) (fun _ _ => rfl))) (fun _ _ _ h => h))
  (jss_one (js_for (passes_of rfl) rfl (ji_any (j_lst (js_cons j_int (js_cons j_int js_nil (by rfl)) (by rfl)))) (pg_name (i := 10) sc__law_links.nd rfl (.inl rfl)) (g_name) (jss_one (js_if (jb_cmp (op_eqX (hu64 hr)) eq_ok (nomark _) (j_ix (hu65 hr) (j_var (i := 6) rfl (.inl rfl) rfl rfl) (j_var (i := 10) rfl (.inl rfl) rfl rfl) (fun _ _ => rfl)) j_str) (jss_one (js_asg (j_ix (hu65 hr) (j_lst (js_cons (j_var (i := 10) rfl (.inl rfl) rfl rfl) (js_cons (j_op op_sub sub_ok j_int (j_var (i := 10) rfl (.inl rfl) rfl rfl)) js_nil (by rfl)) (by rfl))) (j_callTy call_int1 int1_ok (by rfl) c.b_int (by decide +kernel) (js_cons (j_cmp (op_eqX (hu64 hr)) eq_ok (nomark _) (j_ix (hu65 hr) (j_var (i := 6) rfl (.inl rfl) rfl rfl) (j_op op_sub sub_ok j_int (j_var (i := 10) rfl (.inl rfl) rfl rfl)) (fun _ _ => rfl)) j_str) js_nil (by rfl)) (by decide) (by rfl) (by rfl) (by rfl)) (fun _ _ => rfl)) (pg_sub (j_var (i := 3) rfl (.inl rfl) rfl rfl) (j_var (i := 10) rfl (.inl rfl) rfl rfl) (set_any (hu65 hr))) g_sub rfl rfl rfl)) jss_nil)) (fun _ => rfl)))) (jss_one (js_if (jb_cmp (op_notInX (hu65 hr)) notIn_ok (by with_unfolding_all rfl) (j_var (i := 4) rfl (.inl rfl) rfl rfl) (j_var (i := 2) rfl (.inl rfl) rfl rfl)) (jss_one (js_set (ps_set (i := 4) sc__law_links.nd rfl (.inl rfl) (j_ix (hu65 hr) (j_var (i := 3) rfl (.inl rfl) rfl rfl) (j_ix (hu65 hr) (j_var (i := 1) rfl (.inl rfl) rfl rfl) (j_un un_neg neg_ok j_int) (fun _ _ => rfl)) (fun _ _ => rfl))) (fun _ _ _ h => h))) jss_nil)))
  (jss_one (js_ret (j_tup (js_cons (j_var (i := 3) rfl (.inl rfl) rfl rfl) (js_cons (j_var (i := 2) rfl (.inl rfl) rfl rfl) (js_cons (j_var (i := 4) rfl (.inl rfl) rfl rfl) js_nil (by rfl)) (by rfl)) (by rfl))))))))))))))
theorem bi__law_anew {w : World} {K : PySem.W.Frag} {mg : Str → Option Value} (c : Facts w K mg) : Binds K c.fd__law_anew ["_law_halves", "_law_thirds", "_law_first"] [] := c.F__law_anew.bindsN fun _ _ _ _ _ _ us hl => match us, hl with | [_, _, _], _ => rfl
theorem ok__law_anew {P : Program} {w : World} {base : Heap} {K : PySem.W.Frag} {mg : Str → Option Value} (c : Facts w K mg) : FnOk P w K mg base (L2.CX P w) 1 c.f__law_anew c.fd__law_anew ["_law_halves", "_law_thirds", "_law_first"] (spF K mg 3 f__law_anew) :=
  fn_ok (N := ["_law_halves", "_law_thirds", "_law_first", "_law_met", "_law_at", "_law_behind", "_law_one"]) (n := 4) c.F__law_anew sc__law_anew rfl fun cdv A outer s H E hr =>
  (jss_cons (js_set (ps_set (i := 3) sc__law_anew.nd rfl (.inr rfl) (j_lst (js_cons (j_var (i := 2) rfl (.inl rfl) rfl rfl) js_nil (by rfl)))) (fun _ _ _ h => h))
  (jss_cons (js_set (ps_set (i := 4) sc__law_anew.nd rfl (.inl rfl) j_int) (fun _ _ _ h => h))
  (jss_cons (js_whileC (passes_of rfl) (jb_cmp op_lt cmpI_ok (nomark _) (j_var (i := 4) rfl (.inl rfl) rfl rfl) (j_callB call_len len_ok (by rfl) c.b_len (by decide +kernel) (js_cons (j_var (i := 3) rfl (.inr (.inl rfl)) rfl rfl) js_nil (by rfl)) (by decide) (by rfl) (by rfl) (by rfl))) (jss_cons (js_for (passes_of rfl) rfl (ji_any (j_lst (js_cons (j_ix (hu65 hr) (j_var (i := 0) rfl (.inr (.inl rfl)) rfl rfl) (j_ix (hu65 hr) (j_var (i := 3) rfl (.inr (.inl rfl)) rfl rfl) (j_var (i := 4) rfl (.inl rfl) rfl rfl) (fun _ _ => rfl)) (fun _ _ => rfl)) (js_cons (j_ix (hu65 hr) (j_var (i := 1) rfl (.inr (.inl rfl)) rfl rfl) (j_ix (hu65 hr) (j_var (i := 3) rfl (.inr (.inl rfl)) rfl rfl) (j_var (i := 4) rfl (.inl rfl) rfl rfl) (fun _ _ => rfl)) (fun _ _ => rfl)) js_nil (by rfl)) (by rfl)))) (pg_name (i := 5) sc__law_anew.nd rfl (.inl rfl)) (g_name) (jss_one (js_if (jb_cmp (op_notInX (hu65 hr)) notIn_ok (by with_unfolding_all rfl) (j_var (i := 5) rfl (.inl rfl) rfl rfl) (j_var (i := 3) rfl (.inr (.inl rfl)) rfl rfl)) (jss_one (js_expr (j_append (j_var (i := 3) rfl (.inr (.inl rfl)) rfl rfl) (j_var (i := 5) rfl (.inl rfl) rfl rfl) (by rfl) (by rfl) (by rfl) (by rfl) (by rfl)) rfl)) jss_nil)) (fun _ => rfl))
  (jss_one (js_set (ps_set (i := 4) sc__law_anew.nd rfl (.inl rfl) (j_op op_addD add_ok (j_var (i := 4) rfl (.inl rfl) rfl rfl) j_int)) (fun _ _ _ h => h)))))
  (jss_one (js_ret (j_tup (js_cons (j_callTy call_tuple_of tuple_ok (by rfl) c.b_tuple (by decide +kernel) (js_cons (j_lc (own := [("_law_one", 6)]) rfl sc__law_anew.nd (ji_any (j_var (i := 3) rfl (.inr (.inl rfl)) rfl rfl)) (blkOk_by (N := ["_law_halves", "_law_thirds", "_law_first", "_law_met", "_law_at", "_law_behind", "_law_one"]) (sc := (defScope s__law_anew)) (by decide +kernel)) (gp_name (by decide)) (fun _ _ _ _ _ => (pg_name (i := 6) sc__law_anew.nd rfl (.inl rfl))) (fun _ _ _ _ _ => jts_nil) (fun _ _ _ _ _ => (j_mth VR.tyV_list PySem.F.plainAttrs_list PySem.F.slot_list_index PySem.F.type_list_index (mt_indexX (hu65 hr)) index_ok (j_var (i := 3) rfl (by first | exact Or.inr (Or.inl rfl) | exact Or.inr (Or.inr rfl) | exact Or.inl rfl) rfl rfl) (js_cons (j_ix (hu65 hr) (j_var (i := 0) rfl (by first | exact Or.inr (Or.inl rfl) | exact Or.inr (Or.inr rfl) | exact Or.inl rfl) rfl rfl) (j_var (i := 6) rfl (.inl rfl) rfl rfl) (fun _ _ => rfl)) js_nil (by rfl)) (by rfl) (by rfl) (by rfl) (by rfl) (by rfl))) (fun _ => rfl)) js_nil (by rfl)) (by decide) (by rfl) (by rfl) (by rfl)) (js_cons (j_callTy call_tuple_of tuple_ok (by rfl) c.b_tuple (by decide +kernel) (js_cons (j_lc (own := [("_law_one", 6)]) rfl sc__law_anew.nd (ji_any (j_var (i := 3) rfl (.inr (.inl rfl)) rfl rfl)) (blkOk_by (N := ["_law_halves", "_law_thirds", "_law_first", "_law_met", "_law_at", "_law_behind", "_law_one"]) (sc := (defScope s__law_anew)) (by decide +kernel)) (gp_name (by decide)) (fun _ _ _ _ _ => (pg_name (i := 6) sc__law_anew.nd rfl (.inl rfl))) (fun _ _ _ _ _ => jts_nil) (fun _ _ _ _ _ => (j_mth VR.tyV_list PySem.F.plainAttrs_list PySem.F.slot_list_index PySem.F.type_list_index (mt_indexX (hu65 hr)) index_ok (j_var (i := 3) rfl (by first | exact Or.inr (Or.inl rfl) | exact Or.inr (Or.inr rfl) | exact Or.inl rfl) rfl rfl) (js_cons (j_ix (hu65 hr) (j_var (i := 1) rfl (by first | exact Or.inr (Or.inl rfl) | exact Or.inr (Or.inr rfl) | exact Or.inl rfl) rfl rfl) (j_var (i := 6) rfl (.inl rfl) rfl rfl) (fun _ _ => rfl)) js_nil (by rfl)) (by rfl) (by rfl) (by rfl) (by rfl) (by rfl))) (fun _ => rfl)) js_nil (by rfl)) (by decide) (by rfl) (by rfl) (by rfl)) js_nil (by rfl)) (by rfl))))))))
theorem bi__law_table {w : World} {K : PySem.W.Frag} {mg : Str → Option Value} (c : Facts w K mg) : Binds K c.fd__law_table ["_law_fan_here"] [] := c.F__law_table.bindsN fun _ _ _ _ _ _ us hl => match us, hl with | [_], _ => rfl
theorem ok__law_table {P : Program} {w : World} {base : Heap} {K : PySem.W.Frag} {mg : Str → Option Value} (c : Facts w K mg) : FnOk P w K mg base (L2.CX P w) 3 c.f__law_table c.fd__law_table ["_law_fan_here"] (spF K mg 1 f__law_table) :=
  fn_ok (N := ["_law_fan_here", "_law_halves", "_law_thirds", "_law_first"]) (n := 3) c.F__law_table sc__law_table rfl fun cdv A outer s H E hr =>
  (jss_cons (js_asg (j_call ((ok__law_links c).mono (by decide)) hr (takes_of (by rfl) (by rfl) (by rfl) (by rfl)) (by rfl) c.g__law_links c.F__law_links.kp (bi__law_links c) (js_cons (j_var (i := 0) rfl (.inl rfl) rfl rfl) js_nil (by rfl)) (lenC lenN) (by rfl) (by rfl) (by rfl)) (pg_seq rfl (pgs_cons (pg_name (i := 1) sc__law_table.nd rfl (.inl rfl)) (pgs_cons (pg_name (i := 2) sc__law_table.nd rfl (.inl rfl)) (pgs_cons (pg_name (i := 3) sc__law_table.nd rfl (.inl rfl)) pgs_nil))) rfl rfl) (g_seq (gs_cons (g_name) (gs_cons (g_name) (gs_cons (g_name) gs_nil)))) rfl rfl rfl)
  (jss_one (js_ret (j_call ((ok__law_anew c).mono (by decide)) hr (takes_of (by rfl) (by rfl) (by rfl) (by rfl)) (by rfl) c.g__law_anew c.F__law_anew.kp (bi__law_anew c) (js_cons (j_var (i := 1) rfl (.inl rfl) rfl rfl) (js_cons (j_var (i := 2) rfl (.inl rfl) rfl rfl) (js_cons (j_var (i := 3) rfl (.inl rfl) rfl rfl) js_nil (by rfl)) (by rfl)) (by rfl)) (lenC (lenC (lenC lenN))) (by rfl) (by rfl) (by rfl)))))
theorem bi__law_led {w : World} {K : PySem.W.Frag} {mg : Str → Option Value} (c : Facts w K mg) : Binds K c.fd__law_led ["_law_table_here", "_law_place", "_law_word"] [] := c.F__law_led.bindsN fun _ _ _ _ _ _ us hl => match us, hl with | [_, _, _], _ => rfl
theorem ok__law_led {P : Program} {w : World} {base : Heap} {K : PySem.W.Frag} {mg : Str → Option Value} (c : Facts w K mg) : FnOk P w K mg base (L2.CX P w) 1 c.f__law_led c.fd__law_led ["_law_table_here", "_law_place", "_law_word"] (spF K mg 3 f__law_led) :=
  fn_ok (N := ["_law_table_here", "_law_place", "_law_word", "_law_letter"]) (n := 1) c.F__law_led sc__law_led rfl fun cdv A outer s H E hr =>
  (jss_cons (js_for (passes_of rfl) rfl (ji_any (j_var (i := 2) rfl (.inl rfl) rfl rfl)) (pg_name (i := 3) sc__law_led.nd rfl (.inl rfl)) (g_name) (jss_one (js_if (jb_cmp (op_eqX (hu64 hr)) eq_ok (nomark _) (j_var (i := 3) rfl (.inl rfl) rfl rfl) j_str) (jss_one (js_set (ps_set (i := 1) sc__law_led.nd rfl (.inl rfl) (j_ix (hu65 hr) (j_ix (hu65 hr) (j_var (i := 0) rfl (.inl rfl) rfl rfl) j_int (fun _ _ => rfl)) (j_var (i := 1) rfl (.inl rfl) rfl rfl) (fun _ _ => rfl))) (fun _ _ _ h => h))) (jss_one (js_if (jb_cmp (op_eqX (hu64 hr)) eq_ok (nomark _) (j_var (i := 3) rfl (.inl rfl) rfl rfl) j_str) (jss_one (js_set (ps_set (i := 1) sc__law_led.nd rfl (.inl rfl) (j_ix (hu65 hr) (j_ix (hu65 hr) (j_var (i := 0) rfl (.inl rfl) rfl rfl) j_int (fun _ _ => rfl)) (j_var (i := 1) rfl (.inl rfl) rfl rfl) (fun _ _ => rfl))) (fun _ _ _ h => h))) (jss_one (js_set (ps_set (i := 1) sc__law_led.nd rfl (.inl rfl) (j_ix (hu65 hr) (j_ix (hu65 hr) (j_var (i := 0) rfl (.inl rfl) rfl rfl) j_int (fun _ _ => rfl)) (j_ix (hu65 hr) (j_ix (hu65 hr) (j_var (i := 0) rfl (.inl rfl) rfl rfl) j_int (fun _ _ => rfl)) (j_var (i := 1) rfl (.inl rfl) rfl rfl) (fun _ _ => rfl)) (fun _ _ => rfl))) (fun _ _ _ h => h))))))) (fun _ => rfl))
  (jss_one (js_ret (j_var (i := 1) rfl (.inl rfl) rfl rfl))))
theorem bi__law_words {w : World} {K : PySem.W.Frag} {mg : Str → Option Value} (c : Facts w K mg) : Binds K c.fd__law_words ["_law_table_here"] [] := c.F__law_words.bindsN fun _ _ _ _ _ _ us hl => match us, hl with | [_], _ => rfl
theorem ok__law_words {P : Program} {w : World} {base : Heap} {K : PySem.W.Frag} {mg : Str → Option Value} (c : Facts w K mg) : FnOk P w K mg base (L2.CX P w) 2 c.f__law_words c.fd__law_words ["_law_table_here"] (spF K mg 1 f__law_words) :=
  fn_ok (N := ["_law_table_here", "_law_words_here", "_law_layer", "_law_later", "_law_some", "_law_here", "_law_word", "_law_place", "_law_letter"]) (n := 8) c.F__law_words sc__law_words rfl fun cdv A outer s H E hr =>
  (jss_cons (js_set (ps_set (i := 1) sc__law_words.nd rfl (.inl rfl) (j_disp (ms := [(cst (.int 0), cst (.str ""))]) (hu65 hr) (pps_cons j_int j_str pps_nil) rfl rfl (by simp) (by simp))) (fun _ _ _ h => h))
  (jss_cons (js_set (ps_set (i := 2) sc__law_words.nd rfl (.inl rfl) (j_lst (js_cons j_str js_nil (by rfl)))) (fun _ _ _ h => h))
  (jss_cons (js_whileC (passes_of rfl) (jb_cmp op_lt cmpI_ok (nomark _) (j_callB call_lenN lenX_ok (by rfl) c.b_len (by decide +kernel) (js_cons (j_var (i := 1) rfl (.inl rfl) rfl rfl) js_nil (by rfl)) (by decide) (by rfl) (by rfl) (by rfl)) (j_callB call_len len_ok (by rfl) c.b_len (by decide +kernel) (js_cons (j_ix (hu65 hr) (j_var (i := 0) rfl (.inl rfl) rfl rfl) j_int (fun _ _ => rfl)) js_nil (by rfl)) (by decide) (by rfl) (by rfl) (by rfl))) (jss_cons (js_set (ps_set (i := 3) sc__law_words.nd rfl (.inl rfl) (j_lst js_nil)) (fun _ _ _ h => h))
  (jss_cons (js_set (ps_set (i := 4) sc__law_words.nd rfl (.inl rfl) (j_lst js_nil)) (fun _ _ _ h => h))
  (jss_cons (js_for (passes_of rfl) rfl (ji_any (j_var (i := 2) rfl (.inl rfl) rfl rfl)) (pg_name (i := 5) sc__law_words.nd rfl (.inr rfl)) (g_name) (jss_one (js_set (ps_set (i := 4) sc__law_words.nd rfl (.inl rfl) (j_op op_addD add_ok (j_var (i := 4) rfl (.inl rfl) rfl rfl) (j_lc (own := [("_law_letter", 8)]) rfl sc__law_words.nd (ji_any j_str) (blkOk_by (N := ["_law_table_here", "_law_words_here", "_law_layer", "_law_later", "_law_some", "_law_here", "_law_word", "_law_place", "_law_letter"]) (sc := (defScope s__law_words)) (by decide +kernel)) (gp_name (by decide)) (fun _ _ _ _ _ => (pg_name (i := 8) sc__law_words.nd rfl (.inl rfl))) (fun _ _ _ _ _ => jts_nil) (fun _ _ _ _ _ => (j_op op_addD add_ok (j_var (i := 5) rfl (by first | exact Or.inr (Or.inl rfl) | exact Or.inr (Or.inr rfl) | exact Or.inl rfl) rfl rfl) (j_var (i := 8) rfl (.inl rfl) rfl rfl))) (fun _ => rfl)))) (fun _ _ _ h => h))) (fun _ => rfl))
  (jss_cons (js_for (passes_of rfl) rfl (ji_any (j_callB cr_sortedT sortT_ok (by rfl) c.b_sorted (by decide +kernel) (js_cons (j_var (i := 4) rfl (.inl rfl) rfl rfl) js_nil (by rfl)) (by decide) (by rfl) (by rfl) (by rfl))) (pg_name (i := 6) sc__law_words.nd rfl (.inl rfl)) (g_name) (jss_cons (js_set (ps_set (i := 7) sc__law_words.nd rfl (.inl rfl) (j_call ((ok__law_led c).mono (by decide)) hr (takes_of (by rfl) (by rfl) (by rfl) (by rfl)) (by rfl) c.g__law_led c.F__law_led.kp (bi__law_led c) (js_cons (j_var (i := 0) rfl (.inl rfl) rfl rfl) (js_cons j_int (js_cons (j_var (i := 6) rfl (.inl rfl) rfl rfl) js_nil (by rfl)) (by rfl)) (by rfl)) (lenC (lenC (lenC lenN))) (by rfl) (by rfl) (by rfl))) (fun _ _ _ h => h))
  (jss_one (js_if (jb_cmp (op_notInX (hu65 hr)) notIn_ok (by with_unfolding_all rfl) (j_var (i := 7) rfl (.inl rfl) rfl rfl) (j_var (i := 1) rfl (.inl rfl) rfl rfl)) (jss_cons (js_asg (j_var (i := 6) rfl (.inl rfl) rfl rfl) (pg_sub (j_var (i := 1) rfl (.inl rfl) rfl rfl) (j_var (i := 7) rfl (.inl rfl) rfl rfl) (set_any (hu65 hr))) g_sub rfl rfl rfl)
  (jss_one (js_expr (j_append (j_var (i := 3) rfl (.inl rfl) rfl rfl) (j_var (i := 6) rfl (.inl rfl) rfl rfl) (by rfl) (by rfl) (by rfl) (by rfl) (by rfl)) rfl))) jss_nil))) (fun _ => rfl))
  (jss_one (js_set (ps_set (i := 2) sc__law_words.nd rfl (.inl rfl) (j_var (i := 3) rfl (.inl rfl) rfl rfl)) (fun _ _ _ h => h))))))))
  (jss_one (js_ret (j_var (i := 1) rfl (.inl rfl) rfl rfl))))))
theorem bi__law_cell_at {w : World} {K : PySem.W.Frag} {mg : Str → Option Value} (c : Facts w K mg) : Binds K c.fd__law_cell_at ["_law_script", "_law_k"] [] := c.F__law_cell_at.bindsN fun _ _ _ _ _ _ us hl => match us, hl with | [_, _], _ => rfl
theorem ok__law_cell_at {P : Program} {w : World} {base : Heap} {K : PySem.W.Frag} {mg : Str → Option Value} (c : Facts w K mg) : FnOk P w K mg base (L2.CX P w) 1 c.f__law_cell_at c.fd__law_cell_at ["_law_script", "_law_k"] (spF K mg 2 f__law_cell_at) :=
  fn_ok (N := ["_law_script", "_law_k"]) (n := 0) c.F__law_cell_at sc__law_cell_at rfl fun cdv A outer s H E hr =>
  (jss_cons (js_if (jb_cmp op_lt cmpI_ok (nomark _) (j_var (i := 1) rfl (.inl rfl) rfl rfl) (j_callB call_len len_ok (by rfl) c.b_len (by decide +kernel) (js_cons (j_var (i := 0) rfl (.inl rfl) rfl rfl) js_nil (by rfl)) (by decide) (by rfl) (by rfl) (by rfl))) (jss_one (js_ret (j_ix (hu65 hr) (j_var (i := 0) rfl (.inl rfl) rfl rfl) (j_var (i := 1) rfl (.inl rfl) rfl rfl) (fun _ _ => rfl)))) jss_nil)
  (jss_one (js_ret j_int)))
theorem bi__law_big {w : World} {K : PySem.W.Frag} {mg : Str → Option Value} (c : Facts w K mg) : Binds K c.fd__law_big ["_law_script", "_law_at"] [] := c.F__law_big.bindsN fun _ _ _ _ _ _ us hl => match us, hl with | [_, _], _ => rfl
theorem ok__law_big {P : Program} {w : World} {base : Heap} {K : PySem.W.Frag} {mg : Str → Option Value} (c : Facts w K mg) : FnOk P w K mg base (L2.CX P w) 2 c.f__law_big c.fd__law_big ["_law_script", "_law_at"] (spF K mg 2 f__law_big) :=
  fn_ok (N := ["_law_script", "_law_at", "_law_by", "_law_prime", "_law_cell", "_law_big_here", "_law_k", "_law_one"]) (n := 6) c.F__law_big sc__law_big rfl fun cdv A outer s H E hr =>
  (jss_cons (js_set (ps_set (i := 2) sc__law_big.nd rfl (.inl rfl) (j_tup (js_cons j_int (js_cons j_int (js_cons j_int (js_cons j_int (js_cons j_int (js_cons j_int (js_cons j_int (js_cons j_int js_nil (by rfl)) (by rfl)) (by rfl)) (by rfl)) (by rfl)) (by rfl)) (by rfl)) (by rfl)))) (fun _ _ _ h => h))
  (jss_cons (js_set (ps_set (i := 3) sc__law_big.nd rfl (.inl rfl) (j_tup (js_cons j_int (js_cons j_int (js_cons j_int (js_cons j_int (js_cons j_int (js_cons j_int (js_cons j_int (js_cons j_int js_nil (by rfl)) (by rfl)) (by rfl)) (by rfl)) (by rfl)) (by rfl)) (by rfl)) (by rfl)))) (fun _ _ _ h => h))
  (jss_cons (js_set (ps_set (i := 4) sc__law_big.nd rfl (.inl rfl) (j_call ((ok__law_cell_at c).mono (by decide)) hr (takes_of (by rfl) (by rfl) (by rfl) (by rfl)) (by rfl) c.g__law_cell_at c.F__law_cell_at.kp (bi__law_cell_at c) (js_cons (j_var (i := 0) rfl (.inl rfl) rfl rfl) (js_cons (j_var (i := 1) rfl (.inl rfl) rfl rfl) js_nil (by rfl)) (by rfl)) (lenC (lenC lenN)) (by rfl) (by rfl) (by rfl))) (fun _ _ _ h => h))
  (jss_cons (js_if (jb_cmp op_ge cmpI_ok (nomark _) (j_var (i := 4) rfl (.inl rfl) rfl rfl) (j_op op_powW pow_ok j_int j_int)) (jss_one (js_ret (j_var (i := 4) rfl (.inl rfl) rfl rfl))) jss_nil)
  (jss_cons (js_set (ps_set (i := 5) sc__law_big.nd rfl (.inl rfl) j_int) (fun _ _ _ h => h))
  (jss_cons (js_for (passes_of rfl) rfl (ji_range1 (by rfl) c.b_range (js_cons j_int js_nil (by rfl)) (by rfl)) (pg_name (i := 6) sc__law_big.nd rfl (.inl rfl)) (g_name) (jss_cons (js_set (ps_set (i := 7) sc__law_big.nd rfl (.inl rfl) (j_op op_addD add_ok (j_op op_addD add_ok (j_op op_modN mod_ok (j_call ((ok__law_cell_at c).mono (by decide)) hr (takes_of (by rfl) (by rfl) (by rfl) (by rfl)) (by rfl) c.g__law_cell_at c.F__law_cell_at.kp (bi__law_cell_at c) (js_cons (j_var (i := 0) rfl (.inl rfl) rfl rfl) (js_cons (j_op op_addD add_ok (j_var (i := 1) rfl (.inl rfl) rfl rfl) (j_op op_modN mod_ok (j_var (i := 6) rfl (.inl rfl) rfl rfl) j_int)) js_nil (by rfl)) (by rfl)) (lenC (lenC lenN)) (by rfl) (by rfl) (by rfl)) (j_op op_powW pow_ok j_int j_int)) j_int) (j_op op_mulW mulI_ok (j_var (i := 6) rfl (.inl rfl) rfl rfl) (j_var (i := 6) rfl (.inl rfl) rfl rfl)))) (fun _ _ _ h => h))
  (jss_one (js_set (ps_set (i := 5) sc__law_big.nd rfl (.inl rfl) (j_op op_addD add_ok (j_op op_mulW mulI_ok (j_var (i := 5) rfl (.inl rfl) rfl rfl) j_int) (j_op op_modN mod_ok (j_op op_modN mod_ok (j_op op_mulW mulI_ok (j_var (i := 7) rfl (.inl rfl) rfl rfl) (j_ix (hu65 hr) (j_var (i := 2) rfl (.inl rfl) rfl rfl) (j_op op_modN mod_ok (j_var (i := 6) rfl (.inl rfl) rfl rfl) j_int) (fun _ _ => rfl))) (j_ix (hu65 hr) (j_var (i := 3) rfl (.inl rfl) rfl rfl) (j_op op_modN mod_ok (j_var (i := 6) rfl (.inl rfl) rfl rfl) j_int) (fun _ _ => rfl))) j_int))) (fun _ _ _ h => h)))) (fun _ => rfl))
  (jss_one (js_ret (j_var (i := 5) rfl (.inl rfl) rfl rfl)))))))))
theorem bi__law_digit {w : World} {K : PySem.W.Frag} {mg : Str → Option Value} (c : Facts w K mg) : Binds K c.fd__law_digit ["_law_rest", "_law_many"] [] := c.F__law_digit.bindsN fun _ _ _ _ _ _ us hl => match us, hl with | [_, _], _ => rfl
theorem ok__law_digit {P : Program} {w : World} {base : Heap} {K : PySem.W.Frag} {mg : Str → Option Value} (c : Facts w K mg) : FnOk P w K mg base (L2.CX P w) 1 c.f__law_digit c.fd__law_digit ["_law_rest", "_law_many"] (spM K 2 f__law_digit) :=
  fn_okM (N := ["_law_rest", "_law_many", "_law_digit_here"]) (n := 1) c.F__law_digit sc__law_digit rfl fun cdv A outer s H E hr =>
  (jss_cons (js_set (ps_set (i := 2) sc__law_digit.nd rfl (.inl rfl) (j_op op_modN mod_ok (j_ix (hu65 hr) (j_var (i := 0) rfl (.inl rfl) rfl rfl) j_int (fun _ _ => rfl)) (j_var (i := 1) rfl (.inl rfl) rfl rfl))) (fun _ _ _ h => h))
  (jss_cons (js_asg (j_op op_fdivZ div_ok (j_ix (hu65 hr) (j_var (i := 0) rfl (.inl rfl) rfl rfl) j_int (fun _ _ => rfl)) (j_var (i := 1) rfl (.inl rfl) rfl rfl)) (pg_sub (j_var (i := 0) rfl (.inl rfl) rfl rfl) j_int (set_any (hu65 hr))) g_sub rfl rfl rfl)
  (jss_one (js_ret (j_var (i := 2) rfl (.inl rfl) rfl rfl)))))
theorem bi__law_fractions {w : World} {K : PySem.W.Frag} {mg : Str → Option Value} (c : Facts w K mg) : Binds K c.fd__law_fractions ["_law_rest", "_law_many"] [] := c.F__law_fractions.bindsN fun _ _ _ _ _ _ us hl => match us, hl with | [_, _], _ => rfl
theorem ok__law_fractions {P : Program} {w : World} {base : Heap} {K : PySem.W.Frag} {mg : Str → Option Value} (c : Facts w K mg) : FnOk P w K mg base (L2.CX P w) 2 c.f__law_fractions c.fd__law_fractions ["_law_rest", "_law_many"] (spM K 2 f__law_fractions) :=
  fn_okM (N := ["_law_rest", "_law_many", "_law_row", "_law_k", "_law_at"]) (n := 3) c.F__law_fractions sc__law_fractions rfl fun cdv A outer s H E hr =>
  (jss_cons (js_set (ps_set (i := 2) sc__law_fractions.nd rfl (.inl rfl) (j_lst (js_cons (j_tup (js_cons (j_un un_neg neg_ok j_int) (js_cons j_int js_nil (by rfl)) (by rfl))) (js_cons (j_tup (js_cons j_int (js_cons j_int js_nil (by rfl)) (by rfl))) (js_cons (j_tup (js_cons j_int (js_cons j_int js_nil (by rfl)) (by rfl))) js_nil (by rfl)) (by rfl)) (by rfl)))) (fun _ _ _ h => h))
  (jss_cons (js_for (passes_of rfl) rfl (ji_range1 (by rfl) c.b_range (js_cons (j_op op_sub sub_ok (j_var (i := 1) rfl (.inl rfl) rfl rfl) j_int) js_nil (by rfl)) (by rfl)) (pg_name (i := 3) sc__law_fractions.nd rfl (.inl rfl)) (g_name) (jss_cons (js_set (ps_set (i := 4) sc__law_fractions.nd rfl (.inl rfl) (j_callM ((ok__law_digit c).mono (by decide)) hr (takes_of (by rfl) (by rfl) (by rfl) (by rfl)) (by rfl) c.g__law_digit c.F__law_digit.kp (bi__law_digit c) (js_cons (j_var (i := 0) rfl (.inl rfl) rfl rfl) (js_cons (j_op op_sub sub_ok (j_callB call_len len_ok (by rfl) c.b_len (by decide +kernel) (js_cons (j_var (i := 2) rfl (.inl rfl) rfl rfl) js_nil (by rfl)) (by decide) (by rfl) (by rfl) (by rfl)) j_int) js_nil (by rfl)) (by rfl)) (lenC (lenC lenN)) (by rfl) (by rfl) (by rfl))) (fun _ _ _ h => h))
  (jss_one (js_expr (j_mut PySem.F.plainAttrs_list PySem.F.slot_list_insert PySem.F.type_list_insert mt_insert ins_ok (j_var (i := 2) rfl (.inl rfl) rfl rfl) (js_cons (j_op op_addD add_ok (j_var (i := 4) rfl (.inl rfl) rfl rfl) j_int) (js_cons (j_tup (js_cons (j_op op_addD add_ok (j_ix (hu65 hr) (j_ix (hu65 hr) (j_var (i := 2) rfl (.inl rfl) rfl rfl) (j_var (i := 4) rfl (.inl rfl) rfl rfl) (fun _ _ => rfl)) j_int (fun _ _ => rfl)) (j_ix (hu65 hr) (j_ix (hu65 hr) (j_var (i := 2) rfl (.inl rfl) rfl rfl) (j_op op_addD add_ok (j_var (i := 4) rfl (.inl rfl) rfl rfl) j_int) (fun _ _ => rfl)) j_int (fun _ _ => rfl))) (js_cons (j_op op_addD add_ok (j_ix (hu65 hr) (j_ix (hu65 hr) (j_var (i := 2) rfl (.inl rfl) rfl rfl) (j_var (i := 4) rfl (.inl rfl) rfl rfl) (fun _ _ => rfl)) j_int (fun _ _ => rfl)) (j_ix (hu65 hr) (j_ix (hu65 hr) (j_var (i := 2) rfl (.inl rfl) rfl rfl) (j_op op_addD add_ok (j_var (i := 4) rfl (.inl rfl) rfl rfl) j_int) (fun _ _ => rfl)) j_int (fun _ _ => rfl))) js_nil (by rfl)) (by rfl))) js_nil (by rfl)) (by rfl)) (by rfl) (by rfl) (by rfl) (by rfl) (by rfl)) rfl))) (fun _ => rfl))
  (jss_one (js_ret (j_callTy call_tuple_of tuple_ok (by rfl) c.b_tuple (by decide +kernel) (js_cons (j_op op_addD add_ok (j_lst (js_cons (j_tup (js_cons j_int (js_cons j_int js_nil (by rfl)) (by rfl))) js_nil (by rfl))) (j_slice (j_var (i := 2) rfl (.inl rfl) rfl rfl) (jo_some j_int) (jo_some (j_op op_sub sub_ok (j_callB call_len len_ok (by rfl) c.b_len (by decide +kernel) (js_cons (j_var (i := 2) rfl (.inl rfl) rfl rfl) js_nil (by rfl)) (by decide) (by rfl) (by rfl) (by rfl)) j_int)))) js_nil (by rfl)) (by decide) (by rfl) (by rfl) (by rfl))))))
theorem bi__law_marks {w : World} {K : PySem.W.Frag} {mg : Str → Option Value} (c : Facts w K mg) : Binds K c.fd__law_marks ["_law_rest", "_law_many"] [] := c.F__law_marks.bindsN fun _ _ _ _ _ _ us hl => match us, hl with | [_, _], _ => rfl
theorem ok__law_marks {P : Program} {w : World} {base : Heap} {K : PySem.W.Frag} {mg : Str → Option Value} (c : Facts w K mg) : FnOk P w K mg base (L2.CX P w) 2 c.f__law_marks c.fd__law_marks ["_law_rest", "_law_many"] (spM K 2 f__law_marks) :=
  fn_okM (N := ["_law_rest", "_law_many", "_law_marks_here", "_law_left", "_law_gap", "_law_way", "_law_other"]) (n := 5) c.F__law_marks sc__law_marks rfl fun cdv A outer s H E hr =>
  (jss_cons (js_setLc (i := 2) (own := [("_law_gap", 4)]) rfl sc__law_marks.nd rfl rfl (sw_true rfl rfl rfl (by decide +kernel)) (ji_range1 (by rfl) c.b_range (js_cons (j_var (i := 1) rfl (.inl rfl) rfl rfl) js_nil (by rfl)) (by rfl)) (blkOk_by (N := ["_law_rest", "_law_many", "_law_marks_here", "_law_left", "_law_gap", "_law_way", "_law_other"]) (sc := (defScope s__law_marks)) (by decide +kernel)) (gp_name (by decide)) (fun _ _ _ _ _ => (pg_name (i := 4) sc__law_marks.nd rfl (.inl rfl))) (fun _ _ _ _ _ => jts_nil) (fun _ _ _ _ _ => j_str) (fun _ => rfl))
  (jss_cons (js_set (ps_set (i := 3) sc__law_marks.nd rfl (.inl rfl) (j_listRange rfl (by rfl) c.b_range (by rfl) c.b_list (js_cons (j_var (i := 1) rfl (.inl rfl) rfl rfl) js_nil (by rfl)) (by rfl) (by rfl) (by rfl) (by rfl))) (fun _ _ _ h => h))
  (jss_cons (js_whileC (passes_of rfl) (jb_cmp (op_neX (hu64 hr)) ne_ok (nomark _) (j_var (i := 3) rfl (.inl rfl) rfl rfl) (j_lst js_nil)) (jss_cons (js_set (ps_set (i := 4) sc__law_marks.nd rfl (.inl rfl) (j_mut PySem.F.plainAttrs_list PySem.F.slot_list_pop PySem.F.type_list_pop mt_popAt popAt_ok (j_var (i := 3) rfl (.inl rfl) rfl rfl) (js_cons j_int js_nil (by rfl)) (by rfl) (by rfl) (by rfl) (by rfl) (by rfl))) (fun _ _ _ h => h))
  (jss_cons (js_set (ps_set (i := 5) sc__law_marks.nd rfl (.inl rfl) (j_callM ((ok__law_digit c).mono (by decide)) hr (takes_of (by rfl) (by rfl) (by rfl) (by rfl)) (by rfl) c.g__law_digit c.F__law_digit.kp (bi__law_digit c) (js_cons (j_var (i := 0) rfl (.inl rfl) rfl rfl) (js_cons j_int js_nil (by rfl)) (by rfl)) (lenC (lenC lenN)) (by rfl) (by rfl) (by rfl))) (fun _ _ _ h => h))
  (jss_cons (js_if (jb_cmp (op_eqX (hu64 hr)) eq_ok (nomark _) (j_var (i := 5) rfl (.inl rfl) rfl rfl) j_int) (jss_one (js_asg j_str (pg_sub (j_var (i := 2) rfl (.inl rfl) rfl rfl) (j_var (i := 4) rfl (.inl rfl) rfl rfl) (set_any (hu65 hr))) g_sub rfl rfl rfl)) jss_nil)
  (jss_one (js_if (jw_and (jb_cmp op_gt cmpI_ok (nomark _) (j_var (i := 5) rfl (.inl rfl) rfl rfl) j_int) (jw_and1 (jb_cmp (op_neX (hu64 hr)) ne_ok (nomark _) (j_var (i := 3) rfl (.inl rfl) rfl rfl) (j_lst js_nil)))).pt (jss_cons (js_set (ps_set (i := 6) sc__law_marks.nd rfl (.inl rfl) (j_mut PySem.F.plainAttrs_list PySem.F.slot_list_pop PySem.F.type_list_pop mt_popAt popAt_ok (j_var (i := 3) rfl (.inl rfl) rfl rfl) (js_cons (j_callM ((ok__law_digit c).mono (by decide)) hr (takes_of (by rfl) (by rfl) (by rfl) (by rfl)) (by rfl) c.g__law_digit c.F__law_digit.kp (bi__law_digit c) (js_cons (j_var (i := 0) rfl (.inl rfl) rfl rfl) (js_cons (j_callB call_len len_ok (by rfl) c.b_len (by decide +kernel) (js_cons (j_var (i := 3) rfl (.inl rfl) rfl rfl) js_nil (by rfl)) (by decide) (by rfl) (by rfl) (by rfl)) js_nil (by rfl)) (by rfl)) (lenC (lenC lenN)) (by rfl) (by rfl) (by rfl)) js_nil (by rfl)) (by rfl) (by rfl) (by rfl) (by rfl) (by rfl))) (fun _ _ _ h => h))
  (jss_cons (js_asg (j_var (i := 6) rfl (.inl rfl) rfl rfl) (pg_sub (j_var (i := 2) rfl (.inl rfl) rfl rfl) (j_var (i := 4) rfl (.inl rfl) rfl rfl) (set_any (hu65 hr))) g_sub rfl rfl rfl)
  (jss_one (js_asg (j_var (i := 4) rfl (.inl rfl) rfl rfl) (pg_sub (j_var (i := 2) rfl (.inl rfl) rfl rfl) (j_var (i := 6) rfl (.inl rfl) rfl rfl) (set_any (hu65 hr))) g_sub rfl rfl rfl)))) jss_nil))))))
  (jss_cons (js_if (jw_and (jb_cmp (op_eqX (hu64 hr)) eq_ok (nomark _) (j_var (i := 1) rfl (.inl rfl) rfl rfl) j_int) (jw_and1 (jb_cmp (op_notInX (hu65 hr)) notIn_ok (by with_unfolding_all rfl) j_str (j_var (i := 2) rfl (.inl rfl) rfl rfl)))).pt (jss_one (js_set (ps_set (i := 2) sc__law_marks.nd rfl (.inl rfl) (j_lst (js_cons j_str (js_cons j_str js_nil (by rfl)) (by rfl)))) (fun _ _ _ h => h))) jss_nil)
  (jss_one (js_ret (j_callTy call_tuple_of tuple_ok (by rfl) c.b_tuple (by decide +kernel) (js_cons (j_var (i := 2) rfl (.inl rfl) rfl rfl) js_nil (by rfl)) (by decide) (by rfl) (by rfl) (by rfl))))))))
theorem bi__law_fan {w : World} {K : PySem.W.Frag} {mg : Str → Option Value} (c : Facts w K mg) : Binds K c.fd__law_fan ["_law_rest", "_law_most", "_law_great"] [] := c.F__law_fan.bindsN fun _ _ _ _ _ _ us hl => match us, hl with | [_, _, _], _ => rfl
theorem ok__law_fan {P : Program} {w : World} {base : Heap} {K : PySem.W.Frag} {mg : Str → Option Value} (c : Facts w K mg) : FnOk P w K mg base (L2.CX P w) 3 c.f__law_fan c.fd__law_fan ["_law_rest", "_law_most", "_law_great"] (spM K 3 f__law_fan) :=
  fn_okM (N := ["_law_rest", "_law_most", "_law_great", "_law_many"]) (n := 1) c.F__law_fan sc__law_fan rfl fun cdv A outer s H E hr =>
  (jss_cons (js_set (ps_set (i := 3) sc__law_fan.nd rfl (.inl rfl) (j_op op_addD add_ok j_int (j_callM ((ok__law_digit c).mono (by decide)) hr (takes_of (by rfl) (by rfl) (by rfl) (by rfl)) (by rfl) c.g__law_digit c.F__law_digit.kp (bi__law_digit c) (js_cons (j_var (i := 0) rfl (.inl rfl) rfl rfl) (js_cons (j_op op_sub sub_ok (j_var (i := 1) rfl (.inl rfl) rfl rfl) j_int) js_nil (by rfl)) (by rfl)) (lenC (lenC lenN)) (by rfl) (by rfl) (by rfl)))) (fun _ _ _ h => h))
  (jss_cons (js_if (jb_cmp (op_eqX (hu64 hr)) eq_ok (nomark _) (j_callM ((ok__law_digit c).mono (by decide)) hr (takes_of (by rfl) (by rfl) (by rfl) (by rfl)) (by rfl) c.g__law_digit c.F__law_digit.kp (bi__law_digit c) (js_cons (j_var (i := 0) rfl (.inl rfl) rfl rfl) (js_cons j_int js_nil (by rfl)) (by rfl)) (lenC (lenC lenN)) (by rfl) (by rfl) (by rfl)) j_int) (jss_one (js_set (ps_set (i := 3) sc__law_fan.nd rfl (.inl rfl) (j_op op_addD add_ok j_int (j_callM ((ok__law_digit c).mono (by decide)) hr (takes_of (by rfl) (by rfl) (by rfl) (by rfl)) (by rfl) c.g__law_digit c.F__law_digit.kp (bi__law_digit c) (js_cons (j_var (i := 0) rfl (.inl rfl) rfl rfl) (js_cons (j_op op_sub sub_ok (j_var (i := 2) rfl (.inl rfl) rfl rfl) j_int) js_nil (by rfl)) (by rfl)) (lenC (lenC lenN)) (by rfl) (by rfl) (by rfl)))) (fun _ _ _ h => h))) jss_nil)
  (jss_one (js_ret (j_tup (js_cons (j_callM ((ok__law_fractions c).mono (by decide)) hr (takes_of (by rfl) (by rfl) (by rfl) (by rfl)) (by rfl) c.g__law_fractions c.F__law_fractions.kp (bi__law_fractions c) (js_cons (j_var (i := 0) rfl (.inl rfl) rfl rfl) (js_cons (j_var (i := 3) rfl (.inl rfl) rfl rfl) js_nil (by rfl)) (by rfl)) (lenC (lenC lenN)) (by rfl) (by rfl) (by rfl)) (js_cons (j_callM ((ok__law_marks c).mono (by decide)) hr (takes_of (by rfl) (by rfl) (by rfl) (by rfl)) (by rfl) c.g__law_marks c.F__law_marks.kp (bi__law_marks c) (js_cons (j_var (i := 0) rfl (.inl rfl) rfl rfl) (js_cons (j_var (i := 3) rfl (.inl rfl) rfl rfl) js_nil (by rfl)) (by rfl)) (lenC (lenC lenN)) (by rfl) (by rfl) (by rfl)) js_nil (by rfl)) (by rfl)))))))
theorem bi_led_by {w : World} {K : PySem.W.Frag} {mg : Str → Option Value} (c : Facts w K mg) : Binds K c.fd_led_by ["table", "place", "letter"] [] := c.F_led_by.bindsN fun _ _ _ _ _ _ us hl => match us, hl with | [_, _, _], _ => rfl
theorem ok_led_by {P : Program} {w : World} {base : Heap} {K : PySem.W.Frag} {mg : Str → Option Value} (c : Facts w K mg) : FnOk P w K mg base (L2.CX P w) 1 c.f_led_by c.fd_led_by ["table", "place", "letter"] (spF K mg 3 f_led_by) :=
  fn_ok (N := ["table", "place", "letter", "halves", "thirds"]) (n := 2) c.F_led_by sc_led_by rfl fun cdv A outer s H E hr =>
  (jss_cons (js_asg (j_var (i := 0) rfl (.inl rfl) rfl rfl) (pg_seq rfl (pgs_cons (pg_name (i := 3) sc_led_by.nd rfl (.inl rfl)) (pgs_cons (pg_name (i := 4) sc_led_by.nd rfl (.inl rfl)) pgs_nil)) rfl rfl) (g_seq (gs_cons (g_name) (gs_cons (g_name) gs_nil))) rfl rfl rfl)
  (jss_cons (js_if (jb_cmp (op_eqX (hu64 hr)) eq_ok (nomark _) (j_var (i := 2) rfl (.inl rfl) rfl rfl) j_str) (jss_one (js_ret (j_ix (hu65 hr) (j_var (i := 3) rfl (.inl rfl) rfl rfl) (j_var (i := 1) rfl (.inl rfl) rfl rfl) (fun _ _ => rfl)))) jss_nil)
  (jss_cons (js_if (jw_or (jb_cmp (op_eqX (hu64 hr)) eq_ok (nomark _) (j_var (i := 2) rfl (.inl rfl) rfl rfl) j_str) (jw_or1 (jb_cmp op_isN is_ok (nomark _) (j_ix (hu65 hr) (j_var (i := 4) rfl (.inl rfl) rfl rfl) (j_var (i := 1) rfl (.inl rfl) rfl rfl) (fun _ _ => rfl)) j_non))).pt (jss_one (js_ret (j_ix (hu65 hr) (j_var (i := 4) rfl (.inl rfl) rfl rfl) (j_var (i := 1) rfl (.inl rfl) rfl rfl) (fun _ _ => rfl)))) jss_nil)
  (jss_one (js_ret (j_ix (hu65 hr) (j_var (i := 4) rfl (.inl rfl) rfl rfl) (j_ix (hu65 hr) (j_var (i := 4) rfl (.inl rfl) rfl rfl) (j_var (i := 1) rfl (.inl rfl) rfl rfl) (fun _ _ => rfl)) (fun _ _ => rfl)))))))
theorem bi_word_to {w : World} {K : PySem.W.Frag} {mg : Str → Option Value} (c : Facts w K mg) : Binds K c.fd_word_to ["table", "place"] [] := c.F_word_to.bindsN fun _ _ _ _ _ _ us hl => match us, hl with | [_, _], _ => rfl
theorem ok_word_to {P : Program} {w : World} {base : Heap} {K : PySem.W.Frag} {mg : Str → Option Value} (c : Facts w K mg) : FnOk P w K mg base (L2.CX P w) 2 c.f_word_to c.fd_word_to ["table", "place"] (spF K mg 2 f_word_to) :=
  fn_ok (N := ["table", "place", "words", "waiting", "later", "here", "letter", "there"]) (n := 6) c.F_word_to sc_word_to rfl fun cdv A outer s H E hr =>
  (jss_cons (js_set (ps_set (i := 2) sc_word_to.nd rfl (.inl rfl) (j_disp (ms := [(cst (.int 0), cst (.str ""))]) (hu65 hr) (pps_cons j_int j_str pps_nil) rfl rfl (by simp) (by simp))) (fun _ _ _ h => h))
  (jss_cons (js_set (ps_set (i := 3) sc_word_to.nd rfl (.inl rfl) (j_lst (js_cons j_int js_nil (by rfl)))) (fun _ _ _ h => h))
  (jss_cons (js_whileC (passes_of rfl) (jb_cmp (op_notInX (hu65 hr)) notIn_ok (by with_unfolding_all rfl) (j_var (i := 1) rfl (.inl rfl) rfl rfl) (j_var (i := 2) rfl (.inl rfl) rfl rfl)) (jss_cons (js_set (ps_set (i := 4) sc_word_to.nd rfl (.inl rfl) (j_lst js_nil)) (fun _ _ _ h => h))
  (jss_cons (js_for (passes_of rfl) rfl (ji_any (j_var (i := 3) rfl (.inl rfl) rfl rfl)) (pg_name (i := 5) sc_word_to.nd rfl (.inl rfl)) (g_name) (jss_one (js_for (passes_of rfl) rfl (ji_any (j_glob (by rfl) c.c_LETTERS (by rfl))) (pg_name (i := 6) sc_word_to.nd rfl (.inl rfl)) (g_name) (jss_cons (js_set (ps_set (i := 7) sc_word_to.nd rfl (.inl rfl) (j_call ((ok_led_by c).mono (by decide)) hr (takes_of (by rfl) (by rfl) (by rfl) (by rfl)) (by rfl) c.g_led_by c.F_led_by.kp (bi_led_by c) (js_cons (j_var (i := 0) rfl (.inl rfl) rfl rfl) (js_cons (j_var (i := 5) rfl (.inl rfl) rfl rfl) (js_cons (j_var (i := 6) rfl (.inl rfl) rfl rfl) js_nil (by rfl)) (by rfl)) (by rfl)) (lenC (lenC (lenC lenN))) (by rfl) (by rfl) (by rfl))) (fun _ _ _ h => h))
  (jss_one (js_if (jb_cmp (op_notInX (hu65 hr)) notIn_ok (by with_unfolding_all rfl) (j_var (i := 7) rfl (.inl rfl) rfl rfl) (j_var (i := 2) rfl (.inl rfl) rfl rfl)) (jss_cons (js_asg (j_op op_addD add_ok (j_ix (hu65 hr) (j_var (i := 2) rfl (.inl rfl) rfl rfl) (j_var (i := 5) rfl (.inl rfl) rfl rfl) (fun _ _ => rfl)) (j_var (i := 6) rfl (.inl rfl) rfl rfl)) (pg_sub (j_var (i := 2) rfl (.inl rfl) rfl rfl) (j_var (i := 7) rfl (.inl rfl) rfl rfl) (set_any (hu65 hr))) g_sub rfl rfl rfl)
  (jss_one (js_expr (j_append (j_var (i := 4) rfl (.inl rfl) rfl rfl) (j_var (i := 7) rfl (.inl rfl) rfl rfl) (by rfl) (by rfl) (by rfl) (by rfl) (by rfl)) rfl))) jss_nil))) (fun _ => rfl))) (fun _ => rfl))
  (jss_one (js_set (ps_set (i := 3) sc_word_to.nd rfl (.inl rfl) (j_var (i := 4) rfl (.inl rfl) rfl rfl)) (fun _ _ _ h => h))))))
  (jss_one (js_ret (j_ix (hu65 hr) (j_var (i := 2) rfl (.inl rfl) rfl rfl) (j_var (i := 1) rfl (.inl rfl) rfl rfl) (fun _ _ => rfl)))))))
theorem ok_law {P : Program} {w : World} {base : Heap} {K : PySem.W.Frag} {mg : Str → Option Value} (c : Facts w K mg) : FnOk P w K mg base (L2.CX P w) 4 c.f_law c.fd_law ["_law_script"] (spF K mg 1 f_law) :=
  fn_ok (N := ["_law_script", "_law_k", "_law_rest", "_law_table_here", "_law_words_here", "_law_place", "_law_found"]) (n := 6) c.F_law sc_law rfl fun cdv A outer s H E hr =>
  (jss_cons (js_for (passes_of rfl) rfl (ji_range1 (by rfl) c.b_range (js_cons (j_callB (call_max2 rfl) max2_ok (by rfl) c.b_max (by decide +kernel) (js_cons j_int (js_cons (j_callB (call_min2 rfl) min2_ok (by rfl) c.b_min (by decide +kernel) (js_cons j_int (js_cons (j_callB call_len len_ok (by rfl) c.b_len (by decide +kernel) (js_cons (j_var (i := 0) rfl (.inl rfl) rfl rfl) js_nil (by rfl)) (by decide) (by rfl) (by rfl) (by rfl)) js_nil (by rfl)) (by rfl)) (by decide) (by rfl) (by rfl) (by rfl)) js_nil (by rfl)) (by rfl)) (by decide) (by rfl) (by rfl) (by rfl)) js_nil (by rfl)) (by rfl)) (pg_name (i := 1) sc_law.nd rfl (.inl rfl)) (g_name) (jss_cons (js_set (ps_set (i := 2) sc_law.nd rfl (.inl rfl) (j_lst (js_cons (j_call ((ok__law_big c).mono (by decide)) hr (takes_of (by rfl) (by rfl) (by rfl) (by rfl)) (by rfl) c.g__law_big c.F__law_big.kp (bi__law_big c) (js_cons (j_var (i := 0) rfl (.inl rfl) rfl rfl) (js_cons (j_var (i := 1) rfl (.inl rfl) rfl rfl) js_nil (by rfl)) (by rfl)) (lenC (lenC lenN)) (by rfl) (by rfl) (by rfl)) js_nil (by rfl)))) (fun _ _ _ h => h))
  (jss_cons (js_set (ps_set (i := 3) sc_law.nd rfl (.inl rfl) (j_call ((ok__law_table c).mono (by decide)) hr (takes_of (by rfl) (by rfl) (by rfl) (by rfl)) (by rfl) c.g__law_table c.F__law_table.kp (bi__law_table c) (js_cons (j_callM ((ok__law_fan c).mono (by decide)) hr (takes_of (by rfl) (by rfl) (by rfl) (by rfl)) (by rfl) c.g__law_fan c.F__law_fan.kp (bi__law_fan c) (js_cons (j_var (i := 2) rfl (.inl rfl) rfl rfl) (js_cons j_int (js_cons j_int js_nil (by rfl)) (by rfl)) (by rfl)) (lenC (lenC (lenC lenN))) (by rfl) (by rfl) (by rfl)) js_nil (by rfl)) (lenC lenN) (by rfl) (by rfl) (by rfl))) (fun _ _ _ h => h))
  (jss_cons (js_set (ps_set (i := 3) sc_law.nd rfl (.inl rfl) (j_call ((ok__law_anew c).mono (by decide)) hr (takes_of (by rfl) (by rfl) (by rfl) (by rfl)) (by rfl) c.g__law_anew c.F__law_anew.kp (bi__law_anew c) (js_cons (j_ix (hu65 hr) (j_var (i := 3) rfl (.inl rfl) rfl rfl) j_int (fun _ _ => rfl)) (js_cons (j_ix (hu65 hr) (j_var (i := 3) rfl (.inl rfl) rfl rfl) j_int (fun _ _ => rfl)) (js_cons (j_callM ((ok__law_digit c).mono (by decide)) hr (takes_of (by rfl) (by rfl) (by rfl) (by rfl)) (by rfl) c.g__law_digit c.F__law_digit.kp (bi__law_digit c) (js_cons (j_var (i := 2) rfl (.inl rfl) rfl rfl) (js_cons (j_callB call_len len_ok (by rfl) c.b_len (by decide +kernel) (js_cons (j_ix (hu65 hr) (j_var (i := 3) rfl (.inl rfl) rfl rfl) j_int (fun _ _ => rfl)) js_nil (by rfl)) (by decide) (by rfl) (by rfl) (by rfl)) js_nil (by rfl)) (by rfl)) (lenC (lenC lenN)) (by rfl) (by rfl) (by rfl)) js_nil (by rfl)) (by rfl)) (by rfl)) (lenC (lenC (lenC lenN))) (by rfl) (by rfl) (by rfl))) (fun _ _ _ h => h))
  (jss_cons (js_set (ps_set (i := 4) sc_law.nd rfl (.inl rfl) (j_call ((ok__law_words c).mono (by decide)) hr (takes_of (by rfl) (by rfl) (by rfl) (by rfl)) (by rfl) c.g__law_words c.F__law_words.kp (bi__law_words c) (js_cons (j_var (i := 3) rfl (.inl rfl) rfl rfl) js_nil (by rfl)) (lenC lenN) (by rfl) (by rfl) (by rfl))) (fun _ _ _ h => h))
  (jss_one (js_for (passes_of rfl) rfl (ji_any (j_var (i := 4) rfl (.inl rfl) rfl rfl)) (pg_name (i := 5) sc_law.nd rfl (.inl rfl)) (g_name) (jss_cons (js_set (ps_set (i := 6) sc_law.nd rfl (.inl rfl) (j_call ((ok_word_to c).mono (by decide)) hr (takes_of (by rfl) (by rfl) (by rfl) (by rfl)) (by rfl) c.g_word_to c.F_word_to.kp (bi_word_to c) (js_cons (j_var (i := 3) rfl (.inl rfl) rfl rfl) (js_cons (j_var (i := 5) rfl (.inl rfl) rfl rfl) js_nil (by rfl)) (by rfl)) (lenC (lenC lenN)) (by rfl) (by rfl) (by rfl))) (fun _ _ _ h => h))
  (jss_one (js_if (jw_or (jb_not (jb_val (j_isi kit_str (by rfl) c.b_isinstance (by rfl) c.b_str (by decide +kernel) (j_var (i := 6) rfl (.inl rfl) rfl rfl) (by decide) (by rfl) (by rfl) (by rfl) (by rfl)) (fun _ => rfl))) (jw_or1 (jb_cmp (op_neX (hu64 hr)) ne_ok (nomark _) (j_var (i := 6) rfl (.inl rfl) rfl rfl) (j_ix (hu65 hr) (j_var (i := 4) rfl (.inl rfl) rfl rfl) (j_var (i := 5) rfl (.inl rfl) rfl rfl) (fun _ _ => rfl))))).pt (jss_one (js_ret j_bl)) jss_nil))) (fun _ => rfl))))))) (fun _ => rfl))
  (jss_one (js_ret j_bl)))
end K31
set_option Elab.async false
set_option maxRecDepth 100000
set_option maxHeartbeats 4000000
namespace K31
open PySem L2 DL
theorem e_big : f__law_big = fl_big := rfl
theorem e_dig : f__law_digit = fl_dig := rfl
theorem e_table : f__law_table = fl_table1 := rfl
theorem e_anew : f__law_anew = fl_anew := rfl
theorem e_led : f__law_led = fl_led1 := rfl
theorem e_wordto : f_word_to = ft_wordto := rfl
section
variable {hs ts : List Nat}
def lwL (hs ts : List Nat) (l0 r : WS) (u : List Nat) : WS := if ledT hs ts u 0 ∈ (l0 ++ r).map (·.1) then r else r ++ [(ledT hs ts u 0, u)]
def three (w : List Nat) : List (List Nat) := [w ++ [113], w ++ [114], w ++ [115]]
theorem ledT_snoc (w : List Nat) (c : Nat) : ledT hs ts (w ++ [c]) 0 = ledL hs ts (ledT hs ts w 0) c := by
  unfold ledT
  rw [List.foldl_append]
  rfl
theorem wtL_lw (l0 r : WS) (w : List Nat) (c : Nat) : wtL hs ts (ledT hs ts w 0) w (l0 ++ r, r.map (·.1)) c = (l0 ++ lwL hs ts l0 r (w ++ [c]), (lwL hs ts l0 r (w ++ [c])).map (·.1)) := by
  unfold wtL lwL
  rw [ledT_snoc]
  dsimp only
  by_cases h : ledL hs ts (ledT hs ts w 0) c ∈ (l0 ++ r).map (·.1)
  · rw [if_pos h, if_pos h]
  · rw [if_neg h, if_neg h]
    simp
theorem lwF_pre (l0 : WS) : ∀ (us : List (List Nat)) (r : WS), ∃ q, us.foldl (lwL hs ts l0) r = r ++ q ∧ (q.map (·.2)).Sublist us
  | [], r => ⟨[], by simp, by simp⟩
  | u :: us, r => by
    obtain ⟨q, e, s⟩ := lwF_pre l0 us (lwL hs ts l0 r u)
    rw [List.foldl_cons, e]
    unfold lwL
    split
    · exact ⟨q, rfl, s.cons u⟩
    · exact ⟨(ledT hs ts u 0, u) :: q, by simp, by simpa using s⟩
theorem wtH_lw (l0 r : WS) (w : List Nat) (g : getA (l0 ++ r) (ledT hs ts w 0) = some w) : wtH hs ts (l0 ++ r, r.map (·.1)) (ledT hs ts w 0) = (l0 ++ (three w).foldl (lwL hs ts l0) r, ((three w).foldl (lwL hs ts l0) r).map (·.1)) := by
  unfold wtH three
  rw [g]
  show List.foldl _ _ [113, 114, 115] = _
  rw [Option.getD_some, List.foldl_cons, wtL_lw, List.foldl_cons, wtL_lw, List.foldl_cons, wtL_lw]
  rfl
/-- a round over the places is one over the words -/
theorem wtR_lw (l0 : WS) : ∀ (q r : WS), (∀ p ∈ q, getA l0 p.1 = some p.2 ∧ ledT hs ts p.2 0 = p.1) →
    (q.map (·.1)).foldl (wtH hs ts) (l0 ++ r, r.map (·.1)) = (l0 ++ ((q.map (·.2)).flatMap three).foldl (lwL hs ts l0) r, (((q.map (·.2)).flatMap three).foldl (lwL hs ts l0) r).map (·.1))
  | [], r, _ => rfl
  | (k, w) :: q, r, h => by
    obtain ⟨g, e⟩ := h (k, w) List.mem_cons_self
    dsimp only at g e
    subst e
    have g' : getA (l0 ++ r) (ledT hs ts w 0) = some w := by rw [getA_app, g]
    rw [List.map_cons, List.foldl_cons, wtH_lw l0 r w g', List.map_cons, List.flatMap_cons, List.foldl_append]
    exact wtR_lw l0 q _ fun p hp => h p (List.mem_cons_of_mem _ hp)
def Ly (R : Nat) (ws : List (List Nat)) : Prop := (∀ w ∈ ws, w.length = R) ∧ ws.Pairwise (· < ·)
theorem lt_snoc : ∀ {a b : List Nat} (c d : Nat), a.length = b.length → a < b → a ++ [c] < b ++ [d]
  | [], [], _, _, _, h => absurd h (List.lt_irrefl _)
  | [], _ :: _, _, _, h, _ => by simp at h
  | _ :: _, [], _, _, h, _ => by simp at h
  | x :: a, y :: b, c, d, hl, h => by
    rw [List.cons_append, List.cons_append, List.cons_lt_cons_iff]
    rw [List.cons_lt_cons_iff] at h
    rcases h with h | ⟨h1, h2⟩
    · exact .inl h
    · exact .inr ⟨h1, lt_snoc c d (by simpa using hl) h2⟩
theorem lt_last (a : List Nat) {c d : Nat} (h : c < d) : a ++ [c] < a ++ [d] := List.append_left_lt (by
  rw [List.cons_lt_cons_iff]
  exact .inl h)
theorem ly_three {R : Nat} : ∀ {ws : List (List Nat)}, Ly R ws → Ly (R + 1) (ws.flatMap three)
  | [], _ => ⟨fun w h => absurd h (by simp), by simp⟩
  | w :: ws, h => by
    obtain ⟨h1, h2⟩ := h
    rw [List.pairwise_cons] at h2
    obtain ⟨i1, i2⟩ := ly_three (R := R) (ws := ws) ⟨fun u hu => h1 u (List.mem_cons_of_mem _ hu), h2.2⟩
    have hw := h1 w List.mem_cons_self
    have far : ∀ (c : Nat) (u : List Nat), u ∈ ws.flatMap three → w ++ [c] < u := fun c u hu => by
      obtain ⟨v, hv, hu⟩ := List.mem_flatMap.mp hu
      have hvl := h1 v (List.mem_cons_of_mem _ hv)
      have hlt := h2.1 v hv
      simp only [three, List.mem_cons, List.not_mem_nil, or_false] at hu
      rcases hu with rfl | rfl | rfl
      · exact lt_snoc c 113 (by omega) hlt
      · exact lt_snoc c 114 (by omega) hlt
      · exact lt_snoc c 115 (by omega) hlt
    refine ⟨fun u hu => ?_, ?_⟩
    · rw [List.flatMap_cons] at hu
      rcases List.mem_append.mp hu with z | z
      · simp only [three, List.mem_cons, List.not_mem_nil, or_false] at z
        rcases z with rfl | rfl | rfl <;> simp [hw]
      · exact i1 u z
    · rw [List.flatMap_cons, List.pairwise_append]
      refine ⟨?_, i2, fun a ha b hb => ?_⟩
      · simp only [three, List.pairwise_cons, List.mem_cons, List.not_mem_nil, or_false, forall_eq_or_imp, forall_eq, false_imp_iff, implies_true, List.Pairwise.nil, and_true]
        exact ⟨⟨lt_last w (by decide), lt_last w (by decide)⟩, lt_last w (by decide)⟩
      · simp only [three, List.mem_cons, List.not_mem_nil, or_false] at ha
        rcases ha with rfl | rfl | rfl <;> exact far _ b hb
theorem ly_sub {R : Nat} {us ws : List (List Nat)} (h : Ly R us) (s : ws.Sublist us) : Ly R ws := ⟨fun w hw => h.1 w (s.subset hw), h.2.sublist s⟩
theorem ly_order {R : Nat} {ws : List (List Nat)} (h : Ly R ws) : InOrder (ws.map mkS) := by
  unfold InOrder
  rw [List.pairwise_map]
  exact h.2.imp fun {a b} hab z => List.lt_asymm hab (show b < a from z)
end
end K31
set_option Elab.async false
set_option maxRecDepth 100000
set_option maxHeartbeats 4000000
namespace K31
open PySem L2 DL
noncomputable def wsC : M Bool := (tcmp fLt (callB fLenX (argC (getM 1) (argN))) (callB fLen (argC (DL.bin fIx (getM 0) (cst (.int 0))) (argN))))
noncomputable def wsS : M Fl := (setS 4 (DL.bin fAdd (getM 4) (lcM (put1 8) (M.ret true) (DL.bin fAdd (getM 5) (getM 8)) [8] (itA (cst (.str "qrs"))))))
noncomputable def wsW : M Fl := (seqM (setS 7 (callF f__law_led (argC (getM 0) (argC (cst (.int 0)) (argC (getM 6) (argN))))))
  (ifS (tcmp fNotIn (getM 7) (getM 1)) (seqM (asgS (asgSub (getM 1) (getM 7)) (getM 6))
  (exS (apE (getM 3) (getM 6)))) (nilS)))
noncomputable def wsB : M Fl := (seqM (setS 3 (lstM (argN)))
  (seqM (setS 4 (lstM (argN)))
  (seqM (forS (asgR 5) (itA (getM 2)) wsS)
  (seqM (forS (asgR 6) (itA (callB fSortT (argC (getM 4) (argN)))) wsW)
  (setS 2 (getM 3))))))
theorem words_eq : m__law_words = seqM (setS 1 (dispM [(cst (.int 0), cst (.str ""))])) (seqM (setS 2 (lstM (argC (cst (.str "")) (argN)))) (seqM (whileC wsC wsB) (retS (getM 1)))) := rfl
section
variable {hs ts : List Nat}
/-- a word's three ways -/
theorem wsS_ok {w : List Nat} (hw : w.length ≤ 1000) {us : List (List Nat)} (hu : us.length ≤ 10000) (x0 x1 x2 x3 x6 x7 : Option T) :
    wsS [x0, x1, x2, x3, some (.lst none (us.map strD)), some (.val (.str (mkS w))), x6, x7, none] = .ok .nx [x0, x1, x2, x3, some (.lst none ((us ++ three w).map strD)), some (.val (.str (mkS w))), x6, x7, none] := by
  have ec : chars ("qrs" : Str) = [Lt 113, Lt 114, Lt 115] := by
    rw [show ("qrs" : Str) = mkS [113, 114, 115] by decide, charsW]
    rfl
  have ad : ∀ c, fAdd (.str (mkS w)) (Lt c) = some (.val (.str (mkS (w ++ [c])))) := fun c => by
    rw [show Lt c = .str (mkS [c]) from rfl]
    simp [mkS_app, show w.length + 1 ≤ 16777216 by omega, show w.length + 1 < 16777216 by omega]
  have L : ∀ ρ : Rho, ρ[8]? = some none → ρ[5]? = some (some (.val (.str (mkS w)))) → lcLoop (put1 8) (M.ret true) (DL.bin fAdd (getM 5) (getM 8)) [8] [Lt 113, Lt 114, Lt 115] [] ρ = .ok [strD (w ++ [113]), strD (w ++ [114]), strD (w ++ [115])] ρ := by
    intro ρ h8 h5
    have hlen : 8 < ρ.length := (List.getElem?_eq_some_iff.mp h8).1
    have one : ∀ c, ∃ ρ1 r ρ3 ρ4, put1 8 (Lt c) ρ = some ρ1 ∧ (DL.bin fAdd (getM 5) (getM 8)) ρ1 = .ok r ρ3 ∧ frz r ρ3 = .ok (strD (w ++ [c])) ρ4 ∧ wipeR ρ4 [8] = ρ := fun c => by
      have a := ad c
      refine ⟨ρ.set 8 (some (.val (Lt c))), .tmp (.val (strD (w ++ [c]))), ρ.set 8 (some (.val (Lt c))), ρ.set 8 (some (.val (Lt c))), ?_, ?_, ?_, ?_⟩
      · simp [h8]
      · have g5 : (ρ.set 8 (some (.val (Lt c))))[5]? = some (some (.val (.str (mkS w)))) := by
          rw [List.getElem?_set_ne (by decide)]
          exact h5
        unfold strD
        generalize mkS w = W at *
        generalize Lt c = C at *
        simp [hlen, g5, h5, a]
      · simp
      · simp only [wipeR_cons, wipeR_nil]
        exact set_back h8
    have := lcLoop_map (ρ := ρ) (f := put1 8) (me := DL.bin fAdd (getM 5) (getM 8)) (own := [8]) (fun d => match d with
      | .str z => strD (w ++ [z.cps.toList.getD 0 0])
      | _ => .none) (ds := [Lt 113, Lt 114, Lt 115]) (fun d hd => by
        simp only [List.mem_cons, List.not_mem_nil, or_false] at hd
        rcases hd with rfl | rfl | rfl
        · exact one 113
        · exact one 114
        · exact one 115) (by simp)
    rw [this]
    rfl
  have L1 := L [x0, x1, x2, x3, some (.lst none (us.map strD)), some (.val (.str (mkS w))), x6, x7, none] rfl rfl
  have e2 : (us ++ three w).map strD = us.map strD ++ [strD (w ++ [113]), strD (w ++ [114]), strD (w ++ [115])] := by
    rw [List.map_append]
    rfl
  have aa : fAdd (.list (us.map strD)) (.list [strD (w ++ [113]), strD (w ++ [114]), strD (w ++ [115])]) = some (.lst none (us.map strD ++ [strD (w ++ [113]), strD (w ++ [114]), strD (w ++ [115])])) := fAdd_ll _ _ (by simp; omega)
  rw [e2]
  unfold wsS
  clear L ad
  generalize us.map strD = U at *
  generalize strD (w ++ [113]) = A1 at *
  generalize strD (w ++ [114]) = A2 at *
  generalize strD (w ++ [115]) = A3 at *
  generalize mkS w = W at *
  simp [-fAdd_ll, ec, L1, aa]
theorem wsS_loop (x0 x1 x2 x3 x6 x7 : Option T) : ∀ (ws us : List (List Nat)) (x5 : Option T), (∀ w ∈ ws, w.length ≤ 1000) → us.length + 3 * ws.length ≤ 10000 → ∃ y5, forM (asgR 5) wsS (ws.map strD) [x0, x1, x2, x3, some (.lst none (us.map strD)), x5, x6, x7, none] =
    .ok .nx [x0, x1, x2, x3, some (.lst none ((us ++ ws.flatMap three).map strD)), y5, x6, x7, none]
  | [], us, x5, _, _ => ⟨x5, by rw [List.flatMap_nil, List.append_nil]; rfl⟩
  | w :: ws, us, x5, h, hl => by
    simp only [List.length_cons] at hl
    have e := wsS_ok (h w List.mem_cons_self) (us := us) (by omega) x0 x1 x2 x3 x6 x7
    obtain ⟨y5, e2⟩ := wsS_loop x0 x1 x2 x3 x6 x7 ws (us ++ three w) (some (.val (.str (mkS w)))) (fun u hu => h u (List.mem_cons_of_mem _ hu)) (by simp [three]; omega)
    refine ⟨y5, ?_⟩
    have asg : asgR 5 (.tmp (.val (strD w))) [x0, x1, x2, x3, some (.lst none (us.map strD)), x5, x6, x7, none] = .ok () [x0, x1, x2, x3, some (.lst none (us.map strD)), some (.val (.str (mkS w))), x6, x7, none] := by
      unfold strD
      generalize List.map _ us = U
      generalize mkS w = W
      simp
    rw [List.map_cons, forM_cons, bind_ap, asg, bnd_ok, e, bnd_ok, loop_nx, e2, List.flatMap_cons, List.append_assoc]
theorem wsW_ok (P : TabP hs ts) {l0 r : WS} {u : List Nat} (hu : u.length ≤ 1000) (hl : (l0 ++ r).length ≤ 1000) (x2 x4 x5 x7 x8 : Option T) : ∃ y7, wsW [some (.val (tabD hs ts)), some (.dct none (naD strD (l0 ++ r))), x2, some (.lst none ((r.map (·.2)).map strD)), x4, x5, some (.val (.str (mkS u))), x7, x8] =
    .ok .nx [some (.val (tabD hs ts)), some (.dct none (naD strD (l0 ++ lwL hs ts l0 r u))), x2, some (.lst none (((lwL hs ts l0 r u).map (·.2)).map strD)), x4, x5, some (.val (.str (mkS u))), y7, x8] := by
  have ld := led1_ok P (w := u) (by omega) (p := 0) P.pos
  rw [← e_led] at ld
  have ld' : f__law_led [tabD hs ts, .int 0, .str (mkS u)] = .ok (.val (.int (ledT hs ts u 0 : Nat))) := ld
  have ni := notin_na (g := strD) (l0 ++ r) (ledT hs ts u 0)
  refine ⟨some (.val (.int (ledT hs ts u 0 : Nat))), ?_⟩
  unfold wsW lwL
  by_cases h : ledT hs ts u 0 ∈ (l0 ++ r).map (·.1)
  · rw [if_pos h]
    rw [decide_eq_true h] at ni
    clear h ld
    generalize naD strD (l0 ++ r) = M at *
    generalize (r.map (·.2)).map strD = L at *
    generalize ledT hs ts u 0 = y at *
    generalize tabD hs ts = d at *
    generalize mkS u = U at *
    simp [ld', ni]
  · rw [if_neg h]
    rw [decide_eq_false h] at ni
    have s1 : ∀ ρ, subO 1 (.str (mkS u)) ρ (some (.int (ledT hs ts u 0 : Nat))) (some (some (.dct none (naD strD (l0 ++ r))))) = .ok () (ρ.set 1 (some (.dct none (naD strD ((l0 ++ r) ++ [(ledT hs ts u 0, u)]))))) := fun ρ => sub_na (g := strD) (v := u) h (by omega) 1 ρ none
    have e2 : ((r ++ [(ledT hs ts u 0, u)]).map (·.2)).map strD = (r.map (·.2)).map strD ++ [.str (mkS u)] := by
      rw [List.map_append, List.map_append]
      rfl
    have hlm : ((r.map (·.2)).map strD).length < 16777216 := by simp at hl ⊢; omega
    rw [e2, ← List.append_assoc]
    clear h ld e2
    generalize naD strD ((l0 ++ r) ++ [(ledT hs ts u 0, u)]) = M1 at *
    generalize naD strD (l0 ++ r) = M at *
    generalize (r.map (·.2)).map strD = L at *
    generalize ledT hs ts u 0 = y at *
    generalize tabD hs ts = d at *
    generalize mkS u = U at *
    simp [ld', ni, s1, hlm]
theorem wsW_loop (P : TabP hs ts) (l0 : WS) (x2 x4 x5 x8 : Option T) : ∀ (us : List (List Nat)) (r : WS) (x6 x7 : Option T), (∀ u ∈ us, u.length ≤ 1000) → (∀ r', (∃ a b, us = a ++ b ∧ r' = a.foldl (lwL hs ts l0) r) → (l0 ++ r').length ≤ 1000) →
    ∃ y6 y7, forM (asgR 6) wsW (us.map strD) [some (.val (tabD hs ts)), some (.dct none (naD strD (l0 ++ r))), x2, some (.lst none ((r.map (·.2)).map strD)), x4, x5, x6, x7, x8] =
    .ok .nx [some (.val (tabD hs ts)), some (.dct none (naD strD (l0 ++ us.foldl (lwL hs ts l0) r))), x2, some (.lst none (((us.foldl (lwL hs ts l0) r).map (·.2)).map strD)), x4, x5, y6, y7, x8]
  | [], r, x6, x7, _, _ => ⟨x6, x7, rfl⟩
  | u :: us, r, x6, x7, h, hb => by
    obtain ⟨y7, e⟩ := wsW_ok P (l0 := l0) (r := r) (h u List.mem_cons_self) (hb r ⟨[], u :: us, rfl, rfl⟩) x2 x4 x5 x7 x8
    obtain ⟨z6, z7, e2⟩ := wsW_loop P l0 x2 x4 x5 x8 us (lwL hs ts l0 r u) (some (.val (.str (mkS u)))) y7 (fun v hv => h v (List.mem_cons_of_mem _ hv)) (fun r' ⟨a, b, e1, e2⟩ => hb r' ⟨u :: a, b, by rw [e1]; rfl, e2⟩)
    refine ⟨z6, z7, ?_⟩
    have asg : asgR 6 (.tmp (.val (strD u))) [some (.val (tabD hs ts)), some (.dct none (naD strD (l0 ++ r))), x2, some (.lst none ((r.map (·.2)).map strD)), x4, x5, x6, x7, x8] = .ok () [some (.val (tabD hs ts)), some (.dct none (naD strD (l0 ++ r))), x2, some (.lst none ((r.map (·.2)).map strD)), x4, x5, some (.val (.str (mkS u))), x7, x8] := by
      unfold strD
      generalize naD _ (l0 ++ r) = M
      generalize List.map _ (r.map (·.2)) = L
      generalize tabD hs ts = d
      generalize mkS u = U
      simp
    rw [List.map_cons, forM_cons, bind_ap, asg, bnd_ok, e, bnd_ok, loop_nx]
    exact e2
end
end K31
set_option Elab.async false
set_option maxRecDepth 100000
set_option maxHeartbeats 4000000
namespace K31
open PySem L2 DL
section
variable {hs ts : List Nat}
theorem getA_of {l : WS} {k : Nat} {v : List Nat} (hn : (l.map (·.1)).Nodup) (h : (k, v) ∈ l) : getA l k = some v := by
  induction l with
  | nil => cases h
  | cons p l ih =>
    obtain ⟨a, w⟩ := p
    simp only [List.map_cons, List.nodup_cons] at hn
    unfold getA
    rcases List.mem_cons.mp h with e | e
    · cases e
      rw [if_pos rfl]
    · have : a ≠ k := fun z => hn.1 (by
        subst z
        exact List.mem_map.mpr ⟨_, e, rfl⟩)
      rw [if_neg this]
      exact ih hn.2 e
theorem wsB_ok (P : TabP hs ts) (hn : hs.length ≤ 900) {R : Nat} (hR : R ≤ 950) {l q : WS} (I : WtI hs ts R l (q.map (·.1))) (hq : ∀ p ∈ q, p ∈ l) (hy : Ly R (q.map (·.2))) (hql : q.length ≤ 1000) (x3 x4 x5 x6 x7 : Option T) {t2 : T} (h2 : t2 = .val (.list ((q.map (·.2)).map strD)) ∨ t2 = .lst none ((q.map (·.2)).map strD)) :
    ∃ r y4 y5 y6 y7, wtR hs ts l (q.map (·.1)) = (l ++ r, r.map (·.1)) ∧ WtI hs ts (R + 1) (l ++ r) (r.map (·.1)) ∧ Ly (R + 1) (r.map (·.2)) ∧
      wsB [some (.val (tabD hs ts)), some (.dct none (naD strD l)), some t2, x3, x4, x5, x6, x7, none] = .ok .nx [some (.val (tabD hs ts)), some (.dct none (naD strD (l ++ r))), some (.val (.list ((r.map (·.2)).map strD))), some (.val (.list ((r.map (·.2)).map strD))), y4, y5, y6, y7, none] := by
  obtain ⟨r, e, I2⟩ := I.round P
  have hl2 := I2.wd.len
  have hg : ∀ p ∈ q, getA l p.1 = some p.2 ∧ ledT hs ts p.2 0 = p.1 := fun p hp => ⟨getA_of I.wd.nd (hq p hp), (I.wd.led p.1 p.2 (hq p hp)).1⟩
  have lw := wtR_lw l q [] hg
  rw [List.append_nil] at lw
  have e0 : (q.map (·.1)).foldl (wtH hs ts) (l, ([] : WS).map (·.1)) = wtR hs ts l (q.map (·.1)) := rfl
  rw [e0, e] at lw
  have er : r = ((q.map (·.2)).flatMap three).foldl (lwL hs ts l) [] := List.append_cancel_left (congrArg Prod.fst lw)
  have ly3 := ly_three hy
  obtain ⟨q', f1, f2⟩ := lwF_pre (hs := hs) (ts := ts) l ((q.map (·.2)).flatMap three) []
  rw [List.nil_append] at f1
  have sub : (r.map (·.2)).Sublist ((q.map (·.2)).flatMap three) := by rw [er, f1]; exact f2
  have len3 : ∀ ws : List (List Nat), (ws.flatMap three).length = 3 * ws.length := fun ws => by
    induction ws with
    | nil => rfl
    | cons a ws ih => simp only [List.flatMap_cons, List.length_append, ih, List.length_cons, three, List.length_nil]; omega
  obtain ⟨y5, s1⟩ := wsS_loop (some (.val (tabD hs ts))) (some (.dct none (naD strD l))) (some (.val (.list ((q.map (·.2)).map strD)))) (some (.lst none [])) x6 x7 (q.map (·.2)) [] x5 (fun w hw => by rw [hy.1 w hw]; omega) (by simp; omega)
  rw [List.nil_append] at s1
  have so := fSortT_ok (ly_order ly3)
  have es : (((q.map (·.2)).flatMap three).map mkS).map PyData.str = ((q.map (·.2)).flatMap three).map strD := by rw [List.map_map]; rfl
  rw [es] at so
  obtain ⟨y6, y7, s2⟩ := wsW_loop P l (some (.val (.list ((q.map (·.2)).map strD)))) (some (.lst none (((q.map (·.2)).flatMap three).map strD))) y5 none ((q.map (·.2)).flatMap three) [] x6 x7 (fun u hu => by rw [ly3.1 u hu]; omega) (fun r' ⟨a, b, e1, e2⟩ => by
    obtain ⟨q2, g1, _⟩ := lwF_pre (hs := hs) (ts := ts) l b r'
    have : r = r' ++ q2 := by rw [er, e1, List.foldl_append, ← e2, g1]
    rw [this] at hl2
    simp only [List.length_append] at hl2 ⊢
    omega)
  rw [← er, List.append_nil] at s2
  have e00 : (([] : WS).map (·.2)).map strD = [] := rfl
  rw [e00] at s2
  have e01 : ([] : List (List Nat)).map strD = [] := rfl
  rw [e01] at s1
  refine ⟨r, some (.lst none (((q.map (·.2)).flatMap three).map strD)), y5, y6, y7, e, I2, ly_sub ly3 sub, ?_⟩
  unfold wsB
  clear lw e e0 I2 I er f1 f2 sub hg
  generalize naD strD (l ++ r) = M2 at *
  generalize naD strD l = M at *
  generalize (r.map (·.2)).map strD = L2 at *
  generalize ((q.map (·.2)).flatMap three).map strD = U at *
  generalize (q.map (·.2)).map strD = L at *
  generalize tabD hs ts = d at *
  generalize wsS = S at *
  generalize wsW = W at *
  rcases h2 with rfl | rfl
  · simp [s1, so, s2]
  · simp [s1, so, s2]
theorem wsC_ok (P : TabP hs ts) (hn : hs.length ≤ 900) (l : WS) (x2 x3 x4 x5 x6 x7 : Option T) : wsC [some (.val (tabD hs ts)), some (.dct none (naD strD l)), x2, x3, x4, x5, x6, x7, none] = .ok (decide (l.length < hs.length)) [some (.val (tabD hs ts)), some (.dct none (naD strD l)), x2, x3, x4, x5, x6, x7, none] := by
  have i0 := tab_i0 hs ts
  have hml : (hs.map iNat).length = hs.length := by simp
  have hmb : (hs.map iNat).length < 16777216 := by omega
  have ll : (naD strD l).length = l.length := naD_len l
  have fx : fLenX [.dict (naD strD l)] = some (.val (.int (l.length : Nat))) := by
    show some (T.val (.int ((naD strD l).length : Nat))) = _
    rw [ll]
  unfold wsC
  generalize naD strD l = M at *
  generalize hs.map iNat = H at *
  generalize tabD hs ts = d at *
  simp [i0, fx, hml, hmb]
theorem full_of {l : WS} {R : Nat} (W : Wd hs ts R l) (h : hs.length ≤ l.length) : ∀ x, x < hs.length → x ∈ l.map (·.1) := fun x hx => by
  by_cases c : x ∈ l.map (·.1)
  · exact c
  · have := nodup_le (l := x :: l.map (·.1)) (K := List.range hs.length) (List.nodup_cons.mpr ⟨c, W.nd⟩) fun y hy => by
      rcases List.mem_cons.mp hy with rfl | z
      · exact List.mem_range.mpr hx
      · exact List.mem_range.mpr (W.lt y z)
    simp at this
    omega
theorem ws_while (P : TabP hs ts) (hn : hs.length ≤ 900) : ∀ (m R : Nat) (l q : WS) (x3 x4 x5 x6 x7 : Option T) (t2 : T), (t2 = .val (.list ((q.map (·.2)).map strD)) ∨ t2 = .lst none ((q.map (·.2)).map strD)) → WtI hs ts R l (q.map (·.1)) → (∀ p ∈ q, p ∈ l) → Ly R (q.map (·.2)) → q.length ≤ 1000 → hs.length < l.length + m → R + m ≤ 950 →
    ∃ lf y2 y3 y4 y5 y6 y7, whileC wsC wsB [some (.val (tabD hs ts)), some (.dct none (naD strD l)), some t2, x3, x4, x5, x6, x7, none] = .ok .nx [some (.val (tabD hs ts)), some (.dct none (naD strD lf)), y2, y3, y4, y5, y6, y7, none] ∧
      Wd hs ts (R + m) lf ∧ (∀ x, x < hs.length → x ∈ lf.map (·.1)) ∧ (∃ e, lf = l ++ e) ∧ ∀ place, place < hs.length → getA (wtW hs ts place m l (q.map (·.1))) place = getA lf place
  | 0, R, l, q, x3, x4, x5, x6, x7, t2, _, I, _, _, _, hl, _ => by
    have := I.wd.len
    omega
  | m + 1, R, l, q, x3, x4, x5, x6, x7, t2, h2, I, hq, hy, hql, hl, hR => by
    by_cases c : l.length < hs.length
    · obtain ⟨r, y4, y5, y6, y7, er, I2, ly2, eb⟩ := wsB_ok P hn (by omega) I hq hy hql x3 x4 x5 x6 x7 h2
      have grow : r ≠ [] := fun z => by
        subst z
        have fl := WtI.full P (R := R + 1) (l := l ++ []) I2
        rw [List.append_nil] at fl
        have := nodup_le (l := List.range hs.length) (K := l.map (·.1)) List.nodup_range fun y hy => fl y (List.mem_range.mp hy)
        simp at this
        omega
      have h1 : 1 ≤ r.length := List.length_pos_iff.mpr grow
      have hrl : r.length ≤ 1000 := by
        have := I2.wd.len
        simp only [List.length_append] at this
        omega
      obtain ⟨lf, z2, z3, z4, z5, z6, z7, ew, W, fl, ⟨e, he⟩, ag⟩ := ws_while P hn m (R + 1) (l ++ r) r (some (.val (.list ((r.map (·.2)).map strD)))) y4 y5 y6 y7 _ (.inl rfl) I2 (fun p hp => List.mem_append_right _ hp) ly2 hrl (by simp; omega) (by omega)
      refine ⟨lf, z2, z3, z4, z5, z6, z7, ?_, W.more (by omega), fl, ⟨r ++ e, by rw [he, List.append_assoc]⟩, fun place hp => ?_⟩
      · rw [while_ap, wsC_ok P hn, bnd_ok, decide_eq_true c]
        show (M.bind wsB fun f => f.loop (whileC wsC wsB)) _ = _
        rw [bind_ap, eb, bnd_ok, loop_nx]
        exact ew
      · by_cases d : place ∈ l.map (·.1)
        · have : wtW hs ts place (m + 1) l (q.map (·.1)) = l := by simp only [wtW, if_pos d]
          obtain ⟨w, hw⟩ := Option.isSome_iff_exists.mp (by rw [getA_isSome]; exact decide_eq_true d : (getA l place).isSome = true)
          rw [this, he, List.append_assoc, getA_app, hw]
        · have : wtW hs ts place (m + 1) l (q.map (·.1)) = wtW hs ts place m (l ++ r) (r.map (·.1)) := by simp only [wtW, if_neg d, er]
          rw [this]
          exact ag place hp
    · have fl := full_of I.wd (by omega)
      refine ⟨l, some t2, x3, x4, x5, x6, x7, ?_, I.wd.more (by omega), fl, ⟨[], by simp⟩, fun place hp => ?_⟩
      · rw [while_ap, wsC_ok P hn, bnd_ok, decide_eq_false c]
        rfl
      · simp only [wtW, if_pos (fl place hp)]
/-- the law's words are those told -/
theorem words_ok (P : TabP hs ts) (hn : hs.length ≤ 900) : ∃ lf : WS, f__law_words [tabD hs ts] = .ok (.dct none (naD strD lf)) ∧ lf.length ≤ 900 ∧ ∀ p ∈ lf, p.1 < hs.length ∧ getA lf p.1 = some p.2 ∧ wordTo hs ts p.1 = p.2 := by
  obtain ⟨lf, y2, y3, y4, y5, y6, y7, e, W, fl, _, ag⟩ := ws_while P hn (hs.length + 1) 0 [(0, [])] [(0, [])] none none none none none (.lst none [strD []]) (.inr rfl) (WtI.start P) (fun p hp => hp) ⟨fun w hw => by simp at hw; rw [hw]; rfl, by simp⟩ (by simp) (by simp; omega) (by omega)
  have hll := W.len
  refine ⟨lf, ?_, by omega, fun p hp => ?_⟩
  · have dd : dispM [(cst (.int 0), cst (.str ""))] [some (.val (tabD hs ts)), none, none, none, none, none, none, none, none] = .ok (.tmp (.dct none (naD strD [(0, [])]))) [some (.val (tabD hs ts)), none, none, none, none, none, none, none, none] := by
      have pu : pairUp [.int 0, .str ""] [] = some (naD strD [(0, [])]) := by
        have n1 : (nkOf (.int 0)).isSome = true := by decide
        unfold pairUp
        rw [if_pos ⟨n1, by decide⟩, str_e]
        rfl
      show (argP [(cst (.int 0), cst (.str ""))] _).bnd mkDct = _
      simp [argP, mkDct, pu]
    have es : strD [] = .str "" := by rw [str_e]; rfl
    rw [es] at e
    unfold f__law_words
    rw [words_eq, run_eq]
    generalize dispM [(cst (.int 0), cst (.str ""))] = DD at *
    generalize naD strD [(0, [])] = M0 at *
    generalize naD strD lf = M at *
    generalize tabD hs ts = d at *
    simp [dd, e]
  · obtain ⟨k, w⟩ := p
    have hk : k ∈ lf.map (·.1) := List.mem_map.mpr ⟨_, hp, rfl⟩
    have hlt := W.lt k hk
    have g := getA_of W.nd hp
    refine ⟨hlt, g, ?_⟩
    have a := ag k hlt
    have e1 : ([(0, [])] : WS).map (·.1) = [0] := rfl
    rw [e1, g] at a
    unfold wordTo
    rw [a]
    rfl
end
end K31
set_option Elab.async false
set_option maxRecDepth 100000
set_option maxHeartbeats 4000000
namespace K31
open PySem L2 DL
noncomputable def chB : M Fl := (seqM (setS 6 (callF f_word_to (argC (getM 3) (argC (getM 5) (argN)))))
  (ifS (DL.orM (notT (tst (isi isStr (getM 6)))) (tcmp fNe (getM 6) (DL.bin fIx (getM 4) (getM 5)))) (retS (cst (.bool false))) (nilS)))
noncomputable def oneB : M Fl := (seqM (setS 2 (lstM (argC (callF f__law_big (argC (getM 0) (argC (getM 1) (argN)))) (argN))))
  (seqM (setS 3 (callF f__law_table (argC (lenF f__law_fan (argC (getM 2) (argC (cst (.int 7)) (argC (cst (.int 16)) (argN))))) (argN))))
  (seqM (setS 3 (callF f__law_anew (argC (DL.bin fIx (getM 3) (cst (.int 0))) (argC (DL.bin fIx (getM 3) (cst (.int 1))) (argC (lenF f__law_digit (argC (getM 2) (argC (callB fLen (argC (DL.bin fIx (getM 3) (cst (.int 0))) (argN))) (argN)))) (argN))))))
  (seqM (setS 4 (callF f__law_words (argC (getM 3) (argN))))
  (forS (asgR 5) (itA (getM 4)) chB)))))
section
variable {hs ts : List Nat}
theorem chB_ok (P : TabP hs ts) (hn : hs.length ≤ 900) {lf : WS} {p : Nat × List Nat} (h1 : p.1 < hs.length) (h2 : getA lf p.1 = some p.2) (h3 : wordTo hs ts p.1 = p.2) (x0 x1 x2 x6 : Option T) : ∃ y6, chB [x0, x1, x2, some (.val (tabD hs ts)), some (.val (.dict (naD strD lf))), some (.val (.int (p.1 : Nat))), x6] = .ok .nx [x0, x1, x2, some (.val (tabD hs ts)), some (.val (.dict (naD strD lf))), some (.val (.int (p.1 : Nat))), y6] := by
  have w := (wordto_ok P hn h1).1
  rw [h3, ← e_wordto] at w
  have d1 : fIx (.dict (naD strD lf)) (.int (p.1 : Nat)) = some (.val (.str (mkS p.2))) := fIx_na (g := strD) h2
  have ne : fNe (.str (mkS p.2)) (.str (mkS p.2)) = some (.val (.bool false)) := by
    unfold fNe eqD
    simp [eqS]
  have isS : isStr (.str (mkS p.2)) = true := rfl
  refine ⟨some (.val (.str (mkS p.2))), ?_⟩
  unfold chB
  generalize mkS p.2 = W at *
  generalize naD strD lf = M at *
  generalize tabD hs ts = d at *
  simp [-fIx_d, w, d1, ne, isS]
theorem ch_loop (P : TabP hs ts) (hn : hs.length ≤ 900) (lf : WS) (x0 x1 x2 : Option T) : ∀ (q : WS) (x5 x6 : Option T), (∀ p ∈ q, p.1 < hs.length ∧ getA lf p.1 = some p.2 ∧ wordTo hs ts p.1 = p.2) → ∃ y5 y6, forM (asgR 5) chB (q.map fun p => iNat p.1) [x0, x1, x2, some (.val (tabD hs ts)), some (.val (.dict (naD strD lf))), x5, x6] =
    .ok .nx [x0, x1, x2, some (.val (tabD hs ts)), some (.val (.dict (naD strD lf))), y5, y6]
  | [], x5, x6, _ => ⟨x5, x6, rfl⟩
  | p :: q, x5, x6, h => by
    obtain ⟨h1, h2, h3⟩ := h p List.mem_cons_self
    obtain ⟨y6, e⟩ := chB_ok P hn h1 h2 h3 x0 x1 x2 x6
    obtain ⟨z5, z6, e2⟩ := ch_loop P hn lf x0 x1 x2 q (some (.val (.int (p.1 : Nat)))) y6 fun r hr => h r (List.mem_cons_of_mem _ hr)
    refine ⟨z5, z6, ?_⟩
    have asg : asgR 5 (.tmp (.val (iNat p.1))) [x0, x1, x2, some (.val (tabD hs ts)), some (.val (.dict (naD strD lf))), x5, x6] = .ok () [x0, x1, x2, some (.val (tabD hs ts)), some (.val (.dict (naD strD lf))), some (.val (.int (p.1 : Nat))), x6] := by
      unfold iNat
      generalize naD strD lf = M
      generalize tabD hs ts = d
      simp
    rw [List.map_cons, forM_cons, bind_ap, asg, bnd_ok, e, bnd_ok, loop_nx]
    exact e2
end
theorem one_ok (ns : List Int) (k : Nat) (x2 x3 x4 x5 x6 : Option T) : ∃ y2 y3 y4 y5 y6, oneB [some (.val (.list (ns.map .int))), some (.val (.int k)), x2, x3, x4, x5, x6] = .ok .nx [some (.val (.list (ns.map .int))), some (.val (.int k)), y2, y3, y4, y5, y6] := by
  obtain ⟨c, hc⟩ := big_ok ns k
  obtain ⟨c1, mid, ms, F, hm, ht, ef⟩ := fanR_ok (c := c) (a := 7) (b := 16) (by decide) (by decide) (by decide) (by decide)
  obtain ⟨hs, ts, P, hl, et⟩ := table1_len F ht
  have hpos := P.pos
  have hl30 : hs.length ≤ 62 := by omega
  have d := dig_ok (c := c1) (m := hs.length) (by omega) (by omega)
  have g := fmod_pos (a := c1) (b := (hs.length : Int)) (by omega)
  obtain ⟨p, hp⟩ : ∃ p : Nat, c1.fmod (hs.length : Int) = (p : Int) := ⟨(c1.fmod (hs.length : Int)).toNat, by omega⟩
  rw [hp] at d g
  have hp2 : p < hs.length := by omega
  have an := anew_num (seq_tup hs) (seq_tup ts) P (by omega) hp2
  obtain ⟨P2, _⟩ := anew_tab P hp2
  have hn2 : (hsT hs ts p).length ≤ 900 := by rw [anew_len P hp2]; omega
  obtain ⟨lf, wd, hll, hlf⟩ := words_ok P2 hn2
  obtain ⟨y5, y6, lp⟩ := ch_loop P2 hn2 lf (some (.val (.list (ns.map .int)))) (some (.val (.int k))) (some (.lst none [.int (c1.fdiv (hs.length : Int))])) lf x5 x6 hlf
  have i0 := tab_i0 hs ts
  have i1 := tab_i1 hs ts
  have hml : (hs.map iNat).length = hs.length := by simp
  have hmb : (hs.map iNat).length < 16777216 := by omega
  have ef : f__law_fan [.int c] [.int 7, .int 16] = some ([.int c1], fanD mid ms) := ef
  rw [← e_table] at et
  rw [← e_dig] at d
  rw [← e_anew] at an
  rw [← e_big] at hc
  have ks : (naD strD lf).map (·.1) = lf.map fun p => iNat p.1 := by
    unfold naD
    rw [List.map_map]
    rfl
  have it : itemsD (.dict (naD strD lf)) = some (lf.map fun p => iNat p.1) := by
    rw [← ks]
    rfl
  refine ⟨some (.lst none [.int (c1.fdiv (hs.length : Int))]), some (.val (tabD (hsT hs ts p) (tsT hs ts p))), some (.val (.dict (naD strD lf))), y5, y6, ?_⟩
  have st : scalD (tabD (hsT hs ts p) (tsT hs ts p)) = false := rfl
  unfold oneB
  clear hlf P2 hn2 ks
  generalize tabD (hsT hs ts p) (tsT hs ts p) = R at *
  generalize (lf.map fun p => iNat p.1) = KS at *
  generalize naD strD lf = M at *
  generalize tabD hs ts = T0 at *
  generalize fanD mid ms = FD at *
  generalize hs.map iNat = H at *
  generalize ts.map iNat = G at *
  generalize ns.map PyData.int = N at *
  generalize chB = CB at *
  simp [hc, ef, et, d, an, i0, i1, hml, hmb, wd, it, lp]
theorem law_true (ns : List Int) (hn : ns.length ≤ 63) : f_law [.list (ns.map .int)] = .ok (.val (.bool true)) := by
  have em : m_law = seqM (forS (asgR 1) (itR1 (argC (callB fMax2 (argC (cst (.int 1)) (argC (callB fMin2 (argC (cst (.int ((4 : Nat) : Int))) (argC (callB fLen (argC (getM 0) (argN))) (argN)))) (argN)))) (argN))) oneB) (retS (cst (.bool true))) := rfl
  unfold f_law
  rw [em]
  refine law_for (N := 4) (s := 5) (by decide) (by decide) (fun xs => ∃ x2 x3 x4 x5 x6, xs = [x2, x3, x4, x5, x6]) ⟨none, none, none, none, none, rfl⟩ ns fun k xs g => ?_
  obtain ⟨x2, x3, x4, x5, x6, rfl⟩ := g
  obtain ⟨y2, y3, y4, y5, y6, e⟩ := one_ok ns k x2 x3 x4 x5 x6
  exact ⟨_, ⟨y2, y3, y4, y5, y6, rfl⟩, e⟩
end K31
set_option Elab.async false
set_option maxRecDepth 100000
set_option maxHeartbeats 0
namespace K31
open PySem PySem.Spec PyProof.Rows L2 DL
def d__law_gaps : He.DefD := ⟨("_law_gaps", none), "_law_gaps", "_law_gaps", defArgs s__law_gaps, defBody s__law_gaps, defScope s__law_gaps, [], []⟩
def d__law_tiles : He.DefD := ⟨("_law_tiles", none), "_law_tiles", "_law_tiles", defArgs s__law_tiles, defBody s__law_tiles, defScope s__law_tiles, [], []⟩
def d__law_links : He.DefD := ⟨("_law_links", none), "_law_links", "_law_links", defArgs s__law_links, defBody s__law_links, defScope s__law_links, [], []⟩
def d__law_anew : He.DefD := ⟨("_law_anew", none), "_law_anew", "_law_anew", defArgs s__law_anew, defBody s__law_anew, defScope s__law_anew, [], []⟩
def d__law_table : He.DefD := ⟨("_law_table", none), "_law_table", "_law_table", defArgs s__law_table, defBody s__law_table, defScope s__law_table, [], []⟩
def d__law_led : He.DefD := ⟨("_law_led", none), "_law_led", "_law_led", defArgs s__law_led, defBody s__law_led, defScope s__law_led, [], []⟩
def d__law_words : He.DefD := ⟨("_law_words", none), "_law_words", "_law_words", defArgs s__law_words, defBody s__law_words, defScope s__law_words, [], []⟩
def d__law_cell_at : He.DefD := ⟨("_law_cell_at", none), "_law_cell_at", "_law_cell_at", defArgs s__law_cell_at, defBody s__law_cell_at, defScope s__law_cell_at, [], []⟩
def d__law_big : He.DefD := ⟨("_law_big", none), "_law_big", "_law_big", defArgs s__law_big, defBody s__law_big, defScope s__law_big, [], []⟩
def d__law_digit : He.DefD := ⟨("_law_digit", none), "_law_digit", "_law_digit", defArgs s__law_digit, defBody s__law_digit, defScope s__law_digit, [], []⟩
def d__law_fractions : He.DefD := ⟨("_law_fractions", none), "_law_fractions", "_law_fractions", defArgs s__law_fractions, defBody s__law_fractions, defScope s__law_fractions, [], []⟩
def d__law_marks : He.DefD := ⟨("_law_marks", none), "_law_marks", "_law_marks", defArgs s__law_marks, defBody s__law_marks, defScope s__law_marks, [], []⟩
def d__law_fan : He.DefD := ⟨("_law_fan", none), "_law_fan", "_law_fan", defArgs s__law_fan, defBody s__law_fan, defScope s__law_fan, [], []⟩
def d_led_by : He.DefD := ⟨("led_by", none), "led_by", "led_by", defArgs s_led_by, defBody s_led_by, defScope s_led_by, [], []⟩
def d_word_to : He.DefD := ⟨("word_to", none), "word_to", "word_to", defArgs s_word_to, defBody s_word_to, defScope s_word_to, [], []⟩
def d_law : He.DefD := ⟨("law", none), "law", "law", defArgs s_law, defBody s_law, defScope s_law, [], []⟩
def fn : List He.DefD := ([d__law_gaps, d__law_tiles, d__law_links, d__law_anew, d__law_table, d__law_led, d__law_words, d__law_cell_at, d__law_big, d__law_digit, d__law_fractions, d__law_marks, d__law_fan, d_led_by, d_word_to, d_law] : List He.DefD)
def fa : List He.Fa := ([.glo "_law_gaps", .glo "_law_tiles", .glo "_law_links", .glo "_law_anew", .glo "_law_table", .glo "_law_led", .glo "_law_words", .glo "_law_cell_at", .glo "_law_big", .glo "_law_digit", .glo "_law_fractions", .glo "_law_marks", .glo "_law_fan", .glo "led_by", .glo "word_to", .glo "law", .free "abs", .free "enumerate", .free "int", .free "isinstance", .free "len", .free "list", .free "max", .free "min", .free "range", .free "sorted", .free "str", .free "tuple"] : List He.Fa)
def loose : List Str := (["LETTERS", "led_by", "word_to", "_law_cell_at", "_law_big", "_law_digit", "_law_fractions", "_law_marks", "_law_fan", "_law_tiles", "_law_gaps", "_law_links", "_law_anew", "_law_table", "_law_led", "_law_words"] : List Str)
abbrev R : PySem.W.OpenRow := PySem.W.OpenLaw.row PySem.Challenge.rw_fanglue_k31_first_words
def fx (K : PySem.W.Frag) : Bool := (gRp K "LETTERS" (.str "qrs"))
abbrev hk : PySem.W.Hook := hookX 4 fx fa fn
def ob (s : PySem.W.SharedT) : He.AlD := obsXG 4 fx fa fn (HandSHeadRun.getT s)
theorem ob_eq (s : PySem.W.SharedT) : ob s = hk.obs s.abs := obsXG_eq (HandSHeadRun.getT_eq s)
theorem run (w : World) : HandSHeadRun.RunEq R (PySem.W.view R.prog [18]) hk ob 4000 loose w := by
  intro os
  kernel_rfl
theorem facts {w : World} {K : PySem.W.Frag} {h : Heap} {mg : Str → Option Value} (X : K.In h) (G : h.Ns mainGlobals mg) (cx : SaysX fx fa fn K) : ∃ c : Facts w K mg, True := by
  obtain ⟨cc, hx⟩ := cx.says
  unfold fx at hx
  have h_0 := hx
  have dummy := trivial
  obtain ⟨fd0, F0⟩ := cc.def_ 0 (d := d__law_gaps) rfl
  obtain ⟨fd1, F1⟩ := cc.def_ 1 (d := d__law_tiles) rfl
  obtain ⟨fd2, F2⟩ := cc.def_ 2 (d := d__law_links) rfl
  obtain ⟨fd3, F3⟩ := cc.def_ 3 (d := d__law_anew) rfl
  obtain ⟨fd4, F4⟩ := cc.def_ 4 (d := d__law_table) rfl
  obtain ⟨fd5, F5⟩ := cc.def_ 5 (d := d__law_led) rfl
  obtain ⟨fd6, F6⟩ := cc.def_ 6 (d := d__law_words) rfl
  obtain ⟨fd7, F7⟩ := cc.def_ 7 (d := d__law_cell_at) rfl
  obtain ⟨fd8, F8⟩ := cc.def_ 8 (d := d__law_big) rfl
  obtain ⟨fd9, F9⟩ := cc.def_ 9 (d := d__law_digit) rfl
  obtain ⟨fd10, F10⟩ := cc.def_ 10 (d := d__law_fractions) rfl
  obtain ⟨fd11, F11⟩ := cc.def_ 11 (d := d__law_marks) rfl
  obtain ⟨fd12, F12⟩ := cc.def_ 12 (d := d__law_fan) rfl
  obtain ⟨fd13, F13⟩ := cc.def_ 13 (d := d_led_by) rfl
  obtain ⟨fd14, F14⟩ := cc.def_ 14 (d := d_word_to) rfl
  obtain ⟨fd15, F15⟩ := cc.def_ 15 (d := d_law) rfl
  exact ⟨⟨_, fd0, F0, He.glo_ok X G (cc.fact 0 (f := .glo "_law_gaps") rfl),
    _, fd1, F1, He.glo_ok X G (cc.fact 1 (f := .glo "_law_tiles") rfl),
    _, fd2, F2, He.glo_ok X G (cc.fact 2 (f := .glo "_law_links") rfl),
    _, fd3, F3, He.glo_ok X G (cc.fact 3 (f := .glo "_law_anew") rfl),
    _, fd4, F4, He.glo_ok X G (cc.fact 4 (f := .glo "_law_table") rfl),
    _, fd5, F5, He.glo_ok X G (cc.fact 5 (f := .glo "_law_led") rfl),
    _, fd6, F6, He.glo_ok X G (cc.fact 6 (f := .glo "_law_words") rfl),
    _, fd7, F7, He.glo_ok X G (cc.fact 7 (f := .glo "_law_cell_at") rfl),
    _, fd8, F8, He.glo_ok X G (cc.fact 8 (f := .glo "_law_big") rfl),
    _, fd9, F9, He.glo_ok X G (cc.fact 9 (f := .glo "_law_digit") rfl),
    _, fd10, F10, He.glo_ok X G (cc.fact 10 (f := .glo "_law_fractions") rfl),
    _, fd11, F11, He.glo_ok X G (cc.fact 11 (f := .glo "_law_marks") rfl),
    _, fd12, F12, He.glo_ok X G (cc.fact 12 (f := .glo "_law_fan") rfl),
    _, fd13, F13, He.glo_ok X G (cc.fact 13 (f := .glo "led_by") rfl),
    _, fd14, F14, He.glo_ok X G (cc.fact 14 (f := .glo "word_to") rfl),
    _, fd15, F15, He.glo_ok X G (cc.fact 15 (f := .glo "law") rfl),
    He.free_ok X G (cc.fact 16 (f := .free "abs") rfl),
    He.free_ok X G (cc.fact 17 (f := .free "enumerate") rfl),
    He.free_ok X G (cc.fact 18 (f := .free "int") rfl),
    He.free_ok X G (cc.fact 19 (f := .free "isinstance") rfl),
    He.free_ok X G (cc.fact 20 (f := .free "len") rfl),
    He.free_ok X G (cc.fact 21 (f := .free "list") rfl),
    He.free_ok X G (cc.fact 22 (f := .free "max") rfl),
    He.free_ok X G (cc.fact 23 (f := .free "min") rfl),
    He.free_ok X G (cc.fact 24 (f := .free "range") rfl),
    He.free_ok X G (cc.fact 25 (f := .free "sorted") rfl),
    He.free_ok X G (cc.fact 26 (f := .free "str") rfl),
    He.free_ok X G (cc.fact 27 (f := .free "tuple") rfl),
    gRp_ok X G h_0⟩, trivial⟩
end K31
open PySem PySem.W PySem.Calls PyProof.Rows
open K31 DL in
theorem end_of (true_ : ∀ ns : List Int, ns.length ≤ 63 → f_law [.list (ns.map .int)] = .ok (.val (.bool true))) : PySem.Challenge.rw_fanglue_k31_first_words.Holds := by
  w_on; o_law
  refine HandSHeadRun.head_any (r := PySem.W.OpenLaw.row PySem.Challenge.rw_fanglue_k31_first_words) (q := PySem.W.view (PySem.W.OpenLaw.row PySem.Challenge.rw_fanglue_k31_first_words).prog [18]) (H := hk) (ob := ob) (M := 4000) (loose := loose) (d := HandSHeadRun.topDef (PySem.W.OpenLaw.row PySem.Challenge.rw_fanglue_k31_first_words).prog 18) (kwd := []) ob_eq
    (by kernel_rfl) (fun s => by kernel_rfl) run (by kernel_rfl) (by kernel_rfl) (by kernel_rfl) (by rfl) (by first | assumption | decide +kernel) (by decide +kernel) ⟨rfl, rfl, rfl, rfl, rfl, by decide +kernel⟩ ?hw ?hc
  case hw => w_witness2
  case hc =>
    refine L2.walk_ofE (l := PySem.Challenge.rw_fanglue_k31_first_words) (n := 63) (k := 4) (x := "_law_script") (CX := L2.CX0) rfl (by decide) (by kernel_rfl) ⟨rfl, by decide, by decide⟩ ?F (fun _ _ _ _ z => z)
    intro w mg fa h Y G hmg0
    obtain ⟨K, KX, cc⟩ := Y
    have hmg : mg ("law" : PySem.Str) = some (.ref fa) := by
      have e : (HandSHeadRun.topDef (PySem.W.OpenLaw.row PySem.Challenge.rw_fanglue_k31_first_words).prog 18).name = ("law" : PySem.Str) := by kernel_rfl
      rw [← e]
      exact hmg0
    obtain ⟨c, _⟩ := facts (w := w) KX G cc
    have e := hmg.symm.trans c.g_law
    cases e
    have b := L2.FunD.bindsA (ps := ["_law_script"]) c.F_law fun _ _ _ _ _ _ us hl => match us, hl with | [_], _ => rfl
    exact ⟨K, c.fd_law, fun vs H Q _ => spF K mg 1 f_law vs H Q (fun _ _ _ => False), KX, fun s v => b s [v] rfl, fun H a ns hl _ hS => law_sp (true_ ns hl) hS, fun base _ _ => (ok_law c).calm⟩
theorem PySem.Challenge.cw_fanglue_k31_first_words_holds : PySem.Challenge.rw_fanglue_k31_first_words.Holds := by
  exact end_of K31.law_true
